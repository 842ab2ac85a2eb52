import PyProof.Rows.All
import Wide.All
import OpenK.AllK
import Wide.FinOn
import HandS.ForMost
import HandS.ForExc
import HandS.Defaults
import HandS.MakeKwOnly
import HandS.WideBits
import HandS.EndBits
import HandS.IsInst
import HandS.Flow
import HandS.TupAny
import HandS.TupLe
import HandS.RaiseMore
import HandS.Head0
import HandS.Head1
import HandS.Head2
import HandS.HeadEnd
import HandS.HeadHook1
import HandS.HeadHook2
import HandS.HeadNt
import PySem.Challenge.RW_stepcrowds_k75_whole_normal_forms
set_option Elab.async false
set_option maxRecDepth 100000
set_option linter.all false
set_option maxHeartbeats 0
namespace Y
open PySem L2

abbrev D := PyData

/-! ### data stay where nothing tracked is lost -/
theorem same_seqT {K : PySem.W.Frag} {H H' : Hp} {a : Addr} {xs : List V} (e : Same H H') (h : SqT K H a xs) : SqT K H' a xs := by
  rcases h with (h | ⟨o, h⟩) | h
  · exact .inl (.inl (e _ _ h))
  · exact .inl (.inr ⟨o, e _ _ h⟩)
  · exact .inr h

/-! ### the data that a value is, by the heap: lists are tracked, tuples are read -/
mutual
inductive Dn (K : PySem.W.Frag) (H : Hp) : V → D → Prop
  | non : Dn K H V.non PyData.none
  | bl (b : Bool) : Dn K H (V.bl b) (PyData.bool b)
  | int (i : Int) : Dn K H (V.int i) (PyData.int i)
  | str (x : Str) : Dn K H (V.str x) (PyData.str x)
  | lst {a : Addr} {vs : List V} {ds : List D} (h : H a = some (.lst vs)) (q : DnAll K H vs ds) : Dn K H (V.ref a) (PyData.list ds)
  | tup {a : Addr} {vs : List V} {ds : List D} (h : SqT K H a vs) (q : DnAll K H vs ds) : Dn K H (V.ref a) (PyData.tuple ds)
inductive DnAll (K : PySem.W.Frag) (H : Hp) : List V → List D → Prop
  | nil : DnAll K H [] []
  | cons {v : V} {d : D} {vs : List V} {ds : List D} (h : Dn K H v d) (t : DnAll K H vs ds) : DnAll K H (v :: vs) (d :: ds)
end
theorem dn_mono {K : PySem.W.Frag} {H H' : Hp} (e : Same H H') {v : V} {d : D} (h : Dn K H v d) : Dn K H' v d :=
  Dn.rec (motive_1 := fun v d _ => Dn K H' v d) (motive_2 := fun vs ds _ => DnAll K H' vs ds)
    .non (fun b => .bl b) (fun i => .int i) (fun x => .str x)
    (fun s _ ih => .lst (e _ _ s) ih) (fun s _ ih => .tup (same_seqT e s) ih) .nil (fun _ _ a b => .cons a b) h
theorem dn_dp {K : PySem.W.Frag} {H : Hp} {v : V} {d : D} (h : Dn K H v d) : Dp K H v d :=
  Dn.rec (motive_1 := fun v d _ => Dp K H v d) (motive_2 := fun vs ds _ => DpAll K H vs ds)
    .non (fun b => .bl b) (fun i => .int i) (fun x => .str x)
    (fun s _ ih => .lst (SqL.of s) ih) (fun s _ ih => .tup s ih) .nil (fun _ _ a b => .cons a b) h
theorem dnAll_mono {K : PySem.W.Frag} {H H' : Hp} (e : Same H H') : ∀ {vs : List V} {ds : List D}, DnAll K H vs ds → DnAll K H' vs ds
  | _, _, .nil => .nil
  | _, _, .cons a b => .cons (dn_mono e a) (dnAll_mono e b)
theorem dnAll_length {K : PySem.W.Frag} {H : Hp} : ∀ {vs : List V} {ds : List D}, DnAll K H vs ds → vs.length = ds.length
  | _, _, .nil => rfl
  | _, _, .cons _ b => congrArg Nat.succ (dnAll_length b)
theorem dnAll_get {K : PySem.W.Frag} {H : Hp} : ∀ {vs : List V} {ds : List D} {i : Nat} {d : D}, DnAll K H vs ds → ds[i]? = some d → ∃ v, vs[i]? = some v ∧ Dn K H v d
  | _, _, _, _, .nil, h => by simp at h
  | _, _, 0, _, .cons a b, h => by simp at h; subst h; exact ⟨_, rfl, a⟩
  | _, _, i + 1, _, .cons a b, h => by
    simp at h
    obtain ⟨v, h1, h2⟩ := dnAll_get b h
    exact ⟨v, by simpa using h1, h2⟩
theorem dnAll_getV {K : PySem.W.Frag} {H : Hp} : ∀ {vs : List V} {ds : List D} {i : Nat} {v : V}, DnAll K H vs ds → vs[i]? = some v → ∃ d, ds[i]? = some d ∧ Dn K H v d
  | _, _, _, _, .nil, h => by simp at h
  | _, _, 0, _, .cons a b, h => by simp at h; subst h; exact ⟨_, rfl, a⟩
  | _, _, i + 1, _, .cons a b, h => by
    simp at h
    obtain ⟨v, h1, h2⟩ := dnAll_getV b h
    exact ⟨v, by simpa using h1, h2⟩
theorem dnAll_app {K : PySem.W.Frag} {H : Hp} : ∀ {vs ws : List V} {ds es : List D}, DnAll K H vs ds → DnAll K H ws es → DnAll K H (vs ++ ws) (ds ++ es)
  | _, _, _, _, .nil, h => h
  | _, _, _, _, .cons a b, h => .cons a (dnAll_app b h)
theorem dnAll_drop {K : PySem.W.Frag} {H : Hp} : ∀ {vs : List V} {ds : List D} (n : Nat), DnAll K H vs ds → DnAll K H (vs.drop n) (ds.drop n)
  | _, _, 0, h => h
  | _, _, _ + 1, .nil => .nil
  | _, _, n + 1, .cons _ b => dnAll_drop n b
theorem dnAll_take {K : PySem.W.Frag} {H : Hp} : ∀ {vs : List V} {ds : List D} (n : Nat), DnAll K H vs ds → DnAll K H (vs.take n) (ds.take n)
  | _, _, 0, _ => .nil
  | _, _, _ + 1, .nil => .nil
  | _, _, n + 1, .cons a b => .cons a (dnAll_take n b)

/-! ### growth: G, what is held for good; H, the heap -/
structure Grow (G H G' H' : Hp) : Prop where
  g : Same G G'
  h : Same H H'
  i : Same G' H'
  n : ∀ a, G' a ≠ none → G a ≠ none ∨ H a = none

theorem Grow.refl {G H : Hp} (i : Same G H) : Grow G H G H := ⟨Same.refl _, Same.refl _, i, fun _ h => .inl h⟩
theorem Grow.trans {G H G1 H1 G2 H2 : Hp} (a : Grow G H G1 H1) (b : Grow G1 H1 G2 H2) : Grow G H G2 H2 :=
  ⟨a.g.trans b.g, a.h.trans b.h, b.i, fun x h => by
    rcases b.n x h with h | h
    · exact a.n x h
    · exact .inr (a.h.free h)⟩
theorem same_upd {H : Hp} {p : Addr} {o : HO} (h : H p = none) : Same H (upd H p o) := fun b u q => by rw [upd_ne (ne_of_none q h)]; exact q
theorem Grow.new {G H : Hp} {p : Addr} {o : HO} (i : Same G H) (h : H p = none) : Grow G H (upd G p o) (upd H p o) :=
  ⟨same_upd (i.free h), same_upd h, fun b u q => by
    by_cases e : b = p
    · subst e; rw [upd_same] at q ⊢; exact q
    · rw [upd_ne e] at q ⊢; exact i b u q, fun a q => by
    by_cases e : a = p
    · subst e; exact .inr h
    · rw [upd_ne e] at q; exact .inl q⟩

/-! ### slots -/
theorem same_seqL {K : PySem.W.Frag} {H H' : Hp} {a : Addr} {xs : List V} (e : Same H H') (h : SqL K H a xs) : SqL K H' a xs := by
  rcases h with (h | ⟨o, h⟩) | h
  · exact .inl (.inl (e _ _ h))
  · exact .inl (.inr ⟨o, e _ _ h⟩)
  · exact .inr h
inductive Sl where
  | u | d (x : D) | r (v : V) | s (ns : List Int)
def SlOk (K : PySem.W.Frag) (G : Hp) (o : Option V) : Sl → Prop
  | .u => True
  | .d x => ∃ v, o = some v ∧ Dn K G v x
  | .r v => o = some v
  | .s ns => ∃ a, o = some (.ref a) ∧ SqL K G a (ns.map V.int)
def EnvOk (K : PySem.W.Frag) (G : Hp) (σ : St) (ρ : List Sl) : Prop := ρ.length = σ.length ∧ ∀ (i : Nat) (s : Sl), ρ[i]? = some s → ∃ o, σ[i]? = some o ∧ SlOk K G o s

theorem SlOk.mono {K : PySem.W.Frag} {G G' : Hp} {o : Option V} (e : Same G G') : ∀ {s : Sl}, SlOk K G o s → SlOk K G' o s
  | .u, _ => trivial
  | .d _, ⟨v, h, q⟩ => ⟨v, h, dn_mono e q⟩
  | .r _, h => h
  | .s _, ⟨a, h, q⟩ => ⟨a, h, same_seqL e q⟩
theorem EnvOk.mono {K : PySem.W.Frag} {G G' : Hp} {σ : St} {ρ : List Sl} (e : Same G G') (h : EnvOk K G σ ρ) : EnvOk K G' σ ρ :=
  ⟨h.1, fun i s q => let ⟨o, h1, h2⟩ := h.2 i s q; ⟨o, h1, h2.mono e⟩⟩
theorem EnvOk.set {K : PySem.W.Frag} {G : Hp} {σ : St} {ρ : List Sl} {j : Nat} {o : Option V} {s : Sl} (h : EnvOk K G σ ρ) (q : SlOk K G o s) : EnvOk K G (σ.set j o) (ρ.set j s) := by
  refine ⟨by rw [List.length_set, List.length_set]; exact h.1, fun i t ht => ?_⟩
  by_cases e : j = i
  · subst e
    have hl : j < ρ.length := by
      have := List.getElem?_eq_some_iff.mp ht
      obtain ⟨w, _⟩ := this
      simpa using w
    rw [List.getElem?_set_self hl] at ht
    cases ht
    exact ⟨o, List.getElem?_set_self (by rw [← h.1]; exact hl), q⟩
  · rw [List.getElem?_set_ne e] at ht
    obtain ⟨u, h1, h2⟩ := h.2 i t ht
    exact ⟨u, by rw [List.getElem?_set_ne e]; exact h1, h2⟩
def wipeL (ρ : List Sl) : List Nat → List Sl
  | [] => ρ
  | v :: vs => (wipeL ρ vs).set v .u
theorem EnvOk.wipe {K : PySem.W.Frag} {G : Hp} {σ : St} {ρ : List Sl} (h : EnvOk K G σ ρ) : ∀ vs : List Nat, EnvOk K G (wipe σ vs) (wipeL ρ vs)
  | [] => h
  | v :: vs => (EnvOk.wipe h vs).set (s := .u) (o := none) trivial
/-- the slots at a call -/
def startL (n : Nat) (ds : List D) : List Sl := ds.map .d ++ List.replicate (n - ds.length) .u
theorem env_start {K : PySem.W.Frag} {G : Hp} {N : List Str} {vs : List V} {ds : List D} (h : DnAll K G vs ds) : EnvOk K G (L2.start N vs) (startL N.length ds) := by
  have hl := dnAll_length h
  refine ⟨by simp [startL, L2.start, hl], fun i s q => ?_⟩
  unfold startL at q
  unfold L2.start
  by_cases e : i < ds.length
  · rw [List.getElem?_append_left (by simpa using e), List.getElem?_map] at q
    rw [List.getElem?_append_left (by simpa [hl] using e), List.getElem?_map]
    cases z : ds[i]? with
    | none => rw [z] at q; cases q
    | some d =>
      rw [z] at q; cases q
      obtain ⟨v, h1, h2⟩ := dnAll_get h z
      exact ⟨some v, by rw [h1]; rfl, v, rfl, h2⟩
  · rw [List.getElem?_append_right (by simpa using e)] at q
    rw [List.getElem?_append_right (by simpa [hl] using e)]
    simp only [List.length_map, hl] at q ⊢
    obtain ⟨w, q2⟩ := List.getElem?_eq_some_iff.mp q
    simp at w q2
    subst q2
    exact ⟨none, by rw [List.getElem?_replicate, if_pos w], trivial⟩

/-! ### what a piece of syntax reads to, the weakest -/
def wE (X : Cx) (e : Expr) : TE := fun σ H Q => ∀ (pins : List (Addr × Obj)) (s : Shared), Inv X pins σ H s → wpAny (model X.prog X.w) X.A (eval e X.env) (EP X pins σ Q) X.xe s
def wT (X : Cx) (e : Expr) : TT := fun σ H Q => ∀ (pins : List (Addr × Obj)) (s : Shared), Inv X pins σ H s → wpAny (model X.prog X.w) X.A (isTrue e X.env (eval e X.env)) (TP X pins σ Q) X.xe s
def wA (X : Cx) (es : List Expr) : TA := fun σ H Q => ∀ (pos : Pos) (pins : List (Addr × Obj)) (s : Shared), Inv X pins σ H s → wpAny (model X.prog X.w) X.A (spliced (backTo pos (starEach es X.env))) (AP X pins σ Q) X.xe s
def wS (X : Cx) (st : Stmt) : TS := fun D σ H => ∀ (pins : List (Addr × Obj)) (s : Shared), Inv X pins σ H s → wpAny (model X.prog X.w) X.A (exec st X.env) (SP X pins D) X.xe s
def wB (X : Cx) (st : List Stmt) : TS := fun D σ H => ∀ (pins : List (Addr × Obj)) (s : Shared), Inv X pins σ H s → wpAny (model X.prog X.w) X.A (execs st X.env) (SP X pins D) X.xe s
theorem peW {X : Cx} {e : Expr} : PE X e (wE X e) := ⟨fun pins s _ _ _ I h => h pins s I⟩
theorem ptW {X : Cx} {e : Expr} : PT X e (wT X e) := ⟨fun pins s _ _ _ I h => h pins s I⟩
theorem paW {X : Cx} {es : List Expr} : PA X es (wA X es) := ⟨fun pos pins s _ _ _ I h => h pos pins s I⟩
theorem psW {X : Cx} {st : Stmt} : PS X st (wS X st) := ⟨fun pins s _ _ _ I h => h pins s I⟩
theorem pbW {X : Cx} {st : List Stmt} : PSs X st (wB X st) := ⟨fun pins s _ _ _ I h => h pins s I⟩
theorem toE {X : Cx} {e : Expr} {t : TE} (p : PE X e t) {σ : St} {H : Hp} {Q : VK} (h : t σ H Q) : wE X e σ H Q := fun pins s I => p.run pins s σ H Q I h
theorem toT {X : Cx} {e : Expr} {t : TT} (p : PT X e t) {σ : St} {H : Hp} {Q : Bool → Hp → Prop} (h : t σ H Q) : wT X e σ H Q := fun pins s I => p.run pins s σ H Q I h
theorem toA {X : Cx} {es : List Expr} {t : TA} (p : PA X es t) {σ : St} {H : Hp} {Q : List V → Hp → Prop} (h : t σ H Q) : wA X es σ H Q := fun pos pins s I => p.run pos pins s σ H Q I h
theorem toS {X : Cx} {st : Stmt} {t : TS} (p : PS X st t) {σ : St} {H : Hp} {D : Ends} (h : t D σ H) : wS X st D σ H := fun pins s I => p.run pins s σ H D I h
theorem toB {X : Cx} {st : List Stmt} {t : TS} (p : PSs X st t) {σ : St} {H : Hp} {D : Ends} (h : t D σ H) : wB X st D σ H := fun pins s I => p.run pins s σ H D I h
end Y
namespace Y
open PySem L2

/-! ### what evaluates to what: slots by data, no heap in sight -/
def J (X : Cx) (e : Expr) (ρ : List Sl) (d : D) : Prop := ∀ (σ : L2.St) (G H : Hp) (Q : VK), EnvOk X.K G σ ρ → Same G H → (∀ v G' H', Grow G H G' H' → Dn X.K G' v d → Q v H') → wE X e σ H Q
def JT (X : Cx) (e : Expr) (ρ : List Sl) (b : Bool) : Prop := ∀ (σ : L2.St) (G H : Hp) (Q : Bool → Hp → Prop), EnvOk X.K G σ ρ → Same G H → (∀ G' H', Grow G H G' H' → Q b H') → wT X e σ H Q
def JA (X : Cx) (es : List Expr) (ρ : List Sl) (ds : List D) : Prop := ∀ (σ : L2.St) (G H : Hp) (Q : List V → Hp → Prop), EnvOk X.K G σ ρ → Same G H → (∀ vs G' H', Grow G H G' H' → DnAll X.K G' vs ds → Q vs H') → wA X es σ H Q
/-- a test whatever its whole is -/
def JW (X : Cx) (e : Expr) (ρ : List Sl) (b : Bool) : Prop := ∀ (σ : L2.St) (G H : Hp) (Q : Bool → Hp → Prop), EnvOk X.K G σ ρ → Same G H → (∀ G' H', Grow G H G' H' → Q b H') →
  ∀ (wh : Sem Value) (pins : List (Addr × Obj)) (s : Shared), Inv X pins σ H s → wpAny (model X.prog X.w) X.A (isTrue e X.env wh) (TP X pins σ Q) X.xe s
/-- what a two-place rule makes of two data -/
def RB (K : PySem.W.Frag) (r : R2) (da db d : D) : Prop := ∀ v w G H Q, Same G H → Dn K G v da → Dn K G w db → (∀ u G' H', Grow G H G' H' → Dn K G' u d → Q u H') → r v w H Q
/-- a call's rule -/
def RL (K : PySem.W.Frag) (r : List V → Hp → VK → Prop) (ds : List D) (d : D) : Prop := ∀ vs G H Q, Same G H → DnAll K G vs ds → (∀ u G' H', Grow G H G' H' → Dn K G' u d → Q u H') → r vs H Q

section
variable {X : Cx} {a b e : Expr} {es : List Expr} {ρ : List Sl} {da db d : D} {ds : List D} {pos p : Pos} {r : R2}
theorem j_var (i : Nat) {x : Str} (hd0 : ρ[i]? = some (.d d)) (hN : X.N[i]? = some x := by rfl) (hv : Vis X.env.scope x := by first | exact Or.inl rfl | exact Or.inr (Or.inl rfl) | exact Or.inr (Or.inr rfl))
    (hd : (x == ("__debug__" : Str)) = false := by decide) (hcd : (x == ("__classdict__" : Str)) = false := by decide) : J X (.Name x pos) ρ d := fun σ G H Q env sm q => by
  obtain ⟨o, h1, v, rfl, h3⟩ := env.2 i _ hd0
  exact toE (pe_var (i := i) hN hv hd hcd) ⟨v, h1, q v G H (Grow.refl sm) h3⟩
theorem j_int {i : Int} {k : Nat} : J X (.Constant (.int i) k pos) ρ (.int i) := fun _ G H _ _ sm q => toE pe_int (q _ G H (Grow.refl sm) (.int i))
theorem j_str {x : Str} {k : Nat} : J X (.Constant (.str x) k pos) ρ (.str x) := fun _ G H _ _ sm q => toE pe_str (q _ G H (Grow.refl sm) (.str x))
theorem j_bl {x : Bool} {k : Nat} : J X (.Constant (.bool x) k pos) ρ (.bool x) := fun _ G H _ _ sm q => toE pe_bl (q _ G H (Grow.refl sm) (.bl x))
theorem j_non {k : Nat} : J X (.Constant .none k pos) ρ .none := fun _ G H _ _ sm q => toE pe_non (q _ G H (Grow.refl sm) .non)
/-- a constant of the module -/
def GlobD (K : PySem.W.Frag) (mg : Str → Option Value) (x : Str) (d : D) : Prop := ∃ u v, mg x = some u ∧ RelV v u ∧ ∀ G, Dn K G v d
theorem j_glob {x : Str} (h : GlobD X.K X.mg x d) (hg : Gl X x := by rfl) (hd : (x == ("__debug__" : Str)) = false := by decide) : J X (.Name x pos) ρ d := fun _ G H _ _ sm q => by
  obtain ⟨u, v, h1, h2, h3⟩ := h
  exact toE (pe_glob hg h1 h2 hd) (q v G H (Grow.refl sm) (h3 G))
theorem ja_nil : JA X [] ρ [] := fun _ G H _ _ sm q => toA pa_nil (q [] G H (Grow.refl sm) .nil)
theorem ja_cons (he : J X e ρ d) (hs : JA X es ρ ds) (hst : starEach (e :: es) X.env = (false, eval e X.env) :: starEach es X.env := by rfl) : JA X (e :: es) ρ (d :: ds) := fun σ G H Q env sm q =>
  toA (pa_cons peW paW hst) (he σ G H _ env sm fun v G1 H1 g1 d1 => hs σ G1 H1 _ (env.mono g1.g) g1.i fun vs G2 H2 g2 d2 => q _ G2 H2 (g1.trans g2) (.cons (dn_mono g2.g d1) d2))
theorem le_line {n : Nat} (h : n ≤ 100000) : n ≤ sizeLine := Nat.le_trans h (by decide)
theorem dn_tupNew {K : PySem.W.Frag} {G : Hp} {p : Addr} {vs : List V} (hp : G p = none) (h : DnAll K G vs ds) : Dn K (upd G p (.tup vs)) (.ref p) (.tuple ds) := .tup (SqT.of upd_same) (dnAll_mono (same_upd hp) h)
theorem dn_lstNew {K : PySem.W.Frag} {G : Hp} {p : Addr} {vs : List V} (hp : G p = none) (h : DnAll K G vs ds) : Dn K (upd G p (.lst vs)) (.ref p) (.list ds) := .lst upd_same (dnAll_mono (same_upd hp) h)
theorem j_tup {k} (h : JA X es ρ ds) (hl : ds.length ≤ 100000 := by first | exact Nat.le_of_ble_eq_true rfl | simp) : J X (.Tuple es k pos) ρ (.tuple ds) := fun σ G H Q env sm q =>
  toE (pe_tup paW) (h σ G H _ env sm fun vs G1 H1 g1 d1 => ⟨le_line (by rw [dnAll_length d1]; exact hl), fun p hp => q _ (upd G1 p (.tup vs)) _ (g1.trans (Grow.new g1.i hp)) (dn_tupNew (g1.i.free hp) d1)⟩)
theorem j_lst (h : JA X es ρ ds) (hl : ds.length ≤ 100000 := by first | exact Nat.le_of_ble_eq_true rfl | simp) : J X (.List es pos) ρ (.list ds) := fun σ G H Q env sm q =>
  toE (pe_lst paW) (h σ G H _ env sm fun vs G1 H1 g1 d1 => ⟨le_line (by rw [dnAll_length d1]; exact hl), fun p hp => q _ (upd G1 p (.lst vs)) _ (g1.trans (Grow.new g1.i hp)) (dn_lstNew (g1.i.free hp) d1)⟩)
theorem two_of (ha : J X a ρ da) (hb : J X b ρ db) (hr : RB X.K r da db d) {σ : L2.St} {G H : Hp} {Q : VK} (env : EnvOk X.K G σ ρ) (sm : Same G H) (q : ∀ v G' H', Grow G H G' H' → Dn X.K G' v d → Q v H') :
    tOp r (wE X a) (wE X b) σ H Q := ha σ G H _ env sm fun v G1 H1 g1 d1 => hb σ G1 H1 _ (env.mono g1.g) g1.i fun w G2 H2 g2 d2 => hr v w G2 H2 Q g2.i (dn_mono g2.g d1) d2 fun u G3 H3 g3 d3 => q u G3 H3 ((g1.trans g2).trans g3) d3
theorem j_bin {op : Operator} (ho : OpR X (binaryOp op) r) (ha : J X a ρ da) (hb : J X b ρ db) (hr : RB X.K r da db d) : J X (.BinOp a op b pos) ρ d := fun σ G H Q env sm q => toE (pe_op ho peW peW) (two_of ha hb hr env sm q)
theorem j_cmp {op : CmpOp} (ho : OpR X (compareOp op) r) (ha : J X a ρ da) (hb : J X b ρ db) (hr : RB X.K r da db d) (hm : behindInMarks op b = false := by first | exact nomark _ | rfl) : J X (.Compare a [op] [b] pos) ρ d := fun σ G H Q env sm q => toE (pe_cmpR ho peW peW hm) (two_of ha hb hr env sm q)
theorem jt_cmp {op : CmpOp} {c : Bool} (ho : OpR X (compareOp op) r) (ha : J X a ρ da) (hb : J X b ρ db) (hr : RB X.K r da db (.bool c)) (hm : behindInMarks op b = false := by first | exact nomark _ | rfl) : JT X (.Compare a [op] [b] pos) ρ c := fun σ G H Q env sm q =>
  toT (pt_cmpR ho peW peW hm) (two_of ha hb hr env sm fun v G' H' g dn => by cases dn; exact ⟨c, rfl, q G' H' g⟩)
theorem j_ix (ha : J X a ρ da) (hb : J X b ρ db) (hr : RB X.K (rIx X.K) da db d) (hp : PlainIx b := by exact fun _ _ => rfl) : J X (.Subscript a b pos) ρ d := fun σ G H Q env sm q => toE (pe_ix ix_seq peW peW hp) (two_of ha hb hr env sm q)
theorem j_ifT {t : Expr} (ht : JT X t ρ true) (ha : J X a ρ d) : J X (.IfExp t a b pos) ρ d := fun σ G H Q env sm q =>
  toE (pe_ifExp ptW peW peW) (ht σ G H _ env sm fun G1 H1 g1 => (iteT (ha σ G1 H1 Q (env.mono g1.g) g1.i fun v G2 H2 g2 => q v G2 H2 (g1.trans g2)) : if true = true then _ else _))
theorem j_ifF {t : Expr} (ht : JT X t ρ false) (hb : J X b ρ d) : J X (.IfExp t a b pos) ρ d := fun σ G H Q env sm q =>
  toE (pe_ifExp ptW peW peW) (ht σ G H _ env sm fun G1 H1 g1 => (iteF (hb σ G1 H1 Q (env.mono g1.g) g1.i fun v G2 H2 g2 => q v G2 H2 (g1.trans g2)) : if false = true then _ else _))
/-- an expression of a bool's value as a test -/
theorem jt_val {c : Bool} (h : J X e ρ (.bool c)) (he : ∀ whole, isTrue e X.env whole = (do let v ← whole; standAt e.pos; holding [v] (truthy v)) := by intro _; rfl) : JT X e ρ c := fun σ G H Q env sm q =>
  toT (pt_val peW he) (h σ G H _ env sm fun v G1 H1 g1 dn => by cases dn; exact ⟨c, rfl, q G1 H1 g1⟩)
/-! and, or, not as tests -/
theorem jt_w {c : Bool} (h : JW X e ρ c) : JT X e ρ c := fun σ G H Q env sm q pins s I => h σ G H Q env sm q _ pins s I
theorem toW {t : TT} (p : PW X e t) {σ : L2.St} {H : Hp} {Q : Bool → Hp → Prop} (h : t σ H Q) (wh : Sem Value) (pins : List (Addr × Obj)) (s : Shared) (I : Inv X pins σ H s) :
    wpAny (model X.prog X.w) X.A (isTrue e X.env wh) (TP X pins σ Q) X.xe s := p.run wh pins s σ H Q I h
def wW (X : Cx) (e : Expr) : TT := fun σ H Q => ∀ (wh : Sem Value) (pins : List (Addr × Obj)) (s : Shared), Inv X pins σ H s → wpAny (model X.prog X.w) X.A (isTrue e X.env wh) (TP X pins σ Q) X.xe s
theorem pwW : PW X e (wW X e) := ⟨fun wh pins s _ _ _ I h => h wh pins s I⟩
theorem jw_and1 {c : Bool} (h : JT X a ρ c) : JW X (.BoolOp .And [a] pos) ρ c := fun σ G H Q env sm q => toW (pw_and1 ptW) (h σ G H Q env sm q)
theorem jw_or1 {c : Bool} (h : JT X a ρ c) : JW X (.BoolOp .Or [a] pos) ρ c := fun σ G H Q env sm q => toW (pw_or1 ptW) (h σ G H Q env sm q)
theorem jw_andT {c : Bool} (ha : JT X a ρ true) (hb : JW X (.BoolOp .And (b :: es) pos) ρ c) : JW X (.BoolOp .And (a :: b :: es) pos) ρ c := fun σ G H Q env sm q =>
  toW (pw_and ptW pwW) (ha σ G H _ env sm fun G1 H1 g1 => (iteT (hb σ G1 H1 Q (env.mono g1.g) g1.i fun G2 H2 g2 => q G2 H2 (g1.trans g2)) : if true = true then _ else _))
theorem jw_andF (ha : JT X a ρ false) : JW X (.BoolOp .And (a :: b :: es) pos) ρ false := fun σ G H Q env sm q =>
  toW (pw_and ptW pwW) (ha σ G H _ env sm fun G1 H1 g1 => (iteF (q G1 H1 g1) : if false = true then _ else _))
theorem jw_orT (ha : JT X a ρ true) : JW X (.BoolOp .Or (a :: b :: es) pos) ρ true := fun σ G H Q env sm q =>
  toW (pw_or ptW pwW) (ha σ G H _ env sm fun G1 H1 g1 => (iteT (q G1 H1 g1) : if true = true then _ else _))
theorem jw_orF {c : Bool} (ha : JT X a ρ false) (hb : JW X (.BoolOp .Or (b :: es) pos) ρ c) : JW X (.BoolOp .Or (a :: b :: es) pos) ρ c := fun σ G H Q env sm q =>
  toW (pw_or ptW pwW) (ha σ G H _ env sm fun G1 H1 g1 => (iteF (hb σ G1 H1 Q (env.mono g1.g) g1.i fun G2 H2 g2 => q G2 H2 (g1.trans g2)) : if false = true then _ else _))
theorem jt_ifeT {t : Expr} {c : Bool} (ht : JT X t ρ true) (ha : JT X a ρ c) : JT X (.IfExp t a b pos) ρ c := fun σ G H Q env sm q pins s I =>
  PyProof.Rows.isTrue_IfExp (thn (ht σ G H (fun d H1 => d = true ∧ wT X a σ H1 Q) env sm (fun G1 H1 g1 => ⟨rfl, ha σ G1 H1 Q (env.mono g1.g) g1.i fun G2 H2 g2 => q G2 H2 (g1.trans g2)⟩) pins s I) fun d s1 ⟨H1, I1, e, q1⟩ => by subst e; exact q1 pins s1 I1)
theorem jt_ifeF {t : Expr} {c : Bool} (ht : JT X t ρ false) (hb : JT X b ρ c) : JT X (.IfExp t a b pos) ρ c := fun σ G H Q env sm q pins s I =>
  PyProof.Rows.isTrue_IfExp (thn (ht σ G H (fun d H1 => d = false ∧ wT X b σ H1 Q) env sm (fun G1 H1 g1 => ⟨rfl, hb σ G1 H1 Q (env.mono g1.g) g1.i fun G2 H2 g2 => q G2 H2 (g1.trans g2)⟩) pins s I) fun d s1 ⟨H1, I1, e, q1⟩ => by subst e; exact q1 pins s1 I1)
theorem jt_not {c : Bool} (ha : JT X a ρ c) : JT X (.UnaryOp .Not a pos) ρ (!c) := fun σ G H Q env sm q => toT (pt_not ptW) (ha σ G H _ env sm q)
/-! and, or, not as values -/
theorem j_one {op} (h : J X a ρ d) : J X (.BoolOp op [a] pos) ρ d := fun σ G H Q env sm q => toE (pe_one peW) (h σ G H Q env sm q)
theorem j_andT (ha : J X a ρ (.bool true)) (hb : J X (.BoolOp .And (b :: es) pos) ρ d) : J X (.BoolOp .And (a :: b :: es) pos) ρ d := fun σ G H Q env sm q =>
  toE (pe_and peW peW) (ha σ G H _ env sm fun v G1 H1 g1 dn => by cases dn; exact ⟨true, rfl, iteT (hb σ G1 H1 Q (env.mono g1.g) g1.i fun v G2 H2 g2 => q v G2 H2 (g1.trans g2))⟩)
theorem j_andF (ha : J X a ρ (.bool false)) : J X (.BoolOp .And (a :: b :: es) pos) ρ (.bool false) := fun σ G H Q env sm q =>
  toE (pe_and peW peW) (ha σ G H _ env sm fun v G1 H1 g1 dn => by cases dn; exact ⟨false, rfl, iteF (q _ G1 H1 g1 (.bl false))⟩)
theorem j_orT (ha : J X a ρ (.bool true)) : J X (.BoolOp .Or (a :: b :: es) pos) ρ (.bool true) := fun σ G H Q env sm q =>
  toE (pe_or peW peW) (ha σ G H _ env sm fun v G1 H1 g1 dn => by cases dn; exact ⟨true, rfl, iteT (q _ G1 H1 g1 (.bl true))⟩)
theorem j_orF (ha : J X a ρ (.bool false)) (hb : J X (.BoolOp .Or (b :: es) pos) ρ d) : J X (.BoolOp .Or (a :: b :: es) pos) ρ d := fun σ G H Q env sm q =>
  toE (pe_or peW peW) (ha σ G H _ env sm fun v G1 H1 g1 dn => by cases dn; exact ⟨false, rfl, iteF (hb σ G1 H1 Q (env.mono g1.g) g1.i fun v G2 H2 g2 => q v G2 H2 (g1.trans g2))⟩)
theorem j_not {c : Bool} (ha : J X a ρ (.bool c)) : J X (.UnaryOp .Not a pos) ρ (.bool (!c)) := fun σ G H Q env sm q =>
  toE (pe_not peW) (ha σ G H _ env sm fun v G1 H1 g1 dn => by cases dn; exact ⟨c, rfl, q _ G1 H1 g1 (.bl _)⟩)
theorem j_neg {i : Int} (ha : J X a ρ (.int i)) : J X (.UnaryOp .USub a pos) ρ (.int (-i)) := fun σ G H Q env sm q =>
  toE (pe_un un_neg peW) (ha σ G H _ env sm fun v G1 H1 g1 dn => by cases dn; exact ⟨i, rfl, q _ G1 H1 g1 (.int _)⟩)
end

/-! ### rules on data -/
section
variable {K : PySem.W.Frag} {i j : Int}
theorem rb_I0 {g : Int → Int → V} {d : D} (hd : ∀ G, Dn K G (g i j) d) : RB K (rI0 g) (.int i) (.int j) d := fun v w G H Q sm dv dw q => by
  cases dv; cases dw; exact ⟨i, j, rfl, rfl, q _ G H (Grow.refl sm) (hd G)⟩
theorem rb_I {C : Int → Int → Prop} {g : Int → Int → V} {d : D} (hc : C i j) (hd : ∀ G, Dn K G (g i j) d) : RB K (rI C g) (.int i) (.int j) d := fun v w G H Q sm dv dw q => by
  cases dv; cases dw; exact ⟨i, j, rfl, rfl, hc, q _ G H (Grow.refl sm) (hd G)⟩
theorem rb_eq {da db : D} (ha : SeqAt.shaped da = true) (hb : SeqAt.shaped db = true) : RB K (rEqD K) da db (.bool (PyData.eqv da db)) := fun v w G H Q sm dv dw q =>
  ⟨da, db, dn_dp (dn_mono sm dv), dn_dp (dn_mono sm dw), ha, hb, q _ G H (Grow.refl sm) (.bl _)⟩
theorem rb_ne {da db : D} (ha : SeqAt.shaped da = true) (hb : SeqAt.shaped db = true) : RB K (rNeD K) da db (.bool (!PyData.eqv da db)) := fun v w G H Q sm dv dw q =>
  ⟨da, db, dn_dp (dn_mono sm dv), dn_dp (dn_mono sm dw), ha, hb, q _ G H (Grow.refl sm) (.bl _)⟩
/-- two texts, two ints -/
theorem rb_eqS {x y : Str} : RB K rEq (.str x) (.str y) (.bool (decide (x = y))) := fun v w G H Q sm dv dw q => by
  cases dv; cases dw
  refine ⟨rfl, q _ G H (Grow.refl sm) ?_⟩
  have e : decide (V.str x = V.str y) = decide (x = y) := by rw [dec_str]; by_cases h : x = y <;> simp [h]
  rw [e]; exact .bl _
theorem rb_neS {x y : Str} : RB K rNe (.str x) (.str y) (.bool (!decide (x = y))) := fun v w G H Q sm dv dw q => by
  cases dv; cases dw
  refine ⟨rfl, q _ G H (Grow.refl sm) ?_⟩
  have e : decide (V.str x = V.str y) = decide (x = y) := by rw [dec_str]; by_cases h : x = y <;> simp [h]
  rw [e]; exact .bl _
theorem rb_eqI : RB K rEq (.int i) (.int j) (.bool (decide (i = j))) := fun v w G H Q sm dv dw q => by
  cases dv; cases dw
  refine ⟨rfl, q _ G H (Grow.refl sm) ?_⟩
  have e : decide (V.int i = V.int j) = decide (i = j) := by rw [dec_int]; by_cases h : i = j <;> simp [h]
  rw [e]; exact .bl _
theorem rb_neI : RB K rNe (.int i) (.int j) (.bool (!decide (i = j))) := fun v w G H Q sm dv dw q => by
  cases dv; cases dw
  refine ⟨rfl, q _ G H (Grow.refl sm) ?_⟩
  have e : decide (V.int i = V.int j) = decide (i = j) := by rw [dec_int]; by_cases h : i = j <;> simp [h]
  rw [e]; exact .bl _
def flatD : D → Bool
  | .none => true
  | .bool _ => true
  | .int _ => true
  | .str _ => true
  | _ => false
theorem flat_of {G : Hp} {v : V} {d : D} (h : Dn K G v d) (f : flatD d = true) : flatV v = true := by
  cases h <;> first | rfl | cases f
theorem flat_all {G : Hp} : ∀ {vs : List V} {ds : List D}, DnAll K G vs ds → ds.all flatD = true → vs.all flatV = true
  | _, _, .nil, _ => rfl
  | _, _, .cons a b, f => by
    rw [List.all_cons, Bool.and_eq_true] at f
    rw [List.all_cons, flat_of a f.1, flat_all b f.2] <;> rfl
theorem eqv_of {G : Hp} {v w : V} {d e : D} (h : Dn K G v d) (k : Dn K G w e) (f : flatD d = true) (f2 : flatD e = true) : eqV v w = PyData.eqv d e := by
  cases h <;> first | cases f | skip
  all_goals (cases k <;> first | cases f2 | skip)
  all_goals (first | rfl | simp [eqV, PyData.eqv])
theorem in_of {G : Hp} {v : V} {d : D} (h : Dn K G v d) (f : flatD d = true) : ∀ {vs : List V} {ds : List D}, DnAll K G vs ds → ds.all flatD = true → inV v vs = ds.any fun y => PyData.eqv y d
  | _, _, .nil, _ => rfl
  | _, _, .cons a b, g => by
    rw [List.all_cons, Bool.and_eq_true] at g
    have ih := in_of h f b g.2
    unfold inV at ih ⊢
    rw [List.any_cons, List.any_cons, ih, eqv_of a h g.1 f]
theorem rb_inT {neg : Bool} {d : D} {ds : List D} (f : flatD d = true) (g : ds.all flatD = true) : RB K (rIn K neg) d (.tuple ds) (.bool (if neg then !(ds.any fun y => PyData.eqv y d) else ds.any fun y => PyData.eqv y d)) := fun v w G H Q sm dv dw q => by
  cases dw with
  | tup ht ha =>
    have hi := in_of dv f ha g
    refine ⟨_, _, rfl, Or.inr (same_seqT sm ht), flat_of dv f, flat_all ha g, ?_⟩
    rw [hi]
    exact q _ G H (Grow.refl sm) (.bl _)
/-- the item of a list, a tuple, a text -/
inductive IxD : D → Int → D → Prop
  | lst {ds : List D} {i : Int} {d : D} (h : atI ds i = some d) : IxD (.list ds) i d
  | tup {ds : List D} {i : Int} {d : D} (h : atI ds i = some d) : IxD (.tuple ds) i d
  | str {z : Str} {i : Int} {c : Nat} (hz : z.length ≤ sizeLine) (h : atI z.cps.toList i = some c) : IxD (.str z) i (.str ⟨#[c]⟩)
theorem atI_dn {G : Hp} {vs : List V} {ds : List D} {i : Int} {d : D} (h : DnAll K G vs ds) (e : atI ds i = some d) : ∃ v, atI vs i = some v ∧ Dn K G v d := by
  unfold atI at e ⊢
  rw [dnAll_length h]
  cases z : ixN ds.length i with
  | none => rw [z] at e; cases e
  | some j =>
    rw [z] at e
    exact dnAll_get h e
theorem rb_ix {da d : D} (h : IxD da i d) : RB K (rIx K) da (.int i) d := fun v w G H Q sm dv dw q => by
  cases dw
  cases h with
  | lst e =>
    cases dv with
    | lst hl ha =>
      obtain ⟨u, h1, h2⟩ := atI_dn ha e
      exact .inl ⟨_, _, i, u, rfl, rfl, SqL.of (sm _ _ hl), h1, q u G H (Grow.refl sm) h2⟩
  | tup e =>
    cases dv with
    | tup ht ha =>
      obtain ⟨u, h1, h2⟩ := atI_dn ha e
      exact .inr (.inl ⟨_, _, i, u, rfl, rfl, same_seqT sm ht, h1, q u G H (Grow.refl sm) h2⟩)
  | str hz e =>
    cases dv
    exact .inr (.inr ⟨_, i, _, rfl, rfl, hz, e, q _ G H (Grow.refl sm) (.str _)⟩)
/-- + -/
theorem rb_catT {xs ys : List D} (hz : xs.length + ys.length ≤ 100000) : RB K (rCatA K) (.tuple xs) (.tuple ys) (.tuple (xs ++ ys)) := fun v w G H Q sm dv dw q => by
  cases dv with
  | @tup a vs _ ha da =>
    cases dw with
    | @tup b ws _ hb db =>
      have l1 := dnAll_length da
      have l2 := dnAll_length db
      refine ⟨a, b, vs, ws, rfl, rfl, same_seqT sm ha, same_seqT sm hb, le_line (by omega), fun e => ?_, fun _ e => ?_, fun _ _ p hp => ?_⟩
      · subst e
        cases da
        exact q _ G H (Grow.refl sm) (.tup hb db)
      · subst e
        cases db
        rw [List.append_nil] at q
        exact q _ G H (Grow.refl sm) (.tup ha da)
      · exact q _ _ _ (Grow.new sm hp) (dn_tupNew (sm.free hp) (dnAll_app da db))
theorem rb_catL {xs ys : List D} (hz : xs.length + ys.length ≤ 100000) : RB K rCat (.list xs) (.list ys) (.list (xs ++ ys)) := fun v w G H Q sm dv dw q => by
  cases dv with
  | @lst a vs _ ha da =>
    cases dw with
    | @lst b ws _ hb db =>
      have l1 := dnAll_length da
      have l2 := dnAll_length db
      exact ⟨a, b, vs, ws, rfl, rfl, sm _ _ ha, sm _ _ hb, le_line (by omega), fun p hp => q _ _ _ (Grow.new sm hp) (dn_lstNew (sm.free hp) (dnAll_app da db))⟩
theorem dnAll_rep {G : Hp} {vs : List V} {ds : List D} (h : DnAll K G vs ds) : ∀ n : Nat, DnAll K G ((List.replicate n vs).flatten) ((List.replicate n ds).flatten)
  | 0 => .nil
  | n + 1 => by
    rw [List.replicate_succ, List.replicate_succ, List.flatten_cons, List.flatten_cons]
    exact dnAll_app h (dnAll_rep h n)
end
end Y
namespace Y
open PySem L2

section
variable {X : Cx} {a b e : Expr} {es : List Expr} {ρ : List Sl} {da db d : D} {ds : List D} {pos p : Pos}
/-! ### calls of what is built in -/
theorem j_callB {id : String} {x : Str} {r : List V → Hp → VK → Prop} (hc : CallR X (.builtin id) r) (hm : X.mg x = none) (hv : bootBuiltins x = some (.builtin id)) (ha : JA X (e :: es) ρ ds) (hr : RL X.K r ds d) (hg : Gl X x := by rfl)
    (hn : x ≠ "__name__" := by decide) (hdb : (x == ("__debug__" : Str)) = false := by decide) (he : starEach (e :: es) X.env = (false, eval e X.env) :: starEach es X.env := by rfl)
    (hpl : (backTo pos (starEach es X.env)).any (·.1) = false := by rfl) : J X (.Call (.Name x p) (e :: es) [] pos) ρ d := fun σ G H Q env sm q =>
  toE (pe_callB hc hg hm hv paW hn hdb he hpl) (ha σ G H _ env sm fun vs G1 H1 g1 d1 => hr vs G1 H1 Q g1.i d1 fun u G2 H2 g2 d2 => q u G2 H2 (g1.trans g2) d2)
theorem j_callTy {T : String} {x : Str} {r : List V → Hp → VK → Prop} (hc : CallR X (.type T) r) (hm : X.mg x = none) (hv : bootBuiltins x = some (.type T)) (ha : JA X (e :: es) ρ ds) (hr : RL X.K r ds d) (hg : Gl X x := by rfl)
    (hn : x ≠ "__name__" := by decide) (hdb : (x == ("__debug__" : Str)) = false := by decide) (he : starEach (e :: es) X.env = (false, eval e X.env) :: starEach es X.env := by rfl)
    (hpl : (backTo pos (starEach es X.env)).any (·.1) = false := by rfl) : J X (.Call (.Name x p) (e :: es) [] pos) ρ d := fun σ G H Q env sm q =>
  toE (pe_callTy hc hg hm hv paW hn hdb he hpl) (ha σ G H _ env sm fun vs G1 H1 g1 d1 => hr vs G1 H1 Q g1.i d1 fun u G2 H2 g2 d2 => q u G2 H2 (g1.trans g2) d2)
end
section
variable {K : PySem.W.Frag}
inductive LenD : D → Nat → Prop
  | lst (ds : List D) : LenD (.list ds) ds.length
  | tup (ds : List D) : LenD (.tuple ds) ds.length
  | str {x : Str} (h : x.length ≤ sizeLine) : LenD (.str x) x.length
theorem rl_len {d : D} {n : Nat} (h : LenD d n) : RL K (fun xs H Q => ∃ x n, xs = [x] ∧ LenV K x H n ∧ Q (.int n) H) [d] (.int (n : Int)) := fun vs G H Q sm dv q => by
  cases dv with
  | cons hv t =>
    cases t
    cases h with
    | lst =>
      cases hv with
      | lst hl ha => exact ⟨_, _, rfl, .inl ⟨_, SqL.of (sm _ _ hl), (dnAll_length ha).symm⟩, q _ G H (Grow.refl sm) (.int _)⟩
    | tup =>
      cases hv with
      | tup hl ha => exact ⟨_, _, rfl, .inr ⟨_, same_seqT sm hl, (dnAll_length ha).symm⟩, q _ G H (Grow.refl sm) (.int _)⟩
    | str h =>
      cases hv
      exact ⟨_, _, rfl, ⟨h, rfl⟩, q _ G H (Grow.refl sm) (.int _)⟩
theorem bools_of {G : Hp} : ∀ {vs : List V} {bs : List Bool}, DnAll K G vs (bs.map PyData.bool) → vs = bs.map V.bl
  | [], [], _ => rfl
  | _, b :: bs, h => by
    cases h with
    | cons h t => cases h; rw [bools_of t] <;> rfl
  | _ :: _, [], h => by cases h
theorem rl_all {bs : List Bool} : RL K (rAll K) [.list (bs.map PyData.bool)] (.bool (bs.all id)) := fun vs G H Q sm dv q => by
  cases dv with
  | cons hv t =>
    cases t
    cases hv with
    | lst hl ha =>
      have e := bools_of ha
      subst e
      exact ⟨_, bs, rfl, SqL.of (sm _ _ hl), q _ G H (Grow.refl sm) (.bl _)⟩
theorem rl_int1 {i : Int} : RL K (fun xs H Q => (∃ i, xs = [.int i] ∧ Q (.int i) H) ∨ ∃ k, xs = [.bl k] ∧ Q (.int (if k then 1 else 0)) H) [.int i] (.int i) := fun vs G H Q sm dv q => by
  cases dv with
  | cons hv t => cases t; cases hv; exact .inl ⟨i, rfl, q _ G H (Grow.refl sm) (.int _)⟩
theorem rl_intB {k : Bool} : RL K (fun xs H Q => (∃ i, xs = [.int i] ∧ Q (.int i) H) ∨ ∃ k, xs = [.bl k] ∧ Q (.int (if k then 1 else 0)) H) [.bool k] (.int (if k then 1 else 0)) := fun vs G H Q sm dv q => by
  cases dv with
  | cons hv t => cases t; cases hv; exact .inr ⟨k, rfl, q _ G H (Grow.refl sm) (.int _)⟩
theorem rl_tupL {ds : List D} : RL K (fun xs H Q => ∃ p ys, xs = [V.ref p] ∧ ((SqL K H p ys ∧ ∀ l, H l = none → Q (.ref l) (upd H l (.tup ys))) ∨ SqT K H p ys ∧ Q (.ref p) H)) [.list ds] (.tuple ds) := fun vs G H Q sm dv q => by
  cases dv with
  | cons hv t =>
    cases t
    cases hv with
    | lst hl ha => exact ⟨_, _, rfl, .inl ⟨SqL.of (sm _ _ hl), fun l hp => q _ _ _ (Grow.new sm hp) (dn_tupNew (sm.free hp) ha)⟩⟩
/-- the type of a datum -/
def tyD : D → String
  | .none => "NoneType"
  | .bool _ => "bool"
  | .int _ => "int"
  | .str _ => "str"
  | .list _ => "list"
  | .tuple _ => "tuple"
  | .dict _ => "dict"
theorem tyx_of {G : Hp} {v : V} {d : D} (h : Dn K G v d) : TyX K G v (.type (tyD d)) := by
  cases h with
  | non => exact .base .non
  | bl b => exact .base (.bl b)
  | int i => exact .base (.int i)
  | str x => exact .base (.str x)
  | lst hl _ => exact .base (.lst hl)
  | tup ht _ =>
    rcases ht with (ht | ⟨o, ht⟩) | ⟨o, its, n, hk, hc, _⟩
    · exact .base (.tup ht)
    · exact .fTuple ht
    · exact .kTuple hk hc
end
section
variable {X : Cx} {a b e : Expr} {es : List Expr} {ρ : List Sl} {da db d : D} {ds : List D} {pos p pt : Pos}
/-- isinstance(e, T), T a built-in class -/
theorem j_isi {T : Str} {T' : String} {c : Bool} (hm : X.mg "isinstance" = none) (he : J X e ρ d) (hmT : X.mg T = none) (hvT : bootBuiltins T = some (.type T')) (hk : kitB (tyD d) T' = some c) (hg : Gl X "isinstance" := by rfl) (hgT : Gl X T := by rfl)
    (hv : bootBuiltins ("isinstance" : Str) = some (.builtin "isinstance") := by first | decide +kernel | kernel_rfl) (hnT : T ≠ "__name__" := by decide) (hdT : (T == ("__debug__" : Str)) = false := by decide)
    (h1 : starEach (e :: [.Name T pt]) X.env = (false, eval e X.env) :: starEach [.Name T pt] X.env := by rfl) :
    J X (.Call (.Name "isinstance" p) [e, .Name T pt] [] pos) ρ (.bool c) := fun σ G H Q env sm q =>
  toE (pe_callB call_isi hg hm hv (pa_cons peW (pa_cons (pe_bltn (v := .ty T') hgT hmT hvT rfl hnT hdT) pa_nil) h1) (he := h1)) (he σ G H _ env sm fun v G1 H1 g1 d1 =>
    ⟨v, .ty T', .type (tyD d), .type T', c, rfl, .ty T', tyx_of (dn_mono g1.i d1), kit_ty hk, q _ G1 H1 g1 (.bl c)⟩)

/-! ### what a def promises, on data -/
def spD (K : PySem.W.Frag) (R : List D → D → Prop) : Sp := fun vs H Q _ => ∃ G ds d, Same G H ∧ DnAll K G vs ds ∧ R ds d ∧ ∀ v G' H', Grow G H G' H' → Dn K G' v d → Q v H'
def FnD (P : Program) (w : World) (K : PySem.W.Frag) (mg : Str → Option Value) (base : Heap) (k : Nat) (x : Str) (ps : List Str) (R : List D → D → Prop) : Prop :=
  ∃ f fd, FnOk P w K mg base CX0 k f fd ps (spD K R) ∧ mg x = some (.ref f) ∧ PySem.W.keepIn K (.ref f) = true ∧ Binds K fd ps []
theorem j_call {k j : Nat} {x : Str} {ps : List Str} {R : List D → D → Prop} (F : FnD X.prog X.w X.K X.mg X.base k x ps R) (hr : Room j X.A) (ha : JA X (e :: es) ρ ds) (hR : R ds d) (hkj : k ≤ j := by first | decide | omega) (hg : Gl X x := by rfl)
    (hdb : (x == ("__debug__" : Str)) = false := by decide) (he : starEach (e :: es) X.env = (false, eval e X.env) :: starEach es X.env := by rfl) (hpl : (backTo pos (starEach es X.env)).any (·.1) = false := by rfl) :
    J X (.Call (.Name x p) (e :: es) [] pos) ρ d := fun σ G H Q env sm q => by
  obtain ⟨f, fd, F, hm, hk, hb⟩ := F
  exact toE (pe_call (E := E0) (dvs := []) F (hr.mono hkj) hg hm hk hb .nil pass0 paW hdb he hpl) (ha σ G H _ env sm fun vs G1 H1 g1 d1 => by
    rw [List.append_nil]
    exact ⟨G1, ds, d, g1.i, d1, hR, fun v G2 H2 g2 d2 => q v G2 H2 (g1.trans g2) d2⟩)
/-- f(k = e): one parameter, by name -/
theorem pe_callN0 {k : Nat} {f : Addr} {fd : FuncData} {ps ks : List Str} {sp : Sp} {E : XK} {CX : CXT} {x : Str} {kws : List Keyword} {tk : TA} {g : List Value → List Value → List Value} {gV : List V → List V → List V}
    (F : FnOk X.prog X.w X.K X.mg X.base CX k f fd ps sp) (hr : Room k X.A) (hg : Gl X x) (hm : X.mg x = some (.ref f)) (hk : PySem.W.keepIn X.K (.ref f) = true) (hb : KBinds X.K fd ps ks g gV) (hx : Passes CX X E) (hkw : PK X kws tk)
    (hall : (backToKw pos (keywordEach kws X.env)).all (·.1.isSome) = true := by rfl) (hks : (backToKw pos (keywordEach kws X.env)).filterMap (·.1) = ks := by rfl) (hdb : (x == ("__debug__" : Str)) = false := by decide)
    (hpl : ((backTo pos (starEach [] X.env)).any (·.1) || (backToKw pos (keywordEach kws X.env)).any (·.1.isNone)) = false := by rfl) :
    PE X (.Call (.Name x p) [] kws pos) (tCallK sp gV E tNil tk) := by
  refine ⟨fun pins s σ H Q I h => ?_⟩
  refine wpAny_Call_Name_kw (ld_glob I hg hm ?_ hdb)
  refine PySem.W.callWith_KW0 (h₀ := X.base) I.ok.mod.kin hk hall (thn (hkw.run pos pins s σ H _ I h) fun ws s1 ⟨zs, H1, I1, r1, q1⟩ => ⟨I1.kIn, ?_⟩) hpl
  rw [hks]
  exact run_fnk (us := []) (vs := []) F hr hb hx I1 .nil r1 q1
/-- the same def, called by its parameter's name -/
def FnDK (P : Program) (w : World) (K : PySem.W.Frag) (mg : Str → Option Value) (base : Heap) (k : Nat) (x y : Str) (R : List D → D → Prop) : Prop :=
  ∃ f fd, FnOk P w K mg base CX0 k f fd [y] (spD K R) ∧ mg x = some (.ref f) ∧ PySem.W.keepIn K (.ref f) = true ∧ KBinds K fd [y] [y] (fun us ws => us ++ ws) (fun vs zs => vs ++ zs)
theorem j_callK1 {k j : Nat} {x : Str} {y : Str} {kpos : Pos} {R : List D → D → Prop} (F : FnDK X.prog X.w X.K X.mg X.base k x y R)
    (hr : Room j X.A) (ha : J X e ρ d) {d' : D} (hR : R [d] d') (hkj : k ≤ j := by first | decide | omega) (hg : Gl X x := by rfl) (hall : (backToKw pos (keywordEach [⟨some y, e, kpos⟩] X.env)).all (·.1.isSome) = true := by rfl) (hks : (backToKw pos (keywordEach [⟨some y, e, kpos⟩] X.env)).filterMap (·.1) = [y] := by rfl)
    (hdb : (x == ("__debug__" : Str)) = false := by decide) (hpl : ((backTo pos (starEach [] X.env)).any (·.1) || (backToKw pos (keywordEach [⟨some y, e, kpos⟩] X.env)).any (·.1.isNone)) = false := by rfl) :
    J X (.Call (.Name x p) [] [⟨some y, e, kpos⟩] pos) ρ d' := fun σ G H Q env sm q => by
  obtain ⟨f, fd, F, hm, hk, hb⟩ := F
  exact toE (pe_callN0 (E := E0) F (hr.mono hkj) hg hm hk hb pass0 (pk_cons peW pk_nil) hall hks hdb hpl) (ha σ G H _ env sm fun v G1 H1 g1 d1 =>
    ⟨G1, [d], d', g1.i, .cons d1 .nil, hR, fun v G2 H2 g2 d2 => q v G2 H2 (g1.trans g2) d2⟩)
end

section
variable {X : Cx} {b e : Expr} {ρ : List Sl} {ds : List D} {pos p2 : Pos}
/-- t[n:], n from 0 on -/
theorem j_slT (n : Nat) (he : J X e ρ (.tuple ds)) (hb : J X b ρ (.int (n : Int))) : J X (.Subscript e (.Slice (some b) none none p2) pos) ρ (.tuple (ds.drop n)) := fun σ G H Q env sm q =>
  toE (pe_slice sl_tupA peW (po_some peW) po_none) (he σ G H _ env sm fun v G1 H1 g1 d1 => hb σ G1 H1 _ (env.mono g1.g) g1.i fun u G2 H2 g2 d2 => by
    cases d2
    refine ⟨n, rfl, ?_⟩
    cases dn_mono g2.g d1 with
    | @tup a vs _ ht ha =>
      have hl := dnAll_length ha
      have e1 : HT.sIx vs.length 0 (some (n : Int)) = min n vs.length := HT.sIx_nat _ _ _
      refine ⟨a, vs, rfl, same_seqT g2.i ht, fun hw => ?_, fun _ p hp => ?_⟩
      · rw [e1] at hw
        have h0 : ds.drop n = ds := by
          by_cases hn : n = 0
          · subst hn; rfl
          · have : vs.length = 0 := by have := hw.1; omega
            have h1 : ds.length = 0 := by omega
            rw [List.length_eq_zero_iff.mp h1, List.drop_nil]
        rw [h0] at q
        exact q _ G2 H2 (g1.trans g2) (.tup ht ha)
      · have e2 : cutV vs (some (n : Int)) none = vs.drop n := by
          unfold cutV
          rw [e1, HT.sIx_none, List.take_of_length_le]
          · by_cases hn : n ≤ vs.length
            · rw [Nat.min_eq_left hn]
            · rw [Nat.min_eq_right (by omega), List.drop_of_length_le (Nat.le_refl _), List.drop_of_length_le (by omega)]
          · rw [List.length_drop]; omega
        rw [e2]
        exact q _ _ _ ((g1.trans g2).trans (Grow.new g2.i hp)) (dn_tupNew (g2.i.free hp) (dnAll_drop n ha)))
end
/-! ### statements -/
inductive Res where
  | nx (ρ : List Sl) | rt (d : D) | bk (ρ : List Sl) | ct (ρ : List Sl)
def Fin (K : PySem.W.Frag) (r : Res) (G H : Hp) (E : Ends) : Prop := match r with
  | .nx ρ => ∀ σ G' H', Grow G H G' H' → EnvOk K G' σ ρ → E.nx σ H'
  | .bk ρ => ∀ σ G' H', Grow G H G' H' → EnvOk K G' σ ρ → E.bk σ H'
  | .ct ρ => ∀ σ G' H', Grow G H G' H' → EnvOk K G' σ ρ → E.ct σ H'
  | .rt d => ∀ v G' H', Grow G H G' H' → Dn K G' v d → E.rt v H'
theorem Fin.grow {K : PySem.W.Frag} {r : Res} {G H G' H' : Hp} {E : Ends} (f : Fin K r G H E) (g : Grow G H G' H') : Fin K r G' H' E := by
  cases r with
  | nx ρ => exact fun σ G2 H2 g2 e => f σ G2 H2 (g.trans g2) e
  | bk ρ => exact fun σ G2 H2 g2 e => f σ G2 H2 (g.trans g2) e
  | ct ρ => exact fun σ G2 H2 g2 e => f σ G2 H2 (g.trans g2) e
  | rt d => exact fun v G2 H2 g2 e => f v G2 H2 (g.trans g2) e
def JS (X : Cx) (st : Stmt) (ρ : List Sl) (r : Res) : Prop := ∀ (σ : L2.St) (G H : Hp) (E : Ends), EnvOk X.K G σ ρ → Same G H → Fin X.K r G H E → wS X st E σ H
def JB (X : Cx) (st : List Stmt) (ρ : List Sl) (r : Res) : Prop := ∀ (σ : L2.St) (G H : Hp) (E : Ends), EnvOk X.K G σ ρ → Same G H → Fin X.K r G H E → wB X st E σ H
section
variable {X : Cx} {st : Stmt} {sts : List Stmt} {e : Expr} {ρ ρ1 : List Sl} {d : D} {r : Res} {pos : Pos}
theorem jb_nil : JB X [] ρ (.nx ρ) := fun σ G H E env sm f => toB pss_nil (f σ G H (Grow.refl sm) env)
theorem jb_cons (h : JS X st ρ (.nx ρ1)) (hs : JB X sts ρ1 r) : JB X (st :: sts) ρ r := fun σ G H E env sm f =>
  toB (pss_cons psW pbW) (h σ G H _ env sm fun σ1 G1 H1 g1 e1 => hs σ1 G1 H1 E e1 g1.i (f.grow g1))
theorem jb_rt (h : JS X st ρ (.rt d)) : JB X (st :: sts) ρ (.rt d) := fun σ G H E env sm f => toB (pss_cons psW (pss_never (sts := sts))) (h σ G H { E with nx := tNever E } env sm f)
theorem jb_bk (h : JS X st ρ (.bk ρ1)) : JB X (st :: sts) ρ (.bk ρ1) := fun σ G H E env sm f => toB (pss_cons psW (pss_never (sts := sts))) (h σ G H { E with nx := tNever E } env sm f)
theorem jb_ct (h : JS X st ρ (.ct ρ1)) : JB X (st :: sts) ρ (.ct ρ1) := fun σ G H E env sm f => toB (pss_cons psW (pss_never (sts := sts))) (h σ G H { E with nx := tNever E } env sm f)
theorem js_ret (h : J X e ρ d) : JS X (.Return (some e) pos) ρ (.rt d) := fun σ G H E env sm f => toS (ps_ret peW) (h σ G H _ env sm fun v G' H' g dn => f v G' H' g dn)
theorem js_retN : JS X (.Return none pos) ρ (.rt .none) := fun σ G H E env sm f => toS ps_retN (f .non G H (Grow.refl sm) .non)
theorem js_pass : JS X (.Pass pos) ρ (.nx ρ) := fun σ G H E env sm f => toS ps_pass (f σ G H (Grow.refl sm) env)
theorem js_break : JS X (.Break pos) ρ (.bk ρ) := fun σ G H E env sm f => toS ps_break (f σ G H (Grow.refl sm) env)
theorem js_continue : JS X (.Continue pos) ρ (.ct ρ) := fun σ G H E env sm f => toS ps_continue (f σ G H (Grow.refl sm) env)
theorem js_set (i : Nat) {x : Str} {pos' : Pos} (hN : X.N.Nodup) (h : J X e ρ d) (hi : X.N[i]? = some x := by rfl) (hx : L2.Loc X.env.scope x := by first | exact Or.inl rfl | exact Or.inr rfl) (hs : swapsWith e (some (.Name x pos')) pos.line X.env = pure false := by rfl)
    (hf : X.fn x = true ∨ X.env.scope.names.lookup x = some .local := by first | exact .inl rfl | exact .inr rfl) : JS X (.Assign [.Name x pos'] e pos) ρ (.nx (ρ.set i (.d d))) := fun σ G H E env sm f =>
  toS (ps_set (i := i) hN hi hx peW hs hf) (h σ G H _ env sm fun v G' H' g dn => f _ G' H' g ((env.mono g.g).set ⟨v, rfl, dn⟩))
theorem js_expr (h : J X e ρ d) (hs : swapsWith e none pos.line X.env = pure false := by rfl) : JS X (.Expr e pos) ρ (.nx ρ) := fun σ G H E env sm f =>
  toS (ps_expr peW hs) (h σ G H _ env sm fun v G' H' g dn => f _ G' H' g (env.mono g.g))
variable {c : Expr} {t u : List Stmt}
theorem js_ifT (hc : JT X c ρ true) (h : JB X t ρ r) : JS X (.If c t u pos) ρ r := fun σ G H E env sm f =>
  toS (ps_if ptW pbW pbW) (hc σ G H _ env sm fun G' H' g => (iteT (h σ G' H' E (env.mono g.g) g.i (f.grow g)) : if true = true then _ else _))
theorem js_ifF (hc : JT X c ρ false) (h : JB X u ρ r) : JS X (.If c t u pos) ρ r := fun σ G H E env sm f =>
  toS (ps_if ptW pbW pbW) (hc σ G H _ env sm fun G' H' g => (iteF (h σ G' H' E (env.mono g.g) g.i (f.grow g)) : if false = true then _ else _))

/-! ### what is walked -/
def ItD (K : PySem.W.Frag) (I : It) (G : Hp) (ds : List D) : Prop := ∀ G' H', Same G G' → Same G' H' →
  (∀ i d, ds[i]? = some d → I.go i H' ∧ ∀ x H2, I.yld i H' x H2 → H2 = H' ∧ Dn K G' x d) ∧ I.stop ds.length H'
def wI (X : Cx) (tg iter : Expr) : TI := fun σ H R => ∃ wi, PI X tg iter wi ∧ wi σ H R
theorem piW {tg iter : Expr} : PI X tg iter (wI X tg iter) := ⟨fun pins s σ H R I h => let ⟨_, p, q⟩ := h; p.run pins s σ H R I q⟩
def JI (X : Cx) (tg iter : Expr) (ρ : List Sl) (ds : List D) : Prop := ∀ (σ : L2.St) (G H : Hp) (R : It → Hp → Prop), EnvOk X.K G σ ρ → Same G H → (∀ I G' H', Grow G H G' H' → ItD X.K I G' ds → R I H') → wI X tg iter σ H R
theorem ji_lst {tg : Expr} {ds : List D} (h : J X e ρ (.list ds)) : JI X tg e ρ ds := fun σ G H R env sm q => ⟨_, pi_list peW, h σ G H _ env sm fun v G1 H1 g1 d1 => by
  cases d1 with
  | @lst a vs _ hl ha =>
    refine ⟨a, rfl, ⟨vs, SqL.of (g1.i _ _ hl)⟩, q _ G1 H1 g1 fun G2 H2 s1 s2 => ⟨fun i d hd => ?_, ?_⟩⟩
    · have hq : SqL X.K H2 a vs := SqL.of (s2 _ _ (s1 _ _ hl))
      obtain ⟨v, h1, h2⟩ := dnAll_get ha hd
      refine ⟨⟨vs, v, hq, h1⟩, fun x H3 hy => ⟨hy.1, ?_⟩⟩
      have h3 := hy.2 vs hq
      rw [h1] at h3
      cases h3
      exact dn_mono s1 h2
    · exact ⟨vs, SqL.of (s2 _ _ (s1 _ _ hl)), by rw [dnAll_length ha]; exact Nat.le_refl _⟩⟩
theorem ji_tup {tg : Expr} {ds : List D} (h : J X e ρ (.tuple ds)) : JI X tg e ρ ds := fun σ G H R env sm q => ⟨_, pi_tup peW, h σ G H _ env sm fun v G1 H1 g1 d1 => by
  cases d1 with
  | @tup a vs _ hl ha =>
    refine ⟨a, rfl, ⟨vs, same_seqT g1.i hl⟩, q _ G1 H1 g1 fun G2 H2 s1 s2 => ⟨fun i d hd => ?_, ?_⟩⟩
    · have hq : SqT X.K H2 a vs := same_seqT s2 (same_seqT s1 hl)
      obtain ⟨v, h1, h2⟩ := dnAll_get ha hd
      refine ⟨⟨vs, v, hq, h1⟩, fun x H3 hy => ⟨hy.1, ?_⟩⟩
      have h3 := hy.2 vs hq
      rw [h1] at h3
      cases h3
      exact dn_mono s1 h2
    · exact ⟨vs, same_seqT s2 (same_seqT s1 hl), by rw [dnAll_length ha]; exact Nat.le_refl _⟩⟩
theorem ji_str {tg : Expr} {z : Str} (h : J X e ρ (.str z)) : JI X tg e ρ (z.cps.toList.map fun c => .str ⟨#[c]⟩) := fun σ G H R env sm q => ⟨_, pi_str peW, h σ G H _ env sm fun v G1 H1 g1 d1 => by
  cases d1
  refine ⟨z, rfl, q _ G1 H1 g1 fun G2 H2 s1 s2 => ⟨fun i d hd => ?_, ?_⟩⟩
  · rw [List.getElem?_map] at hd
    cases hc : z.cps.toList[i]? with
    | none => rw [hc] at hd; cases hd
    | some c =>
      rw [hc] at hd
      cases hd
      have hi : i < z.cps.size := by
        have := (List.getElem?_eq_some_iff.mp hc).1
        simpa using this
      refine ⟨hi, fun x H3 hy => ⟨hy.1, ?_⟩⟩
      obtain ⟨c', h1, rfl⟩ := hy.2
      have h2 : z.cps[i]? = some c := by simpa using hc
      rw [h2] at h1
      cases h1
      exact .str _
  · show z.cps.size ≤ _
    simp⟩
theorem ji_range {tg : Expr} {p : Pos} {n : Int} (hm : X.mg "range" = none) (h : J X e ρ (.int n)) (hn : n ≤ 100000) (h0 : -100000 ≤ n) (hg : Gl X "range" := by rfl) (hs : starEach [e] X.env = [(false, eval e X.env)] := by rfl) :
    JI X tg (.Call (.Name "range" p) [e] [] pos) ρ ((List.range n.toNat).map fun k : Nat => PyData.int (k : Int)) := fun σ G H R env sm q => ⟨_, pi_range1 hg hm (pa_cons peW pa_nil (by rw [hs] <;> rfl)) hs, h σ G H _ env sm fun v G1 H1 g1 d1 => by
  cases d1
  refine ⟨n, rfl, by omega, by omega, q _ G1 H1 g1 fun G2 H2 s1 s2 => ⟨fun i d hd => ?_, ?_⟩⟩
  · rw [List.getElem?_map] at hd
    cases hc : (List.range n.toNat)[i]? with
    | none => rw [hc] at hd; cases hd
    | some c =>
      rw [hc] at hd
      cases hd
      obtain ⟨h1, h2⟩ := List.getElem?_eq_some_iff.mp hc
      rw [List.length_range] at h1
      rw [List.getElem_range] at h2
      subst h2
      refine ⟨h1, fun x H3 hy => ⟨hy.1, ?_⟩⟩
      rw [hy.2, Int.zero_add]
      exact .int _
  · show n.toNat ≤ _
    simp⟩

/-! ### slots that are forgotten -/
inductive Weak : List Sl → List Sl → Prop
  | nil : Weak [] []
  | same {s : Sl} {l m : List Sl} (h : Weak l m) : Weak (s :: l) (s :: m)
  | drop {s : Sl} {l m : List Sl} (h : Weak l m) : Weak (s :: l) (.u :: m)
theorem Weak.refl : ∀ l : List Sl, Weak l l
  | [] => .nil
  | _ :: l => .same (Weak.refl l)
theorem Weak.length {l m : List Sl} (h : Weak l m) : m.length = l.length := by
  induction h with
  | nil => rfl
  | same _ ih => simp [ih]
  | drop _ ih => simp [ih]
theorem Weak.get {l m : List Sl} (h : Weak l m) : ∀ {i : Nat} {s : Sl}, m[i]? = some s → s = .u ∧ i < l.length ∨ l[i]? = some s := by
  induction h with
  | nil => intro i s q; simp at q
  | same h ih =>
    intro i s q
    cases i with
    | zero => exact .inr q
    | succ i =>
      rcases ih (by simpa using q) with ⟨a, b⟩ | a
      · exact .inl ⟨a, by simpa using b⟩
      · exact .inr (by simpa using a)
  | drop h ih =>
    intro i s q
    cases i with
    | zero => simp at q; exact .inl ⟨q.symm, by simp⟩
    | succ i =>
      rcases ih (by simpa using q) with ⟨a, b⟩ | a
      · exact .inl ⟨a, by simpa using b⟩
      · exact .inr (by simpa using a)
theorem EnvOk.weak {K : PySem.W.Frag} {G : Hp} {σ : L2.St} {l m : List Sl} (e : EnvOk K G σ l) (h : Weak l m) : EnvOk K G σ m := by
  refine ⟨h.length.trans e.1, fun i s q => ?_⟩
  rcases h.get q with ⟨a, b⟩ | a
  · subst a
    exact ⟨σ[i]'(by rw [← e.1]; exact b), List.getElem?_eq_getElem _, trivial⟩
  · exact e.2 i s a
/-! ### for -/
theorem js_for (i : Nat) {x : Str} {iter : Expr} {body : List Stmt} {px : Pos} {ds : List D} (hp : PassesOwn (model X.prog X.w) X.A X.env X.xe) (hc : X.calm = true) (hN : X.N.Nodup) (it : JI X (.Name x px) iter ρ ds) (ρs : Nat → List Sl) (h0 : ρs 0 = ρ)
    (hb : ∀ k d, ds[k]? = some d → ∃ ρ2, Weak ρ2 (ρs (k + 1)) ∧ (JB X body ((ρs k).set i (.d d)) (.nx ρ2) ∨ JB X body ((ρs k).set i (.d d)) (.ct ρ2)))
    (hi : X.N[i]? = some x := by rfl) (hx : L2.Loc X.env.scope x := by first | exact Or.inl rfl | exact Or.inr rfl) (hf : X.fn x = true ∨ X.env.scope.names.lookup x = some .local := by first | exact .inl rfl | exact .inr rfl)
    (hs : ∀ x, foldedSetIterable iter X.env x = pure x := by intro _; rfl) : JS X (.For (.Name x px) iter body [] pos) ρ (.nx (ρs ds.length)) := fun σ G H E env sm f =>
  toS (ps_for hp hc piW (pg_name hN hi hx hf) pbW hs) (it σ G H _ env sm fun I G1 H1 g1 it1 => by
    refine ⟨fun k m σ' H' => m = ds.length - k ∧ k ≤ ds.length ∧ ∃ G', Grow G1 H1 G' H' ∧ EnvOk X.K G' σ' (ρs k), ⟨_, rfl, Nat.zero_le _, G1, Grow.refl g1.i, h0 ▸ env.mono g1.g⟩, ?_⟩
    rintro k m σ' H' ⟨rfl, hk, G', g2, e2⟩
    obtain ⟨go, stop⟩ := it1 G' H' g2.g g2.i
    by_cases hlt : k < ds.length
    · obtain ⟨d, hd⟩ : ∃ d, ds[k]? = some d := ⟨ds[k], by simp [hlt]⟩
      obtain ⟨go1, yl⟩ := go k d hd
      refine .inr ⟨go1, fun σ2 H2 => ∃ G2, Grow G1 H1 G2 H2 ∧ EnvOk X.K G2 σ2 (ρs (k + 1)), fun σ2 H2 ⟨G2, g3, e3⟩ => ⟨ds.length - (k + 1), by omega, rfl, hlt, G2, g3, e3⟩, fun y H2 hy => ?_⟩
      obtain ⟨rfl, dn⟩ := yl y H2 hy
      obtain ⟨ρ2, wk, hb | hb⟩ := hb k d hd
      · exact hb _ G' H2 _ (e2.set ⟨y, rfl, dn⟩) g2.i fun σ3 G3 H3 g3 e3 => ⟨G3, g2.trans g3, e3.weak wk⟩
      · exact hb _ G' H2 _ (e2.set ⟨y, rfl, dn⟩) g2.i fun σ3 G3 H3 g3 e3 => ⟨G3, g2.trans g3, e3.weak wk⟩
    · have e : k = ds.length := by omega
      subst e
      exact .inl ⟨stop, f σ' G' H' (g1.trans g2) e2⟩)
/-- left at turn m -/
theorem js_forX (i : Nat) {x : Str} {iter : Expr} {body : List Stmt} {px : Pos} {ds : List D} (hp : PassesOwn (model X.prog X.w) X.A X.env X.xe) (hc : X.calm = true) (hN : X.N.Nodup) (it : JI X (.Name x px) iter ρ ds) (ρs : Nat → List Sl) (h0 : ρs 0 = ρ) (m : Nat) {dm : D} (hm : ds[m]? = some dm)
    (hb : ∀ k d, k < m → ds[k]? = some d → ∃ ρ2, Weak ρ2 (ρs (k + 1)) ∧ (JB X body ((ρs k).set i (.d d)) (.nx ρ2) ∨ JB X body ((ρs k).set i (.d d)) (.ct ρ2)))
    (hl : JB X body ((ρs m).set i (.d dm)) (.rt d)) (hi : X.N[i]? = some x := by rfl) (hx : L2.Loc X.env.scope x := by first | exact Or.inl rfl | exact Or.inr rfl) (hf : X.fn x = true ∨ X.env.scope.names.lookup x = some .local := by first | exact .inl rfl | exact .inr rfl)
    (hs : ∀ x, foldedSetIterable iter X.env x = pure x := by intro _; rfl) : JS X (.For (.Name x px) iter body [] pos) ρ (.rt d) := fun σ G H E env sm f =>
  toS (ps_for hp hc piW (pg_name hN hi hx hf) pbW hs) (it σ G H _ env sm fun I G1 H1 g1 it1 => by
    refine ⟨fun k n σ' H' => n = m - k ∧ k ≤ m ∧ ∃ G', Grow G1 H1 G' H' ∧ EnvOk X.K G' σ' (ρs k), ⟨_, rfl, Nat.zero_le _, G1, Grow.refl g1.i, h0 ▸ env.mono g1.g⟩, ?_⟩
    rintro k n σ' H' ⟨rfl, hk, G', g2, e2⟩
    obtain ⟨go, stop⟩ := it1 G' H' g2.g g2.i
    by_cases hlt : k < m
    · have hmm := (List.getElem?_eq_some_iff.mp hm).1
      obtain ⟨d, hd⟩ : ∃ d, ds[k]? = some d := ⟨ds[k]'(by omega), List.getElem?_eq_getElem _⟩
      obtain ⟨go1, yl⟩ := go k d hd
      refine .inr ⟨go1, fun σ2 H2 => ∃ G2, Grow G1 H1 G2 H2 ∧ EnvOk X.K G2 σ2 (ρs (k + 1)), fun σ2 H2 ⟨G2, g3, e3⟩ => ⟨m - (k + 1), by omega, rfl, hlt, G2, g3, e3⟩, fun y H2 hy => ?_⟩
      obtain ⟨rfl, dn⟩ := yl y H2 hy
      obtain ⟨ρ2, wk, hb | hb⟩ := hb k d hlt hd
      · exact hb _ G' H2 _ (e2.set ⟨y, rfl, dn⟩) g2.i fun σ3 G3 H3 g3 e3 => ⟨G3, g2.trans g3, e3.weak wk⟩
      · exact hb _ G' H2 _ (e2.set ⟨y, rfl, dn⟩) g2.i fun σ3 G3 H3 g3 e3 => ⟨G3, g2.trans g3, e3.weak wk⟩
    · have e : k = m := by omega
      subst e
      obtain ⟨go1, yl⟩ := go k dm hm
      refine .inr ⟨go1, fun _ _ => False, fun _ _ h => h.elim, fun y H2 hy => ?_⟩
      obtain ⟨rfl, dn⟩ := yl y H2 hy
      exact hl _ G' H2 _ (e2.set ⟨y, rfl, dn⟩) g2.i fun v G3 H3 g3 e3 => f v G3 H3 ((g1.trans g2).trans g3) e3)
end

/-! ### a def by its body -/
/-- what a body's end hands back -/
def Res.back (d : D) : Res → Prop
  | .rt e => e = d
  | .nx _ => d = .none
  | _ => False
theorem fin_back {K : PySem.W.Frag} {r : Res} {d : D} {G H : Hp} {Q : VK} (h : r.back d) (q : ∀ v G' H', Grow G H G' H' → Dn K G' v d → Q v H') : Fin K r G H { nx := fun _ H' => Q .non H', rt := Q } := by
  cases r with
  | rt e => cases h; exact fun v G' H' g dn => q v G' H' g dn
  | nx ρ => cases h; exact fun σ G' H' g _ => q .non G' H' g .non
  | bk ρ => exact h.elim
  | ct ρ => exact h.elim
theorem rt_ {X : Cx} {b : List Stmt} {ρ : List Sl} {d : D} (h : JB X b ρ (.rt d)) : ∃ r : Res, r.back d ∧ JB X b ρ r := ⟨.rt d, rfl, h⟩
theorem nx_ {X : Cx} {b : List Stmt} {ρ ρ1 : List Sl} (h : JB X b ρ (.nx ρ1)) : ∃ r : Res, r.back .none ∧ JB X b ρ r := ⟨.nx ρ1, rfl, h⟩
/-- a def of the top, where it stands -/
def Stand (K : PySem.W.Frag) (mg : Str → Option Value) (x : Str) (st : Stmt) : Prop := ∃ f fd, Fun K x x st f fd ∧ mg x = some (.ref f)
/-- the same with defaults dvs -/
def StandD (K : PySem.W.Frag) (mg : Str → Option Value) (x : Str) (st : Stmt) (dvs : List V) : Prop := ∃ f fd, FunD K x x (defArgs st) (defBody st) (defScope st) dvs [] f fd ∧ mg x = some (.ref f)
abbrev bx (P : Program) (w : World) (K : PySem.W.Frag) (mg : Str → Option Value) (base : Heap) (N : List Str) (x : Str) (st : Stmt) (f : Addr) (cdv : Value) (A : Around) (outer : List Env) (s : Shared) (H : Hp) (E : XK) : Cx :=
  (cxOf CX0 P w K mg base N x (defScope st) f cdv A outer s H E).nox
section
variable {P : Program} {w : World} {K : PySem.W.Frag} {mg : Str → Option Value} {base : Heap} {x : Str} {st : Stmt} {N ps : List Str} {k : Nat} {R : List D → D → Prop}
theorem fnD (Z : Stand K mg x st) (S : FnScope N ps (defScope st))
    (hbind : ∀ (kV doc pm : Value) (an : Option Addr) (cdv ct : Value) (us : List Value), us.length = ps.length → bindArgs (PySem.W.fnOf x x (defArgs st) (defBody st) (defScope st) .none kV doc pm an cdv ct) ⟨us, []⟩ = pure (ps.zip us))
    (hl : ∀ ds d, R ds d → ds.length = ps.length)
    (hb : ∀ (f : Addr) (cdv : Value) (A : Around) (outer : List Env) (s : Shared) (H : Hp) (E : XK), Room k (A.deeper (PyProof.Rows.envOfC x (defScope st) s.heap.objs.size f cdv)) → ∀ ds d, R ds d →
      ∃ r, r.back d ∧ JB (bx P w K mg base N x st f cdv A outer s H E) (defBody st) (startL N.length ds) r) : FnD P w K mg base (k + 1) x ps R := by
  obtain ⟨f, fd, F, hm⟩ := Z
  refine ⟨f, fd, F.ok S (fun vs H Q E h => ?_) (fun cdv A outer s H vs Q E hr h => ?_), hm, F.kp, F.binds hbind⟩
  · obtain ⟨G, ds, d, _, hd, hR, _⟩ := h
    rw [dnAll_length hd]
    exact hl ds d hR
  · obtain ⟨G, ds, d, sm, hd, hR, q⟩ := h
    obtain ⟨r, hr2, hj⟩ := hb f cdv A outer s H E hr ds d hR
    exact ⟨_, pbW, hj _ G H _ (env_start hd) sm (fin_back hr2 q)⟩
/-- called by its parameter's name, too -/
theorem fnDK {y : Str} (Z : Stand K mg x st) (S : FnScope N [y] (defScope st))
    (hbind : ∀ (kV doc pm : Value) (an : Option Addr) (cdv ct : Value) (u : Value), bindArgs (PySem.W.fnOf x x (defArgs st) (defBody st) (defScope st) .none kV doc pm an cdv ct) ⟨[u], []⟩ = pure [(y, u)])
    (hbindk : ∀ (kV doc pm : Value) (an : Option Addr) (cdv ct : Value) (u : Value), bindArgs (PySem.W.fnOf x x (defArgs st) (defBody st) (defScope st) .none kV doc pm an cdv ct) ⟨[], [(y, u)]⟩ = pure [(y, u)])
    (hl : ∀ ds d, R ds d → ds.length = 1)
    (hb : ∀ (f : Addr) (cdv : Value) (A : Around) (outer : List Env) (s : Shared) (H : Hp) (E : XK), Room k (A.deeper (PyProof.Rows.envOfC x (defScope st) s.heap.objs.size f cdv)) → ∀ ds d, R ds d →
      ∃ r, r.back d ∧ JB (bx P w K mg base N x st f cdv A outer s H E) (defBody st) (startL N.length ds) r) : FnDK P w K mg base (k + 1) x y R := by
  obtain ⟨f, fd, F, hm⟩ := Z
  refine ⟨f, fd, F.ok S (fun vs H Q E h => ?_) (fun cdv A outer s H vs Q E hr h => ?_), hm, F.kp, ⟨fun s us ws _ hlen => ?_, fun r1 r2 => r1.append r2⟩⟩
  · obtain ⟨G, ds, d, _, hd, hR, _⟩ := h
    rw [dnAll_length hd]
    exact hl ds d hR
  · obtain ⟨G, ds, d, sm, hd, hR, q⟩ := h
    obtain ⟨r, hr2, hj⟩ := hb f cdv A outer s H E hr ds d hR
    exact ⟨_, pbW, hj _ G H _ (env_start hd) sm (fin_back hr2 q)⟩
  · obtain ⟨oc, od, kV, doc, pm, an, cdv, ct, osl, rfl, _⟩ := F.ex
    match us, ws, hlen with
    | [u], [], _ => exact .of_eq (hbind kV doc pm an cdv ct u)
    | [], [u], _ => exact .of_eq (hbindk kV doc pm an cdv ct u)
    | [], [], h => exact absurd h (by simp)
    | _ :: _ :: _, _, h => exact absurd h (by simp)
    | _ :: _, _ :: _, h => exact absurd h (by simp)
    | _, _ :: _ :: _, h => exact absurd h (by simp; omega)
theorem fnDD {dvs : List V} (Z : StandD K mg x st dvs) (S : FnScope N ps (defScope st)) (hd : dvs ≠ [])
    (hbind : ∀ (T : Addr) (kV doc pm : Value) (an : Option Addr) (cdv ct : Value) (us its : List Value), us.length = ps.length → its.length = dvs.length →
      ∃ k, bindArgs (PySem.W.fnOf x x (defArgs st) (defBody st) (defScope st) (.ref T) kV doc pm an cdv ct) ⟨us, []⟩ = seqItems? (.ref T) >>= k ∧ k (some its.toArray) = pure (ps.zip (us ++ its.drop dvs.length)))
    (hl : ∀ ds d, R ds d → ds.length = ps.length)
    (hb : ∀ (f : Addr) (cdv : Value) (A : Around) (outer : List Env) (s : Shared) (H : Hp) (E : XK), Room k (A.deeper (PyProof.Rows.envOfC x (defScope st) s.heap.objs.size f cdv)) → ∀ ds d, R ds d →
      ∃ r, r.back d ∧ JB (bx P w K mg base N x st f cdv A outer s H E) (defBody st) (startL N.length ds) r) : FnD P w K mg base (k + 1) x ps R := by
  obtain ⟨f, fd, F, hm⟩ := Z
  refine ⟨f, fd, F.ok S (fun vs H Q E h => ?_) (fun cdv A outer s H vs Q E hr h => ?_), hm, F.kp, ?_⟩
  · obtain ⟨G, ds, d, _, hd, hR, _⟩ := h
    rw [dnAll_length hd]
    exact hl ds d hR
  · obtain ⟨G, ds, d, sm, hd, hR, q⟩ := h
    obtain ⟨r, hr2, hj⟩ := hb f cdv A outer s H E hr ds d hR
    exact ⟨_, (pbW (X := bx P w K mg base N x st f cdv A outer s H E)).nox, hj _ G H _ (env_start hd) sm (fin_back hr2 q)⟩
  · obtain ⟨es, h1, h2⟩ := F.binds1 (ps := ps) ps.length dvs.length hd (by omega) hbind
    rw [List.drop_length] at h1
    cases h1
    exact h2
theorem FnD.up {j k : Nat} (h : FnD P w K mg base j x ps R) (hk : j ≤ k := by decide) : FnD P w K mg base k x ps R := by
  obtain ⟨f, fd, F, r⟩ := h
  exact ⟨f, fd, F.mono hk, r⟩
end
section
variable {K : PySem.W.Frag} {i j : Int}
theorem rb_eqT {x y : Str} {b : Bool} (h : decide (x = y) = b := by first | decide +kernel | kernel_rfl) : RB K rEq (.str x) (.str y) (.bool b) := h ▸ rb_eqS
theorem rb_neT {x y : Str} {b : Bool} (h : (!decide (x = y)) = b := by first | decide +kernel | kernel_rfl) : RB K rNe (.str x) (.str y) (.bool b) := h ▸ rb_neS
theorem rb_eqN {b : Bool} (h : decide (i = j) = b) : RB K rEq (.int i) (.int j) (.bool b) := h ▸ rb_eqI
theorem rb_neN {b : Bool} (h : (!decide (i = j)) = b) : RB K rNe (.int i) (.int j) (.bool b) := h ▸ rb_neI
theorem rb_cmp {p : Int → Int → Bool} {b : Bool} (h : p i j = b) : RB K (rI0 fun i j => .bl (p i j)) (.int i) (.int j) (.bool b) := rb_I0 fun G => by rw [h]; exact .bl _
theorem rb_int {g : Int → Int → Int} : RB K (rI0 fun i j => .int (g i j)) (.int i) (.int j) (.int (g i j)) := rb_I0 fun G => .int _
theorem rb_intC {C : Int → Int → Prop} {g : Int → Int → Int} (h : C i j) : RB K (rI C fun i j => .int (g i j)) (.int i) (.int j) (.int (g i j)) := rb_I h fun G => .int _
theorem rb_inB {d : D} {ds : List D} {b : Bool} (h : (ds.any fun y => PyData.eqv y d) = b := by first | decide +kernel | kernel_rfl) (f : flatD d = true := by rfl) (g : ds.all flatD = true := by rfl) : RB K (rIn K false) d (.tuple ds) (.bool b) := h ▸ rb_inT f g
theorem rb_notInB {d : D} {ds : List D} {b : Bool} (h : (!ds.any fun y => PyData.eqv y d) = b := by first | decide +kernel | kernel_rfl) (f : flatD d = true := by rfl) (g : ds.all flatD = true := by rfl) : RB K (rIn K true) d (.tuple ds) (.bool b) := h ▸ rb_inT f g
theorem rb_inSign {c : Nat} {z : Str} {b : Bool} (h : decide (c ∈ z.cps.toList) = b) : RB K (fun x y H Q => ∃ c z, x = .str ⟨#[c]⟩ ∧ y = .str z ∧ Q (.bl (decide (c ∈ z.cps.toList))) H) (.str ⟨#[c]⟩) (.str z) (.bool b) := fun v w G H Q sm dv dw q => by
  cases dv; cases dw
  exact ⟨c, z, rfl, rfl, q _ G H (Grow.refl sm) (by rw [h]; exact .bl _)⟩
def isNone : D → Bool
  | .none => true
  | _ => false
theorem rb_isN {d : D} {b : Bool} (h : isNone d = b := by rfl) : RB K (fun x y H Q => y = .non ∧ Q (.bl (decide (x = .non))) H) d .none (.bool b) := fun v w G H Q sm dv dw q => by
  cases dw
  refine ⟨rfl, q _ G H (Grow.refl sm) ?_⟩
  subst h
  cases dv <;> exact .bl _
theorem rb_notN {d : D} {b : Bool} (h : (!isNone d) = b := by rfl) : RB K (fun x y H Q => y = .non ∧ Q (.bl (!decide (x = .non))) H) d .none (.bool b) := fun v w G H Q sm dv dw q => by
  cases dw
  refine ⟨rfl, q _ G H (Grow.refl sm) ?_⟩
  subst h
  cases dv <;> exact .bl _
theorem at0 (x : D) (xs : List D) : atI (x :: xs) 0 = some x := by
  unfold atI ixN
  rw [if_pos (by decide), if_pos (by simp only [List.length_cons]; omega)]
  rfl
theorem atI_at {l : List D} {r : Int} (h : r.toNat < l.length) (h0 : 0 ≤ r) : atI l r = some l[r.toNat] := by
  unfold atI ixN
  rw [if_pos h0, if_pos (by omega)]
  exact List.getElem?_eq_getElem h
theorem at1 (x y : D) (xs : List D) : atI (x :: y :: xs) 1 = some y := by
  unfold atI ixN
  rw [if_pos (by decide), if_pos (by simp only [List.length_cons]; omega)]
  rfl
theorem at2 (x y z : D) (xs : List D) : atI (x :: y :: z :: xs) 2 = some z := by
  unfold atI ixN
  rw [if_pos (by decide), if_pos (by simp only [List.length_cons]; omega)]
  rfl
end
end Y
namespace Y
open PySem L2

/-! ### comprehensions -/
theorem wipe_in {σ : L2.St} {i : Nat} : ∀ {vs : List Nat}, i ∈ vs → i < σ.length → (wipe σ vs)[i]? = some none
  | v :: vs, h, hl => by
    unfold wipe
    by_cases e : v = i
    · subst e
      exact List.getElem?_set_self (by rw [wipe_length]; exact hl)
    · rw [List.getElem?_set_ne e]
      rcases List.mem_cons.mp h with h | h
      · exact absurd h.symm e
      · exact wipe_in h hl
theorem wipe_set {σ : L2.St} {i : Nat} {o : Option V} {vs : List Nat} (h : i ∈ vs) : wipe ((wipe σ vs).set i o) vs = wipe σ vs := by
  apply List.ext_getElem?
  intro j
  by_cases hj : j ∈ vs
  · by_cases hl : j < σ.length
    · rw [wipe_in hj (by rw [List.length_set, wipe_length]; exact hl), wipe_in hj hl]
    · rw [List.getElem?_eq_none (by rw [wipe_length, List.length_set, wipe_length]; omega), List.getElem?_eq_none (by rw [wipe_length]; omega)]
  · rw [wipe_out hj, List.getElem?_set_ne (fun e => hj (by rw [← e]; exact h))]
abbrev Blk (X : Cx) (scope : Scope) (s : Shared) (H : Hp) (C : Addr) (cl : List (Str × Addr)) (fp : List Addr) : Cx := X.blk s H scope (PySem.compEnvC scope cl C X.env) fp
def wTs (X : Cx) (ifs : List Expr) : TT := fun σ H Q => ∃ t, PTs X ifs t ∧ t σ H Q
theorem ptsW {X : Cx} {ifs : List Expr} : PTs X ifs (wTs X ifs) := ⟨fun pins s σ H Q I h => let ⟨_, p, q⟩ := h; p.run pins s σ H Q I q⟩
def JTs (X : Cx) (ifs : List Expr) (ρ : List Sl) (b : Bool) : Prop := ∀ (σ : L2.St) (G H : Hp) (Q : Bool → Hp → Prop), EnvOk X.K G σ ρ → Same G H → (∀ G' H', Grow G H G' H' → Q b H') → wTs X ifs σ H Q
theorem jts_nil {X : Cx} {ρ : List Sl} : JTs X [] ρ true := fun σ G H Q env sm q => ⟨_, pts_nil, q G H (Grow.refl sm)⟩
theorem jts_one {X : Cx} {ρ : List Sl} {c : Expr} {b : Bool} (h : JT X c ρ b) : JTs X [c] ρ b := fun σ G H Q env sm q => ⟨_, pts_one ptW, h σ G H Q env sm q⟩
section
variable {X : Cx} {ρ : List Sl} {elt iter : Expr} {ifs : List Expr} {scope : Scope} {pos px : Pos} {x : Str} {ds : List D}
/-- the word of a comprehension: the list so far stands at L, apart from G -/
structure CW (K : PySem.W.Frag) (G H : Hp) (L : Addr) (ds : List D) (G' H' : Hp) : Prop where
  s1 : Same G G'
  s2 : Same G' H'
  s3 : Same H H'
  nw : ∀ a, G' a ≠ none → G a ≠ none ∨ H a = none
  n : G' L = none
  ex : ∃ vs, H' L = some (.lst vs) ∧ DnAll K G' vs ds
theorem CW.start {K : PySem.W.Frag} {G H : Hp} {L : Addr} (sm : Same G H) (hL : H L = none) : CW K G H L [] G (upd H L (.lst [])) :=
  ⟨Same.refl _, sm.trans (same_upd hL), same_upd hL, fun _ h => .inl h, sm.free hL, [], upd_same, .nil⟩
theorem CW.fin {K : PySem.W.Frag} {G H : Hp} {L : Addr} {ds : List D} {G' H' : Hp} (hL : H L = none) (w : CW K G H L ds G' H') : ∃ G2, Grow G H G2 H' ∧ Dn K G2 (.ref L) (.list ds) := by
  obtain ⟨h1, h2, h3, h4, h5, vs, h6, h7⟩ := w
  refine ⟨upd G' L (.lst vs), ⟨h1.trans (same_upd h5), h3, fun b u q => ?_, fun a q => ?_⟩, dn_lstNew h5 h7⟩
  · by_cases e : b = L
    · subst e; rw [upd_same] at q; cases q; exact h6
    · rw [upd_ne e] at q; exact h2 b u q
  · by_cases e : a = L
    · subst e; exact .inr hL
    · rw [upd_ne e] at q; exact h4 a q
theorem CW.pass {K : PySem.W.Frag} {G H : Hp} {L : Addr} {ds : List D} {G1 H1 G2 H2 : Hp} (w : CW K G H L ds G1 H1) (g : Grow G1 H1 G2 H2) : CW K G H L ds G2 H2 := by
  obtain ⟨h1, h2, h3, h4, h5, vs, h6, h7⟩ := w
  refine ⟨h1.trans g.g, g.i, h3.trans g.h, fun a q => ?_, ?_, vs, g.h _ _ h6, dnAll_mono g.g h7⟩
  · rcases g.n a q with z | z
    · exact h4 a z
    · exact .inr (h3.free z)
  · cases e : G2 L with
    | none => rfl
    | some u =>
      rcases g.n L (by rw [e]; simp) with z | z
      · exact absurd h5 z
      · rw [h6] at z; cases z
theorem CW.add {K : PySem.W.Frag} {G H : Hp} {L : Addr} {ds : List D} {G1 H1 : Hp} {v : V} {d : D} (hL : H L = none) (w : CW K G H L ds G1 H1) (dn : Dn K G1 v d) : ∃ acc, H1 L = some (.lst acc) ∧ acc.length = ds.length ∧ CW K G H L (ds ++ [d]) G1 (upd H1 L (.lst (acc ++ [v]))) := by
  obtain ⟨h1, h2, h3, h4, h5, vs, h6, h7⟩ := w
  refine ⟨vs, h6, dnAll_length h7, h1, fun b u q => ?_, fun b u q => ?_, h4, h5, vs ++ [v], upd_same, dnAll_app h7 (.cons dn .nil)⟩
  · rw [upd_ne (ne_of_none q h5)]; exact h2 b u q
  · rw [upd_ne (ne_of_none q hL)]; exact h3 b u q

theorem lt_line {n : Nat} (h : n ≤ 100000) : n < sizeLine := Nat.lt_of_le_of_lt h (by decide)
variable {α β : Type} {l : List α} {enc : α → D} {enc1 : β → D}
theorem take_fm (g : α → Option D) {k : Nat} {d : α} (hd : l[k]? = some d) : (l.take (k + 1)).filterMap g = (l.take k).filterMap g ++ (g d).toList := by
  rw [List.take_add_one, hd, List.filterMap_append]
  cases e : g d with
  | none => simp [e]
  | some y => simp [e]
/-- [elt for x in iter if ..]: g tells for each item what is made of it, none where it is left out -/
theorem lc_go (i : Nat) (it : JI X (.Name x px) iter ρ (l.map enc)) (g : α → Option D) (hz : l.length ≤ 100000)
    (h : ∀ d, d ∈ l → ∀ s H C cl fp, JTs (Blk X scope s H C cl fp) ifs ((wipeL ρ [i]).set i (.d (enc d))) (g d).isSome ∧ ∀ y, g d = some y → J (Blk X scope s H C cl fp) elt ((wipeL ρ [i]).set i (.d (enc d))) y)
    {σ : L2.St} {G H : Hp} {Q : VK} (env : EnvOk X.K G σ ρ) (sm : Same G H) (q : ∀ v G' H', Grow G H G' H' → Dn X.K G' v (.list (l.filterMap g)) → Q v H') :
    tLc (wI X (.Name x px) iter) (gName i) (fun σ H Q => ∀ s H0 C cl fp, wTs (Blk X scope s H0 C cl fp) ifs σ H Q) (fun σ H Q => ∀ s H0 C cl fp, wE (Blk X scope s H0 C cl fp) elt σ H Q) [i] σ H Q :=
  it σ G H _ env sm fun I G1 H1 g1 it1 => fun L hL => by
    refine ⟨fun k m H' => m = l.length - k ∧ k ≤ l.length ∧ ∃ G', CW X.K G1 H1 L ((l.take k).filterMap g) G' H', ⟨_, rfl, Nat.zero_le _, G1, CW.start g1.i hL⟩, ?_⟩
    rintro k m H' ⟨rfl, hk, G2, w⟩
    obtain ⟨go, stop⟩ := it1 G2 H' w.s1 w.s2
    by_cases hlt : k < l.length
    · obtain ⟨d, hd⟩ : ∃ d, l[k]? = some d := ⟨l[k], by simp [hlt]⟩
      obtain ⟨go1, yl⟩ := go k (enc d) (by rw [List.getElem?_map, hd] <;> rfl)
      have hmem : d ∈ l := List.mem_of_getElem? hd
      refine .inr ⟨go1, fun H2 => ∃ G', CW X.K G1 H1 L ((l.take (k + 1)).filterMap g) G' H2, fun H2 w2 => ⟨l.length - (k + 1), by omega, rfl, hlt, w2⟩, fun y H2 hy => ?_⟩
      obtain ⟨rfl, dn⟩ := yl y H2 hy
      refine ⟨wipe_set (by simp), fun s H0 C cl fp => ?_⟩
      have e2 : EnvOk X.K G2 ((wipe σ [i]).set i (some y)) ((wipeL ρ [i]).set i (.d (enc d))) := ((env.mono (g1.g.trans w.s1)).wipe [i]).set ⟨y, rfl, dn⟩
      refine (h d hmem s H0 C cl fp).1 _ G2 H2 _ e2 w.s2 fun G3 H3 g3 => ?_
      rw [take_fm g hd]
      cases hg : g d with
      | none =>
        show (if false = true then _ else _)
        refine iteF ⟨G3, ?_⟩
        simpa using w.pass g3
      | some z =>
        show (if true = true then _ else _)
        refine iteT fun s' H0' C' cl' fp' => ?_
        have hlen : ((l.take k).filterMap g).length ≤ l.length := Nat.le_trans (List.length_filterMap_le _ _) (by rw [List.length_take]; omega)
        refine ((h d hmem s' H0' C' cl' fp').2 z hg) _ G3 H3 _ (e2.mono g3.g) g3.i fun v G4 H4 g4 d4 => ?_
        obtain ⟨acc, a1, a2, a3⟩ := ((w.pass g3).pass g4).add hL d4
        exact ⟨acc, a1, lt_line (by omega), G4, a3⟩
    · have e : k = l.length := by omega
      subst e
      rw [List.take_length] at w
      rw [List.length_map] at stop
      obtain ⟨G3, g2, dn⟩ := w.fin hL
      exact .inl ⟨stop, q _ G3 H' (g1.trans g2) dn⟩
theorem j_lc (i : Nat) (hc : X.calm = true) (hN : X.N.Nodup) (ok : blkC X.N X.env.scope scope [(x, i)] = true) (hg : ∀ s H C cl fp, PG (Blk X scope s H C cl fp) (.Name x px) (gName i)) (it : JI X (.Name x px) iter ρ (l.map enc)) (g : α → Option D) (hz : l.length ≤ 100000)
    (h : ∀ d, d ∈ l → ∀ s H C cl fp, JTs (Blk X scope s H C cl fp) ifs ((wipeL ρ [i]).set i (.d (enc d))) (g d).isSome ∧ ∀ y, g d = some y → J (Blk X scope s H C cl fp) elt ((wipeL ρ [i]).set i (.d (enc d))) y)
    (hs : ∀ x, foldedSetIterable iter X.env x = pure x := by intro _; rfl) : J X (.ListComp elt [⟨.Name x px, iter, ifs, 0⟩] scope pos) ρ (.list (l.filterMap g)) := fun σ G H Q env sm q =>
  toE (pe_lc (own := [(x, i)]) hc hN piW (blkOk_by ok) hg (fun s H0 C cl fp => ⟨fun pins s' σ H Q I h => ptsW.run pins s' σ H Q I (h s H0 C cl fp)⟩) (fun s H0 C cl fp => ⟨fun pins s' σ H Q I h => peW.run pins s' σ H Q I (h s H0 C cl fp)⟩) hs)
    (lc_go i it g hz h env sm q)
/-- y = [..] on one line -/
theorem js_setLc (iy : Nat) (i : Nat) {y : Str} {py spos : Pos} (hc : X.calm = true) (hN : X.N.Nodup) (ok : blkC X.N X.env.scope scope [(x, i)] = true) (hg : ∀ s H C cl fp, PG (Blk X scope s H C cl fp) (.Name x px) (gName i)) (it : JI X (.Name x px) iter ρ (l.map enc)) (g : α → Option D) (hz : l.length ≤ 100000)
    (h : ∀ d, d ∈ l → ∀ s H C cl fp, JTs (Blk X scope s H C cl fp) ifs ((wipeL ρ [i]).set i (.d (enc d))) (g d).isSome ∧ ∀ y, g d = some y → J (Blk X scope s H C cl fp) elt ((wipeL ρ [i]).set i (.d (enc d))) y)
    (hsw : swapsWith (.ListComp elt [⟨.Name x px, iter, ifs, 0⟩] scope pos) (some (.Name y py)) spos.line X.env = pure true) (hyl : X.env.scope.names.lookup y = some .local := by rfl)
    (hy : X.N[iy]? = some y := by rfl)
    (hs : ∀ x, foldedSetIterable iter X.env x = pure x := by intro _; rfl) : JS X (.Assign [.Name y py] (.ListComp elt [⟨.Name x px, iter, ifs, 0⟩] scope pos) spos) ρ (.nx (ρ.set iy (.d (.list (l.filterMap g))))) := fun σ G H E env sm f =>
  toS (ps_setLc (i := iy) (own := [(x, i)]) hc hN hy hyl hsw piW (blkOk_by ok) hg (fun s H0 C cl fp => ⟨fun pins s' σ H Q I h => ptsW.run pins s' σ H Q I (h s H0 C cl fp)⟩) (fun s H0 C cl fp => ⟨fun pins s' σ H Q I h => peW.run pins s' σ H Q I (h s H0 C cl fp)⟩) hs)
    (lc_go i it g hz h env sm fun v G' H' g dn => f _ G' H' g ((env.mono g.g).set ⟨v, rfl, dn⟩))

/-! two sources -/
variable {iter1 : Expr} {x1 : Str} {px1 : Pos}
theorem take_flat {α β : Type} (f : α → List β) {l : List α} {k : Nat} {d : α} (hd : l[k]? = some d) : (l.take (k + 1)).flatMap f = (l.take k).flatMap f ++ f d := by
  rw [List.take_add_one, hd, List.flatMap_append]
  simp
theorem flat_le {α β : Type} (f : α → List β) : ∀ (l : List α) (k : Nat), ((l.take k).flatMap f).length ≤ (l.flatMap f).length
  | [], k => by simp
  | a :: l, 0 => by simp
  | a :: l, k + 1 => by
    rw [List.take_succ_cons, List.flatMap_cons, List.flatMap_cons, List.length_append, List.length_append]
    have := flat_le f l k
    omega
theorem lc2_go (i j : Nat) (it : JI X (.Name x px) iter ρ (l.map enc)) (f : α → List β) (v : α → β → D) (hz : (l.flatMap fun d => (f d).map (v d)).length ≤ 100000) 
    (h1 : ∀ d, d ∈ l → ∀ s H C cl fp, JI (Blk X scope s H C cl fp) (.Name x1 px1) iter1 ((wipeL ρ [i, j]).set i (.d (enc d))) ((f d).map enc1))
    (h2 : ∀ d, d ∈ l → ∀ e, e ∈ f d → ∀ s H C cl fp, J (Blk X scope s H C cl fp) elt ((wipeL ((wipeL ρ [i, j]).set i (.d (enc d))) [j]).set j (.d (enc1 e))) (v d e))
    {σ : L2.St} {G H : Hp} {Q : VK} (env : EnvOk X.K G σ ρ) (sm : Same G H) (q : ∀ u G' H', Grow G H G' H' → Dn X.K G' u (.list (l.flatMap fun d => (f d).map (v d))) → Q u H') :
    tLc2 (wI X (.Name x px) iter) (gName i) tYes (fun σ H R => ∀ s H0 C cl fp, wI (Blk X scope s H0 C cl fp) (.Name x1 px1) iter1 σ H R) (gName j) tYes (fun σ H Q => ∀ s H0 C cl fp, wE (Blk X scope s H0 C cl fp) elt σ H Q) [i, j] [j] σ H Q :=
  it σ G H _ env sm fun I G1 H1 g1 it1 => fun L hL => by
    refine ⟨fun k m H' => m = l.length - k ∧ k ≤ l.length ∧ ∃ G', CW X.K G1 H1 L ((l.take k).flatMap fun d => (f d).map (v d)) G' H', ⟨_, rfl, Nat.zero_le _, G1, CW.start g1.i hL⟩, ?_⟩
    rintro k m H' ⟨rfl, hk, G2, w⟩
    obtain ⟨go, stop⟩ := it1 G2 H' w.s1 w.s2
    by_cases hlt : k < l.length
    · obtain ⟨d, hd⟩ : ∃ d, l[k]? = some d := ⟨l[k], by simp [hlt]⟩
      obtain ⟨go1, yl⟩ := go k (enc d) (by rw [List.getElem?_map, hd] <;> rfl)
      have hmem : d ∈ l := List.mem_of_getElem? hd
      refine .inr ⟨go1, fun H2 => ∃ G', CW X.K G1 H1 L ((l.take (k + 1)).flatMap fun d => (f d).map (v d)) G' H2, fun H2 w2 => ⟨l.length - (k + 1), by omega, rfl, hlt, w2⟩, fun y H2 hy => ?_⟩
      obtain ⟨rfl, dn⟩ := yl y H2 hy
      have e2 : EnvOk X.K G2 ((wipe σ [i, j]).set i (some y)) ((wipeL ρ [i, j]).set i (.d (enc d))) := ((env.mono (g1.g.trans w.s1)).wipe [i, j]).set ⟨y, rfl, dn⟩
      refine ⟨wipe_set (by simp), ?_⟩
      dsimp only [tYes]
      rw [if_pos rfl]
      intro s H0 C cl fp
      refine h1 d hmem s H0 C cl fp _ G2 H2 _ e2 w.s2 fun I2 G3 H3 g3 it3 => ?_
      have w3 := w.pass g3
      have hbound := flat_le (fun d => (f d).map (v d)) l (k + 1)
      rw [take_flat _ hd, List.length_append, List.length_map] at hbound
      refine ⟨fun n m H' => m = (f d).length - n ∧ n ≤ (f d).length ∧ ∃ G', Same G3 G' ∧ CW X.K G1 H1 L (((l.take k).flatMap fun d => (f d).map (v d)) ++ ((f d).take n).map (v d)) G' H', ⟨_, rfl, Nat.zero_le _, G3, Same.refl _, by simpa using w3⟩, ?_⟩
      rintro n m H4 ⟨rfl, hl, G4, s34, w4⟩
      obtain ⟨go4, stop4⟩ := it3 G4 H4 s34 w4.s2
      by_cases hlt4 : n < (f d).length
      · obtain ⟨e, he⟩ : ∃ e, (f d)[n]? = some e := ⟨(f d)[n], by simp [hlt4]⟩
        obtain ⟨go5, yl5⟩ := go4 n (enc1 e) (by rw [List.getElem?_map, he] <;> rfl)
        refine .inr ⟨go5, fun H2 => ∃ G', Same G3 G' ∧ CW X.K G1 H1 L (((l.take k).flatMap fun d => (f d).map (v d)) ++ ((f d).take (n + 1)).map (v d)) G' H2, fun H2 w2 => ⟨(f d).length - (n + 1), by omega, rfl, hlt4, w2⟩, fun y5 H5 hy5 => ?_⟩
        obtain ⟨rfl, dn5⟩ := yl5 y5 H5 hy5
        refine ⟨wipe_set (by simp), ?_⟩
        dsimp only [tYes]
        rw [if_pos rfl]
        intro s H0 C cl fp
        have e5 : EnvOk X.K G4 ((wipe ((wipe σ [i, j]).set i (some y)) [j]).set j (some y5)) ((wipeL ((wipeL ρ [i, j]).set i (.d (enc d))) [j]).set j (.d (enc1 e))) := ((e2.mono (g3.g.trans s34)).wipe [j]).set ⟨y5, rfl, dn5⟩
        refine h2 d hmem e (List.mem_of_getElem? he) s H0 C cl fp _ G4 H5 _ e5 w4.s2 fun u G6 H6 g6 d6 => ?_
        obtain ⟨acc, a1, a2, a3⟩ := (w4.pass g6).add hL d6
        refine ⟨acc, a1, lt_line ?_, G6, s34.trans g6.g, ?_⟩
        · rw [a2, List.length_append, List.length_map, List.length_take]
          omega
        · rw [List.take_add_one, he]
          simpa using a3
      · have e : n = (f d).length := by omega
        subst e
        rw [List.take_length] at w4
        rw [List.length_map] at stop4
        refine .inl ⟨stop4, G4, ?_⟩
        rw [take_flat _ hd]
        exact w4
    · have e : k = l.length := by omega
      subst e
      rw [List.take_length] at w
      rw [List.length_map] at stop
      obtain ⟨G3, g2, dn⟩ := w.fin hL
      exact .inl ⟨stop, q _ G3 H' (g1.trans g2) dn⟩
theorem j_lc2 (i j : Nat) (hc : X.calm = true) (hN : X.N.Nodup) (ok : blkC X.N X.env.scope scope [(x, i), (x1, j)] = true) (hg : ∀ s H C cl fp, PG (Blk X scope s H C cl fp) (.Name x px) (gName i)) (hg1 : ∀ s H C cl fp, PG (Blk X scope s H C cl fp) (.Name x1 px1) (gName j))
    (it : JI X (.Name x px) iter ρ (l.map enc)) (f : α → List β) (v : α → β → D) (hz : (l.flatMap fun d => (f d).map (v d)).length ≤ 100000) 
    (h1 : ∀ d, d ∈ l → ∀ s H C cl fp, JI (Blk X scope s H C cl fp) (.Name x1 px1) iter1 ((wipeL ρ [i, j]).set i (.d (enc d))) ((f d).map enc1))
    (h2 : ∀ d, d ∈ l → ∀ e, e ∈ f d → ∀ s H C cl fp, J (Blk X scope s H C cl fp) elt ((wipeL ((wipeL ρ [i, j]).set i (.d (enc d))) [j]).set j (.d (enc1 e))) (v d e))
    (hs : ∀ x, foldedSetIterable iter X.env x = pure x := by intro _; rfl) (hs1 : ∀ env x, foldedSetIterable iter1 env x = pure x := by intro _ _; rfl) :
    J X (.ListComp elt [⟨.Name x px, iter, [], 0⟩, ⟨.Name x1 px1, iter1, [], 0⟩] scope pos) ρ (.list (l.flatMap fun d => (f d).map (v d))) := fun σ G H Q env sm q =>
  toE (pe_lc2 (own := [(x, i), (x1, j)]) (vs1 := [j]) hc hN piW (blkOk_by ok) (by simp) hg (fun _ _ _ _ _ => pts_nil) (fun s H0 C cl fp => ⟨fun pins s' σ H R I h => piW.run pins s' σ H R I (h s H0 C cl fp)⟩) hg1 (fun _ _ _ _ _ => pts_nil)
      (fun s H0 C cl fp => ⟨fun pins s' σ H Q I h => peW.run pins s' σ H Q I (h s H0 C cl fp)⟩) hs hs1)
    (lc2_go i j it f v hz h1 h2 env sm q)
theorem js_setLc2 (iy i j : Nat) {y : Str} {py spos : Pos} (hc : X.calm = true) (hN : X.N.Nodup) (ok : blkC X.N X.env.scope scope [(x, i), (x1, j)] = true) (hg : ∀ s H C cl fp, PG (Blk X scope s H C cl fp) (.Name x px) (gName i)) (hg1 : ∀ s H C cl fp, PG (Blk X scope s H C cl fp) (.Name x1 px1) (gName j))
    (it : JI X (.Name x px) iter ρ (l.map enc)) (f : α → List β) (v : α → β → D) (hz : (l.flatMap fun d => (f d).map (v d)).length ≤ 100000) 
    (h1 : ∀ d, d ∈ l → ∀ s H C cl fp, JI (Blk X scope s H C cl fp) (.Name x1 px1) iter1 ((wipeL ρ [i, j]).set i (.d (enc d))) ((f d).map enc1))
    (h2 : ∀ d, d ∈ l → ∀ e, e ∈ f d → ∀ s H C cl fp, J (Blk X scope s H C cl fp) elt ((wipeL ((wipeL ρ [i, j]).set i (.d (enc d))) [j]).set j (.d (enc1 e))) (v d e))
    (hsw : swapsWith (.ListComp elt [⟨.Name x px, iter, [], 0⟩, ⟨.Name x1 px1, iter1, [], 0⟩] scope pos) (some (.Name y py)) spos.line X.env = pure true) (hyl : X.env.scope.names.lookup y = some .local := by rfl)
    (hy : X.N[iy]? = some y := by rfl)
    (hs : ∀ x, foldedSetIterable iter X.env x = pure x := by intro _; rfl) (hs1 : ∀ env x, foldedSetIterable iter1 env x = pure x := by intro _ _; rfl) :
    JS X (.Assign [.Name y py] (.ListComp elt [⟨.Name x px, iter, [], 0⟩, ⟨.Name x1 px1, iter1, [], 0⟩] scope pos) spos) ρ (.nx (ρ.set iy (.d (.list (l.flatMap fun d => (f d).map (v d)))))) := fun σ G H E env sm f' =>
  toS (ps_setLc2 (i := iy) (own := [(x, i), (x1, j)]) (vs1 := [j]) hc hN hy hyl hsw piW (blkOk_by ok) (by simp) hg (fun _ _ _ _ _ => pts_nil) (fun s H0 C cl fp => ⟨fun pins s' σ H R I h => piW.run pins s' σ H R I (h s H0 C cl fp)⟩) hg1 (fun _ _ _ _ _ => pts_nil)
      (fun s H0 C cl fp => ⟨fun pins s' σ H Q I h => peW.run pins s' σ H Q I (h s H0 C cl fp)⟩) hs hs1)
    (lc2_go i j it f v hz h1 h2 env sm fun v G' H' g dn => f' _ G' H' g ((env.mono g.g).set ⟨v, rfl, dn⟩))
end
end Y
namespace Y
open PySem L2

/-! ### one list of three ints that changes: the pail -/
def PailI (H : Hp) (pa : Addr) : Prop := ∃ a b c : Int, H pa = some (.lst [.int a, .int b, .int c]) ∧ 0 ≤ b ∧ b < 2147483489
structure StepM (pa : Addr) (G H G' H' : Hp) : Prop where
  g : Same G G'
  i : Same G' H'
  n : G' pa = none
  p : PailI H' pa
  k : ∀ a o, a ≠ pa → H a = some o → H' a = some o
  w : ∀ a, G' a ≠ none → G a ≠ none ∨ H a = none
theorem StepM.of_grow {pa : Addr} {G H G' H' : Hp} (h : Grow G H G' H') (n : G pa = none) (p : PailI H pa) : StepM pa G H G' H' := by
  obtain ⟨a, b, c, e, q⟩ := p
  refine ⟨h.g, h.i, ?_, ⟨a, b, c, h.h _ _ e, q⟩, fun x o _ z => h.h x o z, h.n⟩
  cases z : G' pa with
  | none => rfl
  | some u =>
    rcases h.n pa (by rw [z]; simp) with y | y
    · exact absurd n y
    · rw [e] at y; cases y
theorem StepM.trans {pa : Addr} {G H G1 H1 G2 H2 : Hp} (n : G pa = none) (a : StepM pa G H G1 H1) (b : StepM pa G1 H1 G2 H2) : StepM pa G H G2 H2 :=
  ⟨a.g.trans b.g, b.i, b.n, b.p, fun x o hx z => b.k x o hx (a.k x o hx z), fun x z => by
    rcases b.w x z with y | y
    · exact a.w x y
    · refine .inr ?_
      cases q : H x with
      | none => rfl
      | some u =>
        by_cases e : x = pa
        · subst e
          obtain ⟨_, _, _, e1, _⟩ := a.p
          rw [e1] at y; cases y
        · rw [a.k x u e q] at y; cases y⟩
theorem StepM.refl {pa : Addr} {G H : Hp} (sm : Same G H) (n : G pa = none) (p : PailI H pa) : StepM pa G H G H := ⟨Same.refl _, sm, n, p, fun _ _ _ h => h, fun _ h => .inl h⟩

/-- an expression that may draw: its value has P -/
def JM (pa : Addr) (X : Cx) (e : Expr) (ρ : List Sl) (P : D → Prop) : Prop := ∀ (σ : L2.St) (G H : Hp) (Q : VK), EnvOk X.K G σ ρ → Same G H → G pa = none → PailI H pa → (∀ v G' H' d, StepM pa G H G' H' → Dn X.K G' v d → P d → Q v H') → wE X e σ H Q
def JMA (pa : Addr) (X : Cx) (es : List Expr) (ρ : List Sl) (P : List D → Prop) : Prop := ∀ (σ : L2.St) (G H : Hp) (Q : List V → Hp → Prop), EnvOk X.K G σ ρ → Same G H → G pa = none → PailI H pa → (∀ vs G' H' ds, StepM pa G H G' H' → DnAll X.K G' vs ds → P ds → Q vs H') → wA X es σ H Q
section
variable {pa : Addr} {X : Cx} {a b e : Expr} {es : List Expr} {ρ : List Sl} {P P1 P2 : D → Prop} {PA : List D → Prop} {pos p : Pos} {r : R2} {d da : D}
theorem jm_pure (h : J X e ρ d) (hp : P d) : JM pa X e ρ P := fun σ G H Q env sm n pl q => h σ G H Q env sm fun v G' H' g dn => q v G' H' d (.of_grow g n pl) dn hp
theorem jm_mono (h : JM pa X e ρ P1) (hp : ∀ d, P1 d → P d) : JM pa X e ρ P := fun σ G H Q env sm n pl q => h σ G H Q env sm n pl fun v G' H' d s dn k => q v G' H' d s dn (hp d k)
theorem jma_nil : JMA pa X [] ρ (fun ds => ds = []) := fun σ G H Q env sm n pl q => toA pa_nil (q [] G H [] (.refl sm n pl) .nil rfl)
theorem jma_cons (he : JM pa X e ρ P1) (hs : JMA pa X es ρ PA) (hst : starEach (e :: es) X.env = (false, eval e X.env) :: starEach es X.env := by rfl) : JMA pa X (e :: es) ρ (fun ds => ∃ d t, ds = d :: t ∧ P1 d ∧ PA t) := fun σ G H Q env sm n pl q =>
  toA (pa_cons peW paW hst) (he σ G H _ env sm n pl fun v G1 H1 d s1 d1 p1 => hs σ G1 H1 _ (env.mono s1.g) s1.i s1.n s1.p fun vs G2 H2 t s2 d2 p2 => q _ G2 H2 _ (s1.trans n s2) (.cons (dn_mono s2.g d1) d2) ⟨d, t, rfl, p1, p2⟩)
theorem jm_tup {k} (h : JMA pa X es ρ PA) (hl : ∀ ds, PA ds → ds.length ≤ 100000) : JM pa X (.Tuple es k pos) ρ (fun d => ∃ ds, d = .tuple ds ∧ PA ds) := fun σ G H Q env sm n pl q =>
  toE (pe_tup paW) (h σ G H _ env sm n pl fun vs G1 H1 ds s1 d1 p1 => ⟨le_line (by rw [dnAll_length d1]; exact hl ds p1), fun p hp => q _ (upd G1 p (.tup vs)) _ _ (s1.trans n (.of_grow (Grow.new s1.i hp) s1.n s1.p)) (dn_tupNew (s1.i.free hp) d1) ⟨ds, rfl, p1⟩⟩)
theorem twoM_of (ha : JM pa X a ρ P1) (hb : JM pa X b ρ P2) (hr : ∀ da db, P1 da → P2 db → ∃ d, RB X.K r da db d ∧ P d) {σ : L2.St} {G H : Hp} {Q : VK} (env : EnvOk X.K G σ ρ) (sm : Same G H) (n : G pa = none) (pl : PailI H pa)
    (q : ∀ v G' H' d, StepM pa G H G' H' → Dn X.K G' v d → P d → Q v H') : tOp r (wE X a) (wE X b) σ H Q :=
  ha σ G H _ env sm n pl fun v G1 H1 da s1 d1 p1 => hb σ G1 H1 _ (env.mono s1.g) s1.i s1.n s1.p fun w G2 H2 db s2 d2 p2 => by
    obtain ⟨d, h1, h2⟩ := hr da db p1 p2
    exact h1 v w G2 H2 Q s2.i (dn_mono s2.g d1) d2 fun u G3 H3 g3 d3 => q u G3 H3 d ((s1.trans n s2).trans n (.of_grow g3 s2.n s2.p)) d3 h2
theorem jm_bin {op : Operator} (ho : OpR X (binaryOp op) r) (ha : JM pa X a ρ P1) (hb : JM pa X b ρ P2) (hr : ∀ da db, P1 da → P2 db → ∃ d, RB X.K r da db d ∧ P d) : JM pa X (.BinOp a op b pos) ρ P := fun σ G H Q env sm n pl q => toE (pe_op ho peW peW) (twoM_of ha hb hr env sm n pl q)
theorem jm_ix (ha : JM pa X a ρ P1) (hb : JM pa X b ρ P2) (hr : ∀ da db, P1 da → P2 db → ∃ d, RB X.K (rIx X.K) da db d ∧ P d) (hp : PlainIx b := by exact fun _ _ => rfl) : JM pa X (.Subscript a b pos) ρ P := fun σ G H Q env sm n pl q => toE (pe_ix ix_seq peW peW hp) (twoM_of ha hb hr env sm n pl q)
theorem jm_ifT {t : Expr} (ht : JT X t ρ true) (ha : JM pa X a ρ P) : JM pa X (.IfExp t a b pos) ρ P := fun σ G H Q env sm n pl q =>
  toE (pe_ifExp ptW peW peW) (ht σ G H _ env sm fun G1 H1 g1 => (iteT (by
    have s := StepM.of_grow g1 n pl
    exact ha σ G1 H1 Q (env.mono g1.g) g1.i s.n s.p fun v G2 H2 d s2 => q v G2 H2 d (s.trans n s2)) : if true = true then _ else _))
theorem jm_ifF {t : Expr} (ht : JT X t ρ false) (hb : JM pa X b ρ P) : JM pa X (.IfExp t a b pos) ρ P := fun σ G H Q env sm n pl q =>
  toE (pe_ifExp ptW peW peW) (ht σ G H _ env sm fun G1 H1 g1 => (iteF (by
    have s := StepM.of_grow g1 n pl
    exact hb σ G1 H1 Q (env.mono g1.g) g1.i s.n s.p fun v G2 H2 d s2 => q v G2 H2 d (s.trans n s2)) : if false = true then _ else _))
/-- what a def promises that draws from the pail, its first argument -/
def spM (K : PySem.W.Frag) (A : List D → Prop) (R : List D → D → Prop) : Sp := fun vs H Q _ => ∃ pa G ws ds, vs = .ref pa :: ws ∧ Same G H ∧ G pa = none ∧ PailI H pa ∧ DnAll K G ws ds ∧ A ds ∧ ∀ v G' H' d, StepM pa G H G' H' → Dn K G' v d → R ds d → Q v H'
def FnM (P : Program) (w : World) (K : PySem.W.Frag) (mg : Str → Option Value) (base : Heap) (k : Nat) (x : Str) (ps : List Str) (A : List D → Prop) (R : List D → D → Prop) : Prop :=
  ∃ f fd, FnOk P w K mg base CX0 k f fd ps (spM K A R) ∧ mg x = some (.ref f) ∧ PySem.W.keepIn K (.ref f) = true ∧ Binds K fd ps []
theorem jm_call {k j : Nat} {x y : Str} {ps : List Str} {A : List D → Prop} {R : List D → D → Prop} {py : Pos} (i : Nat) (F : FnM X.prog X.w X.K X.mg X.base k x ps A R) (hr : Room j X.A) (hi : ρ[i]? = some (.r (.ref pa))) (ha : JMA pa X es ρ PA) (hA : ∀ ds, PA ds → A ds) (hR : ∀ ds d, PA ds → R ds d → P d)
    (hkj : k ≤ j := by first | decide | omega) (hg : Gl X x := by rfl) (hN : X.N[i]? = some y := by rfl) (hv : Vis X.env.scope y := by first | exact Or.inl rfl | exact Or.inr (Or.inl rfl) | exact Or.inr (Or.inr rfl))
    (hdb : (x == ("__debug__" : Str)) = false := by decide) (hd : (y == ("__debug__" : Str)) = false := by decide) (hcd : (y == ("__classdict__" : Str)) = false := by decide)
    (he : starEach (.Name y py :: es) X.env = (false, eval (.Name y py) X.env) :: starEach es X.env := by rfl) (hpl : (backTo pos (starEach es X.env)).any (·.1) = false := by rfl) : JM pa X (.Call (.Name x p) (.Name y py :: es) [] pos) ρ P := fun σ G H Q env sm n pl q => by
  obtain ⟨f, fd, F, hm, hk, hb⟩ := F
  obtain ⟨o, h1, h2⟩ := env.2 i _ hi
  have h2 : o = some (.ref pa) := h2
  subst h2
  exact toE (pe_call (E := E0) (dvs := []) F (hr.mono hkj) hg hm hk hb .nil pass0 (pa_cons (pe_var (i := i) hN hv hd hcd) paW he) hdb he hpl) ⟨_, h1, ha σ G H _ env sm n pl fun vs G1 H1 ds s1 d1 p1 => by
    show spM X.K A R ((V.ref pa :: vs) ++ []) H1 Q E0
    rw [List.append_nil]
    exact ⟨pa, G1, vs, ds, rfl, s1.i, s1.n, s1.p, d1, hA ds p1, fun v G2 H2 d s2 d2 r2 => q v G2 H2 d (s1.trans n s2) d2 (hR ds d p1 r2)⟩⟩

/-! ### statements that may draw: behind one the slots have N, what is handed back has R -/
def SX (pa : Addr) (X : Cx) (st : Stmt) (ρ : List Sl) (N : List Sl → Prop) (R : D → Prop) : Prop := ∀ (σ : L2.St) (G H : Hp) (E : Ends), EnvOk X.K G σ ρ → Same G H → G pa = none → PailI H pa →
  (∀ σ' G' H' ρ', StepM pa G H G' H' → EnvOk X.K G' σ' ρ' → N ρ' → E.nx σ' H') → (∀ v G' H' d, StepM pa G H G' H' → Dn X.K G' v d → R d → E.rt v H') → wS X st E σ H
def SB (pa : Addr) (X : Cx) (st : List Stmt) (ρ : List Sl) (N : List Sl → Prop) (R : D → Prop) : Prop := ∀ (σ : L2.St) (G H : Hp) (E : Ends), EnvOk X.K G σ ρ → Same G H → G pa = none → PailI H pa →
  (∀ σ' G' H' ρ', StepM pa G H G' H' → EnvOk X.K G' σ' ρ' → N ρ' → E.nx σ' H') → (∀ v G' H' d, StepM pa G H G' H' → Dn X.K G' v d → R d → E.rt v H') → wB X st E σ H
variable {st : Stmt} {sts t u : List Stmt} {N N1 : List Sl → Prop} {R : D → Prop} {ρ1 : List Sl}
theorem sb_nil (h : N ρ) : SB pa X [] ρ N R := fun σ G H E env sm n pl k1 k2 => toB pss_nil (k1 σ G H ρ (.refl sm n pl) env h)
theorem sb_cons (h : SX pa X st ρ N1 R) (hs : ∀ ρ1, N1 ρ1 → SB pa X sts ρ1 N R) : SB pa X (st :: sts) ρ N R := fun σ G H E env sm n pl k1 k2 =>
  toB (pss_cons psW pbW) (h σ G H _ env sm n pl (fun σ1 G1 H1 ρ1 s1 e1 h1 => hs ρ1 h1 σ1 G1 H1 E e1 s1.i s1.n s1.p (fun σ2 G2 H2 ρ2 s2 => k1 σ2 G2 H2 ρ2 (s1.trans n s2)) fun v G2 H2 d s2 => k2 v G2 H2 d (s1.trans n s2)) fun v G1 H1 d s1 => k2 v G1 H1 d s1)
theorem sx_pure (h : JS X st ρ (.nx ρ1)) : SX pa X st ρ (fun ρ' => ρ' = ρ1) R := fun σ G H E env sm n pl k1 k2 => h σ G H E env sm fun σ' G' H' g e => k1 σ' G' H' ρ1 (.of_grow g n pl) e rfl
theorem sx_set (i : Nat) {x : Str} {pos' : Pos} (hN : X.N.Nodup) (h : JM pa X e ρ P) (hi : X.N[i]? = some x := by rfl) (hx : L2.Loc X.env.scope x := by first | exact Or.inl rfl | exact Or.inr rfl) (hs : swapsWith e (some (.Name x pos')) pos.line X.env = pure false := by rfl)
    (hf : X.fn x = true ∨ X.env.scope.names.lookup x = some .local := by first | exact .inl rfl | exact .inr rfl) : SX pa X (.Assign [.Name x pos'] e pos) ρ (fun ρ' => ∃ d, P d ∧ ρ' = ρ.set i (.d d)) R := fun σ G H E env sm n pl k1 k2 =>
  toS (ps_set (i := i) hN hi hx peW hs hf) (h σ G H _ env sm n pl fun v G' H' d s dn hp => k1 _ G' H' _ s ((env.mono s.g).set (s := .d d) ⟨v, rfl, dn⟩) ⟨d, hp, rfl⟩)
theorem sx_ret (h : JM pa X e ρ R) : SX pa X (.Return (some e) pos) ρ N R := fun σ G H E env sm n pl k1 k2 => toS (ps_ret peW) (h σ G H _ env sm n pl fun v G' H' d s dn hp => k2 v G' H' d s dn hp)
variable {c : Expr}
theorem sx_ifT (hc : JT X c ρ true) (h : SB pa X t ρ N R) : SX pa X (.If c t u pos) ρ N R := fun σ G H E env sm n pl k1 k2 =>
  toS (ps_if ptW pbW pbW) (hc σ G H _ env sm fun G' H' g => (iteT (by
    have s := StepM.of_grow g n pl
    exact h σ G' H' E (env.mono g.g) g.i s.n s.p (fun σ2 G2 H2 ρ2 s2 => k1 σ2 G2 H2 ρ2 (s.trans n s2)) fun v G2 H2 d s2 => k2 v G2 H2 d (s.trans n s2)) : if true = true then _ else _))
theorem sx_ifF (hc : JT X c ρ false) (h : SB pa X u ρ N R) : SX pa X (.If c t u pos) ρ N R := fun σ G H E env sm n pl k1 k2 =>
  toS (ps_if ptW pbW pbW) (hc σ G H _ env sm fun G' H' g => (iteF (by
    have s := StepM.of_grow g n pl
    exact h σ G' H' E (env.mono g.g) g.i s.n s.p (fun σ2 G2 H2 ρ2 s2 => k1 σ2 G2 H2 ρ2 (s.trans n s2)) fun v G2 H2 d s2 => k2 v G2 H2 d (s.trans n s2)) : if false = true then _ else _))
/-- for, the slots' word ρ1 from turn to turn -/
theorem sx_for (i : Nat) {x : Str} {iter : Expr} {body : List Stmt} {px : Pos} {ds : List D} (hp : PassesOwn (model X.prog X.w) X.A X.env X.xe) (hc : X.calm = true) (hN : X.N.Nodup) (it : JI X (.Name x px) iter ρ ds) (h0 : Weak ρ ρ1)
    (hb : ∀ (k : Nat) (d : D), ds[k]? = some d → SB pa X body (ρ1.set i (.d d)) (fun ρ' => Weak ρ' ρ1) R) (hi : X.N[i]? = some x := by rfl) (hx : L2.Loc X.env.scope x := by first | exact Or.inl rfl | exact Or.inr rfl) (hf : X.fn x = true ∨ X.env.scope.names.lookup x = some .local := by first | exact .inl rfl | exact .inr rfl)
    (hs : ∀ x, foldedSetIterable iter X.env x = pure x := by intro _; rfl) : SX pa X (.For (.Name x px) iter body [] pos) ρ (fun ρ' => ρ' = ρ1) R := fun σ G H E env sm n pl k1 k2 =>
  toS (ps_for hp hc piW (pg_name hN hi hx hf) pbW hs) (it σ G H _ env sm fun I G1 H1 g1 it1 => by
    have s0 := StepM.of_grow g1 n pl
    refine ⟨fun k m σ' H' => m = ds.length - k ∧ k ≤ ds.length ∧ ∃ G', StepM pa G1 H1 G' H' ∧ EnvOk X.K G' σ' ρ1, ⟨_, rfl, Nat.zero_le _, G1, .refl g1.i s0.n s0.p, (env.mono g1.g).weak h0⟩, ?_⟩
    rintro k m σ' H' ⟨rfl, hk, G', s1, e2⟩
    obtain ⟨go, stop⟩ := it1 G' H' s1.g s1.i
    by_cases hlt : k < ds.length
    · obtain ⟨d, hd⟩ : ∃ d, ds[k]? = some d := ⟨ds[k], by simp [hlt]⟩
      obtain ⟨go1, yl⟩ := go k d hd
      refine .inr ⟨go1, fun σ2 H2 => ∃ G2, StepM pa G1 H1 G2 H2 ∧ EnvOk X.K G2 σ2 ρ1, fun σ2 H2 ⟨G2, g3, e3⟩ => ⟨ds.length - (k + 1), by omega, rfl, hlt, G2, g3, e3⟩, fun y H2 hy => ?_⟩
      obtain ⟨rfl, dn⟩ := yl y H2 hy
      exact hb k d hd _ G' H2 _ (e2.set ⟨y, rfl, dn⟩) s1.i s1.n s1.p (fun σ3 G3 H3 ρ3 s3 e3 w3 => ⟨G3, s1.trans s0.n s3, e3.weak w3⟩) fun v G3 H3 d3 s3 dn3 r3 => k2 v G3 H3 d3 (s0.trans n (s1.trans s0.n s3)) dn3 r3
    · have e : k = ds.length := by omega
      subst e
      exact .inl ⟨stop, k1 σ' G' H' ρ1 (s0.trans n s1) e2 rfl⟩)
end
/-! ### the pail's own items -/
section
variable {pa : Addr} {X : Cx} {a b e : Expr} {es : List Expr} {ρ : List Sl} {P P1 P2 : D → Prop} {pos p : Pos} {r : R2} {d da : D} {st : Stmt} {t u : List Stmt} {N : List Sl → Prop} {R : D → Prop}
def JTM (pa : Addr) (X : Cx) (e : Expr) (ρ : List Sl) : Prop := ∀ (σ : L2.St) (G H : Hp) (Q : Bool → Hp → Prop), EnvOk X.K G σ ρ → Same G H → G pa = none → PailI H pa → (∀ b G' H', StepM pa G H G' H' → Q b H') → wT X e σ H Q
theorem jtm_cmp {op : CmpOp} (ho : OpR X (compareOp op) r) (ha : JM pa X a ρ P1) (hb : JM pa X b ρ P2) (hr : ∀ da db, P1 da → P2 db → ∃ c : Bool, RB X.K r da db (.bool c)) (hm : behindInMarks op b = false := by first | exact nomark _ | rfl) : JTM pa X (.Compare a [op] [b] pos) ρ := fun σ G H Q env sm n pl q =>
  toT (pt_cmpR ho peW peW hm) (twoM_of (P := fun d => ∃ c : Bool, d = .bool c) ha hb (fun da db h1 h2 => let ⟨c, h⟩ := hr da db h1 h2; ⟨_, h, c, rfl⟩) env sm n pl fun v G' H' d s dn ⟨c, e⟩ => by subst e; cases dn; exact ⟨c, rfl, q c G' H' s⟩)
theorem sx_if2 {c : Expr} (hc : JTM pa X c ρ) (h1 : SB pa X t ρ N R) (h2 : SB pa X u ρ N R) : SX pa X (.If c t u pos) ρ N R := fun σ G H E env sm n pl k1 k2 =>
  toS (ps_if ptW pbW pbW) (hc σ G H _ env sm n pl fun b G' H' s => by
    cases b with
    | true => exact iteT (h1 σ G' H' E (env.mono s.g) s.i s.n s.p (fun σ2 G2 H2 ρ2 s2 => k1 σ2 G2 H2 ρ2 (s.trans n s2)) fun v G2 H2 d s2 => k2 v G2 H2 d (s.trans n s2))
    | false => exact iteF (h2 σ G' H' E (env.mono s.g) s.i s.n s.p (fun σ2 G2 H2 ρ2 s2 => k1 σ2 G2 H2 ρ2 (s.trans n s2)) fun v G2 H2 d s2 => k2 v G2 H2 d (s.trans n s2)))
/-- what an item of the pail is -/
def PIt (i : Int) (d : D) : Prop := ∃ z : Int, d = .int z ∧ (i = 1 → 0 ≤ z ∧ z < 2147483489)
theorem pail_at {H : Hp} (pl : PailI H pa) {i : Int} (hi : i = 0 ∨ i = 1 ∨ i = 2) : ∃ (xs : List V) (z : Int), H pa = some (.lst xs) ∧ atI xs i = some (.int z) ∧ (i = 1 → 0 ≤ z ∧ z < 2147483489) := by
  obtain ⟨a, b, c, e, h1, h2⟩ := pl
  rcases hi with rfl | rfl | rfl
  · exact ⟨_, a, e, rfl, fun z => absurd z (by decide)⟩
  · exact ⟨_, b, e, rfl, fun _ => ⟨h1, h2⟩⟩
  · exact ⟨_, c, e, rfl, fun z => absurd z (by decide)⟩
theorem jm_pail (k : Nat) {i : Int} {y : Str} {py pi : Pos} {ki : Nat} (hk : ρ[k]? = some (.r (.ref pa))) (hi : i = 0 ∨ i = 1 ∨ i = 2 := by first | exact .inl rfl | exact .inr (.inl rfl) | exact .inr (.inr rfl)) (hN : X.N[k]? = some y := by rfl)
    (hv : Vis X.env.scope y := by first | exact Or.inl rfl | exact Or.inr (Or.inl rfl) | exact Or.inr (Or.inr rfl)) (hd : (y == ("__debug__" : Str)) = false := by decide) (hcd : (y == ("__classdict__" : Str)) = false := by decide)
    (hp : PlainIx (.Constant (.int i) ki pi) := by exact fun _ _ => rfl) : JM pa X (.Subscript (.Name y py) (.Constant (.int i) ki pi) pos) ρ (PIt i) := fun σ G H Q env sm n pl q => by
  obtain ⟨o, h1, h2⟩ := env.2 k _ hk
  have h2 : o = some (.ref pa) := h2
  subst h2
  obtain ⟨xs, z, e1, e2, e3⟩ := pail_at pl hi
  exact toE (pe_ix ix_seq (pe_var (i := k) hN hv hd hcd) pe_int hp) ⟨_, h1, .inl ⟨pa, xs, i, .int z, rfl, rfl, SqL.of e1, e2, q _ G H (.int z) (.refl sm n pl) (.int z) ⟨z, rfl, e3⟩⟩⟩
/-- int(e) -/
theorem jm_int1 {x : Str} (hm : X.mg x = none) (hv : bootBuiltins x = some (.type "int")) (h : JM pa X e ρ P) (hP : ∀ d, P d → ∃ z : Int, d = .int z) (hg : Gl X x := by rfl)
    (hn : x ≠ "__name__" := by decide) (hdb : (x == ("__debug__" : Str)) = false := by decide) (he : starEach (e :: []) X.env = (false, eval e X.env) :: starEach [] X.env := by rfl)
    (hpl : (backTo pos (starEach [] X.env)).any (·.1) = false := by rfl) : JM pa X (.Call (.Name x p) [e] [] pos) ρ P := fun σ G H Q env sm n pl q =>
  toE (pe_callTy call_int1 hg hm hv (pa_cons peW pa_nil he) hn hdb he hpl) (h σ G H _ env sm n pl fun v G' H' d s dn hd => by
    obtain ⟨z, rfl⟩ := hP d hd
    cases dn
    exact .inl ⟨z, rfl, q _ G' H' _ s (.int z) hd⟩)
/-- pail[i] = e -/
theorem sx_pail (k : Nat) {i : Int} {y : Str} {py pi ps pos : Pos} {ki : Nat} (h : JM pa X e ρ (PIt i)) (hk : ρ[k]? = some (.r (.ref pa))) (hi : i = 0 ∨ i = 1 ∨ i = 2 := by first | exact .inl rfl | exact .inr (.inl rfl) | exact .inr (.inr rfl)) (hN : X.N[k]? = some y := by rfl)
    (hv : Vis X.env.scope y := by first | exact Or.inl rfl | exact Or.inr (Or.inl rfl) | exact Or.inr (Or.inr rfl)) (hd : (y == ("__debug__" : Str)) = false := by decide) (hcd : (y == ("__classdict__" : Str)) = false := by decide)
    (ha : ∀ v, assign (.Subscript (.Name y py) (.Constant (.int i) ki pi) ps) X.env v = (do
      let ov ← holding [v] (eval (.Name y py) X.env)
      let iv ← holding [v, ov] (eval (.Constant (.int i) ki pi) X.env)
      standAt ps
      holding [v, ov, iv] (setItem ov iv v)
      release [v, ov, iv] []) := by intro _; rfl)
    (hs : swapsWithSole [.Subscript (.Name y py) (.Constant (.int i) ki pi) ps] e pos.line X.env = pure false := by rfl) (hw : swappedStores [.Subscript (.Name y py) (.Constant (.int i) ki pi) ps] e X.env = pure none := by rfl)
    (h1 : (assignEach [.Subscript (.Name y py) (.Constant (.int i) ki pi) ps] X.env).map (·.2) = [assign (.Subscript (.Name y py) (.Constant (.int i) ki pi) ps) X.env] := by rfl) :
    SX pa X (.Assign [.Subscript (.Name y py) (.Constant (.int i) ki pi) ps] e pos) ρ (fun ρ' => ρ' = ρ) R := fun σ G H E env sm n pl k1 k2 => by
  obtain ⟨o, e1, e2⟩ := env.2 k _ hk
  have e2 : o = some (.ref pa) := e2
  subst e2
  refine toS (ps_asg peW (pg_sub (pe_var (i := k) hN hv hd hcd) pe_int set_list ha) hs hw h1) (h σ G H _ env sm n pl fun v G' H' d s dn hd2 => ⟨_, e1, ?_⟩)
  obtain ⟨z, rfl, hz⟩ := hd2
  cases dn
  obtain ⟨a, b, c, e3, h3, h4⟩ := s.p
  have fin : ∀ xs : List V, (∃ a b c : Int, xs = [.int a, .int b, .int c] ∧ 0 ≤ b ∧ b < 2147483489) → E.nx σ (upd H' pa (.lst xs)) := fun xs ⟨a, b, c, ex, h5, h6⟩ => by
    subst ex
    refine k1 σ G' (upd H' pa (.lst [.int a, .int b, .int c])) ρ ⟨s.g, fun x u q => ?_, s.n, ⟨a, b, c, upd_same, h5, h6⟩, fun x o hx q => ?_, s.w⟩ (env.mono s.g) rfl
    · rw [upd_ne (ne_of_none q s.n)]; exact s.i x u q
    · rw [upd_ne hx]; exact s.k x o hx q
  rcases hi with rfl | rfl | rfl
  · exact ⟨pa, _, _, 0, rfl, rfl, e3, rfl, fin _ ⟨z, b, c, rfl, h3, h4⟩⟩
  · exact ⟨pa, _, _, 1, rfl, rfl, e3, rfl, fin _ ⟨a, z, c, rfl, hz rfl⟩⟩
  · exact ⟨pa, _, _, 2, rfl, rfl, e3, rfl, fin _ ⟨a, b, z, rfl, h3, h4⟩⟩
/-- pail[0], x = divmod(pail[0], e) -/
theorem sx_divmod (k j : Nat) {y x : Str} {py pi ps px pt pc py2 pi2 ps2 pd : Pos} {ki kt ki2 : Nat} {t0 : Int} (hc : X.calm = true) (hN0 : X.N.Nodup) (hm : X.mg "divmod" = none) (hb : bootBuiltins ("divmod" : Str) = some (.builtin "divmod")) (he : J X e ρ (.int t0)) (ht : 0 < t0 ∧ t0 < 1073741824) (hk : ρ[k]? = some (.r (.ref pa)))
    (hN : X.N[k]? = some y := by rfl) (hv : Vis X.env.scope y := by first | exact Or.inl rfl | exact Or.inr (Or.inl rfl) | exact Or.inr (Or.inr rfl)) (hd : (y == ("__debug__" : Str)) = false := by decide) (hcd : (y == ("__classdict__" : Str)) = false := by decide)
    (hx : X.N[j]? = some x := by rfl) (hxl : L2.Loc X.env.scope x := by first | exact Or.inl rfl | exact Or.inr rfl) (hf : X.fn x = true ∨ X.env.scope.names.lookup x = some .local := by first | exact .inl rfl | exact .inr rfl)
    (hg : Gl X "divmod" := by rfl)
    (hst : starEach [.Subscript (.Name y py2) (.Constant (.int 0) ki2 pi2) ps2, e] X.env = (false, eval (.Subscript (.Name y py2) (.Constant (.int 0) ki2 pi2) ps2) X.env) :: starEach [e] X.env := by rfl) (hst1 : starEach [e] X.env = (false, eval e X.env) :: starEach [] X.env := by rfl)
    (hpl : (backTo pd (starEach [e] X.env)).any (·.1) = false := by rfl)
    (ha : ∀ v, assign (.Subscript (.Name y py) (.Constant (.int 0) ki pi) ps) X.env v = (do
      let ov ← holding [v] (eval (.Name y py) X.env)
      let iv ← holding [v, ov] (eval (.Constant (.int 0) ki pi) X.env)
      standAt ps
      holding [v, ov, iv] (setItem ov iv v)
      release [v, ov, iv] []) := by intro _; rfl)
    (hs1 : (assignEach (.Subscript (.Name y py) (.Constant (.int 0) ki pi) ps :: [.Name x px]) X.env).map (·.2) = assign (.Subscript (.Name y py) (.Constant (.int 0) ki pi) ps) X.env :: (assignEach [.Name x px] X.env).map (·.2) := by rfl)
    (hs2 : (assignEach (.Name x px :: []) X.env).map (·.2) = assign (.Name x px) X.env :: (assignEach [] X.env).map (·.2) := by rfl)
    (hn2 : (assignEach [.Subscript (.Name y py) (.Constant (.int 0) ki pi) ps, .Name x px] X.env).length = 2 := by rfl) (hst2 : (assignEach [.Subscript (.Name y py) (.Constant (.int 0) ki pi) ps, .Name x px] X.env).findIdx? (·.1) = none := by rfl)
    (hs : swapsWithSole [.Tuple [.Subscript (.Name y py) (.Constant (.int 0) ki pi) ps, .Name x px] kt pt] (.Call (.Name "divmod" pc) [.Subscript (.Name y py2) (.Constant (.int 0) ki2 pi2) ps2, e] [] pd) pos.line X.env = pure false := by rfl)
    (hw : swappedStores [.Tuple [.Subscript (.Name y py) (.Constant (.int 0) ki pi) ps, .Name x px] kt pt] (.Call (.Name "divmod" pc) [.Subscript (.Name y py2) (.Constant (.int 0) ki2 pi2) ps2, e] [] pd) X.env = pure none := by rfl)
    (h1 : (assignEach [.Tuple [.Subscript (.Name y py) (.Constant (.int 0) ki pi) ps, .Name x px] kt pt] X.env).map (·.2) = [assign (.Tuple [.Subscript (.Name y py) (.Constant (.int 0) ki pi) ps, .Name x px] kt pt) X.env] := by rfl) :
    SX pa X (.Assign [.Tuple [.Subscript (.Name y py) (.Constant (.int 0) ki pi) ps, .Name x px] kt pt] (.Call (.Name "divmod" pc) [.Subscript (.Name y py2) (.Constant (.int 0) ki2 pi2) ps2, e] [] pd) pos) ρ (fun ρ' => ∃ z : Int, 0 ≤ z ∧ z < t0 ∧ ρ' = ρ.set j (.d (.int z))) R := fun σ G H E env sm n pl k1 k2 => by
  obtain ⟨o, e1, e2⟩ := env.2 k _ hk
  have e2 : o = some (.ref pa) := e2
  subst e2
  refine toS (ps_asg (pe_callB call_divmodW hg hm hb (pa_cons peW (pa_cons peW pa_nil hst1) hst) (he := hst) (hpl := hpl)) (pg_tup hc (pgs_cons (pg_sub (pe_var (i := k) hN hv hd hcd) pe_int set_list ha) (pgs_cons (pg_name hN0 hx hxl hf) pgs_nil hs2) hs1) hn2 hst2) hs hw h1) ?_
  refine jm_pail (pa := pa) k hk (.inl rfl) hN hv hd hcd (by exact fun _ _ => rfl) σ G H _ env sm n pl fun v G1 H1 d s1 d1 p1 => ?_
  refine he σ G1 H1 _ (env.mono s1.g) s1.i fun w G2 H2 g2 d2 => ?_
  obtain ⟨z, rfl, _⟩ := p1
  cases d1
  cases d2
  have s2 := s1.trans n (.of_grow g2 s1.n s1.p)
  refine ⟨z, t0, rfl, ⟨ht.1, ?_⟩, fun p hp => ⟨p, _, rfl, SqT.of upd_same, rfl, _, _, rfl, ⟨_, e1, ?_⟩⟩⟩
  · have z1 : ¬ ((if t0 == 0 then 0 else t0.natAbs.log2 / 30 + 1) > 300) := by
      have q1 : t0.natAbs.log2 < 30 := by
        rw [Nat.log2_lt (by omega)]
        have : (2 : Nat) ^ 30 = 1073741824 := by decide
        omega
      split
      · decide
      · omega
    show (decide ((if t0 == 0 then 0 else t0.natAbs.log2 / 30 + 1) > 300) && _) = false
    rw [decide_eq_false z1] <;> rfl
  · obtain ⟨a, b, c, e3, h3, h4⟩ := s2.p
    have hpa : pa ≠ p := ne_of_none e3 hp
    refine ⟨pa, _, _, 0, rfl, rfl, (upd_ne hpa).trans e3, rfl, _, _, rfl, rfl, ?_⟩
    have hz0 : 0 ≤ z % t0 := Int.emod_nonneg _ (by omega)
    have hz1 : z % t0 < t0 := Int.emod_lt_of_pos _ ht.1
    refine k1 _ G2 (upd (upd H2 p (.tup [.int (z / t0), .int (z % t0)])) pa (.lst [.int (z / t0), .int b, .int c])) _ ⟨s2.g, fun x u q => ?_, s2.n, ⟨_, b, c, upd_same, h3, h4⟩, fun x o hx2 q => ?_, s2.w⟩ ((env.mono s2.g).set (s := .d (.int (z % t0))) ⟨_, rfl, .int _⟩) ⟨z % t0, hz0, hz1, rfl⟩
    · have hxp : x ≠ p := ne_of_none (s2.i x u q) hp
      rw [upd_ne (ne_of_none q s2.n), upd_ne hxp]; exact s2.i x u q
    · have q2 := s2.k x o hx2 q
      rw [upd_ne hx2, upd_ne (ne_of_none q2 hp)]; exact q2
end
/-! ### a def that draws, by its body -/
def startM (n : Nat) (pa : Addr) (ds : List D) : List Sl := .r (.ref pa) :: startL (n - 1) ds
theorem env_startM {K : PySem.W.Frag} {G : Hp} {x : Str} {N : List Str} {vs : List V} {ds : List D} {pa : Addr} (h : DnAll K G vs ds) : EnvOk K G (L2.start (x :: N) (.ref pa :: vs)) (startM (x :: N).length pa ds) := by
  have e := env_start (N := N) h
  have e1 : L2.start (x :: N) (.ref pa :: vs) = some (.ref pa) :: L2.start N vs := by
    unfold L2.start
    simp
  rw [e1]
  refine ⟨by unfold startM; simp only [List.length_cons, Nat.add_sub_cancel]; rw [e.1], fun i s q => ?_⟩
  unfold startM at q
  simp only [List.length_cons, Nat.add_sub_cancel] at q
  cases i with
  | zero =>
    simp at q
    subst q
    exact ⟨_, rfl, rfl⟩
  | succ i =>
    obtain ⟨o, h1, h2⟩ := e.2 i s (by simpa using q)
    exact ⟨o, by simpa using h1, h2⟩
section
variable {P : Program} {w : World} {K : PySem.W.Frag} {mg : Str → Option Value} {base : Heap} {x y : Str} {st : Stmt} {N ps : List Str} {k : Nat} {A : List D → Prop} {R : List D → D → Prop}
theorem fnM (Z : Stand K mg x st) (S : FnScope (y :: N) ps (defScope st))
    (hbind : ∀ (kV doc pm : Value) (an : Option Addr) (cdv ct : Value) (us : List Value), us.length = ps.length → bindArgs (PySem.W.fnOf x x (defArgs st) (defBody st) (defScope st) .none kV doc pm an cdv ct) ⟨us, []⟩ = pure (ps.zip us))
    (hl : ∀ ds, A ds → ds.length + 1 = ps.length)
    (hb : ∀ (f : Addr) (cdv : Value) (Ar : Around) (outer : List Env) (s : Shared) (H : Hp) (E : XK), Room k (Ar.deeper (PyProof.Rows.envOfC x (defScope st) s.heap.objs.size f cdv)) → ∀ pa ds, A ds →
      SB pa (bx P w K mg base (y :: N) x st f cdv Ar outer s H E) (defBody st) (startM (N.length + 1) pa ds) (fun _ => False) (R ds)) : FnM P w K mg base (k + 1) x ps A R := by
  obtain ⟨f, fd, F, hm⟩ := Z
  refine ⟨f, fd, F.ok S (fun vs H Q E h => ?_) (fun cdv Ar outer s H vs Q E hr h => ?_), hm, F.kp, F.binds hbind⟩
  · obtain ⟨pa, G, ws, ds, rfl, _, _, _, hd, ha, _⟩ := h
    rw [List.length_cons, dnAll_length hd]
    exact hl ds ha
  · obtain ⟨pa, G, ws, ds, rfl, sm, n, pl, hd, ha, q⟩ := h
    exact ⟨_, pbW, hb f cdv Ar outer s H E hr pa ds ha _ G H _ (env_startM hd) sm n pl (fun _ _ _ _ _ _ z => z.elim) fun v G' H' d s dn r => q v G' H' d s dn r⟩
end
end Y
namespace Y
open PySem L2 PyProof.Rows

/-! ### defs that are called where nothing is being written out (repr asks that) -/
structure FnG (P : Program) (w : World) (K : PySem.W.Frag) (mg : Str → Option Value) (base : Heap) (k : Nat) (f : Addr) (fd : FuncData) (ps : List Str) (sp : Sp) : Prop where
  len : ∀ vs H Q E, sp vs H Q E → vs.length = ps.length
  run : ∀ (A : Around) (fr : List Env) (s : Shared) (H : Hp) (args : Args) (us : List Value) (vs : List V) (Q : VK) (E : XK), A.guards = some [] → Room k A → Env0 P w K mg base A fr s H → BindsTo s fd args (ps.zip us) → Vals vs us → sp vs H Q E →
    codeAny (model P w) A (.call (.ref f) args) (CR CX0 fr P w H s Q E) s
theorem FnG.up {P : Program} {w : World} {K : PySem.W.Frag} {mg : Str → Option Value} {base : Heap} {j k : Nat} {f : Addr} {fd : FuncData} {ps : List Str} {sp : Sp} (F : FnG P w K mg base j f fd ps sp) (h : j ≤ k) : FnG P w K mg base k f fd ps sp :=
  ⟨F.len, fun A fr s H args us vs Q E hg hr => F.run A fr s H args us vs Q E hg (hr.mono h)⟩
section
variable {P : Program} {w : World} {K : PySem.W.Frag} {mg : Str → Option Value} {base : Heap}
theorem fnG_of {x : Str} {st : Stmt} {f : Addr} {fd : FuncData} {N ps : List Str} {k : Nat} {sp : Sp} (F : Fun K x x st f fd) (S : FnScope N ps (defScope st)) (len : ∀ vs H Q E, sp vs H Q E → vs.length = ps.length)
    (hb : ∀ (cdv : Value) (A : Around) (fr : List Env) (s : Shared) (H : Hp) (vs : List V) (Q : VK) (E : XK), A.guards = some [] → Room k (A.deeper (envOfC x (defScope st) s.heap.objs.size f cdv)) → sp vs H Q E →
      ∃ t, PSs (bx P w K mg base N x st f cdv A fr s H E) (defBody st) t ∧ t { nx := fun _ H' => Q .non H', rt := Q } (L2.start N vs) H) : FnG P w K mg base (k + 1) f fd ps sp := by
  obtain ⟨oc, od, kV, doc, pm, an, cdv, ct, osl, rfl, lk, hcd⟩ := F.ex
  refine ⟨len, fun A fr s H args us vs Q E hg hr e0 hbi rv hsp => ?_⟩
  have hlen := len vs H Q E hsp
  have kp : ∀ b o, base.get? b = some o → s.heap.get? b = some o := fun b o e => (e0.bs b o e).1
  have KX : K.In s.heap := e0.mod.kin.keeps kp
  have hkind : ∀ q ∈ ps.zip us, (defScope st).names.lookup q.1 = some .local ∨ ((defScope st).names.lookup q.1 = some .cell ∧ ((cellsFrom (s.heap.objs.size + 1) (defScope st).names []).lookup q.1).isSome = true) := fun q hq => by
    rcases S.par q.1 (List.of_mem_zip (show (q.1, q.2) ∈ _ from hq)).1 with z | z
    · exact .inl z
    · exact .inr ⟨z, PySem.W.cellsFrom_some _ _ _ (.inl z)⟩
  refine codeAny_call_function hr.depth (KX _ _ lk) rfl S.co S.gen rfl (PySem.W.codeRec_of KX hcd) (hbi _ _ _ _ ?_)
  refine wpAny_newFunctionEnv_cells S.kind hkind fun env he s1 xc => ?_
  subst he
  refine ⟨(e0.mod.nolimit.keeps kp).keeps xc.toInCall.keep, codeAny_func ?_⟩
  obtain ⟨t, ht, hq⟩ := hb cdv A fr s H vs Q E hg (hr.deeper _) hsp
  have I := inv_start (CX := CX0) (P := P) (w := w) (mg := mg) (base := base) (E := E) S hr.hd e0 hlen rv xc
  refine wpAny_mono (ht.run [] s1 _ H _ (I.wish _) hq) (fun fl s2 h2 => ?_) fun _ _ z => z.elim
  cases fl with
  | ret u =>
    obtain ⟨v, σ2, H2, J2, r2, q2⟩ := h2
    exact ⟨v, H2, J2.os, J2.bare, J2.base, J2.hok, r2, q2⟩
  | next =>
    obtain ⟨σ2, H2, J2, q2⟩ := h2
    exact ⟨V.non, H2, J2.os, J2.bare, J2.base, J2.hok, rfl, q2⟩
  | brk => obtain ⟨_, _, _, q2⟩ := h2; exact q2.elim
  | cont => obtain ⟨_, _, _, q2⟩ := h2; exact q2.elim
end
section
variable {X : Cx} {k : Nat} {f : Addr} {fd : FuncData} {ps : List Str} {sp : Sp} {x : Str} {p pos : Pos} {e : Expr} {es : List Expr} {t : TA}
theorem pe_callG {E : XK} (F : FnG X.prog X.w X.K X.mg X.base k f fd ps sp) (hgd : X.A.guards = some []) (hr : Room k X.A) (hg : Gl X x) (hm : X.mg x = some (.ref f)) (hk : PySem.W.keepIn X.K (.ref f) = true) (hb : Binds X.K fd ps []) (ha : PA X (e :: es) t)
    (hdb : (x == ("__debug__" : Str)) = false := by decide) (he : starEach (e :: es) X.env = (false, eval e X.env) :: starEach es X.env := by rfl) (hpl : (backTo pos (starEach es X.env)).any (·.1) = false := by rfl) :
    PE X (.Call (.Name x p) (e :: es) [] pos) (tCall sp [] E t) := by
  refine ⟨fun pins s σ H Q I h => ?_⟩
  refine wpAny_Call_Name_kw (ld_glob I hg hm ?_ hdb)
  refine PySem.W.callWith_K (h₀ := X.base) I.ok.mod.kin hk (thn (ha.run pos pins s σ H _ I h) fun us s1 h1 => ?_) he hpl
  obtain ⟨vs, H1, I1, r1, q1⟩ := h1
  refine ⟨I1.kIn, ?_⟩
  rw [List.append_nil] at q1
  have hlen : (us ++ []).length = ps.length := by rw [List.append_nil, ← r1.length]; exact F.len _ _ _ _ q1
  have hbi := hb s1 us I1.kIn hlen
  rw [List.append_nil] at hbi
  refine wpAny_call (codeAny_mono (F.run X.A X.stack s1 H1 ⟨us, []⟩ us vs Q E hgd hr I1.env0 hbi r1 q1) fun r s2 h2 => ?_)
  cases r with
  | error e => exact h2.elim
  | ok fl =>
    cases fl with
    | ret u => exact I1.after h2
    | next => exact h2.elim
    | brk => exact h2.elim
    | cont => exact h2.elim
end
/-! ### repr -/
theorem call_reprD {X : Cx} (hgd : X.A.guards = some []) (hu : X.A.units + 64 < cLine) : CallR X (.builtin "repr") (fun xs H Q => ∃ a d, xs = [.ref a] ∧ Dp X.K H (.ref a) d ∧ d.showable = true ∧ d.hasDict = false ∧ d.depth ≤ 60 ∧ d.shown.length ≤ sizeLine ∧ Q (.str d.shown) H) := by
  intro pins s σ H xs us Q I rv h
  obtain ⟨a, d, rfl, hd, h1, h2, h3, h4, q⟩ := h
  obtain ⟨u, rfl, ru⟩ := vals1 rv
  cases (show u = Value.ref a from ru)
  obtain ⟨as, hr⟩ := Dp.reads I d (.ref a) _ hd rfl
  exact repr_of_reads' hr h1 (fun z => by rw [h2] at z; cases z) hgd (by omega) (fun _ _ e => e) (fun h' u tk hk => ⟨.str d.shown, H, I.kept hk, ⟨u, rfl⟩, q⟩) h4
theorem rl_repr {K : PySem.W.Frag} {d : D} (hl : (∃ xs, d = .list xs) ∨ ∃ xs, d = .tuple xs) (h1 : d.showable = true) (h2 : d.hasDict = false) (h3 : d.depth ≤ 60) (h4 : d.shown.length ≤ sizeLine) :
    RL K (fun xs H Q => ∃ a d, xs = [.ref a] ∧ Dp K H (.ref a) d ∧ d.showable = true ∧ d.hasDict = false ∧ d.depth ≤ 60 ∧ d.shown.length ≤ sizeLine ∧ Q (.str d.shown) H) [d] (.str d.shown) := fun vs G H Q sm dv q => by
  cases dv with
  | cons hv t =>
    cases t
    have hp := dn_dp (dn_mono sm hv)
    rcases hl with ⟨xs, rfl⟩ | ⟨xs, rfl⟩
    · cases hv
      exact ⟨_, _, rfl, hp, h1, h2, h3, h4, q _ G H (Grow.refl sm) (.str _)⟩
    · cases hv
      exact ⟨_, _, rfl, hp, h1, h2, h3, h4, q _ G H (Grow.refl sm) (.str _)⟩

/-! ### the law's call at the top -/
theorem law_top {P : Program} {w : World} {K : PySem.W.Frag} {mg mb : Str → Option Value} {k : Nat} {fa a : Addr} {fd : FuncData} {x : Str} {sp : Sp} {s1 : Shared} {us : List Value} {ns : List Int}
    (KX : K.In s1.heap) (hns : s1.heap.Ns mainGlobals mg) (hb : s1.heap.Ns builtinsNs mb) (hbb : ∀ y : Str, y ≠ "__name__" → mb y = bootBuiltins y) (hlim : s1.heap.NoLimit) (hg : s1.gens = #[])
    (ha : s1.heap.get? a = some { cls := .type "list", data := .seq us.toArray }) (hi : IntsAre us ns) (hl : ns.length ≤ sizeLine) (hr : Room k callerA)
    (F : ∀ base : Heap, K.In base → base.Ns mainGlobals mg → FnG P w K mg base k fa fd [x] sp) (hbind : ∀ (s : Shared) (u : Value), BindsTo s fd ⟨[u], []⟩ [(x, u)])
    (hsp : ∀ H : Hp, Only H → SqL K H a (ns.map V.int) → sp [.ref a] H (fun v _ => v = .bl true) fun _ _ _ => False) :
    codeAny (model P w) callerA (.call (.ref fa) ⟨[.ref a], []⟩) (fun r s' => r = .ok (.ret (.bool true)) ∧ OldK s1.heap s'.heap ∧ s'.os = s1.os ∧ AllBare s'.gens) s1 := by
  have rv := vals_ints hi
  have hlen := hi.length
  have main : ∀ H : Hp, Only H → SqL K H a (ns.map V.int) → HOk P w H s1.heap → (∀ b, H b ≠ none → b = a ∧ K.lookup a = none) →
      codeAny (model P w) callerA (.call (.ref fa) ⟨[.ref a], []⟩) (fun r s' => r = .ok (.ret (.bool true)) ∧ OldK s1.heap s'.heap ∧ s'.os = s1.os ∧ AllBare s'.gens) s1 := by
    intro H hO hS hok hA
    have nD : ∀ {b : Addr} {o : Obj} {es : Array DictEntry} {ep : Nat}, s1.heap.get? b = some o → o.data = .dict es ep → H b = none := fun {b o es ep} e d => by
      cases q : H b with
      | none => rfl
      | some u =>
        obtain ⟨rfl, _⟩ := hA b (by rw [q]; simp)
        rw [ha] at e
        cases e
        have d2 : Data.seq us.toArray _ = Data.dict es ep := d
        cases d2
    have nsH : ∀ {b : Addr} {m : Str → Option Value}, s1.heap.Ns b m → (hidT s1.heap H).Ns b m := fun {b m} ⟨o, es, ep, e, d, r⟩ => ⟨o, es, ep, hidT_get e (nD e d), d, r⟩
    have hKb : K.In (hidT s1.heap H) := fun b o e => hidT_get (KX b o e) (by
      cases q : H b with
      | none => rfl
      | some u =>
        obtain ⟨rfl, z⟩ := hA b (by rw [q]; simp)
        rw [z] at e
        cases e)
    obtain ⟨mc, c1, c2⟩ := hlim
    have hM : Mod K mg (hidT s1.heap H) := ⟨hKb, nsH hns, ⟨mb, nsH hb, hbb⟩, ⟨mc, nsH c1, c2⟩⟩
    have e0 : Env0 P w K mg (hidT s1.heap H) callerA [] s1 H := { frames := rfl, mod := hM, bs := fun b o e => of_hidT e, bsz := Nat.le_of_eq (hidT_size _ _), funs := trivial, frf := fun b z => (List.not_mem_nil z).elim, hok := hok, bare := .of_eq hg }
    refine codeAny_mono ((F _ hKb (nsH hns)).run callerA [] s1 H ⟨[.ref a], []⟩ [.ref a] [.ref a] _ _ rfl hr e0 (hbind s1 (.ref a)) (.cons rfl .nil) (hsp H hO hS)) fun r s2 h => ?_
    cases r with
    | error e => exact h.elim
    | ok fl =>
      cases fl with
      | next => exact h.elim
      | brk => exact h.elim
      | cont => exact h.elim
      | ret u =>
        obtain ⟨v, H2, os, bare, un, hok2, r2, q⟩ := h
        have q : v = .bl true := q
        subst q
        cases (show u = Value.bool true from r2)
        refine ⟨rfl, OldK.of_keep fun b o e => ?_, os, bare⟩
        cases q : H b with
        | none => exact un.keep b o e q (fun z => (List.not_mem_nil z).elim) (fun z => by cases z)
        | some u =>
          rcases hO b with z | ⟨ob, xs, z⟩
          · rw [q] at z; cases z
          · have z2 := un.frzs b ob _ z
            have e1 := (hok b _ z).1
            have e2 := (hok2 b _ z2).1
            rw [e] at e1
            cases e1
            exact e2
  cases hk : K.lookup a with
  | some o =>
    have e := KX a o hk
    rw [ha] at e
    cases e
    exact main (fun _ => none) (fun _ => .inl rfl) (.inr ⟨_, us.toArray, _, hk, rfl, rfl, rfl, by rw [List.size_toArray, hlen]; exact hl, by simpa using rv⟩) (fun b u z => by cases (show (none : Option HO) = some u from z)) fun b z => absurd rfl z
  | none =>
    have at_ : ∀ b, (if b = a then some (HO.frz { cls := .type "list", data := .seq us.toArray } (.lst (ns.map V.int))) else none) ≠ none → b = a := fun b z => by
      by_cases q : b = a
      · exact q
      · exact absurd (if_neg q) z
    refine main (fun b => if b = a then some (.frz { cls := .type "list", data := .seq us.toArray } (.lst (ns.map V.int))) else none) (fun b => ?_) (.inl (.inr ⟨_, if_pos rfl⟩)) (fun b u z => ?_) fun b z => ⟨at_ b z, hk⟩
    · by_cases q : b = a
      · exact .inr ⟨_, _, if_pos q⟩
      · exact .inl (if_neg q)
    · have q := at_ b (fun y => by cases (show (some u : Option HO) = none from z.symm.trans y))
      subst q
      have z2 : _ = some u := (if_pos rfl).symm.trans z
      cases z2
      exact ⟨ha, by rw [List.length_map]; exact hl, us, _, rv, ha⟩
theorem walk_ofG {l : PySem.W.OpenLaw} {n k : Nat} {q : Program} {loose : List Str} {XP : (Str → Option Value) → Heap → Prop} {YP : World → Heap → Prop} {d : DefRec} {K : Params → PySem.W.Frag} {sp : World → Sp} {x : Str}
    (hn : l.most = some n) (hn2 : n ≤ sizeLine) (hdf : d.params.defaults = []) (hr : Room k callerA) (hY : ∀ (w : World) (h : Heap), YP w h → (K w.params).In h)
    (F : ∀ (w : World) (mg : Str → Option Value) (fa : Addr) (h : Heap), (K w.params).In h → h.Ns mainGlobals mg → mg d.name = some (.ref fa) →
      ∃ fd : FuncData, (∀ (s : Shared) (u : Value), BindsTo s fd ⟨[u], []⟩ [(x, u)]) ∧ ∀ base : Heap, (K w.params).In base → base.Ns mainGlobals mg → FnG l.prog w (K w.params) mg base k fa fd [x] (sp w))
    (hsp : ∀ (w : World) (H : Hp) (a : Addr) (ns : List Int), ns.length ≤ n → Only H → SqL (K w.params) H a (ns.map V.int) → sp w [.ref a] H (fun v _ => v = .bl true) fun _ _ _ => False) :
    PySem.W.WalkO q loose XP YP l.row.toRowW d [] (fun f vs => PySem.call f vs) := by
  refine Att.attach_call hn hdf fun w s0 s1 mg mb fa o pm cd doc a us ns G Y ho hd hcd hmg hobj hints hlen hg => ?_
  obtain ⟨fd, hb, hF⟩ := F w mg fa _ (hY w _ Y) G.T.g hmg
  exact law_top (hY w _ Y) G.T.g G.T.b G.T.builtins G.T.nolimit hg hobj hints (Nat.le_trans hlen hn2) hr hF hb fun H hO hS => hsp w H a ns hlen hO hS
end Y
namespace Y
open PySem L2

/-! ### the script -/
section
variable {X : Cx} {a b e : Expr} {es : List Expr} {ρ : List Sl} {pos p p2 py : Pos} {y : Str} {ns : List Int}
theorem j_sliceS (i : Nat) {k : Nat} {kk : Nat} {pk : Pos} (hi : ρ[i]? = some (.s ns)) (hN : X.N[i]? = some y := by rfl) (hv : Vis X.env.scope y := by first | exact Or.inl rfl | exact Or.inr (Or.inl rfl) | exact Or.inr (Or.inr rfl))
    (hd : (y == ("__debug__" : Str)) = false := by decide) (hcd : (y == ("__classdict__" : Str)) = false := by decide) :
    J X (.Subscript (.Name y py) (.Slice none (some (.Constant (.int (k : Int)) kk pk)) none p2) pos) ρ (.list ((ns.take k).map PyData.int)) := fun σ G H Q env sm q => by
  obtain ⟨o, h1, a, rfl, hS⟩ := env.2 i _ hi
  refine toE (pe_slice sl_list (pe_var (i := i) hN hv hd hcd) po_none (po_some pe_int)) ⟨_, h1, (k : Int), rfl, a, ns.map V.int, rfl, same_seqL sm hS, fun p hp => ?_⟩
  have e1 : cutV (ns.map V.int) none (some (k : Int)) = (ns.take k).map V.int := by
    unfold cutV
    rw [HT.sIx_none, HT.sIx_nat, List.drop_zero, Nat.sub_zero, List.map_take]
    by_cases h : k ≤ (ns.map V.int).length
    · rw [Nat.min_eq_left h]
    · rw [Nat.min_eq_right (by omega), List.take_length, List.take_of_length_le (by omega)]
  rw [e1]
  have hdn : ∀ {G : Hp} (l : List Int), DnAll X.K G (l.map V.int) (l.map PyData.int) := fun {G} l => by
    induction l with
    | nil => exact .nil
    | cons x l ih => exact .cons (.int x) ih
  exact q _ _ _ (Grow.new sm hp) (dn_lstNew (sm.free hp) (hdn _))
theorem j_ixS (i : Nat) {z c : Int} (hi : ρ[i]? = some (.s ns)) (hb : J X b ρ (.int z)) (hz : atI ns z = some c) (hN : X.N[i]? = some y := by rfl) (hv : Vis X.env.scope y := by first | exact Or.inl rfl | exact Or.inr (Or.inl rfl) | exact Or.inr (Or.inr rfl))
    (hd : (y == ("__debug__" : Str)) = false := by decide) (hcd : (y == ("__classdict__" : Str)) = false := by decide) (hp : PlainIx b := by exact fun _ _ => rfl) : J X (.Subscript (.Name y py) b pos) ρ (.int c) := fun σ G H Q env sm q => by
  obtain ⟨o, h1, a, rfl, hS⟩ := env.2 i _ hi
  refine toE (pe_ix ix_seq (pe_var (i := i) hN hv hd hcd) peW hp) ⟨_, h1, hb σ G H _ env sm fun v G1 H1 g1 d1 => ?_⟩
  cases d1
  refine .inl ⟨a, ns.map V.int, z, .int c, rfl, rfl, same_seqL (sm.trans g1.h) hS, ?_, q _ G1 H1 g1 (.int c)⟩
  unfold atI at hz ⊢
  rw [List.length_map]
  cases e : ixN ns.length z with
  | none => rw [e] at hz; cases hz
  | some j =>
    rw [e] at hz
    show (ns.map V.int)[j]? = _
    have hz : ns[j]? = some c := hz
    rw [List.getElem?_map, hz] <;> rfl
theorem j_lenS (i : Nat) {x : Str} (hi : ρ[i]? = some (.s ns)) (hm : X.mg x = none) (hb : bootBuiltins x = some (.builtin "len")) (hN : X.N[i]? = some y := by rfl) (hv : Vis X.env.scope y := by first | exact Or.inl rfl | exact Or.inr (Or.inl rfl) | exact Or.inr (Or.inr rfl))
    (hd : (y == ("__debug__" : Str)) = false := by decide) (hcd : (y == ("__classdict__" : Str)) = false := by decide) (hg : Gl X x := by rfl) (hn : x ≠ "__name__" := by decide) (hdb : (x == ("__debug__" : Str)) = false := by decide)
    (he : starEach (.Name y py :: []) X.env = (false, eval (.Name y py) X.env) :: starEach [] X.env := by rfl) (hpl : (backTo pos (starEach [] X.env)).any (·.1) = false := by rfl) :
    J X (.Call (.Name x p) [.Name y py] [] pos) ρ (.int (ns.length : Int)) := fun σ G H Q env sm q => by
  obtain ⟨o, h1, a, rfl, hS⟩ := env.2 i _ hi
  exact toE (pe_callB call_len hg hm hb (pa_cons (pe_var (i := i) hN hv hd hcd) pa_nil he) hn hdb he hpl) ⟨_, h1, _, _, rfl, .inl ⟨_, same_seqL sm hS, (List.length_map _).symm⟩, q _ G H (Grow.refl sm) (.int _)⟩
end
section
variable {K : PySem.W.Frag}
theorem rl_abs {i : Int} : RL K (fun xs H Q => ∃ i, xs = [.int i] ∧ Q (.int (if i < 0 then -i else i)) H) [.int i] (.int (if i < 0 then -i else i)) := fun vs G H Q sm dv q => by
  cases dv with
  | cons hv t => cases t; cases hv; exact ⟨i, rfl, q _ G H (Grow.refl sm) (.int _)⟩
theorem rl_max2 {i j : Int} : RL K (fun xs H Q => ∃ i j, xs = [.int i, .int j] ∧ Q (.int (if j > i then j else i)) H) [.int i, .int j] (.int (if j > i then j else i)) := fun vs G H Q sm dv q => by
  cases dv with
  | cons hv t =>
    cases t with
    | cons hw t => cases t; cases hv; cases hw; exact ⟨i, j, rfl, q _ G H (Grow.refl sm) (.int _)⟩
theorem rl_min2 {i j : Int} : RL K (fun xs H Q => ∃ i j, xs = [.int i, .int j] ∧ Q (.int (if j < i then j else i)) H) [.int i, .int j] (.int (if j < i then j else i)) := fun vs G H Q sm dv q => by
  cases dv with
  | cons hv t =>
    cases t with
    | cons hw t => cases t; cases hv; cases hw; exact ⟨i, j, rfl, q _ G H (Grow.refl sm) (.int _)⟩
end
/-! ### a pail from the script -/
def stepP (m c : Int) : Int := (m * 66013 + c % 2147483489 * 13 + 7) % 2147483489
def mixS (ns : List Int) (t : Int) (k : Nat) : Int := ((ns.take 12).take k).foldl stepP (92003 + 10601 * t)
theorem step_in (m c : Int) : 0 ≤ stepP m c ∧ stepP m c < 2147483489 := by unfold stepP; omega
theorem mix_in {ns : List Int} {t : Int} (h0 : 0 ≤ t) (h1 : t < 100) (k : Nat) : 0 ≤ mixS ns t k ∧ mixS ns t k < 2147483489 := by
  have h : ∀ (l : List Int) (m : Int), 0 ≤ m ∧ m < 2147483489 → 0 ≤ l.foldl stepP m ∧ l.foldl stepP m < 2147483489 := fun l => by
    induction l with
    | nil => exact fun m h => h
    | cons c l ih => exact fun m h => ih _ (step_in m c)
  exact h _ _ (by omega)
theorem mix_next {ns : List Int} {t : Int} {k : Nat} {c : Int} (h : (ns.take 12)[k]? = some c) : mixS ns t (k + 1) = stepP (mixS ns t k) c := by
  unfold mixS
  rw [List.take_add_one, h, List.foldl_append] <;> rfl
def spP (K : PySem.W.Frag) : Sp := fun vs H Q _ => ∃ (a : Addr) (ns : List Int) (t : Int) (G : Hp), vs = [.ref a, .int t] ∧ Same G H ∧ SqL K G a (ns.map V.int) ∧ 0 ≤ t ∧ t < 100 ∧
  ∀ (p : Addr) (x m : Int) (G' H' : Hp), Grow G H G' H' → H p = none → H' p = some (.lst [.int x, .int m, .int 0]) → 0 ≤ m → m < 2147483489 → Q (.ref p) H'
def FnP (P : Program) (w : World) (K : PySem.W.Frag) (mg : Str → Option Value) (base : Heap) : Prop :=
  ∃ f fd, FnOk P w K mg base CX0 1 f fd ["script", "turn"] (spP K) ∧ mg "_law_pail" = some (.ref f) ∧ PySem.W.keepIn K (.ref f) = true ∧ Binds K fd ["script", "turn"] []
theorem env_pail {K : PySem.W.Frag} {G : Hp} {a : Addr} {ns : List Int} {t : Int} (h : SqL K G a (ns.map V.int)) : EnvOk K G (L2.start ["script", "turn", "mixed", "cell", "own"] [.ref a, .int t]) [.s ns, .d (.int t), .u, .u, .u] := by
  refine ⟨rfl, fun i s q => ?_⟩
  match i with
  | 0 => cases q; exact ⟨_, rfl, a, rfl, h⟩
  | 1 => cases q; exact ⟨_, rfl, _, rfl, .int t⟩
  | 2 => cases q; exact ⟨_, rfl, trivial⟩
  | 3 => cases q; exact ⟨_, rfl, trivial⟩
  | 4 => cases q; exact ⟨_, rfl, trivial⟩
  | _ + 5 => cases q
/-- _law_right(_law_pail(script, turn)) -/
theorem j_right {X : Cx} {ρ : List Sl} {ns : List Int} {t : Int} {p1 p2 p3 p4 p5 p6 : Pos} {ff : Addr} {ffd : FuncData} {k : Nat} {A0 : List D → Prop} {R0 : List D → D → Prop} (hgd : X.A.guards = some []) (hr : Room k X.A) (h1k : 1 ≤ k)
    (FP : FnP X.prog X.w X.K X.mg X.base) (FR : FnG X.prog X.w X.K X.mg X.base k ff ffd ["pail"] (spM X.K A0 R0)) (hA : A0 []) (hR : ∀ d, R0 [] d → d = .bool true) (hm : X.mg "_law_right" = some (.ref ff)) (hk : PySem.W.keepIn X.K (.ref ff) = true) (hb : Binds X.K ffd ["pail"] [])
    (h0 : ρ[0]? = some (.s ns)) (h1 : ρ[1]? = some (.d (.int t))) (ht0 : 0 ≤ t) (ht1 : t < 100)
    (hg : Gl X "_law_right" := by rfl) (hg2 : Gl X "_law_pail" := by rfl) (hN0 : X.N[0]? = some ("script" : Str) := by rfl) (hN1 : X.N[1]? = some ("turn" : Str) := by rfl) (hv0 : Vis X.env.scope "script" := by first | exact Or.inl rfl | exact Or.inr (Or.inl rfl) | exact Or.inr (Or.inr rfl)) (hv1 : Vis X.env.scope "turn" := by first | exact Or.inl rfl | exact Or.inr (Or.inl rfl) | exact Or.inr (Or.inr rfl))
    (he1 : starEach (.Name "script" p3 :: [.Name "turn" p4]) X.env = (false, eval (.Name "script" p3) X.env) :: starEach [.Name "turn" p4] X.env := by rfl) (he2 : starEach (.Name "turn" p4 :: []) X.env = (false, eval (.Name "turn" p4) X.env) :: starEach [] X.env := by rfl)
    (he3 : starEach (.Call (.Name "_law_pail" p2) [.Name "script" p3, .Name "turn" p4] [] p5 :: []) X.env = (false, eval (.Call (.Name "_law_pail" p2) [.Name "script" p3, .Name "turn" p4] [] p5) X.env) :: starEach [] X.env := by rfl)
    (hpl1 : (backTo p5 (starEach [.Name "turn" p4] X.env)).any (·.1) = false := by rfl) (hpl2 : (backTo p6 (starEach [] X.env)).any (·.1) = false := by rfl) :
    J X (.Call (.Name "_law_right" p1) [.Call (.Name "_law_pail" p2) [.Name "script" p3, .Name "turn" p4] [] p5] [] p6) ρ (.bool true) := fun σ G H Q env sm q => by
  obtain ⟨f, fd, F, hmP, hkP, hbP⟩ := FP
  obtain ⟨o, e0, a, rfl, hS⟩ := env.2 0 _ h0
  obtain ⟨o1, e1, v1, rfl, dv⟩ := env.2 1 _ h1
  cases dv
  refine toE (pe_callG (E := E0) FR hgd hr hg hm hk hb (pa_cons (pe_call (E := E0) (dvs := []) F (hr.mono h1k) hg2 hmP hkP hbP .nil pass0 (pa_cons (pe_var (i := 0) hN0 hv0 (by decide) (by decide)) (pa_cons (pe_var (i := 1) hN1 hv1 (by decide) (by decide)) pa_nil he2) he1) (by decide) he1 hpl1) pa_nil he3) (by decide) he3 hpl2) ?_
  refine ⟨_, e0, _, e1, a, ns, t, G, rfl, sm, hS, ht0, ht1, fun p x m G' H' g hp hpl hm0 hm1 => ?_⟩
  refine ⟨p, G, [], [], rfl, sm.trans g.h, sm.free hp, ⟨x, m, 0, hpl, hm0, hm1⟩, .nil, hA, fun v G2 H2 d s2 d2 r2 => ?_⟩
  have := hR d r2
  subst this
  cases d2
  refine q _ G H2 ⟨Same.refl _, fun b u hb => s2.k b u (ne_of_none hb hp) (g.h b u hb), s2.g.trans s2.i, fun _ h => .inl h⟩ (.bl true)
theorem at_js {X : Cx} {st : Stmt} {ρ ρ1 : List Sl} {σ : L2.St} {G H : Hp} {E : Ends} (h : JS X st ρ (.nx ρ1)) (env : EnvOk X.K G σ ρ) (sm : Same G H) (k : ∀ σ' G' H', Grow G H G' H' → EnvOk X.K G' σ' ρ1 → E.nx σ' H') : wS X st E σ H := h σ G H E env sm k
theorem at_ja {X : Cx} {es : List Expr} {ρ : List Sl} {ds : List D} {σ : L2.St} {G H : Hp} {Q : List V → Hp → Prop} (h : JA X es ρ ds) (env : EnvOk X.K G σ ρ) (sm : Same G H) (k : ∀ vs G' H', Grow G H G' H' → DnAll X.K G' vs ds → Q vs H') : wA X es σ H Q := h σ G H Q env sm k
/-- the law's own promise -/
def spLaw (K : PySem.W.Frag) : Sp := fun vs H Q _ => ∃ (a : Addr) (ns : List Int), vs = [.ref a] ∧ SqL K H a (ns.map V.int) ∧ ∀ H', Q (.bl true) H'
theorem env_law {K : PySem.W.Frag} {G : Hp} {a : Addr} {ns : List Int} (h : SqL K G a (ns.map V.int)) : EnvOk K G (L2.start ["script", "turn"] [.ref a]) [.s ns, .u] := by
  refine ⟨rfl, fun i s q => ?_⟩
  match i with
  | 0 => cases q; exact ⟨_, rfl, a, rfl, h⟩
  | 1 => cases q; exact ⟨_, rfl, trivial⟩
  | _ + 2 => cases q
end Y
namespace Y
open PySem L2

/-! ### constants of the module, by one look -/
mutual
def datB (K : PySem.W.Frag) : Value → D → Bool
  | .none, .none => true
  | .bool b, .bool c => b == c
  | .int i _, .int j => decide (i = j)
  | .str x _, .str y => decide (x = y)
  | .ref T, .tuple ds => (match K.lookup T with
    | some ⟨.type c, _, .seq its _, _⟩ => decide (c = "tuple") && (decide (its.size ≤ sizeLine) && datAll K its.toList ds)
    | _ => false)
  | _, _ => false
def datAll (K : PySem.W.Frag) : List Value → List D → Bool
  | [], [] => true
  | u :: us, d :: ds => datB K u d && datAll K us ds
  | _, _ => false
end
mutual
theorem datB_ok {K : PySem.W.Frag} : ∀ (u : Value) (d : D), datB K u d = true → ∃ v, RelV v u ∧ ∀ G, Dn K G v d
  | u, .none, h => by
    cases u <;> first | exact ⟨.non, rfl, fun _ => .non⟩ | (simp [datB] at h)
  | u, .bool c, h => by
    cases u <;> simp [datB] at h
    subst h
    exact ⟨.bl _, rfl, fun _ => .bl _⟩
  | u, .int j, h => by
    cases u <;> simp [datB] at h
    subst h
    exact ⟨.int _, ⟨_, rfl⟩, fun _ => .int _⟩
  | u, .str y, h => by
    cases u <;> simp [datB] at h
    subst h
    exact ⟨.str _, ⟨_, rfl⟩, fun _ => .str _⟩
  | u, .list ds, h => by cases u <;> simp [datB] at h
  | u, .dict ds, h => by cases u <;> simp [datB] at h
  | u, .tuple ds, h => by
    cases u <;> first | (simp [datB] at h; done) | skip
    rename_i T
    unfold datB at h
    cases q : K.lookup T with
    | none => rw [q] at h; cases h
    | some o =>
      obtain ⟨oc, od, dt, osl⟩ := o
      rw [q] at h
      cases oc with
      | type c =>
        cases dt with
        | seq its n =>
          have h0 : (decide (c = "tuple") && (decide (its.size ≤ sizeLine) && datAll K its.toList ds)) = true := h
          rw [Bool.and_eq_true, Bool.and_eq_true] at h0
          obtain ⟨h1, h2, h3⟩ := h0
          obtain ⟨vs, r, dn⟩ := datAll_ok its.toList ds h3
          exact ⟨.ref T, rfl, fun G => .tup (.inr ⟨_, its, n, q, congrArg Value.type (of_decide_eq_true h1), rfl, of_decide_eq_true h2, r⟩) (dn G)⟩
        | _ => cases h
      | _ => cases dt <;> cases h
theorem datAll_ok {K : PySem.W.Frag} : ∀ (us : List Value) (ds : List D), datAll K us ds = true → ∃ vs, Vals vs us ∧ ∀ G, DnAll K G vs ds
  | us, [], h => by
    cases us with
    | nil => exact ⟨[], .nil, fun _ => .nil⟩
    | cons u us => simp [datAll] at h
  | us, d :: ds, h => by
    cases us with
    | nil => simp [datAll] at h
    | cons u us =>
      unfold datAll at h
      rw [Bool.and_eq_true] at h
      obtain ⟨v, r1, d1⟩ := datB_ok u d h.1
      obtain ⟨vs, r2, d2⟩ := datAll_ok us ds h.2
      exact ⟨v :: vs, .cons r1 r2, fun G => .cons (d1 G) (d2 G)⟩
end
inductive Ck where
  | fa (f : He.Fa) | gd (x : Str) (d : D)
def Ck.ok (K : PySem.W.Frag) : Ck → Bool
  | .fa f => f.ok K
  | .gd x d => (match PySem.W.nsIn K mainGlobals x with
    | some (some u) => datB K u d
    | _ => false)
/-- a def of the top, where it stands -/
def gloB (K : PySem.W.Frag) (d : He.DefD) : Bool := match d.at_.2 with
  | none => He.eqO (PySem.W.nsIn K mainGlobals d.at_.1) (some (some (.ref (He.ga K d.at_.1))))
  | some _ => true
def obsY (ck : List Ck) (fn : List He.DefD) (K : PySem.W.Frag) : He.AlD := ((ck.all fun f => f.ok K) && fn.all fun d => gloB K d && d.ok K, fn.map fun d => He.fnW K d.at_)
def SaysY (ck : List Ck) (fn : List He.DefD) (K : PySem.W.Frag) : Prop := obsY ck fn K = He.valD fn
def obsYG (n : Nat) (ck : List Ck) (fn : List He.DefD) (g : Addr → Option Obj) : He.AlD := obsY ck fn (He.frG g (He.asD g n))
def hookY (n : Nat) (ck : List Ck) (fn : List He.DefD) : PySem.W.Hook where
  α := He.AlD
  obs := fun s => obsYG n ck fn s.heap.get?
  val := fun _ => He.valD fn
  says := fun _ h => ∃ K : PySem.W.Frag, K.In h ∧ SaysY ck fn K
  of := fun _ _ e => ⟨_, He.frG_in, e⟩
  keeps := fun _ _ _ ⟨K, hK, c⟩ k => ⟨K, PySem.W.Frag.In.keeps hK k, c⟩
theorem obsYG_eq {n : Nat} {ck : List Ck} {fn : List He.DefD} {g : Addr → Option Obj} {s : Shared} (h : ∀ a, g a = s.heap.get? a) : obsYG n ck fn g = (hookY n ck fn).obs s := by
  have e : g = s.heap.get? := funext h
  rw [e] <;> rfl
/-- a def without defaults, with -/
def mkD (x : Str) (st : Stmt) : He.DefD := ⟨(x, none), x, x, defArgs st, defBody st, defScope st, [], []⟩
def mkDd (x : Str) (st : Stmt) (ds : List He.Dv) : He.DefD := ⟨(x, none), x, x, defArgs st, defBody st, defScope st, ds, []⟩
section
variable {ck : List Ck} {fn : List He.DefD} {K : PySem.W.Frag} {h : Heap} {mg : Str → Option Value} {x : Str} {st : Stmt}
theorem SaysY.b1 (c : SaysY ck fn K) : (ck.all fun f => f.ok K) = true := (He.ba (show ((ck.all fun f => f.ok K) && fn.all fun d => gloB K d && d.ok K) = true from congrArg (fun z : He.AlD => z.1) c)).1
theorem SaysY.b2 (c : SaysY ck fn K) : (fn.all fun d => gloB K d && d.ok K) = true := (He.ba (show ((ck.all fun f => f.ok K) && fn.all fun d => gloB K d && d.ok K) = true from congrArg (fun z : He.AlD => z.1) c)).2
theorem SaysY.fact (c : SaysY ck fn K) (i : Nat) {f : Ck} (h : ck[i]? = some f := by rfl) : f.ok K = true := List.all_eq_true.mp c.b1 f (List.mem_of_getElem? h)
theorem SaysY.glob (c : SaysY ck fn K) (X : K.In h) (G : h.Ns mainGlobals mg) (i : Nat) {d : D} (e : ck[i]? = some (.gd x d) := by rfl) : GlobD K mg x d := by
  have c1 : (match PySem.W.nsIn K mainGlobals x with
    | some (some u) => datB K u d
    | _ => false) = true := c.fact i e
  cases q : PySem.W.nsIn K mainGlobals x with
  | none => rw [q] at c1; cases c1
  | some r =>
    cases r with
    | none => rw [q] at c1; cases c1
    | some u =>
      rw [q] at c1
      obtain ⟨v, h1, h2⟩ := datB_ok u d c1
      exact ⟨u, v, PySem.W.mg_of X G q, h1, h2⟩
theorem SaysY.free (c : SaysY ck fn K) (X : K.In h) (G : h.Ns mainGlobals mg) (i : Nat) (e : ck[i]? = some (.fa (.free x)) := by rfl) : mg x = none := He.free_ok X G (c.fact i e)
theorem SaysY.def_ (c : SaysY ck fn K) (i : Nat) {d : He.DefD} (h : fn[i]? = some d := by rfl) : gloB K d = true ∧ ∃ fd, FunD K d.name d.qual d.params d.body d.scope (d.dvs K) (d.kws K) (He.fAd K d.at_) fd := by
  have c2 := He.ba (List.all_eq_true.mp c.b2 d (List.mem_of_getElem? h))
  have e : fn.map (fun d => He.fnW K d.at_) = fn.map He.DefD.val := congrArg (fun z : He.AlD => z.2) c
  have e2 : (fn.map fun d => He.fnW K d.at_)[i]? = (fn.map He.DefD.val)[i]? := by rw [e]
  rw [List.getElem?_map, List.getElem?_map, h] at e2
  exact ⟨c2.1, He.DefD.funD (Option.some.inj e2) c2.2⟩
theorem SaysY.stand (c : SaysY ck fn K) (X : K.In h) (G : h.Ns mainGlobals mg) (i : Nat) (e : fn[i]? = some (mkD x st) := by rfl) : Stand K mg x st := by
  obtain ⟨g, fd, F⟩ := c.def_ i e
  exact ⟨_, fd, He5.fun_of F, PySem.W.mg_of X G (He.eqO_ok g)⟩
theorem SaysY.standD (c : SaysY ck fn K) (X : K.In h) (G : h.Ns mainGlobals mg) (i : Nat) {ds : List He.Dv} {dvs : List V} (e : fn[i]? = some (mkDd x st ds) := by rfl) (ed : ds.map (He.Dv.v K) = dvs := by rfl) : StandD K mg x st dvs := by
  obtain ⟨g, fd, F⟩ := c.def_ i e
  subst ed
  exact ⟨_, fd, F, PySem.W.mg_of X G (He.eqO_ok g)⟩
end
theorem walk_ofGE {l : PySem.W.OpenLaw} {n k : Nat} {q : Program} {loose : List Str} {XP : (Str → Option Value) → Heap → Prop} {YP : World → Heap → Prop} {d : DefRec} {x : Str}
    (hn : l.most = some n) (hn2 : n ≤ sizeLine) (hdf : d.params.defaults = []) (hr : Room k callerA)
    (F : ∀ (w : World) (mg : Str → Option Value) (fa : Addr) (h : Heap), YP w h → h.Ns mainGlobals mg → mg d.name = some (.ref fa) →
      ∃ (K : PySem.W.Frag) (fd : FuncData) (sp : Sp), K.In h ∧ (∀ (s : Shared) (u : Value), BindsTo s fd ⟨[u], []⟩ [(x, u)]) ∧
        (∀ (H : Hp) (a : Addr) (ns : List Int), ns.length ≤ n → Only H → SqL K H a (ns.map V.int) → sp [.ref a] H (fun v _ => v = .bl true) fun _ _ _ => False) ∧
        ∀ base : Heap, K.In base → base.Ns mainGlobals mg → FnG l.prog w K mg base k fa fd [x] sp) :
    PySem.W.WalkO q loose XP YP l.row.toRowW d [] (fun f vs => PySem.call f vs) := by
  refine Att.attach_call hn hdf fun w s0 s1 mg mb fa o pm cd doc a us ns G Y ho hd hcd hmg hobj hints hlen hg => ?_
  obtain ⟨K, fd, sp, KX, hb, hsp, hF⟩ := F w mg fa _ Y G.T.g hmg
  exact law_top KX G.T.g G.T.b G.T.builtins G.T.nolimit hg hobj hints (Nat.le_trans hlen hn2) hr hF hb fun H hO hS => hsp H a ns hlen hO hS
end Y
namespace K75
open PySem L2 Y

inductive Op where
  | add | sub | mul | div | rem | less | same | and | or
  deriving DecidableEq
def Op.s : Op → Str
  | .add => "add" | .sub => "sub" | .mul => "mul" | .div => "div" | .rem => "rem" | .less => "less" | .same => "same" | .and => "and" | .or => "or"
inductive Ex where
  | num (n : Int) | name (y : Bool) | me | all | cell (e : Ex) | neg (e : Ex) | not (e : Ex) | bin (o : Op) (e f : Ex)
  deriving DecidableEq
def Ex.toD : Ex → D
  | .num n => .tuple [.str "number", .int n]
  | .name y => .tuple [.str "name", .str (if y then "y" else "x")]
  | .me => .tuple [.str "me"]
  | .all => .tuple [.str "all"]
  | .cell e => .tuple [.str "cell", .str "a", e.toD]
  | .neg e => .tuple [.str "neg", e.toD]
  | .not e => .tuple [.str "not", e.toD]
  | .bin o e f => .tuple [.str o.s, e.toD, f.toD]
def Ex.head : Ex → Str
  | .num _ => "number" | .name _ => "name" | .me => "me" | .all => "all" | .cell _ => "cell" | .neg _ => "neg" | .not _ => "not" | .bin o _ _ => o.s
def Ex.args : Ex → List D
  | .num n => [.int n]
  | .name y => [.str (if y then "y" else "x")]
  | .me => []
  | .all => []
  | .cell e => [.str "a", e.toD]
  | .neg e => [e.toD]
  | .not e => [e.toD]
  | .bin _ e f => [e.toD, f.toD]
theorem Ex.toD_eq (e : Ex) : e.toD = .tuple (.str e.head :: e.args) := by cases e <;> rfl
def Ex.isNum : Ex → Bool
  | .num _ => true
  | _ => false
theorem Ex.isNum_eq (e : Ex) : decide (e.head = "number") = e.isNum := by
  cases e with
  | bin o e f => cases o <;> exact decide_eq_false (show ¬ ((_ : Str) = _) by dsimp only [Ex.head, Op.s]; decide +kernel)
  | num n => exact decide_eq_true rfl
  | _ => exact decide_eq_false (show ¬ ((_ : Str) = _) by dsimp only [Ex.head]; decide +kernel)
def Ex.depth : Ex → Nat
  | .cell e => e.depth + 1
  | .neg e => e.depth + 1
  | .not e => e.depth + 1
  | .bin _ e f => max e.depth f.depth + 1
  | _ => 1
/-- all numbers told are from 0 to 32767 (own), all are words (word) -/
def Ex.own : Ex → Prop
  | .num n => 0 ≤ n ∧ n ≤ 32767
  | .cell e => e.own
  | .neg e => e.own
  | .not e => e.own
  | .bin _ e f => e.own ∧ f.own
  | _ => True
def Ex.words : Ex → Prop
  | .num n => -32768 ≤ n ∧ n ≤ 32767
  | .cell e => e.words
  | .neg e => e.words
  | .not e => e.words
  | .bin _ e f => e.words ∧ f.words
  | _ => True
def wrap (n : Int) : Int := (n + 32768) % 65536 - 32768
/-- what an operation makes of two words -/
def reck (o : Op) (a b : Int) : Option Int := match o with
  | .add => some (wrap (a + b))
  | .sub => some (wrap (a - b))
  | .mul => some (wrap (a * b))
  | .div => if b = 0 then none else some (wrap (a.fdiv b))
  | .rem => if b = 0 then none else some (wrap (a.fmod b))
  | .less => some (if a < b then 1 else 0)
  | .same => some (if a = b then 1 else 0)
  | .and => some (if a ≠ 0 ∧ b ≠ 0 then 1 else 0)
  | .or => some (if a ≠ 0 ∨ b ≠ 0 then 1 else 0)
def negE : Ex → Ex
  | .num n => .num (wrap (0 - n))
  | .neg e => e
  | e => .neg e
def notE : Ex → Ex
  | .num n => .num (if n = 0 then 1 else 0)
  | e => .not e
def binE (o : Op) : Ex → Ex → Ex
  | .num a, .num b => match reck o a b with
    | some r => .num r
    | none => .bin o (.num a) (.num b)
  | e, f => .bin o e f
def nf : Ex → Ex
  | .cell e => .cell (nf e)
  | .neg e => negE (nf e)
  | .not e => notE (nf e)
  | .bin o e f => binE o (nf e) (nf f)
  | e => e
theorem wrap_word (n : Int) : -32768 ≤ wrap n ∧ wrap n ≤ 32767 := by unfold wrap; omega
theorem reck_word {o : Op} {a b r : Int} (h : reck o a b = some r) : -32768 ≤ r ∧ r ≤ 32767 := by
  unfold reck at h
  have w := wrap_word
  cases o <;> simp only [] at h
  · cases h; exact w _
  · cases h; exact w _
  · cases h; exact w _
  · split at h <;> cases h; exact w _
  · split at h <;> cases h; exact w _
  all_goals (cases h; split <;> decide)
theorem own_words : ∀ e : Ex, e.own → e.words
  | .num n, h => ⟨by have := h.1; omega, h.2⟩
  | .name _, _ => trivial
  | .me, _ => trivial
  | .all, _ => trivial
  | .cell e, h => own_words e h
  | .neg e, h => own_words e h
  | .not e, h => own_words e h
  | .bin _ e f, h => ⟨own_words e h.1, own_words f h.2⟩
theorem negE_words {e : Ex} (h : e.words) : (negE e).words := by
  cases e <;> first | exact wrap_word _ | exact h
theorem notE_words {e : Ex} (h : e.words) : (notE e).words := by
  cases e <;> first | exact h | skip
  show -32768 ≤ (if _ then (1 : Int) else 0) ∧ _
  split <;> decide
theorem binE_words {o : Op} {e f : Ex} (h : e.words) (k : f.words) : (binE o e f).words := by
  unfold binE
  split
  · rename_i a b
    cases q : reck o a b with
    | none => exact ⟨h, k⟩
    | some r => exact reck_word q
  · exact ⟨h, k⟩
theorem nf_words : ∀ e : Ex, e.words → (nf e).words
  | .num n, h => h
  | .name _, _ => trivial
  | .me, _ => trivial
  | .all, _ => trivial
  | .cell e, h => nf_words e h
  | .neg e, h => negE_words (nf_words e h)
  | .not e, h => notE_words (nf_words e h)
  | .bin _ e f, h => binE_words (nf_words e h.1) (nf_words f h.2)
theorem negE_depth {e : Ex} : (negE e).depth ≤ e.depth + 1 := by
  cases e <;> simp [negE, Ex.depth] <;> omega
theorem notE_depth {e : Ex} : (notE e).depth ≤ e.depth + 1 := by
  cases e <;> simp [notE, Ex.depth]
theorem binE_depth {o : Op} {e f : Ex} : (binE o e f).depth ≤ max e.depth f.depth + 1 := by
  unfold binE
  split
  · rename_i a b
    cases q : reck o a b <;> simp [Ex.depth]
  · simp [Ex.depth]
theorem nf_depth : ∀ e : Ex, (nf e).depth ≤ e.depth
  | .num n => Nat.le_refl _
  | .name _ => Nat.le_refl _
  | .me => Nat.le_refl _
  | .all => Nat.le_refl _
  | .cell e => Nat.succ_le_succ (nf_depth e)
  | .neg e => Nat.le_trans negE_depth (Nat.succ_le_succ (nf_depth e))
  | .not e => Nat.le_trans notE_depth (Nat.succ_le_succ (nf_depth e))
  | .bin _ e f => Nat.le_trans binE_depth (Nat.succ_le_succ (by have := nf_depth e; have := nf_depth f; omega))
/-- a normal form stays -/
def Nrm : Ex → Prop
  | .cell e => Nrm e
  | .neg e => Nrm e ∧ e.isNum = false ∧ (∀ g, e ≠ .neg g)
  | .not e => Nrm e ∧ e.isNum = false
  | .bin o e f => Nrm e ∧ Nrm f ∧ (∀ a b, e = .num a → f = .num b → reck o a b = none)
  | _ => True
theorem nf_of_nrm : ∀ e : Ex, Nrm e → nf e = e
  | .num n, _ => rfl
  | .name _, _ => rfl
  | .me, _ => rfl
  | .all, _ => rfl
  | .cell e, h => by show Ex.cell (nf e) = _; rw [nf_of_nrm e h]
  | .neg e, h => by
    show negE (nf e) = _
    rw [nf_of_nrm e h.1]
    have h2 := h.2.1
    have h3 := h.2.2
    cases e <;> first | rfl | (simp [Ex.isNum] at h2; done) | exact absurd rfl (h3 _)
  | .not e, h => by
    show notE (nf e) = _
    rw [nf_of_nrm e h.1]
    have h2 := h.2
    cases e <;> first | rfl | (simp [Ex.isNum] at h2; done)
  | .bin o e f, h => by
    show binE o (nf e) (nf f) = _
    rw [nf_of_nrm e h.1, nf_of_nrm f h.2.1]
    unfold binE
    split
    · rename_i a b
      rw [h.2.2 a b rfl rfl]
    · rfl
theorem negE_nrm {e : Ex} (h : Nrm e) : Nrm (negE e) := by
  cases e <;> first | trivial | exact h.1 | exact ⟨h, rfl, fun _ => nofun⟩
theorem notE_nrm {e : Ex} (h : Nrm e) : Nrm (notE e) := by
  cases e <;> first | trivial | exact ⟨h, rfl⟩
theorem binE_nrm {o : Op} {e f : Ex} (h : Nrm e) (k : Nrm f) : Nrm (binE o e f) := by
  unfold binE
  split
  · rename_i a b
    cases q : reck o a b with
    | none => exact ⟨h, k, fun a' b' h1 h2 => by cases h1; cases h2; exact q⟩
    | some r => trivial
  · rename_i hne
    exact ⟨h, k, fun a b h1 h2 => absurd h2 (hne a b h1)⟩
theorem nf_nrm : ∀ e : Ex, Nrm (nf e)
  | .num n => trivial
  | .name _ => trivial
  | .me => trivial
  | .all => trivial
  | .cell e => nf_nrm e
  | .neg e => negE_nrm (nf_nrm e)
  | .not e => notE_nrm (nf_nrm e)
  | .bin _ e f => binE_nrm (nf_nrm e) (nf_nrm f)
theorem nf_nf (e : Ex) : nf (nf e) = nf e := nf_of_nrm _ (nf_nrm e)
theorem wrap_eq (n : Int) : (n - -32768) % 65536 + -32768 = wrap n := by unfold wrap; omega
theorem depth_pos : ∀ e : Ex, 1 ≤ e.depth := fun e => by cases e <;> simp [Ex.depth]
/-! ### layers -/
def Ex.parts : Ex → List Ex
  | .cell e => [e]
  | .neg e => [e]
  | .not e => [e]
  | .bin _ e f => [e, f]
  | _ => []
def layer : Nat → Ex → List Ex
  | 0, e => [e]
  | k + 1, e => (layer k e).flatMap Ex.parts
theorem parts_own {e x : Ex} (h : e.own) (hx : x ∈ e.parts) : x.own := by
  cases e <;> simp [Ex.parts] at hx
  · subst hx; exact h
  · subst hx; exact h
  · subst hx; exact h
  · rcases hx with rfl | rfl
    · exact h.1
    · exact h.2
theorem parts_depth {e x : Ex} (hx : x ∈ e.parts) : x.depth + 1 ≤ e.depth := by
  cases e <;> simp [Ex.parts] at hx
  · subst hx; exact Nat.le_refl _
  · subst hx; exact Nat.le_refl _
  · subst hx; exact Nat.le_refl _
  · rcases hx with rfl | rfl <;> simp [Ex.depth] <;> omega
theorem layer_own {e : Ex} (h : e.own) : ∀ k x, x ∈ layer k e → x.own
  | 0, x, hx => by simp [layer] at hx; subst hx; exact h
  | k + 1, x, hx => by
    obtain ⟨y, hy, hx⟩ := List.mem_flatMap.mp hx
    exact parts_own (layer_own h k y hy) hx
theorem layer_depth {e : Ex} : ∀ k x, x ∈ layer k e → x.depth + k ≤ e.depth
  | 0, x, hx => by simp [layer] at hx; subst hx; exact Nat.le_refl _
  | k + 1, x, hx => by
    obtain ⟨y, hy, hx⟩ := List.mem_flatMap.mp hx
    have h1 := layer_depth k y hy
    have h2 := parts_depth hx
    omega
theorem parts_len (e : Ex) : e.parts.length ≤ 2 := by cases e <;> simp [Ex.parts]
theorem flat_parts_len : ∀ l : List Ex, (l.flatMap Ex.parts).length ≤ 2 * l.length
  | [] => by simp
  | a :: l => by
    have h1 := flat_parts_len l
    have h2 := parts_len a
    rw [List.flatMap_cons, List.length_append, List.length_cons]
    omega
theorem layer_len {e : Ex} : ∀ k, (layer k e).length ≤ 2 ^ k
  | 0 => by simp [layer]
  | k + 1 => by
    have h1 := layer_len (e := e) k
    have h2 := flat_parts_len (layer k e)
    show ((layer k e).flatMap Ex.parts).length ≤ _
    rw [Nat.pow_succ]
    omega
theorem layer_nil {e : Ex} (h : e.depth ≤ 5) : layer 5 e = [] := by
  cases q : layer 5 e with
  | nil => rfl
  | cons x l =>
    have h1 := layer_depth 5 x (by rw [q]; simp)
    have h2 := depth_pos x
    omega
theorem flat_enc (l : List Ex) : (l.flatMap fun x => x.parts.map fun y => Ex.toD y) = (l.flatMap Ex.parts).map Ex.toD := by
  induction l with
  | nil => rfl
  | cons a l ih => rw [List.flatMap_cons, List.flatMap_cons, List.map_append, ih]
theorem fm_true {α : Type} (l : List α) : (l.filterMap fun _ => some (PyData.bool true)) = (l.map fun _ => true).map PyData.bool := by
  induction l with
  | nil => rfl
  | cons a l ih => simp only [List.map_cons, List.filterMap_cons, ih]
theorem all_true {α : Type} (l : List α) : (l.map fun _ => true).all id = true := by simp
theorem rl_allT {K : PySem.W.Frag} {α : Type} (l : List α) : RL K (rAll K) [.list (l.filterMap fun _ => some (PyData.bool true))] (.bool true) := by
  have h := rl_all (K := K) (bs := l.map fun _ => true)
  rw [← fm_true, all_true] at h
  exact h
/-! ### forms as data -/
theorem depth_toD : ∀ e : Ex, PyData.depth e.toD = e.depth
  | .num n => by simp [Ex.toD, PyData.depth, PyData.depthAll, Ex.depth]
  | .name _ => by simp [Ex.toD, PyData.depth, PyData.depthAll, Ex.depth]
  | .me => by simp [Ex.toD, PyData.depth, PyData.depthAll, Ex.depth]
  | .all => by simp [Ex.toD, PyData.depth, PyData.depthAll, Ex.depth]
  | .cell e => by simp [Ex.toD, PyData.depth, PyData.depthAll, Ex.depth, depth_toD e]
  | .neg e => by simp [Ex.toD, PyData.depth, PyData.depthAll, Ex.depth, depth_toD e]
  | .not e => by simp [Ex.toD, PyData.depth, PyData.depthAll, Ex.depth, depth_toD e]
  | .bin o e f => by simp [Ex.toD, PyData.depth, PyData.depthAll, Ex.depth, depth_toD e, depth_toD f]
theorem op_ok (o : Op) : PyData.canLay0 (.str o.s) = true := by cases o <;> decide +kernel
theorem lay_toD : ∀ e : Ex, PyData.canLay0 e.toD = true
  | .num n => by simp only [Ex.toD, PyData.canLay0, PyData.canLayAll0]; decide +kernel
  | .name b => by cases b <;> decide +kernel
  | .me => by decide +kernel
  | .all => by decide +kernel
  | .cell e => by
    have h := lay_toD e
    simp only [Ex.toD, PyData.canLay0, PyData.canLayAll0] at h ⊢
    rw [h]
    decide +kernel
  | .neg e => by
    have h := lay_toD e
    simp only [Ex.toD, PyData.canLay0, PyData.canLayAll0] at h ⊢
    rw [h]
    decide +kernel
  | .not e => by
    have h := lay_toD e
    simp only [Ex.toD, PyData.canLay0, PyData.canLayAll0] at h ⊢
    rw [h]
    decide +kernel
  | .bin o e f => by
    have h := lay_toD e
    have k := lay_toD f
    have q := op_ok o
    simp only [Ex.toD, PyData.canLay0, PyData.canLayAll0] at h k q ⊢
    rw [h, k, q]
    decide +kernel
theorem shaped_toD {e : Ex} (h : e.depth ≤ 64) : SeqAt.shaped e.toD = true := by
  unfold SeqAt.shaped
  rw [lay_toD, depth_toD, decide_eq_true h] <;> rfl
/-- those that are no numbers -/
def odd (x : Ex) : Option D := if x.isNum then none else some x.toD
theorem odd_empty : ∀ l : List Ex, PyData.eqv (.list (l.filterMap odd)) (.list []) = l.all Ex.isNum
  | [] => rfl
  | x :: l => by
    have ih := odd_empty l
    cases h : x.isNum with
    | true =>
      have e : odd x = none := by unfold odd; rw [h] <;> rfl
      rw [List.filterMap_cons, e, List.all_cons, h, Bool.true_and]
      exact ih
    | false =>
      have e : odd x = some x.toD := by unfold odd; rw [h] <;> rfl
      rw [List.filterMap_cons, e, List.all_cons, h]
      rfl
theorem odd_shaped : ∀ l : List Ex, (∀ x ∈ l, x.depth ≤ 60) → PyData.canLayAll0 (l.filterMap odd) = true ∧ PyData.depthAll (l.filterMap odd) ≤ 60
  | [], _ => ⟨rfl, by decide⟩
  | x :: l, hx => by
    have ih := odd_shaped l fun y hy => hx y (List.mem_cons_of_mem _ hy)
    have h1 := hx x (List.mem_cons_self ..)
    cases h : x.isNum with
    | true =>
      have e : odd x = none := by unfold odd; rw [h] <;> rfl
      rw [List.filterMap_cons, e]
      exact ih
    | false =>
      have e : odd x = some x.toD := by unfold odd; rw [h] <;> rfl
      rw [List.filterMap_cons, e]
      simp only [PyData.canLayAll0, PyData.depthAll, lay_toD, depth_toD, ih.1, Bool.true_and]
      exact ⟨trivial, by have := ih.2; omega⟩
theorem odd_list {l : List Ex} (h : ∀ x ∈ l, x.depth ≤ 60) : SeqAt.shaped (.list (l.filterMap odd)) = true := by
  obtain ⟨h1, h2⟩ := odd_shaped l h
  unfold SeqAt.shaped
  simp only [PyData.canLay0, PyData.depth, h1, Bool.true_and]
  exact decide_eq_true (by omega)
theorem fm_some {α β : Type} (f : α → β) (l : List α) : (l.filterMap fun x => some (f x)) = l.map f := by
  induction l with
  | nil => rfl
  | cons a l ih => simp only [List.map_cons, List.filterMap_cons, ih]
theorem ix_head (e : Ex) : IxD e.toD 0 (.str e.head) := by
  rw [e.toD_eq]
  exact .tup (at0 _ _)
theorem isNum_of {e : Ex} (h : e.isNum = true) : ∃ n, e = .num n := by
  cases e <;> first | exact ⟨_, rfl⟩ | cases h
theorem neg_head {e : Ex} : decide (e.head = "neg") = (match e with | .neg _ => true | _ => false) := by
  cases e with
  | bin o e f => cases o <;> exact decide_eq_false (show ¬ ((_ : Str) = _) by dsimp only [Ex.head, Op.s]; decide +kernel)
  | neg e => exact decide_eq_true rfl
  | _ => exact decide_eq_false (show ¬ ((_ : Str) = _) by dsimp only [Ex.head]; decide +kernel)
end K75
namespace K75
open PySem L2 Y
def topS (i : Nat) : Stmt := PySem.Challenge.pw_stepcrowds_k75_whole_normal_forms.main.body.getD i (.Pass ⟨0, 0, 0, 0⟩)
abbrev txts (l : List String) : List D := l.map fun x => PyData.str (Str.ofString x)
/-- what the module's names hold -/
structure Top (K : PySem.W.Frag) (mg : Str → Option Value) : Prop where
  isi : mg "isinstance" = none
  len : mg "len" = none
  all : mg "all" = none
  int : mg "int" = none
  bool : mg "bool" = none
  str : mg "str" = none
  tuple : mg "tuple" = none
  range : mg "range" = none
  divmod : mg "divmod" = none
  repr : mg "repr" = none
  least : GlobD K mg "LEAST_WORD" (.int (-32768))
  most : GlobD K mg "MOST_WORD" (.int 32767)
  letters : GlobD K mg "MOST_LETTERS" (.int 8)
  abc : GlobD K mg "LETTERS" (.str "abcdefghijklmnopqrstuvwxyz")
  round : GlobD K mg "ROUND" (.int 65536)
  deep : GlobD K mg "MOST_DEEP" (.int 5)
  reserved : GlobD K mg "RESERVED" (.tuple (txts ["all", "and", "crowd", "deed", "do", "else", "fence", "give", "if", "let", "me", "most", "next", "not", "or", "out", "say", "share", "stop", "while"]))
  ops : GlobD K mg "OPS" (.tuple (txts ["add", "sub", "mul", "div", "rem", "less", "same", "and", "or"]))
  divisions : GlobD K mg "DIVISIONS" (.tuple (txts ["div", "rem"]))
  plain : GlobD K mg "PLAIN" (.tuple (txts ["me", "all"]))
  single : GlobD K mg "SINGLE" (.tuple (txts ["neg", "not"]))
theorem bI : bootBuiltins ("int" : Str) = some (.type "int") := by decide +kernel
theorem bB : bootBuiltins ("bool" : Str) = some (.type "bool") := by decide +kernel
theorem bT : bootBuiltins ("tuple" : Str) = some (.type "tuple") := by decide +kernel
theorem bS : bootBuiltins ("str" : Str) = some (.type "str") := by decide +kernel
theorem bAll : bootBuiltins ("all" : Str) = some (.builtin "all") := by decide +kernel
theorem kII : kitB "int" "int" = some true := by decide +kernel
theorem kIB : kitB "int" "bool" = some false := by decide +kernel
theorem kTT : kitB "tuple" "tuple" = some true := by decide +kernel
theorem kSS : kitB "str" "str" = some true := by decide +kernel
section
variable {P : Program} {w : World} {K : PySem.W.Frag} {mg : Str → Option Value} {base : Heap}
abbrev s_is_whole : Stmt := topS 9
theorem sc_is_whole : FnScope ["value"] ["value"] (defScope s_is_whole) := ⟨rfl, rfl, rfl, by decide +kernel, rfl, by decide +kernel, by decide +kernel⟩
def R_is_whole (ds : List D) (d : D) : Prop := ∃ n : Int, ds = [.int n] ∧ d = .bool true
theorem f_is_whole (T : Top K mg) (Z : Stand K mg "is_whole" s_is_whole) : FnD P w K mg base (1) "is_whole" ["value"] R_is_whole := by
  refine fnD (N := ["value"]) Z sc_is_whole (fun _ _ _ _ _ _ us hl => match us, hl with | [_], _ => rfl) (fun ds d h => by obtain ⟨n, rfl, rfl⟩ := h; rfl) fun f cdv A outer s H E hr ds d h => ?_
  obtain ⟨n, rfl, rfl⟩ := h
  exact rt_ (jb_rt (js_ret (j_andT (j_isi T.isi (j_var 0 rfl) T.int bI kII) (j_one (j_not (c := false) (j_isi T.isi (j_var 0 rfl) T.bool bB kIB))))))

abbrev s_is_number : Stmt := topS 10
theorem sc_is_number : FnScope ["value", "low", "high"] ["value", "low", "high"] (defScope s_is_number) := ⟨rfl, rfl, rfl, by decide +kernel, rfl, by decide +kernel, by decide +kernel⟩
def R_is_number (ds : List D) (d : D) : Prop := ∃ n lo hi : Int, ds = [.int n, .int lo, .int hi] ∧ lo ≤ n ∧ n ≤ hi ∧ d = .bool true
theorem f_is_number (T : Top K mg) (Z : StandD K mg "is_number" s_is_number [V.non]) (F_is_whole : FnD P w K mg base 1 "is_whole" ["value"] R_is_whole) : FnD P w K mg base (2) "is_number" ["value", "low", "high"] R_is_number := by
  refine fnDD (N := ["value", "low", "high"]) Z sc_is_number (by simp) (fun _ _ _ _ _ _ _ us its hl hi => match us, hl, its, hi with | [_, _, _], _, [_], _ => ⟨_, rfl, rfl⟩) (fun ds d h => by obtain ⟨n, lo, hi, rfl, h1, h2, rfl⟩ := h; rfl) fun f cdv A outer s H E hr ds d h => ?_
  obtain ⟨n, lo, hi, rfl, h1, h2, rfl⟩ := h
  exact rt_ (jb_rt (js_ret (j_andT (j_call F_is_whole hr (ja_cons (j_var 0 rfl) ja_nil) ⟨n, rfl, rfl⟩)
    (j_andT (j_cmp op_le (j_var 1 rfl) (j_var 0 rfl) (rb_cmp (decide_eq_true h1))) (j_one (j_orF (j_cmp op_isN (j_var 2 rfl) j_non rb_isN) (j_one (j_cmp op_le (j_var 0 rfl) (j_var 2 rfl) (rb_cmp (decide_eq_true h2))))))))))

abbrev s_is_tuple_of : Stmt := topS 11
theorem sc_is_tuple_of : FnScope ["value", "many"] ["value", "many"] (defScope s_is_tuple_of) := ⟨rfl, rfl, rfl, by decide +kernel, rfl, by decide +kernel, by decide +kernel⟩
def R_is_tuple_of (ds : List D) (d : D) : Prop := ∃ (xs : List D) (n : Int), ds = [.tuple xs, .int n] ∧ d = .bool (decide ((xs.length : Int) = n))
theorem f_is_tuple_of (T : Top K mg) (Z : Stand K mg "is_tuple_of" s_is_tuple_of) : FnD P w K mg base (1) "is_tuple_of" ["value", "many"] R_is_tuple_of := by
  refine fnD (N := ["value", "many"]) Z sc_is_tuple_of (fun _ _ _ _ _ _ us hl => match us, hl with | [_, _], _ => rfl) (fun ds d h => by obtain ⟨xs, n, rfl, rfl⟩ := h; rfl) fun f cdv A outer s H E hr ds d h => ?_
  obtain ⟨xs, n, rfl, rfl⟩ := h
  exact rt_ (jb_rt (js_ret (j_andT (j_isi T.isi (j_var 0 rfl) T.tuple bT kTT) (j_one (j_cmp op_eq (j_callB call_len T.len PySem.boot_len (ja_cons (j_var 0 rfl) ja_nil) (rl_len (.tup _))) (j_var 1 rfl) rb_eqI)))))

abbrev s_is_text_of : Stmt := topS 12
theorem sc_is_text_of : FnScope ["value", "signs", "sign"] ["value", "signs"] (defScope s_is_text_of) := ⟨rfl, rfl, rfl, by decide +kernel, rfl, by decide +kernel, by decide +kernel⟩
def R_is_text_of (ds : List D) (d : D) : Prop := ∃ z s : Str, ds = [.str z, .str s] ∧ z ≠ "" ∧ z.length ≤ 1000 ∧ (∀ c ∈ z.cps.toList, c ∈ s.cps.toList) ∧ d = .bool true
theorem f_is_text_of (T : Top K mg) (Z : Stand K mg "is_text_of" s_is_text_of) : FnD P w K mg base (1) "is_text_of" ["value", "signs"] R_is_text_of := by
  refine fnD (N := ["value", "signs", "sign"]) Z sc_is_text_of (fun _ _ _ _ _ _ us hl => match us, hl with | [_, _], _ => rfl) (fun ds d h => by obtain ⟨z, s, rfl, h1, h2, h3, rfl⟩ := h; rfl) fun f cdv A outer s H E hr ds d h => ?_
  obtain ⟨z, s, rfl, h1, h2, h3, rfl⟩ := h
  exact rt_ (jb_rt (js_ret (j_andT (j_isi T.isi (j_var 0 rfl) T.str bS kSS) (j_andT (j_cmp op_ne (j_var 0 rfl) j_str (rb_neT (by rw [decide_eq_false h1] <;> rfl)))
    (j_one (j_callB (cr_all rfl) T.all bAll (ja_cons (j_lc 2 rfl sc_is_text_of.nd (show blkC ["value", "signs", "sign"] (defScope s_is_text_of) _ _ = true from by decide +kernel) (fun _ _ _ _ _ => pg_name sc_is_text_of.nd rfl (Or.inl rfl)) (ji_str (j_var 0 rfl)) (fun _ => some (.bool true))
      (by simpa [Str.length] using Nat.le_trans h2 (by decide)) (fun c hc s H C cl fp => ⟨jts_nil, fun y hy => by
        cases hy
        exact j_cmp op_in_sign (j_var 2 rfl) (j_var 1 rfl) (rb_inSign (decide_eq_true (h3 c hc)))⟩)) ja_nil) (rl_allT _)))))))

abbrev s_is_plain_name : Stmt := topS 13
theorem sc_is_plain_name : FnScope ["value"] ["value"] (defScope s_is_plain_name) := ⟨rfl, rfl, rfl, by decide +kernel, rfl, by decide +kernel, by decide +kernel⟩
def R_is_plain_name (ds : List D) (d : D) : Prop := ∃ z : Str, ds = [.str z] ∧ (z = "a" ∨ z = "x" ∨ z = "y") ∧ d = .bool true
theorem f_is_plain_name (T : Top K mg) (Z : Stand K mg "is_plain_name" s_is_plain_name) (F_is_text_of : FnD P w K mg base 1 "is_text_of" ["value", "signs"] R_is_text_of) : FnD P w K mg base (2) "is_plain_name" ["value"] R_is_plain_name := by
  refine fnD (N := ["value"]) Z sc_is_plain_name (fun _ _ _ _ _ _ us hl => match us, hl with | [_], _ => rfl) (fun ds d h => by obtain ⟨z, rfl, h1, rfl⟩ := h; rfl) fun f cdv A outer s H E hr ds d h => ?_
  obtain ⟨z, rfl, h1, rfl⟩ := h
  have h2 : z ≠ "" ∧ z.length ≤ 1000 ∧ (∀ c ∈ z.cps.toList, c ∈ ("abcdefghijklmnopqrstuvwxyz" : Str).cps.toList) ∧ z.length = 1 ∧ (!(txts ["all", "and", "crowd", "deed", "do", "else", "fence", "give", "if", "let", "me", "most", "next", "not", "or", "out", "say", "share", "stop", "while"]).any fun y => PyData.eqv y (.str z)) = true := by
    rcases h1 with rfl | rfl | rfl <;> decide +kernel
  exact rt_ (jb_rt (js_ret (j_andT (j_call F_is_text_of hr (ja_cons (j_var 0 rfl) (ja_cons (j_glob T.abc) ja_nil)) ⟨z, _, rfl, h2.1, h2.2.1, h2.2.2.1, rfl⟩)
    (j_andT (j_cmp op_le (j_callB call_len T.len PySem.boot_len (ja_cons (j_var 0 rfl) ja_nil) (rl_len (.str (by have := h2.2.2.2.1; exact le_line (by omega))))) (j_glob T.letters) (rb_cmp (by rw [h2.2.2.2.1] <;> rfl)))
      (j_one (j_cmp op_notIn_seq (j_var 0 rfl) (j_glob T.reserved) (rb_notInB h2.2.2.2.2)))))))

abbrev s_wrap : Stmt := topS 18
theorem sc_wrap : FnScope ["number"] ["number"] (defScope s_wrap) := ⟨rfl, rfl, rfl, by decide +kernel, rfl, by decide +kernel, by decide +kernel⟩
def R_wrap (ds : List D) (d : D) : Prop := ∃ n : Int, ds = [.int n] ∧ d = .int (wrap n)
theorem f_wrap (T : Top K mg) (Z : Stand K mg "wrap" s_wrap) : FnD P w K mg base (1) "wrap" ["number"] R_wrap := by
  refine fnD (N := ["number"]) Z sc_wrap (fun _ _ _ _ _ _ us hl => match us, hl with | [_], _ => rfl) (fun ds d h => by obtain ⟨n, rfl, rfl⟩ := h; rfl) fun f cdv A outer s H E hr ds d h => ?_
  obtain ⟨n, rfl, rfl⟩ := h
  have h := wrap_eq n
  refine rt_ (jb_rt (js_ret ?_))
  rw [← h]
  exact j_bin op_add (j_bin op_mod (j_bin op_sub (j_var 0 rfl) (j_glob T.least) rb_int) (j_glob T.round) (rb_intC (by decide))) (j_glob T.least) rb_int

abbrev s_numbered : Stmt := topS 19
theorem sc_numbered : FnScope ["op", "one", "two"] ["op", "one", "two"] (defScope s_numbered) := ⟨rfl, rfl, rfl, by decide +kernel, rfl, by decide +kernel, by decide +kernel⟩
def R_numbered (ds : List D) (d : D) : Prop := ∃ (o : Op) (a b c : Int), ds = [.str o.s, .int a, .int b] ∧ (-32768 ≤ a ∧ a ≤ 32767) ∧ (-32768 ≤ b ∧ b ≤ 32767) ∧ (match o with | .add => c = a + b | .sub => c = a - b | .mul => c = a * b | .div => b ≠ 0 ∧ c = a.fdiv b | .rem => b ≠ 0 ∧ c = a.fmod b | _ => False) ∧ d = .int c
theorem f_numbered (T : Top K mg) (Z : Stand K mg "numbered" s_numbered) : FnD P w K mg base (1) "numbered" ["op", "one", "two"] R_numbered := by
  refine fnD (N := ["op", "one", "two"]) Z sc_numbered (fun _ _ _ _ _ _ us hl => match us, hl with | [_, _, _], _ => rfl) (fun ds d h => by obtain ⟨o, a, b, c, rfl, ha, hb, hc, rfl⟩ := h; rfl) fun f cdv A outer s H E hr ds d h => ?_
  obtain ⟨o, a, b, c, rfl, ha, hb, hc, rfl⟩ := h
  cases o with
  | add => subst hc; exact rt_ (jb_rt (js_ifT (jt_cmp op_eq (j_var 0 rfl) j_str rb_eqT) (jb_rt (js_ret (j_bin op_add (j_var 1 rfl) (j_var 2 rfl) rb_int)))))
  | sub => subst hc; exact rt_ (jb_cons (js_ifF (jt_cmp op_eq (j_var 0 rfl) j_str rb_eqT) jb_nil) (jb_rt (js_ifT (jt_cmp op_eq (j_var 0 rfl) j_str rb_eqT) (jb_rt (js_ret (j_bin op_sub (j_var 1 rfl) (j_var 2 rfl) rb_int))))))
  | mul => subst hc; exact rt_ (jb_cons (js_ifF (jt_cmp op_eq (j_var 0 rfl) j_str rb_eqT) jb_nil) (jb_cons (js_ifF (jt_cmp op_eq (j_var 0 rfl) j_str rb_eqT) jb_nil) (jb_rt (js_ifT (jt_cmp op_eq (j_var 0 rfl) j_str rb_eqT) (jb_rt (js_ret (j_bin op_mul (j_var 1 rfl) (j_var 2 rfl) (rb_intC (.inl ⟨by omega, by omega⟩)))))))))
  | div => obtain ⟨h0, rfl⟩ := hc; exact rt_ (jb_cons (js_ifF (jt_cmp op_eq (j_var 0 rfl) j_str rb_eqT) jb_nil) (jb_cons (js_ifF (jt_cmp op_eq (j_var 0 rfl) j_str rb_eqT) jb_nil) (jb_cons (js_ifF (jt_cmp op_eq (j_var 0 rfl) j_str rb_eqT) jb_nil) (jb_rt (js_ret (j_ifT (jt_cmp op_eq (j_var 0 rfl) j_str rb_eqT) (j_bin op_fdivN (j_var 1 rfl) (j_var 2 rfl) (rb_intC ⟨h0, by omega⟩))))))))
  | rem => obtain ⟨h0, rfl⟩ := hc; exact rt_ (jb_cons (js_ifF (jt_cmp op_eq (j_var 0 rfl) j_str rb_eqT) jb_nil) (jb_cons (js_ifF (jt_cmp op_eq (j_var 0 rfl) j_str rb_eqT) jb_nil) (jb_cons (js_ifF (jt_cmp op_eq (j_var 0 rfl) j_str rb_eqT) jb_nil) (jb_rt (js_ret (j_ifF (jt_cmp op_eq (j_var 0 rfl) j_str rb_eqT) (j_bin op_modN (j_var 1 rfl) (j_var 2 rfl) (rb_intC h0))))))))
  | _ => exact hc.elim

abbrev s_truth_of : Stmt := topS 20
theorem sc_truth_of : FnScope ["op", "one", "two"] ["op", "one", "two"] (defScope s_truth_of) := ⟨rfl, rfl, rfl, by decide +kernel, rfl, by decide +kernel, by decide +kernel⟩
def R_truth_of (ds : List D) (d : D) : Prop := ∃ (o : Op) (a b : Int) (c : Bool), ds = [.str o.s, .int a, .int b] ∧ (match o with | .less => c = decide (a < b) | .same => c = decide (a = b) | .and => c = (!decide (a = 0) && !decide (b = 0)) | .or => c = (!decide (a = 0) || !decide (b = 0)) | _ => False) ∧ d = .bool c
theorem f_truth_of (T : Top K mg) (Z : Stand K mg "truth_of" s_truth_of) : FnD P w K mg base (1) "truth_of" ["op", "one", "two"] R_truth_of := by
  refine fnD (N := ["op", "one", "two"]) Z sc_truth_of (fun _ _ _ _ _ _ us hl => match us, hl with | [_, _, _], _ => rfl) (fun ds d h => by obtain ⟨o, a, b, c, rfl, hc, rfl⟩ := h; rfl) fun f cdv A outer s H E hr ds d h => ?_
  obtain ⟨o, a, b, c, rfl, hc, rfl⟩ := h
  cases o with
  | less => subst hc; exact rt_ (jb_rt (js_ifT (jt_cmp op_eq (j_var 0 rfl) j_str rb_eqT) (jb_rt (js_ret (j_cmp op_lt (j_var 1 rfl) (j_var 2 rfl) (rb_cmp rfl))))))
  | same => subst hc; exact rt_ (jb_cons (js_ifF (jt_cmp op_eq (j_var 0 rfl) j_str rb_eqT) jb_nil) (jb_rt (js_ifT (jt_cmp op_eq (j_var 0 rfl) j_str rb_eqT) (jb_rt (js_ret (j_cmp op_eq (j_var 1 rfl) (j_var 2 rfl) rb_eqI))))))
  | and =>
    subst hc
    refine rt_ (jb_cons (js_ifF (jt_cmp op_eq (j_var 0 rfl) j_str rb_eqT) jb_nil) (jb_cons (js_ifF (jt_cmp op_eq (j_var 0 rfl) j_str rb_eqT) jb_nil) (jb_rt (js_ret (j_ifT (jt_cmp op_eq (j_var 0 rfl) j_str rb_eqT) ?_)))))
    by_cases h : a = 0
    · rw [decide_eq_true h]
      exact j_andF (j_cmp op_ne (j_var 1 rfl) j_int (rb_neN (by rw [decide_eq_true h] <;> rfl)))
    · rw [decide_eq_false h, Bool.not_false, Bool.true_and]
      exact j_andT (j_cmp op_ne (j_var 1 rfl) j_int (rb_neN (by rw [decide_eq_false h] <;> rfl))) (j_one (j_cmp op_ne (j_var 2 rfl) j_int rb_neI))
  | or =>
    subst hc
    refine rt_ (jb_cons (js_ifF (jt_cmp op_eq (j_var 0 rfl) j_str rb_eqT) jb_nil) (jb_cons (js_ifF (jt_cmp op_eq (j_var 0 rfl) j_str rb_eqT) jb_nil) (jb_rt (js_ret (j_ifF (jt_cmp op_eq (j_var 0 rfl) j_str rb_eqT) ?_)))))
    by_cases h : a = 0
    · rw [decide_eq_true h, Bool.not_true, Bool.false_or]
      exact j_orF (j_cmp op_ne (j_var 1 rfl) j_int (rb_neN (by rw [decide_eq_true h] <;> rfl))) (j_one (j_cmp op_ne (j_var 2 rfl) j_int rb_neI))
    · rw [decide_eq_false h, Bool.not_false, Bool.true_or]
      exact j_orT (j_cmp op_ne (j_var 1 rfl) j_int (rb_neN (by rw [decide_eq_false h] <;> rfl)))
  | _ => exact hc.elim

abbrev s_reckon : Stmt := topS 21
theorem sc_reckon : FnScope ["op", "one", "two"] ["op", "one", "two"] (defScope s_reckon) := ⟨rfl, rfl, rfl, by decide +kernel, rfl, by decide +kernel, by decide +kernel⟩
def R_reckon (ds : List D) (d : D) : Prop := ∃ (o : Op) (a b : Int), ds = [.str o.s, .int a, .int b] ∧ (-32768 ≤ a ∧ a ≤ 32767) ∧ (-32768 ≤ b ∧ b ≤ 32767) ∧ d = (match reck o a b with | some r => .int r | none => .none)
theorem f_reckon (T : Top K mg) (Z : Stand K mg "reckon" s_reckon) (F_numbered : FnD P w K mg base 1 "numbered" ["op", "one", "two"] R_numbered) (F_truth_of : FnD P w K mg base 1 "truth_of" ["op", "one", "two"] R_truth_of) (F_wrap : FnD P w K mg base 1 "wrap" ["number"] R_wrap) : FnD P w K mg base (2) "reckon" ["op", "one", "two"] R_reckon := by
  refine fnD (N := ["op", "one", "two"]) Z sc_reckon (fun _ _ _ _ _ _ us hl => match us, hl with | [_, _, _], _ => rfl) (fun ds d h => by obtain ⟨o, a, b, rfl, ha, hb, rfl⟩ := h; rfl) fun f cdv A outer s H E hr ds d h => ?_
  obtain ⟨o, a, b, rfl, ha, hb, rfl⟩ := h
  have truth : ∀ (o : Op) (c : Bool), ((["less", "same", "and", "or"] : List String).any fun y => decide (o.s = Str.ofString y)) = true → R_truth_of [.str o.s, .int a, .int b] (.bool c) →
      ∃ r : Res, r.back (.int (if c then 1 else 0)) ∧ JB (bx P w K mg base ["op", "one", "two"] "reckon" s_reckon f cdv A outer s H E) (defBody s_reckon) (startL 3 [.str o.s, .int a, .int b]) r := fun o c h hR =>
    rt_ (jb_rt (js_ifT (jt_cmp op_in_seq (j_var 0 rfl) (j_tup (ja_cons j_str (ja_cons j_str (ja_cons j_str (ja_cons j_str ja_nil))))) (rb_inB (by revert h; cases o <;> decide +kernel)))
      (jb_rt (js_ret (j_callTy call_int1 T.int bI (ja_cons (j_call F_truth_of hr (ja_cons (j_var 0 rfl) (ja_cons (j_var 1 rfl) (ja_cons (j_var 2 rfl) ja_nil))) hR) ja_nil) rl_intB)))))
  have num : ∀ (o : Op) (c : Int), ((["less", "same", "and", "or"] : List String).any fun y => decide (o.s = Str.ofString y)) = false → (b ≠ 0 ∨ ((["div", "rem"] : List String).any fun y => decide (o.s = Str.ofString y)) = false) → R_numbered [.str o.s, .int a, .int b] (.int c) →
      ∃ r : Res, r.back (.int (wrap c)) ∧ JB (bx P w K mg base ["op", "one", "two"] "reckon" s_reckon f cdv A outer s H E) (defBody s_reckon) (startL 3 [.str o.s, .int a, .int b]) r := fun o c h h2 hR => by
    refine rt_ (jb_cons (js_ifF (jt_cmp op_in_seq (j_var 0 rfl) (j_tup (ja_cons j_str (ja_cons j_str (ja_cons j_str (ja_cons j_str ja_nil))))) (rb_inB (by revert h; cases o <;> decide +kernel))) jb_nil) (jb_rt (js_ret (j_ifT ?_ (j_call F_wrap hr (ja_cons (j_call F_numbered hr (ja_cons (j_var 0 rfl) (ja_cons (j_var 1 rfl) (ja_cons (j_var 2 rfl) ja_nil))) hR) ja_nil) ⟨c, rfl, rfl⟩)))))
    by_cases h0 : b = 0
    · rcases h2 with h2 | h2
      · exact absurd h0 h2
      · exact jt_w (jw_orF (jt_cmp op_ne (j_var 2 rfl) j_int (rb_neN (by rw [decide_eq_true h0] <;> rfl))) (jw_or1 (jt_cmp op_notIn_seq (j_var 0 rfl) (j_glob T.divisions) (rb_notInB (by revert h2; cases o <;> decide +kernel)))))
    · exact jt_w (jw_orT (jt_cmp op_ne (j_var 2 rfl) j_int (rb_neN (by rw [decide_eq_false h0] <;> rfl))))
  have nought : ∀ (o : Op), b = 0 → ((["div", "rem"] : List String).any fun y => decide (o.s = Str.ofString y)) = true →
      ∃ r : Res, r.back .none ∧ JB (bx P w K mg base ["op", "one", "two"] "reckon" s_reckon f cdv A outer s H E) (defBody s_reckon) (startL 3 [.str o.s, .int a, .int b]) r := fun o h0 h2 =>
    rt_ (jb_cons (js_ifF (jt_cmp op_in_seq (j_var 0 rfl) (j_tup (ja_cons j_str (ja_cons j_str (ja_cons j_str (ja_cons j_str ja_nil))))) (rb_inB (by revert h2; cases o <;> decide +kernel))) jb_nil) (jb_rt (js_ret (j_ifF
      (jt_w (jw_orF (jt_cmp op_ne (j_var 2 rfl) j_int (rb_neN (by rw [decide_eq_true h0] <;> rfl))) (jw_or1 (jt_cmp op_notIn_seq (j_var 0 rfl) (j_glob T.divisions) (rb_notInB (by revert h2; cases o <;> decide +kernel)))))) j_non))))
  cases o with
  | add => exact num .add _ (by decide +kernel) (.inr (by decide +kernel)) ⟨.add, a, b, _, rfl, ha, hb, rfl, rfl⟩
  | sub => exact num .sub _ (by decide +kernel) (.inr (by decide +kernel)) ⟨.sub, a, b, _, rfl, ha, hb, rfl, rfl⟩
  | mul => exact num .mul _ (by decide +kernel) (.inr (by decide +kernel)) ⟨.mul, a, b, _, rfl, ha, hb, rfl, rfl⟩
  | div =>
    by_cases h0 : b = 0
    · have e : reck .div a b = none := if_pos h0
      rw [e]
      exact nought .div h0 (by decide +kernel)
    · have e : reck .div a b = some (wrap (a.fdiv b)) := if_neg h0
      rw [e]
      exact num .div _ (by decide +kernel) (.inl h0) ⟨.div, a, b, _, rfl, ha, hb, ⟨h0, rfl⟩, rfl⟩
  | rem =>
    by_cases h0 : b = 0
    · have e : reck .rem a b = none := if_pos h0
      rw [e]
      exact nought .rem h0 (by decide +kernel)
    · have e : reck .rem a b = some (wrap (a.fmod b)) := if_neg h0
      rw [e]
      exact num .rem _ (by decide +kernel) (.inl h0) ⟨.rem, a, b, _, rfl, ha, hb, ⟨h0, rfl⟩, rfl⟩
  | less =>
    have e : (if a < b then (1 : Int) else 0) = if decide (a < b) then 1 else 0 := by by_cases h : a < b <;> simp [h]
    show ∃ r : Res, r.back (.int (if a < b then (1 : Int) else 0)) ∧ _
    rw [e]
    exact truth .less _ (by decide +kernel) ⟨.less, a, b, _, rfl, rfl, rfl⟩
  | same =>
    have e : (if a = b then (1 : Int) else 0) = if decide (a = b) then 1 else 0 := by by_cases h : a = b <;> simp [h]
    show ∃ r : Res, r.back (.int (if a = b then (1 : Int) else 0)) ∧ _
    rw [e]
    exact truth .same _ (by decide +kernel) ⟨.same, a, b, _, rfl, rfl, rfl⟩
  | and =>
    have e : (if a ≠ 0 ∧ b ≠ 0 then (1 : Int) else 0) = if (!decide (a = 0) && !decide (b = 0)) then 1 else 0 := by by_cases h : a = 0 <;> by_cases h' : b = 0 <;> simp [h, h']
    show ∃ r : Res, r.back (.int (if a ≠ 0 ∧ b ≠ 0 then (1 : Int) else 0)) ∧ _
    rw [e]
    exact truth .and _ (by decide +kernel) ⟨.and, a, b, _, rfl, rfl, rfl⟩
  | or =>
    have e : (if a ≠ 0 ∨ b ≠ 0 then (1 : Int) else 0) = if (!decide (a = 0) || !decide (b = 0)) then 1 else 0 := by by_cases h : a = 0 <;> by_cases h' : b = 0 <;> simp [h, h']
    show ∃ r : Res, r.back (.int (if a ≠ 0 ∨ b ≠ 0 then (1 : Int) else 0)) ∧ _
    rw [e]
    exact truth .or _ (by decide +kernel) ⟨.or, a, b, _, rfl, rfl, rfl⟩

abbrev s_head_of : Stmt := topS 26
theorem sc_head_of : FnScope ["value"] ["value"] (defScope s_head_of) := ⟨rfl, rfl, rfl, by decide +kernel, rfl, by decide +kernel, by decide +kernel⟩
def R_head_of (ds : List D) (d : D) : Prop := ∃ e : Ex, ds = [e.toD] ∧ d = .list [.str e.head]
theorem f_head_of (T : Top K mg) (Z : Stand K mg "head_of" s_head_of) : FnD P w K mg base (1) "head_of" ["value"] R_head_of := by
  refine fnD (N := ["value"]) Z sc_head_of (fun _ _ _ _ _ _ us hl => match us, hl with | [_], _ => rfl) (fun ds d h => by obtain ⟨e, rfl, rfl⟩ := h; rfl) fun f cdv A outer s H E hr ds d h => ?_
  obtain ⟨e, rfl, rfl⟩ := h
  rw [e.toD_eq]
  exact rt_ (jb_rt (js_ret (j_ifT (jt_w (jw_andT (jt_val (j_isi T.isi (j_var 0 rfl) T.tuple bT kTT)) (jw_andT (jt_cmp op_gt (j_callB call_len T.len PySem.boot_len (ja_cons (j_var 0 rfl) ja_nil) (rl_len (.tup _))) j_int (rb_cmp (by simp only [List.length_cons]; exact decide_eq_true (by omega))))
    (jw_and1 (jt_val (j_isi T.isi (j_ix (j_var 0 rfl) j_int (rb_ix (.tup (at0 _ _)))) T.str bS kSS)))))) (j_lst (ja_cons (j_ix (j_var 0 rfl) j_int (rb_ix (.tup (at0 _ _)))) ja_nil)))))

abbrev s_parts_in : Stmt := topS 27
theorem sc_parts_in : FnScope ["expression", "head"] ["expression"] (defScope s_parts_in) := ⟨rfl, rfl, rfl, by decide +kernel, rfl, by decide +kernel, by decide +kernel⟩
def R_parts_in (ds : List D) (d : D) : Prop := ∃ e : Ex, ds = [e.toD] ∧ d = .list (e.parts.map Ex.toD)
theorem f_parts_in (T : Top K mg) (Z : Stand K mg "parts_in" s_parts_in) : FnD P w K mg base (1) "parts_in" ["expression"] R_parts_in := by
  refine fnD (N := ["expression", "head"]) Z sc_parts_in (fun _ _ _ _ _ _ us hl => match us, hl with | [_], _ => rfl) (fun ds d h => by obtain ⟨e, rfl, rfl⟩ := h; rfl) fun f cdv A outer s H E hr ds d h => ?_
  obtain ⟨e, rfl, rfl⟩ := h
  have one : ∀ (h : Str) (a : D) (t : List D), decide (h = "cell") = false → ([("neg" : Str), "not"].any fun y => decide (h = y)) = true → ∃ r : Res, r.back (.list [a]) ∧ JB (bx P w K mg base ["expression", "head"] "parts_in" s_parts_in f cdv A outer s H E) (defBody s_parts_in) (startL 2 [.tuple (.str h :: a :: t)]) r := fun h a t h1 h2 =>
    rt_ (jb_cons (js_set 1 sc_parts_in.nd (j_ix (j_var 0 rfl) j_int (rb_ix (.tup (at0 _ _))))) (jb_cons (js_ifF (jt_cmp op_eq (j_var 1 rfl) j_str (rb_eqT h1)) jb_nil) (jb_rt (js_ifT (jt_cmp op_in_seq (j_var 1 rfl) (j_glob T.single) (rb_inB (by
      simp only [List.any_cons, List.any_nil, Bool.or_false, Bool.or_eq_true, decide_eq_true_eq] at h2
      rcases h2 with rfl | rfl <;> decide +kernel))) (jb_rt (js_ret (j_lst (ja_cons (j_ix (j_var 0 rfl) j_int (rb_ix (.tup (at1 _ _ _)))) ja_nil))))))))
  have zero : ∀ (h : Str) (t : List D), (h = "number" ∨ h = "name" ∨ h = "me" ∨ h = "all") → ∃ r : Res, r.back (.list []) ∧ JB (bx P w K mg base ["expression", "head"] "parts_in" s_parts_in f cdv A outer s H E) (defBody s_parts_in) (startL 2 [.tuple (.str h :: t)]) r := fun h t h1 =>
    rt_ (jb_cons (js_set 1 sc_parts_in.nd (j_ix (j_var 0 rfl) j_int (rb_ix (.tup (at0 _ _))))) (jb_cons (js_ifF (jt_cmp op_eq (j_var 1 rfl) j_str (rb_eqT (by rcases h1 with rfl | rfl | rfl | rfl <;> decide +kernel))) jb_nil) (jb_cons (js_ifF (jt_cmp op_in_seq (j_var 1 rfl) (j_glob T.single) (rb_inB (by rcases h1 with rfl | rfl | rfl | rfl <;> decide +kernel))) jb_nil)
      (jb_rt (js_ret (j_ifF (jt_cmp op_in_seq (j_var 1 rfl) (j_glob T.ops) (rb_inB (by rcases h1 with rfl | rfl | rfl | rfl <;> decide +kernel))) (j_lst ja_nil)))))))
  cases e with
  | num n => exact zero _ _ (by simp)
  | name n => exact zero _ _ (by simp)
  | me => exact zero _ _ (by simp)
  | all => exact zero _ _ (by simp)
  | neg e => exact one "neg" e.toD [] (by decide +kernel) (by decide +kernel)
  | not e => exact one "not" e.toD [] (by decide +kernel) (by decide +kernel)
  | cell e => exact rt_ (jb_cons (js_set 1 sc_parts_in.nd (j_ix (j_var 0 rfl) j_int (rb_ix (.tup (at0 _ _))))) (jb_rt (js_ifT (jt_cmp op_eq (j_var 1 rfl) j_str rb_eqT) (jb_rt (js_ret (j_lst (ja_cons (j_ix (j_var 0 rfl) j_int (rb_ix (.tup (at2 _ _ _ _)))) ja_nil)))))))
  | bin o e e2 =>
    have h1 : decide (o.s = "cell") = false := by cases o <;> decide +kernel
    have h2 : ((txts ["neg", "not"]).any fun y => PyData.eqv y (.str o.s)) = false := by cases o <;> decide +kernel
    have h3 : ((txts ["add", "sub", "mul", "div", "rem", "less", "same", "and", "or"]).any fun y => PyData.eqv y (.str o.s)) = true := by cases o <;> decide +kernel
    exact rt_ (jb_cons (js_set 1 sc_parts_in.nd (j_ix (j_var 0 rfl) j_int (rb_ix (.tup (at0 _ _))))) (jb_cons (js_ifF (jt_cmp op_eq (j_var 1 rfl) j_str (rb_eqT h1)) jb_nil) (jb_cons (js_ifF (jt_cmp op_in_seq (j_var 1 rfl) (j_glob T.single) (rb_inB h2)) jb_nil)
      (jb_rt (js_ret (j_ifT (jt_cmp op_in_seq (j_var 1 rfl) (j_glob T.ops) (rb_inB h3)) (j_lst (ja_cons (j_ix (j_var 0 rfl) j_int (rb_ix (.tup (at1 _ _ _)))) (ja_cons (j_ix (j_var 0 rfl) j_int (rb_ix (.tup (at2 _ _ _ _)))) ja_nil)))))))))

abbrev s_is_number_form : Stmt := topS 31
theorem sc_is_number_form : FnScope ["form"] ["form"] (defScope s_is_number_form) := ⟨rfl, rfl, rfl, by decide +kernel, rfl, by decide +kernel, by decide +kernel⟩
def R_is_number_form (ds : List D) (d : D) : Prop := ∃ e : Ex, ds = [e.toD] ∧ d = .bool e.isNum
theorem f_is_number_form (T : Top K mg) (Z : Stand K mg "is_number_form" s_is_number_form) : FnD P w K mg base (1) "is_number_form" ["form"] R_is_number_form := by
  refine fnD (N := ["form"]) Z sc_is_number_form (fun _ _ _ _ _ _ us hl => match us, hl with | [_], _ => rfl) (fun ds d h => by obtain ⟨e, rfl, rfl⟩ := h; rfl) fun f cdv A outer s H E hr ds d h => ?_
  obtain ⟨e, rfl, rfl⟩ := h
  rw [e.toD_eq, ← e.isNum_eq]
  exact rt_ (jb_rt (js_ret (j_cmp op_eq (j_ix (j_var 0 rfl) j_int (rb_ix (.tup (at0 _ _)))) j_str rb_eqS)))

abbrev s_has_own_form : Stmt := topS 28
theorem sc_has_own_form : FnScope ["value", "head"] ["value"] (defScope s_has_own_form) := ⟨rfl, rfl, rfl, by decide +kernel, rfl, by decide +kernel, by decide +kernel⟩
def R_has_own_form (ds : List D) (d : D) : Prop := ∃ e : Ex, ds = [e.toD] ∧ e.own ∧ d = .bool true
theorem f_has_own_form (T : Top K mg) (Z : Stand K mg "has_own_form" s_has_own_form) (F_head_of : FnD P w K mg base 1 "head_of" ["value"] R_head_of) (F_is_tuple_of : FnD P w K mg base 1 "is_tuple_of" ["value", "many"] R_is_tuple_of) (F_is_number : FnD P w K mg base 2 "is_number" ["value", "low", "high"] R_is_number) (F_is_plain_name : FnD P w K mg base 2 "is_plain_name" ["value"] R_is_plain_name) : FnD P w K mg base (3) "has_own_form" ["value"] R_has_own_form := by
  refine fnD (N := ["value", "head"]) Z sc_has_own_form (fun _ _ _ _ _ _ us hl => match us, hl with | [_], _ => rfl) (fun ds d h => by obtain ⟨e, rfl, ho, rfl⟩ := h; rfl) fun f cdv A outer s H E hr ds d h => ?_
  obtain ⟨e, rfl, ho, rfl⟩ := h
  have go : ∀ {body : List Stmt}, True := fun {_} => trivial
  refine rt_ (jb_rt (js_forX 1 PassesOwn.never rfl sc_has_own_form.nd (ji_lst (j_call F_head_of hr (ja_cons (j_var 0 rfl) ja_nil) ⟨e, rfl, rfl⟩)) (fun _ => startL 2 [e.toD]) rfl 0 (dm := .str e.head) rfl (fun k d h => absurd h (Nat.not_lt_zero k)) ?_))
  cases e with
  | num n => exact jb_rt (js_ifT (jt_cmp op_eq (j_var 1 rfl) j_str rb_eqT) (jb_rt (js_ret (j_andT (j_call F_is_tuple_of hr (ja_cons (j_var 0 rfl) (ja_cons j_int ja_nil)) ⟨_, _, rfl, rfl⟩) (j_one (j_call F_is_number hr (ja_cons (j_ix (j_var 0 rfl) j_int (rb_ix (.tup (at1 _ _ _)))) (ja_cons j_int (ja_cons (j_glob T.most) ja_nil))) ⟨n, 0, 32767, rfl, ho.1, ho.2, rfl⟩))))))
  | name y => exact jb_cons (js_ifF (jt_cmp op_eq (j_var 1 rfl) j_str rb_eqT) jb_nil) (jb_rt (js_ifT (jt_cmp op_eq (j_var 1 rfl) j_str rb_eqT) (jb_rt (js_ret (j_andT (j_call F_is_tuple_of hr (ja_cons (j_var 0 rfl) (ja_cons j_int ja_nil)) ⟨_, _, rfl, rfl⟩) (j_one (j_call F_is_plain_name hr (ja_cons (j_ix (j_var 0 rfl) j_int (rb_ix (.tup (at1 _ _ _)))) ja_nil) ⟨_, rfl, by cases y <;> simp, rfl⟩)))))))
  | me => exact jb_cons (js_ifF (jt_cmp op_eq (j_var 1 rfl) j_str rb_eqT) jb_nil) (jb_cons (js_ifF (jt_cmp op_eq (j_var 1 rfl) j_str rb_eqT) jb_nil) (jb_rt (js_ifT (jt_cmp op_in_seq (j_var 1 rfl) (j_glob T.plain) rb_inB) (jb_rt (js_ret (j_cmp op_eq (j_callB call_len T.len PySem.boot_len (ja_cons (j_var 0 rfl) ja_nil) (rl_len (.tup _))) j_int (rb_eqN rfl)))))))
  | all => exact jb_cons (js_ifF (jt_cmp op_eq (j_var 1 rfl) j_str rb_eqT) jb_nil) (jb_cons (js_ifF (jt_cmp op_eq (j_var 1 rfl) j_str rb_eqT) jb_nil) (jb_rt (js_ifT (jt_cmp op_in_seq (j_var 1 rfl) (j_glob T.plain) rb_inB) (jb_rt (js_ret (j_cmp op_eq (j_callB call_len T.len PySem.boot_len (ja_cons (j_var 0 rfl) ja_nil) (rl_len (.tup _))) j_int (rb_eqN rfl)))))))
  | cell x => exact jb_cons (js_ifF (jt_cmp op_eq (j_var 1 rfl) j_str rb_eqT) jb_nil) (jb_cons (js_ifF (jt_cmp op_eq (j_var 1 rfl) j_str rb_eqT) jb_nil) (jb_cons (js_ifF (jt_cmp op_in_seq (j_var 1 rfl) (j_glob T.plain) rb_inB) jb_nil) (jb_rt (js_ifT (jt_cmp op_eq (j_var 1 rfl) j_str rb_eqT)
      (jb_rt (js_ret (j_andT (j_call F_is_tuple_of hr (ja_cons (j_var 0 rfl) (ja_cons j_int ja_nil)) ⟨_, _, rfl, rfl⟩) (j_one (j_call F_is_plain_name hr (ja_cons (j_ix (j_var 0 rfl) j_int (rb_ix (.tup (at1 _ _ _)))) ja_nil) ⟨_, rfl, .inl rfl, rfl⟩)))))))))
  | neg x => exact jb_cons (js_ifF (jt_cmp op_eq (j_var 1 rfl) j_str rb_eqT) jb_nil) (jb_cons (js_ifF (jt_cmp op_eq (j_var 1 rfl) j_str rb_eqT) jb_nil) (jb_cons (js_ifF (jt_cmp op_in_seq (j_var 1 rfl) (j_glob T.plain) rb_inB) jb_nil) (jb_cons (js_ifF (jt_cmp op_eq (j_var 1 rfl) j_str rb_eqT) jb_nil)
      (jb_rt (js_ret (j_orT (j_andT (j_cmp op_in_seq (j_var 1 rfl) (j_glob T.single) rb_inB) (j_one (j_cmp op_eq (j_callB call_len T.len PySem.boot_len (ja_cons (j_var 0 rfl) ja_nil) (rl_len (.tup _))) j_int (rb_eqN rfl))))))))))
  | not x => exact jb_cons (js_ifF (jt_cmp op_eq (j_var 1 rfl) j_str rb_eqT) jb_nil) (jb_cons (js_ifF (jt_cmp op_eq (j_var 1 rfl) j_str rb_eqT) jb_nil) (jb_cons (js_ifF (jt_cmp op_in_seq (j_var 1 rfl) (j_glob T.plain) rb_inB) jb_nil) (jb_cons (js_ifF (jt_cmp op_eq (j_var 1 rfl) j_str rb_eqT) jb_nil)
      (jb_rt (js_ret (j_orT (j_andT (j_cmp op_in_seq (j_var 1 rfl) (j_glob T.single) rb_inB) (j_one (j_cmp op_eq (j_callB call_len T.len PySem.boot_len (ja_cons (j_var 0 rfl) ja_nil) (rl_len (.tup _))) j_int (rb_eqN rfl))))))))))
  | bin o x y =>
    have h1 : decide (o.s = "number") = false := by cases o <;> decide +kernel
    have h2 : decide (o.s = "name") = false := by cases o <;> decide +kernel
    have h3 : ((txts ["me", "all"]).any fun y => PyData.eqv y (.str o.s)) = false := by cases o <;> decide +kernel
    have h4 : decide (o.s = "cell") = false := by cases o <;> decide +kernel
    have h5 : ((txts ["neg", "not"]).any fun y => PyData.eqv y (.str o.s)) = false := by cases o <;> decide +kernel
    have h6 : ((txts ["add", "sub", "mul", "div", "rem", "less", "same", "and", "or"]).any fun y => PyData.eqv y (.str o.s)) = true := by cases o <;> decide +kernel
    exact jb_cons (js_ifF (jt_cmp op_eq (j_var 1 rfl) j_str (rb_eqT h1)) jb_nil) (jb_cons (js_ifF (jt_cmp op_eq (j_var 1 rfl) j_str (rb_eqT h2)) jb_nil) (jb_cons (js_ifF (jt_cmp op_in_seq (j_var 1 rfl) (j_glob T.plain) (rb_inB h3)) jb_nil) (jb_cons (js_ifF (jt_cmp op_eq (j_var 1 rfl) j_str (rb_eqT h4)) jb_nil)
      (jb_rt (js_ret (j_orF (j_andF (j_cmp op_in_seq (j_var 1 rfl) (j_glob T.single) (rb_inB h5))) (j_one (j_andT (j_cmp op_in_seq (j_var 1 rfl) (j_glob T.ops) (rb_inB h6)) (j_one (j_cmp op_eq (j_callB call_len T.len PySem.boot_len (ja_cons (j_var 0 rfl) ja_nil) (rl_len (.tup _))) j_int (rb_eqN rfl)))))))))))

abbrev s_is_expression_form : Stmt := topS 29
theorem sc_is_expression_form : FnScope ["value", "layer", "_", "each", "part"] ["value"] (defScope s_is_expression_form) := ⟨rfl, rfl, rfl, by decide +kernel, rfl, by decide +kernel, by decide +kernel⟩
def R_is_expression_form (ds : List D) (d : D) : Prop := ∃ e : Ex, ds = [e.toD] ∧ e.own ∧ e.depth ≤ 5 ∧ d = .bool true
theorem f_is_expression_form (T : Top K mg) (Z : Stand K mg "is_expression_form" s_is_expression_form) (F_has_own_form : FnD P w K mg base 3 "has_own_form" ["value"] R_has_own_form) (F_parts_in : FnD P w K mg base 1 "parts_in" ["expression"] R_parts_in) : FnD P w K mg base (4) "is_expression_form" ["value"] R_is_expression_form := by
  refine fnD (N := ["value", "layer", "_", "each", "part"]) Z sc_is_expression_form (fun _ _ _ _ _ _ us hl => match us, hl with | [_], _ => rfl) (fun ds d h => by obtain ⟨e, rfl, ho, hd, rfl⟩ := h; rfl) fun f cdv A outer s H E hr ds d h => ?_
  obtain ⟨e, rfl, ho, hd, rfl⟩ := h
  refine rt_ (jb_cons (js_set 1 sc_is_expression_form.nd (j_lst (ja_cons (j_var 0 rfl) ja_nil))) (jb_cons (js_for 2 PassesOwn.never rfl sc_is_expression_form.nd (ji_range T.range (j_glob T.deep) (by decide) (by decide)) (fun k => [.d e.toD, .d (.list ((layer k e).map Ex.toD)), .u, .u, .u]) rfl fun k d hk => ?_) ?_))
  · have hlen : (layer k e).length ≤ 2 ^ 5 := by
      have h1 := layer_len (e := e) k
      obtain ⟨h2, _⟩ := List.getElem?_eq_some_iff.mp hk
      have h3 : k < 5 := by simpa using h2
      exact Nat.le_trans h1 (Nat.pow_le_pow_right (by decide) (by omega))
    have hf := flat_parts_len (layer k e)
    refine ⟨[.d e.toD, .d (.list ((layer (k + 1) e).map Ex.toD)), .d d, .u, .u], .same (.same (.drop (.same (.same .nil)))), .inl ?_⟩
    refine jb_cons (js_ifF (jt_not (c := true) (jt_val (j_callB (cr_all rfl) T.all bAll (ja_cons (j_lc 3 rfl sc_is_expression_form.nd (show blkC ["value", "layer", "_", "each", "part"] (defScope s_is_expression_form) _ _ = true from by decide +kernel) (fun _ _ _ _ _ => pg_name sc_is_expression_form.nd rfl (Or.inl rfl))
      (ji_lst (j_var 1 rfl)) (fun _ => some (.bool true)) (by omega) (fun x hx s H C cl fp => ⟨jts_nil, fun y hy => by
        cases hy
        exact j_call F_has_own_form hr (ja_cons (j_var 3 rfl) ja_nil) ⟨x, rfl, layer_own ho k x hx, rfl⟩⟩)) ja_nil) (rl_allT _)))) jb_nil) (jb_cons ?_ jb_nil)
    show JS _ _ _ (.nx [.d e.toD, .d (.list (((layer k e).flatMap Ex.parts).map Ex.toD)), .d d, .u, .u])
    rw [← flat_enc]
    exact js_setLc2 (l := layer k e) (enc := Ex.toD) (enc1 := Ex.toD) (ρ := [.d e.toD, .d (.list ((layer k e).map Ex.toD)), .d d, .u, .u]) 1 3 4 rfl sc_is_expression_form.nd (show blkC ["value", "layer", "_", "each", "part"] (defScope s_is_expression_form) _ _ = true from by decide +kernel) (fun _ _ _ _ _ => pg_name sc_is_expression_form.nd rfl (Or.inl rfl)) (fun _ _ _ _ _ => pg_name sc_is_expression_form.nd rfl (Or.inl rfl))
      (ji_lst (j_var 1 rfl)) Ex.parts (fun _ y => y.toD) (by rw [flat_enc, List.length_map]; omega) (fun x hx s H C cl fp => ji_lst (j_call F_parts_in hr (ja_cons (j_var 3 rfl) ja_nil) ⟨x, rfl, rfl⟩)) (fun x hx y hy s H C cl fp => j_var 4 rfl) (sw_true rfl rfl rfl (by decide +kernel))
  · have h5 : layer 5 e = [] := layer_nil hd
    have hl : ((List.range (5 : Int).toNat).map fun k : Nat => PyData.int (k : Int)).length = 5 := by simp
    rw [hl, h5]
    exact jb_rt (js_ret (j_cmp (op_eqD hr.units) (j_var 1 rfl) (j_lst ja_nil) (rb_eq rfl rfl)))
end
end K75
namespace K75
open PySem L2 Y
section
variable {P : Program} {w : World} {K : PySem.W.Frag} {mg : Str → Option Value} {base : Heap}
abbrev s_negated : Stmt := topS 32
theorem sc_negated : FnScope ["form"] ["form"] (defScope s_negated) := ⟨rfl, rfl, rfl, by decide +kernel, rfl, by decide +kernel, by decide +kernel⟩
def R_negated (ds : List D) (d : D) : Prop := ∃ e : Ex, ds = [e.toD] ∧ d = (negE e).toD
theorem f_negated (T : Top K mg) (Z : Stand K mg "negated" s_negated) (F_is_number_form : FnD P w K mg base 1 "is_number_form" ["form"] R_is_number_form) (F_wrap : FnD P w K mg base 1 "wrap" ["number"] R_wrap) : FnD P w K mg base (2) "negated" ["form"] R_negated := by
  refine fnD (N := ["form"]) Z sc_negated (fun _ _ _ _ _ _ us hl => match us, hl with | [_], _ => rfl) (fun ds d h => by obtain ⟨e, rfl, rfl⟩ := h; rfl) fun f cdv A outer s H E hr ds d h => ?_
  obtain ⟨e, rfl, rfl⟩ := h
  cases hn : e.isNum with
  | true =>
    cases e <;> first | cases hn | skip
    rename_i n
    exact rt_ (jb_rt (js_ifT (jt_val (j_call F_is_number_form hr (ja_cons (j_var 0 rfl) ja_nil) ⟨.num n, rfl, rfl⟩)) (jb_rt (js_ret (j_tup (ja_cons j_str (ja_cons (j_call F_wrap hr (ja_cons (j_bin op_sub j_int (j_ix (j_var 0 rfl) j_int (rb_ix (.tup (at1 _ _ _)))) rb_int) ja_nil) ⟨_, rfl, rfl⟩) ja_nil)))))))
  | false =>
    have hj : JT (bx P w K mg base ["form"] "negated" s_negated f cdv A outer s H E) (.Call (.Name "is_number_form" ⟨91, 7, 91, 21⟩) [.Name "form" ⟨91, 22, 91, 26⟩] [] ⟨91, 7, 91, 27⟩) (startL 1 [e.toD]) false :=
      jt_val (j_call F_is_number_form hr (ja_cons (j_var 0 rfl) ja_nil) ⟨e, rfl, by rw [hn]⟩)
    refine rt_ (jb_cons (js_ifF (jt_val (j_call F_is_number_form hr (ja_cons (j_var 0 rfl) ja_nil) ⟨e, rfl, by rw [hn]⟩)) jb_nil) (jb_rt (js_ret ?_)))
    cases e with
    | num n => cases hn
    | neg x => exact j_ifT (jt_cmp op_eq (j_ix (j_var 0 rfl) j_int (rb_ix (.tup (at0 _ _)))) j_str rb_eqT) (j_ix (j_var 0 rfl) j_int (rb_ix (.tup (at1 _ _ _))))
    | bin o x y => cases o <;> exact j_ifF (jt_cmp op_eq (j_ix (j_var 0 rfl) j_int (rb_ix (.tup (at0 _ _)))) j_str rb_eqT) (j_tup (ja_cons j_str (ja_cons (j_var 0 rfl) ja_nil)))
    | _ => exact j_ifF (jt_cmp op_eq (j_ix (j_var 0 rfl) j_int (rb_ix (.tup (at0 _ _)))) j_str rb_eqT) (j_tup (ja_cons j_str (ja_cons (j_var 0 rfl) ja_nil)))

abbrev s_denied : Stmt := topS 33
theorem sc_denied : FnScope ["form"] ["form"] (defScope s_denied) := ⟨rfl, rfl, rfl, by decide +kernel, rfl, by decide +kernel, by decide +kernel⟩
def R_denied (ds : List D) (d : D) : Prop := ∃ e : Ex, ds = [e.toD] ∧ d = (notE e).toD
theorem f_denied (T : Top K mg) (Z : Stand K mg "denied" s_denied) (F_is_number_form : FnD P w K mg base 1 "is_number_form" ["form"] R_is_number_form) : FnD P w K mg base (2) "denied" ["form"] R_denied := by
  refine fnD (N := ["form"]) Z sc_denied (fun _ _ _ _ _ _ us hl => match us, hl with | [_], _ => rfl) (fun ds d h => by obtain ⟨e, rfl, rfl⟩ := h; rfl) fun f cdv A outer s H E hr ds d h => ?_
  obtain ⟨e, rfl, rfl⟩ := h
  cases hn : e.isNum with
  | true =>
    cases e <;> first | cases hn | skip
    rename_i n
    refine rt_ (jb_rt (js_ifT (jt_val (j_call F_is_number_form hr (ja_cons (j_var 0 rfl) ja_nil) ⟨.num n, rfl, rfl⟩)) (jb_rt (js_ret (j_tup (ja_cons j_str (ja_cons ?_ ja_nil)))))))
    by_cases h : n = 0
    · rw [if_pos h]
      exact j_ifT (jt_cmp op_eq (j_ix (j_var 0 rfl) j_int (rb_ix (.tup (at1 _ _ _)))) j_int (rb_eqN (decide_eq_true h))) j_int
    · rw [if_neg h]
      exact j_ifF (jt_cmp op_eq (j_ix (j_var 0 rfl) j_int (rb_ix (.tup (at1 _ _ _)))) j_int (rb_eqN (decide_eq_false h))) j_int
  | false =>
    have e2 : notE e = .not e := by cases e <;> first | rfl | cases hn
    rw [e2]
    exact rt_ (jb_cons (js_ifF (jt_val (j_call F_is_number_form hr (ja_cons (j_var 0 rfl) ja_nil) ⟨e, rfl, by rw [hn]⟩)) jb_nil) (jb_rt (js_ret (j_tup (ja_cons j_str (ja_cons (j_var 0 rfl) ja_nil))))))

abbrev s_joined : Stmt := topS 34
theorem sc_joined : FnScope ["op", "form", "form2", "found"] ["op", "form", "form2"] (defScope s_joined) := ⟨rfl, rfl, rfl, by decide +kernel, rfl, by decide +kernel, by decide +kernel⟩
def R_joined (ds : List D) (d : D) : Prop := ∃ (o : Op) (e f : Ex), ds = [.str o.s, e.toD, f.toD] ∧ e.words ∧ f.words ∧ d = (binE o e f).toD
theorem f_joined (T : Top K mg) (Z : Stand K mg "joined" s_joined) (F_is_number_form : FnD P w K mg base 1 "is_number_form" ["form"] R_is_number_form) (F_reckon : FnD P w K mg base 2 "reckon" ["op", "one", "two"] R_reckon) : FnD P w K mg base (3) "joined" ["op", "form", "form2"] R_joined := by
  refine fnD (N := ["op", "form", "form2", "found"]) Z sc_joined (fun _ _ _ _ _ _ us hl => match us, hl with | [_, _, _], _ => rfl) (fun ds d h => by obtain ⟨o, e, g, rfl, he, hg, rfl⟩ := h; rfl) fun f cdv A outer s H E hr ds d h => ?_
  obtain ⟨o, e, g, rfl, he, hg, rfl⟩ := h
  have other : (e.isNum && g.isNum) = false → binE o e g = .bin o e g → ∃ r : Res, r.back (binE o e g).toD ∧ JB (bx P w K mg base ["op", "form", "form2", "found"] "joined" s_joined f cdv A outer s H E) (defBody s_joined) (startL 4 [.str o.s, e.toD, g.toD]) r := fun h1 h2 => by
    rw [h2]
    refine rt_ (jb_cons (js_ifF (jt_w ?_) jb_nil) (jb_rt (js_ret (j_tup (ja_cons (j_var 0 rfl) (ja_cons (j_var 1 rfl) (ja_cons (j_var 2 rfl) ja_nil)))))))
    cases hn : e.isNum with
    | false => exact jw_andF (jt_val (j_call F_is_number_form hr (ja_cons (j_var 1 rfl) ja_nil) ⟨e, rfl, by rw [hn]⟩))
    | true =>
      rw [hn, Bool.true_and] at h1
      exact jw_andT (jt_val (j_call F_is_number_form hr (ja_cons (j_var 1 rfl) ja_nil) ⟨e, rfl, by rw [hn]⟩)) (jw_and1 (jt_val (j_call F_is_number_form hr (ja_cons (j_var 2 rfl) ja_nil) ⟨g, rfl, by rw [h1]⟩)))
  cases hn : (e.isNum && g.isNum) with
  | false => exact other hn (by cases e <;> cases g <;> first | rfl | cases hn)
  | true =>
    cases e <;> cases g <;> first | cases hn | skip
    rename_i a b
    have test : JT (bx P w K mg base ["op", "form", "form2", "found"] "joined" s_joined f cdv A outer s H E) (match defBody s_joined with | .If c _ _ _ :: _ => c | _ => .Constant .none 0 ⟨0, 0, 0, 0⟩) (startL 4 [.str o.s, (Ex.num a).toD, (Ex.num b).toD]) true :=
      jt_w (jw_andT (jt_val (j_call F_is_number_form hr (ja_cons (j_var 1 rfl) ja_nil) ⟨.num a, rfl, rfl⟩)) (jw_and1 (jt_val (j_call F_is_number_form hr (ja_cons (j_var 2 rfl) ja_nil) ⟨.num b, rfl, rfl⟩))))
    cases hq : reck o a b with
    | some r =>
      have e2 : binE o (.num a) (.num b) = .num r := by show (match reck o a b with | some r => Ex.num r | none => _) = _; rw [hq]
      rw [e2]
      exact rt_ (jb_rt (js_ifT test (jb_cons (js_set 3 sc_joined.nd (j_call F_reckon hr (ja_cons (j_var 0 rfl) (ja_cons (j_ix (j_var 1 rfl) j_int (rb_ix (.tup (at1 _ _ _)))) (ja_cons (j_ix (j_var 2 rfl) j_int (rb_ix (.tup (at1 _ _ _)))) ja_nil))) ⟨o, a, b, rfl, he, hg, by rw [hq]⟩))
        (jb_rt (js_ifT (jt_cmp op_notN (j_var 3 rfl) j_non rb_notN) (jb_rt (js_ret (j_tup (ja_cons j_str (ja_cons (j_var 3 rfl) ja_nil))))))))))
    | none =>
      have e2 : binE o (.num a) (.num b) = .bin o (.num a) (.num b) := by show (match reck o a b with | some r => Ex.num r | none => _) = _; rw [hq]
      rw [e2]
      exact rt_ (jb_cons (js_ifT test (jb_cons (js_set 3 sc_joined.nd (j_call F_reckon hr (ja_cons (j_var 0 rfl) (ja_cons (j_ix (j_var 1 rfl) j_int (rb_ix (.tup (at1 _ _ _)))) (ja_cons (j_ix (j_var 2 rfl) j_int (rb_ix (.tup (at1 _ _ _)))) ja_nil))) ⟨o, a, b, rfl, he, hg, by rw [hq]⟩))
        (jb_cons (js_ifF (jt_cmp op_notN (j_var 3 rfl) j_non rb_notN) jb_nil) jb_nil))) (jb_rt (js_ret (j_tup (ja_cons (j_var 0 rfl) (ja_cons (j_var 1 rfl) (ja_cons (j_var 2 rfl) ja_nil)))))))

abbrev s_normal_form : Stmt := topS 35
theorem sc_normal_form : FnScope ["expression", "word"] ["expression"] (defScope s_normal_form) := ⟨rfl, rfl, rfl, by decide +kernel, rfl, by decide +kernel, by decide +kernel⟩
def R_normal_form (n : Nat) (ds : List D) (d : D) : Prop := ∃ e : Ex, ds = [e.toD] ∧ e.words ∧ e.depth ≤ n ∧ d = (nf e).toD
theorem f_normal_form0 {n : Nat} (T : Top K mg) (Z : Stand K mg "normal_form" s_normal_form) (F_negated : FnD P w K mg base 2 "negated" ["form"] R_negated) (F_denied : FnD P w K mg base 2 "denied" ["form"] R_denied) (F_joined : FnD P w K mg base 3 "joined" ["op", "form", "form2"] R_joined) (rec : ∀ m, m < n → FnD P w K mg base (4 + m) "normal_form" ["expression"] (R_normal_form m)) : FnD P w K mg base (4 + n) "normal_form" ["expression"] (R_normal_form n) := by
  refine Nat.add_comm 4 n ▸ fnD (k := n + 3) (N := ["expression", "word"]) Z sc_normal_form (fun _ _ _ _ _ _ us hl => match us, hl with | [_], _ => rfl) (fun ds d h => by obtain ⟨e, rfl, hw, hd, rfl⟩ := h; rfl) fun f cdv A outer s H E hr ds d h => ?_
  obtain ⟨e, rfl, hw, hd, rfl⟩ := h
  have op2 : ∀ o : Op, decide (o.s = "cell") = false ∧ decide (o.s = "neg") = false ∧ decide (o.s = "not") = false ∧ ((txts ["add", "sub", "mul", "div", "rem", "less", "same", "and", "or"]).any fun y => PyData.eqv y (.str o.s)) = true := fun o => by cases o <;> decide +kernel
  have plain : ∀ h t, (h = "number" ∨ h = "name" ∨ h = "me" ∨ h = "all") → ∃ r : Res, r.back (.tuple (.str h :: t)) ∧ JB (bx P w K mg base ["expression", "word"] "normal_form" s_normal_form f cdv A outer s H E) (defBody s_normal_form) (startL 2 [.tuple (.str h :: t)]) r := fun h t h1 =>
    rt_ (jb_cons (js_set 1 sc_normal_form.nd (j_ix (j_var 0 rfl) j_int (rb_ix (.tup (at0 _ _))))) (jb_cons (js_ifF (jt_cmp op_eq (j_var 1 rfl) j_str (rb_eqT (by rcases h1 with rfl | rfl | rfl | rfl <;> decide +kernel))) jb_nil) (jb_cons (js_ifF (jt_cmp op_eq (j_var 1 rfl) j_str (rb_eqT (by rcases h1 with rfl | rfl | rfl | rfl <;> decide +kernel))) jb_nil)
      (jb_cons (js_ifF (jt_cmp op_eq (j_var 1 rfl) j_str (rb_eqT (by rcases h1 with rfl | rfl | rfl | rfl <;> decide +kernel))) jb_nil) (jb_cons (js_ifF (jt_cmp op_in_seq (j_var 1 rfl) (j_glob T.ops) (rb_inB (by rcases h1 with rfl | rfl | rfl | rfl <;> decide +kernel))) jb_nil) (jb_rt (js_ret (j_var 0 rfl))))))))
  cases e with
  | num k => exact plain _ _ (by simp)
  | name k => exact plain _ _ (by simp)
  | me => exact plain _ _ (by simp)
  | all => exact plain _ _ (by simp)
  | cell x => exact rt_ (jb_cons (js_set 1 sc_normal_form.nd (j_ix (j_var 0 rfl) j_int (rb_ix (.tup (at0 _ _))))) (jb_rt (js_ifT (jt_cmp op_eq (j_var 1 rfl) j_str rb_eqT) (jb_rt (js_ret (j_tup (ja_cons (j_var 1 rfl) (ja_cons (j_ix (j_var 0 rfl) j_int (rb_ix (.tup (at1 _ _ _)))) (ja_cons (j_call (rec x.depth (Nat.lt_of_lt_of_le (Nat.lt_succ_self _) hd)) hr (ja_cons (j_ix (j_var 0 rfl) j_int (rb_ix (.tup (at2 _ _ _ _)))) ja_nil) ⟨x, rfl, hw, Nat.le_refl _, rfl⟩ (by have : x.depth + 1 ≤ n := hd; omega)) ja_nil)))))))))
  | neg x => exact rt_ (jb_cons (js_set 1 sc_normal_form.nd (j_ix (j_var 0 rfl) j_int (rb_ix (.tup (at0 _ _))))) (jb_cons (js_ifF (jt_cmp op_eq (j_var 1 rfl) j_str rb_eqT) jb_nil) (jb_rt (js_ifT (jt_cmp op_eq (j_var 1 rfl) j_str rb_eqT) (jb_rt (js_ret (j_call F_negated hr (ja_cons (j_call (rec x.depth (Nat.lt_of_lt_of_le (Nat.lt_succ_self _) hd)) hr (ja_cons (j_ix (j_var 0 rfl) j_int (rb_ix (.tup (at1 _ _ _)))) ja_nil) ⟨x, rfl, hw, Nat.le_refl _, rfl⟩ (by have : x.depth + 1 ≤ n := hd; omega)) ja_nil) ⟨nf x, rfl, rfl⟩)))))))
  | not x => exact rt_ (jb_cons (js_set 1 sc_normal_form.nd (j_ix (j_var 0 rfl) j_int (rb_ix (.tup (at0 _ _))))) (jb_cons (js_ifF (jt_cmp op_eq (j_var 1 rfl) j_str rb_eqT) jb_nil) (jb_cons (js_ifF (jt_cmp op_eq (j_var 1 rfl) j_str rb_eqT) jb_nil) (jb_rt (js_ifT (jt_cmp op_eq (j_var 1 rfl) j_str rb_eqT) (jb_rt (js_ret (j_call F_denied hr (ja_cons (j_call (rec x.depth (Nat.lt_of_lt_of_le (Nat.lt_succ_self _) hd)) hr (ja_cons (j_ix (j_var 0 rfl) j_int (rb_ix (.tup (at1 _ _ _)))) ja_nil) ⟨x, rfl, hw, Nat.le_refl _, rfl⟩ (by have : x.depth + 1 ≤ n := hd; omega)) ja_nil) ⟨nf x, rfl, rfl⟩))))))))
  | bin o x y =>
    obtain ⟨h1, h2, h3, h4⟩ := op2 o
    have hxy : max x.depth y.depth + 1 ≤ n := hd
    exact rt_ (jb_cons (js_set 1 sc_normal_form.nd (j_ix (j_var 0 rfl) j_int (rb_ix (.tup (at0 _ _))))) (jb_cons (js_ifF (jt_cmp op_eq (j_var 1 rfl) j_str (rb_eqT h1)) jb_nil) (jb_cons (js_ifF (jt_cmp op_eq (j_var 1 rfl) j_str (rb_eqT h2)) jb_nil) (jb_cons (js_ifF (jt_cmp op_eq (j_var 1 rfl) j_str (rb_eqT h3)) jb_nil)
      (jb_rt (js_ifT (jt_cmp op_in_seq (j_var 1 rfl) (j_glob T.ops) (rb_inB h4)) (jb_rt (js_ret (j_call F_joined hr (ja_cons (j_var 1 rfl) (ja_cons (j_call (rec x.depth (by omega)) hr (ja_cons (j_ix (j_var 0 rfl) j_int (rb_ix (.tup (at1 _ _ _)))) ja_nil) ⟨x, rfl, hw.1, Nat.le_refl _, rfl⟩ (by omega)) (ja_cons (j_call (rec y.depth (by omega)) hr (ja_cons (j_ix (j_var 0 rfl) j_int (rb_ix (.tup (at2 _ _ _ _)))) ja_nil) ⟨y, rfl, hw.2, Nat.le_refl _, rfl⟩ (by omega)) ja_nil))) ⟨o, nf x, nf y, rfl, nf_words x hw.1, nf_words y hw.2, rfl⟩)))))))))

theorem f_normal_form (T : Top K mg) (Z : Stand K mg "normal_form" s_normal_form) (F_negated : FnD P w K mg base 2 "negated" ["form"] R_negated) (F_denied : FnD P w K mg base 2 "denied" ["form"] R_denied) (F_joined : FnD P w K mg base 3 "joined" ["op", "form", "form2"] R_joined) : ∀ n, FnD P w K mg base (4 + n) "normal_form" ["expression"] (R_normal_form n) := fun n =>
  Nat.strongRecOn n fun n ih => f_normal_form0 T Z F_negated F_denied F_joined ih
end
end K75
namespace K75
open PySem L2 Y
section
variable {P : Program} {w : World} {K : PySem.W.Frag} {mg : Str → Option Value} {base : Heap}
abbrev s_check_expression : Stmt := topS 37
theorem sc_check_expression : FnScope ["value"] ["value"] (defScope s_check_expression) := ⟨rfl, rfl, rfl, by decide +kernel, rfl, by decide +kernel, by decide +kernel⟩
def R_check_expression (ds : List D) (d : D) : Prop := ∃ e : Ex, ds = [e.toD] ∧ e.own ∧ e.depth ≤ 5 ∧ d = .none
theorem f_check_expression (T : Top K mg) (Z : Stand K mg "check_expression" s_check_expression) (F_is_expression_form : FnD P w K mg base 4 "is_expression_form" ["value"] R_is_expression_form) : FnD P w K mg base (5) "check_expression" ["value"] R_check_expression := by
  refine fnD (N := ["value"]) Z sc_check_expression (fun _ _ _ _ _ _ us hl => match us, hl with | [_], _ => rfl) (fun ds d h => by obtain ⟨e, rfl, ho, hd, rfl⟩ := h; rfl) fun f cdv A outer s H E hr ds d h => ?_
  obtain ⟨e, rfl, ho, hd, rfl⟩ := h
  exact nx_ (jb_cons (js_ifF (jt_not (c := true) (jt_val (j_call F_is_expression_form hr (ja_cons (j_var 0 rfl) ja_nil) ⟨e, rfl, ho, hd, rfl⟩))) jb_nil) jb_nil)

abbrev s_normal : Stmt := topS 38
theorem sc_normal : FnScope ["value"] ["value"] (defScope s_normal) := ⟨rfl, rfl, rfl, by decide +kernel, rfl, by decide +kernel, by decide +kernel⟩
def R_normal (ds : List D) (d : D) : Prop := ∃ e : Ex, ds = [e.toD] ∧ e.own ∧ e.depth ≤ 5 ∧ d = (nf e).toD
theorem b_normal (T : Top K mg) (F_check_expression : FnD P w K mg base 5 "check_expression" ["value"] R_check_expression) (F_normal_form : FnD P w K mg base 9 "normal_form" ["expression"] (R_normal_form 5)) (f : Addr) (cdv : Value) (A : Around) (outer : List Env) (s : Shared) (H : Hp) (E : XK) (hr : Room 9 (A.deeper (PyProof.Rows.envOfC "normal" (defScope s_normal) s.heap.objs.size f cdv))) (ds : List D) (d : D) (h : R_normal ds d) :
    ∃ r : Res, r.back d ∧ JB (bx P w K mg base ["value"] "normal" s_normal f cdv A outer s H E) (defBody s_normal) (startL 1 ds) r := by
  obtain ⟨e, rfl, ho, hd, rfl⟩ := h
  exact rt_ (jb_cons (js_expr (j_call F_check_expression hr (ja_cons (j_var 0 rfl) ja_nil) ⟨e, rfl, ho, hd, rfl⟩)) (jb_rt (js_ret (j_call F_normal_form hr (ja_cons (j_var 0 rfl) ja_nil) ⟨e, rfl, own_words e ho, hd, rfl⟩))))
theorem f_normal (T : Top K mg) (Z : Stand K mg "normal" s_normal) (F_check_expression : FnD P w K mg base 5 "check_expression" ["value"] R_check_expression) (F_normal_form : FnD P w K mg base 9 "normal_form" ["expression"] (R_normal_form 5)) : FnD P w K mg base 10 "normal" ["value"] R_normal :=
  fnD (N := ["value"]) Z sc_normal (fun _ _ _ _ _ _ us hl => match us, hl with | [_], _ => rfl) (fun ds d h => by obtain ⟨e, rfl, ho, hd, rfl⟩ := h; rfl) (b_normal T F_check_expression F_normal_form)
theorem fk_normal (T : Top K mg) (Z : Stand K mg "normal" s_normal) (F_check_expression : FnD P w K mg base 5 "check_expression" ["value"] R_check_expression) (F_normal_form : FnD P w K mg base 9 "normal_form" ["expression"] (R_normal_form 5)) : FnDK P w K mg base 10 "normal" "value" R_normal :=
  fnDK (N := ["value"]) Z sc_normal (fun _ _ _ _ _ _ _ => rfl) (fun _ _ _ _ _ _ _ => rfl) (fun ds d h => by obtain ⟨e, rfl, ho, hd, rfl⟩ := h; rfl) (b_normal T F_check_expression F_normal_form)

abbrev s_has_number : Stmt := topS 39
theorem sc_has_number : FnScope ["value"] ["value"] (defScope s_has_number) := ⟨rfl, rfl, rfl, by decide +kernel, rfl, by decide +kernel, by decide +kernel⟩
def R_has_number (ds : List D) (d : D) : Prop := ∃ e : Ex, ds = [e.toD] ∧ e.own ∧ e.depth ≤ 5 ∧ d = .bool (nf e).isNum
theorem b_has_number (T : Top K mg) (F_check_expression : FnD P w K mg base 5 "check_expression" ["value"] R_check_expression) (F_normal_form : FnD P w K mg base 9 "normal_form" ["expression"] (R_normal_form 5)) (F_is_number_form : FnD P w K mg base 1 "is_number_form" ["form"] R_is_number_form) (f : Addr) (cdv : Value) (A : Around) (outer : List Env) (s : Shared) (H : Hp) (E : XK) (hr : Room 9 (A.deeper (PyProof.Rows.envOfC "has_number" (defScope s_has_number) s.heap.objs.size f cdv))) (ds : List D) (d : D) (h : R_has_number ds d) :
    ∃ r : Res, r.back d ∧ JB (bx P w K mg base ["value"] "has_number" s_has_number f cdv A outer s H E) (defBody s_has_number) (startL 1 ds) r := by
  obtain ⟨e, rfl, ho, hd, rfl⟩ := h
  exact rt_ (jb_cons (js_expr (j_call F_check_expression hr (ja_cons (j_var 0 rfl) ja_nil) ⟨e, rfl, ho, hd, rfl⟩)) (jb_rt (js_ret (j_call F_is_number_form hr (ja_cons (j_call F_normal_form hr (ja_cons (j_var 0 rfl) ja_nil) ⟨e, rfl, own_words e ho, hd, rfl⟩) ja_nil) ⟨nf e, rfl, rfl⟩))))
theorem f_has_number (T : Top K mg) (Z : Stand K mg "has_number" s_has_number) (F_check_expression : FnD P w K mg base 5 "check_expression" ["value"] R_check_expression) (F_normal_form : FnD P w K mg base 9 "normal_form" ["expression"] (R_normal_form 5)) (F_is_number_form : FnD P w K mg base 1 "is_number_form" ["form"] R_is_number_form) : FnD P w K mg base 10 "has_number" ["value"] R_has_number :=
  fnD (N := ["value"]) Z sc_has_number (fun _ _ _ _ _ _ us hl => match us, hl with | [_], _ => rfl) (fun ds d h => by obtain ⟨e, rfl, ho, hd, rfl⟩ := h; rfl) (b_has_number T F_check_expression F_normal_form F_is_number_form)
theorem fk_has_number (T : Top K mg) (Z : Stand K mg "has_number" s_has_number) (F_check_expression : FnD P w K mg base 5 "check_expression" ["value"] R_check_expression) (F_normal_form : FnD P w K mg base 9 "normal_form" ["expression"] (R_normal_form 5)) (F_is_number_form : FnD P w K mg base 1 "is_number_form" ["form"] R_is_number_form) : FnDK P w K mg base 10 "has_number" "value" R_has_number :=
  fnDK (N := ["value"]) Z sc_has_number (fun _ _ _ _ _ _ _ => rfl) (fun _ _ _ _ _ _ _ => rfl) (fun ds d h => by obtain ⟨e, rfl, ho, hd, rfl⟩ := h; rfl) (b_has_number T F_check_expression F_normal_form F_is_number_form)

abbrev s_is_expression : Stmt := topS 41
theorem sc_is_expression : FnScope ["value"] ["value"] (defScope s_is_expression) := ⟨rfl, rfl, rfl, by decide +kernel, rfl, by decide +kernel, by decide +kernel⟩
def R_is_expression (ds : List D) (d : D) : Prop := ∃ e : Ex, ds = [e.toD] ∧ e.own ∧ e.depth ≤ 5 ∧ d = .bool true
theorem f_is_expression (T : Top K mg) (Z : Stand K mg "is_expression" s_is_expression) (F_is_expression_form : FnD P w K mg base 4 "is_expression_form" ["value"] R_is_expression_form) : FnD P w K mg base (5) "is_expression" ["value"] R_is_expression := by
  refine fnD (N := ["value"]) Z sc_is_expression (fun _ _ _ _ _ _ us hl => match us, hl with | [_], _ => rfl) (fun ds d h => by obtain ⟨e, rfl, ho, hd, rfl⟩ := h; rfl) fun f cdv A outer s H E hr ds d h => ?_
  obtain ⟨e, rfl, ho, hd, rfl⟩ := h
  exact rt_ (jb_rt (js_ret (j_call F_is_expression_form hr (ja_cons (j_var 0 rfl) ja_nil) ⟨e, rfl, ho, hd, rfl⟩)))

abbrev s_law_wrapped : Stmt := topS 46
theorem sc_law_wrapped : FnScope ["number"] ["number"] (defScope s_law_wrapped) := ⟨rfl, rfl, rfl, by decide +kernel, rfl, by decide +kernel, by decide +kernel⟩
def R_law_wrapped (ds : List D) (d : D) : Prop := ∃ n : Int, ds = [.int n] ∧ d = .int (wrap n)
theorem f_law_wrapped (T : Top K mg) (Z : Stand K mg "_law_wrapped" s_law_wrapped) : FnD P w K mg base (1) "_law_wrapped" ["number"] R_law_wrapped := by
  refine fnD (N := ["number"]) Z sc_law_wrapped (fun _ _ _ _ _ _ us hl => match us, hl with | [_], _ => rfl) (fun ds d h => by obtain ⟨n, rfl, rfl⟩ := h; rfl) fun f cdv A outer s H E hr ds d h => ?_
  obtain ⟨n, rfl, rfl⟩ := h
  exact rt_ (jb_rt (js_ret (j_bin op_sub (j_bin op_mod (j_bin op_add (j_var 0 rfl) j_int rb_int) j_int (rb_intC (by decide))) j_int rb_int)))

abbrev s_law_op : Stmt := topS 47
theorem sc_law_op : FnScope ["op", "one", "two"] ["op", "one", "two"] (defScope s_law_op) := ⟨rfl, rfl, rfl, by decide +kernel, rfl, by decide +kernel, by decide +kernel⟩
def R_law_op (ds : List D) (d : D) : Prop := ∃ (o : Op) (a b : Int), ds = [.str o.s, .int a, .int b] ∧ (-32768 ≤ a ∧ a ≤ 32767) ∧ (-32768 ≤ b ∧ b ≤ 32767) ∧ d = (match reck o a b with | some r => .int r | none => .none)
theorem f_law_op (T : Top K mg) (Z : Stand K mg "_law_op" s_law_op) (F_law_wrapped : FnD P w K mg base 1 "_law_wrapped" ["number"] R_law_wrapped) : FnD P w K mg base (2) "_law_op" ["op", "one", "two"] R_law_op := by
  refine fnD (N := ["op", "one", "two"]) Z sc_law_op (fun _ _ _ _ _ _ us hl => match us, hl with | [_, _, _], _ => rfl) (fun ds d h => by obtain ⟨o, a, b, rfl, ha, hb, rfl⟩ := h; rfl) fun f cdv A outer s H E hr ds d h => ?_
  obtain ⟨o, a, b, rfl, ha, hb, rfl⟩ := h
  have one0 : ∀ (t : Bool) (X : Cx) (ρ : List Sl) (c : Expr) (p q r : Pos) (k1 k2 : Nat), JT X c ρ t → J X (.IfExp c (.Constant (.int 1) k1 p) (.Constant (.int 0) k2 q) r) ρ (.int (if t then 1 else 0)) := fun t X ρ c p q r k1 k2 h => by
    cases t with
    | true => exact j_ifT h j_int
    | false => exact j_ifF h j_int
  cases o with
  | div =>
    refine rt_ (jb_rt (js_ifT (jt_cmp op_in_seq (j_var 0 rfl) (j_tup (ja_cons j_str (ja_cons j_str ja_nil))) rb_inB) (jb_rt (js_ret ?_))))
    by_cases h0 : b = 0
    · have e : reck .div a b = none := if_pos h0
      rw [e]
      exact j_ifT (jt_cmp op_eq (j_var 2 rfl) j_int (rb_eqN (decide_eq_true h0))) j_non
    · have e : reck .div a b = some (wrap (a.fdiv b)) := if_neg h0
      rw [e]
      exact j_ifF (jt_cmp op_eq (j_var 2 rfl) j_int (rb_eqN (decide_eq_false h0))) (j_call F_law_wrapped hr (ja_cons (j_ifT (jt_cmp op_eq (j_var 0 rfl) j_str rb_eqT) (j_bin op_fdivN (j_var 1 rfl) (j_var 2 rfl) (rb_intC ⟨h0, by omega⟩))) ja_nil) ⟨_, rfl, rfl⟩)
  | rem =>
    refine rt_ (jb_rt (js_ifT (jt_cmp op_in_seq (j_var 0 rfl) (j_tup (ja_cons j_str (ja_cons j_str ja_nil))) rb_inB) (jb_rt (js_ret ?_))))
    by_cases h0 : b = 0
    · have e : reck .rem a b = none := if_pos h0
      rw [e]
      exact j_ifT (jt_cmp op_eq (j_var 2 rfl) j_int (rb_eqN (decide_eq_true h0))) j_non
    · have e : reck .rem a b = some (wrap (a.fmod b)) := if_neg h0
      rw [e]
      exact j_ifF (jt_cmp op_eq (j_var 2 rfl) j_int (rb_eqN (decide_eq_false h0))) (j_call F_law_wrapped hr (ja_cons (j_ifF (jt_cmp op_eq (j_var 0 rfl) j_str rb_eqT) (j_bin op_modN (j_var 1 rfl) (j_var 2 rfl) (rb_intC h0))) ja_nil) ⟨_, rfl, rfl⟩)
  | less =>
    have e : (if a < b then (1 : Int) else 0) = if decide (a < b) then 1 else 0 := by by_cases h : a < b <;> simp [h]
    show ∃ r : Res, r.back (.int (if a < b then (1 : Int) else 0)) ∧ _
    rw [e]
    exact rt_ (jb_cons (js_ifF (jt_cmp op_in_seq (j_var 0 rfl) (j_tup (ja_cons j_str (ja_cons j_str ja_nil))) rb_inB) jb_nil) (jb_rt (js_ifT (jt_cmp op_in_seq (j_var 0 rfl) (j_tup (ja_cons j_str (ja_cons j_str ja_nil))) rb_inB) (jb_rt (js_ret (one0 _ _ _ _ _ _ _ _ _ (jt_ifeT (jt_cmp op_eq (j_var 0 rfl) j_str rb_eqT) (jt_cmp op_lt (j_var 1 rfl) (j_var 2 rfl) (rb_cmp rfl)))))))))
  | same =>
    have e : (if a = b then (1 : Int) else 0) = if decide (a = b) then 1 else 0 := by by_cases h : a = b <;> simp [h]
    show ∃ r : Res, r.back (.int (if a = b then (1 : Int) else 0)) ∧ _
    rw [e]
    exact rt_ (jb_cons (js_ifF (jt_cmp op_in_seq (j_var 0 rfl) (j_tup (ja_cons j_str (ja_cons j_str ja_nil))) rb_inB) jb_nil) (jb_rt (js_ifT (jt_cmp op_in_seq (j_var 0 rfl) (j_tup (ja_cons j_str (ja_cons j_str ja_nil))) rb_inB) (jb_rt (js_ret (one0 _ _ _ _ _ _ _ _ _ (jt_ifeF (jt_cmp op_eq (j_var 0 rfl) j_str rb_eqT) (jt_cmp op_eq (j_var 1 rfl) (j_var 2 rfl) rb_eqI))))))))
  | and =>
    have e : (if a ≠ 0 ∧ b ≠ 0 then (1 : Int) else 0) = if (!decide (a = 0) && !decide (b = 0)) then 1 else 0 := by by_cases h : a = 0 <;> by_cases h' : b = 0 <;> simp [h, h']
    show ∃ r : Res, r.back (.int (if a ≠ 0 ∧ b ≠ 0 then (1 : Int) else 0)) ∧ _
    rw [e]
    refine rt_ (jb_cons (js_ifF (jt_cmp op_in_seq (j_var 0 rfl) (j_tup (ja_cons j_str (ja_cons j_str ja_nil))) rb_inB) jb_nil) (jb_cons (js_ifF (jt_cmp op_in_seq (j_var 0 rfl) (j_tup (ja_cons j_str (ja_cons j_str ja_nil))) rb_inB) jb_nil) (jb_rt (js_ifT (jt_cmp op_in_seq (j_var 0 rfl) (j_tup (ja_cons j_str (ja_cons j_str ja_nil))) rb_inB) (jb_rt (js_ret (one0 _ _ _ _ _ _ _ _ _ (jt_ifeT (jt_cmp op_eq (j_var 0 rfl) j_str rb_eqT) (jt_w ?_)))))))))
    by_cases h : a = 0
    · rw [decide_eq_true h]
      exact jw_andF (jt_cmp op_ne (j_var 1 rfl) j_int (rb_neN (by rw [decide_eq_true h] <;> rfl)))
    · rw [decide_eq_false h, Bool.not_false, Bool.true_and]
      exact jw_andT (jt_cmp op_ne (j_var 1 rfl) j_int (rb_neN (by rw [decide_eq_false h] <;> rfl))) (jw_and1 (jt_cmp op_ne (j_var 2 rfl) j_int rb_neI))
  | or =>
    have e : (if a ≠ 0 ∨ b ≠ 0 then (1 : Int) else 0) = if (!decide (a = 0) || !decide (b = 0)) then 1 else 0 := by by_cases h : a = 0 <;> by_cases h' : b = 0 <;> simp [h, h']
    show ∃ r : Res, r.back (.int (if a ≠ 0 ∨ b ≠ 0 then (1 : Int) else 0)) ∧ _
    rw [e]
    refine rt_ (jb_cons (js_ifF (jt_cmp op_in_seq (j_var 0 rfl) (j_tup (ja_cons j_str (ja_cons j_str ja_nil))) rb_inB) jb_nil) (jb_cons (js_ifF (jt_cmp op_in_seq (j_var 0 rfl) (j_tup (ja_cons j_str (ja_cons j_str ja_nil))) rb_inB) jb_nil) (jb_rt (js_ifT (jt_cmp op_in_seq (j_var 0 rfl) (j_tup (ja_cons j_str (ja_cons j_str ja_nil))) rb_inB) (jb_rt (js_ret (one0 _ _ _ _ _ _ _ _ _ (jt_ifeF (jt_cmp op_eq (j_var 0 rfl) j_str rb_eqT) (jt_w ?_)))))))))
    by_cases h : a = 0
    · rw [decide_eq_true h, Bool.not_true, Bool.false_or]
      exact jw_orF (jt_cmp op_ne (j_var 1 rfl) j_int (rb_neN (by rw [decide_eq_true h] <;> rfl))) (jw_or1 (jt_cmp op_ne (j_var 2 rfl) j_int rb_neI))
    · rw [decide_eq_false h, Bool.not_false, Bool.true_or]
      exact jw_orT (jt_cmp op_ne (j_var 1 rfl) j_int (rb_neN (by rw [decide_eq_false h] <;> rfl)))
  | add => exact rt_ (jb_cons (js_ifF (jt_cmp op_in_seq (j_var 0 rfl) (j_tup (ja_cons j_str (ja_cons j_str ja_nil))) rb_inB) jb_nil) (jb_cons (js_ifF (jt_cmp op_in_seq (j_var 0 rfl) (j_tup (ja_cons j_str (ja_cons j_str ja_nil))) rb_inB) jb_nil) (jb_cons (js_ifF (jt_cmp op_in_seq (j_var 0 rfl) (j_tup (ja_cons j_str (ja_cons j_str ja_nil))) rb_inB) jb_nil) (jb_rt (js_ret (j_call F_law_wrapped hr (ja_cons (j_ifT (jt_cmp op_eq (j_var 0 rfl) j_str rb_eqT) (j_bin op_add (j_var 1 rfl) (j_var 2 rfl) rb_int)) ja_nil) ⟨_, rfl, rfl⟩))))))
  | sub => exact rt_ (jb_cons (js_ifF (jt_cmp op_in_seq (j_var 0 rfl) (j_tup (ja_cons j_str (ja_cons j_str ja_nil))) rb_inB) jb_nil) (jb_cons (js_ifF (jt_cmp op_in_seq (j_var 0 rfl) (j_tup (ja_cons j_str (ja_cons j_str ja_nil))) rb_inB) jb_nil) (jb_cons (js_ifF (jt_cmp op_in_seq (j_var 0 rfl) (j_tup (ja_cons j_str (ja_cons j_str ja_nil))) rb_inB) jb_nil) (jb_rt (js_ret (j_call F_law_wrapped hr (ja_cons (j_ifF (jt_cmp op_eq (j_var 0 rfl) j_str rb_eqT) (j_ifT (jt_cmp op_eq (j_var 0 rfl) j_str rb_eqT) (j_bin op_sub (j_var 1 rfl) (j_var 2 rfl) rb_int))) ja_nil) ⟨_, rfl, rfl⟩))))))
  | mul => exact rt_ (jb_cons (js_ifF (jt_cmp op_in_seq (j_var 0 rfl) (j_tup (ja_cons j_str (ja_cons j_str ja_nil))) rb_inB) jb_nil) (jb_cons (js_ifF (jt_cmp op_in_seq (j_var 0 rfl) (j_tup (ja_cons j_str (ja_cons j_str ja_nil))) rb_inB) jb_nil) (jb_cons (js_ifF (jt_cmp op_in_seq (j_var 0 rfl) (j_tup (ja_cons j_str (ja_cons j_str ja_nil))) rb_inB) jb_nil) (jb_rt (js_ret (j_call F_law_wrapped hr (ja_cons (j_ifF (jt_cmp op_eq (j_var 0 rfl) j_str rb_eqT) (j_ifF (jt_cmp op_eq (j_var 0 rfl) j_str rb_eqT) (j_bin op_mul (j_var 1 rfl) (j_var 2 rfl) (rb_intC (.inl ⟨by omega, by omega⟩))))) ja_nil) ⟨_, rfl, rfl⟩))))))
end
end K75
namespace K75
open PySem L2 Y
section
variable {P : Program} {w : World} {K : PySem.W.Frag} {mg : Str → Option Value} {base : Heap}
abbrev s_law_normal : Stmt := topS 49
theorem sc_law_normal : FnScope ["simple", "parts", "own", "words", "found"] ["simple"] (defScope s_law_normal) := ⟨rfl, rfl, rfl, by decide +kernel, rfl, by decide +kernel, by decide +kernel⟩
def R_law_normal (n : Nat) (ds : List D) (d : D) : Prop := ∃ e : Ex, ds = [e.toD] ∧ e.words ∧ e.depth ≤ n ∧ d = (nf e).toD
theorem f_law_normal0 {n : Nat} (hn60 : n ≤ 60) (T : Top K mg) (Z : Stand K mg "_law_normal" s_law_normal) (F_law_op : FnD P w K mg base 2 "_law_op" ["op", "one", "two"] R_law_op) (F_law_wrapped : FnD P w K mg base 1 "_law_wrapped" ["number"] R_law_wrapped) (rec : ∀ m, m < n → FnD P w K mg base (3 + m) "_law_normal" ["simple"] (R_law_normal m)) : FnD P w K mg base (3 + n) "_law_normal" ["simple"] (R_law_normal n) := by
  refine Nat.add_comm 3 n ▸ fnD (k := n + 2) (N := ["simple", "parts", "own", "words", "found"]) Z sc_law_normal (fun _ _ _ _ _ _ us hl => match us, hl with | [_], _ => rfl) (fun ds d h => by obtain ⟨e, rfl, hw, hd, rfl⟩ := h; rfl) fun f cdv A outer s H E hr ds d h => ?_
  obtain ⟨e, rfl, hw, hd, rfl⟩ := h
  have op4 : ∀ o : Op, ((txts ["number", "name", "me", "all"]).any fun y => PyData.eqv y (.str o.s)) = false ∧ decide (o.s = "cell") = false ∧ decide (o.s = "neg") = false ∧ ((txts ["neg", "not"]).any fun y => PyData.eqv y (.str o.s)) = false := fun o => by cases o <;> decide +kernel
  have plain : ∀ h t, (h = "number" ∨ h = "name" ∨ h = "me" ∨ h = "all") → ∃ r : Res, r.back (.tuple (.str h :: t)) ∧ JB (bx P w K mg base ["simple", "parts", "own", "words", "found"] "_law_normal" s_law_normal f cdv A outer s H E) (defBody s_law_normal) (startL 5 [.tuple (.str h :: t)]) r := fun h t h1 =>
    rt_ (jb_rt (js_ifT (jt_cmp op_in_seq (j_ix (j_var 0 rfl) j_int (rb_ix (.tup (at0 _ _)))) (j_tup (ja_cons j_str (ja_cons j_str (ja_cons j_str (ja_cons j_str ja_nil))))) (rb_inB (by rcases h1 with rfl | rfl | rfl | rfl <;> decide +kernel))) (jb_rt (js_ret (j_var 0 rfl)))))
  have pre : ∀ (h : Str) (as : List Ex) (r : Res), ((txts ["number", "name", "me", "all"]).any fun y => PyData.eqv y (.str h)) = false → decide (h = "cell") = false → (∀ x ∈ as, x.words ∧ x.depth < n) → as.length ≤ 2 →
      JB (bx P w K mg base ["simple", "parts", "own", "words", "found"] "_law_normal" s_law_normal f cdv A outer s H E) ((defBody s_law_normal).drop 3) [.d (.tuple (.str h :: as.map Ex.toD)), .d (.list ((as.map nf).map Ex.toD)), .u, .u, .u] r → JB (bx P w K mg base ["simple", "parts", "own", "words", "found"] "_law_normal" s_law_normal f cdv A outer s H E) (defBody s_law_normal) (startL 5 [.tuple (.str h :: as.map Ex.toD)]) r := fun h as r h1 h2 h3 h4 hB => by
    refine jb_cons (js_ifF (jt_cmp op_in_seq (j_ix (j_var 0 rfl) j_int (rb_ix (.tup (at0 _ _)))) (j_tup (ja_cons j_str (ja_cons j_str (ja_cons j_str (ja_cons j_str ja_nil))))) (rb_inB h1)) jb_nil) (jb_cons (js_ifF (jt_cmp op_eq (j_ix (j_var 0 rfl) j_int (rb_ix (.tup (at0 _ _)))) j_str (rb_eqT h2)) jb_nil) (jb_cons ?_ hB))
    have e : (as.map nf).map Ex.toD = as.filterMap fun x => some (nf x).toD := by rw [List.map_map]; exact (fm_some _ _).symm
    rw [e]
    exact js_setLc (l := as) (enc := Ex.toD) (ρ := startL 5 [.tuple (.str h :: as.map Ex.toD)]) 1 2 rfl sc_law_normal.nd (show blkC ["simple", "parts", "own", "words", "found"] (defScope s_law_normal) _ _ = true from by decide +kernel) (fun _ _ _ _ _ => pg_name sc_law_normal.nd rfl (Or.inl rfl)) (ji_tup (j_slT (ds := .str h :: as.map Ex.toD) 1 (j_var 0 rfl) j_int)) (fun x => some (nf x).toD) (by omega) (fun x hx s H C cl fp => ⟨jts_nil, fun y hy => by
      cases hy
      exact j_call (rec x.depth (h3 x hx).2) hr (ja_cons (j_var 2 rfl) ja_nil) ⟨x, rfl, (h3 x hx).1, Nat.le_refl _, rfl⟩ (by have := (h3 x hx).2; omega)⟩) (sw_true rfl rfl rfl (by decide +kernel))
  have cond : ∀ (s0 : D) (l : List Ex), (∀ x ∈ l, x.depth ≤ 60) → l.length ≤ 2 → JT (bx P w K mg base ["simple", "parts", "own", "words", "found"] "_law_normal" s_law_normal f cdv A outer s H E) (match (defBody s_law_normal).drop 3 with | .If c _ _ _ :: _ => c | _ => .Constant .none 0 ⟨0, 0, 0, 0⟩) [.d s0, .d (.list (l.map Ex.toD)), .u, .u, .u] (l.all Ex.isNum) := fun s0 l hl h2 => by
    rw [← odd_empty]
    exact jt_cmp (op_eqD hr.units) (j_lc (l := l) (enc := Ex.toD) 2 rfl sc_law_normal.nd (show blkC ["simple", "parts", "own", "words", "found"] (defScope s_law_normal) _ _ = true from by decide +kernel) (fun _ _ _ _ _ => pg_name sc_law_normal.nd rfl (Or.inl rfl)) (ji_lst (j_var 1 rfl)) odd (by omega) (fun x hx s H C cl fp => by
      refine ⟨jts_one (jt_cmp op_ne (j_ix (j_var 2 rfl) j_int (rb_ix (ix_head x))) j_str (rb_neT (by
        rw [x.isNum_eq]
        unfold odd
        cases x.isNum <;> rfl))), fun y hy => ?_⟩
      have e : y = x.toD := by
        unfold odd at hy
        cases h : x.isNum <;> rw [h] at hy <;> cases hy
        rfl
      subst e
      exact j_var 2 rfl)) (j_lst ja_nil) (rb_eq (odd_list hl) rfl)
  have wd : ∀ (s0 : D) (ns : List Int), ns.length ≤ 2 → JS (bx P w K mg base ["simple", "parts", "own", "words", "found"] "_law_normal" s_law_normal f cdv A outer s H E) (match (defBody s_law_normal).drop 3 with | .If _ (st :: _) _ _ :: _ => st | _ => .Pass ⟨0, 0, 0, 0⟩) [.d s0, .d (.list ((ns.map Ex.num).map Ex.toD)), .u, .u, .u] (.nx [.d s0, .d (.list ((ns.map Ex.num).map Ex.toD)), .u, .d (.list (ns.map PyData.int)), .u]) := fun s0 ns h2 => by
    have e : ns.map PyData.int = ns.filterMap fun k => some (PyData.int k) := (fm_some _ _).symm
    have e2 : (ns.map Ex.num).map Ex.toD = ns.map fun k => (Ex.num k).toD := by rw [List.map_map]; rfl
    rw [e, e2]
    exact js_setLc (l := ns) (enc := fun k => (Ex.num k).toD) 3 2 rfl sc_law_normal.nd (show blkC ["simple", "parts", "own", "words", "found"] (defScope s_law_normal) _ _ = true from by decide +kernel) (fun _ _ _ _ _ => pg_name sc_law_normal.nd rfl (Or.inl rfl)) (ji_lst (j_var 1 rfl)) (fun k => some (.int k)) (by omega) (fun x hx s H C cl fp => ⟨jts_nil, fun y hy => by
      cases hy
      exact j_ix (j_var 2 rfl) j_int (rb_ix (.tup (at1 _ _ _)))⟩) (sw_true rfl rfl rfl (by decide +kernel))
  have last : ∀ (h : Str) (as : List D) (l : List D), as.length ≤ 2 → l.length ≤ 2 → J (bx P w K mg base ["simple", "parts", "own", "words", "found"] "_law_normal" s_law_normal f cdv A outer s H E) (match (defBody s_law_normal).drop 5 with | .Return (some e) _ :: _ => e | _ => .Constant .none 0 ⟨0, 0, 0, 0⟩) [.d (.tuple (.str h :: as)), .d (.list l), .u, .u, .u] (.tuple (.str h :: l)) := fun h as l h1 h2 =>
    j_bin op_catA (j_tup (ja_cons (j_ix (j_var 0 rfl) j_int (rb_ix (.tup (at0 _ _)))) ja_nil)) (j_callTy call_tuple_of T.tuple bT (ja_cons (j_var 1 rfl) ja_nil) rl_tupL) (rb_catT (xs := [.str h]) (by simp only [List.length_cons, List.length_nil]; omega))
  cases e with
  | num k => exact plain _ _ (by simp)
  | name k => exact plain _ _ (by simp)
  | me => exact plain _ _ (by simp)
  | all => exact plain _ _ (by simp)
  | cell x => exact rt_ (jb_cons (js_ifF (jt_cmp op_in_seq (j_ix (j_var 0 rfl) j_int (rb_ix (.tup (at0 _ _)))) (j_tup (ja_cons j_str (ja_cons j_str (ja_cons j_str (ja_cons j_str ja_nil))))) rb_inB) jb_nil) (jb_rt (js_ifT (jt_cmp op_eq (j_ix (j_var 0 rfl) j_int (rb_ix (.tup (at0 _ _)))) j_str rb_eqT) (jb_rt (js_ret (j_tup (ja_cons (j_ix (j_var 0 rfl) j_int (rb_ix (.tup (at0 _ _)))) (ja_cons (j_ix (j_var 0 rfl) j_int (rb_ix (.tup (at1 _ _ _))))
      (ja_cons (j_call (rec x.depth (Nat.lt_of_lt_of_le (Nat.lt_succ_self _) hd)) hr (ja_cons (j_ix (j_var 0 rfl) j_int (rb_ix (.tup (at2 _ _ _ _)))) ja_nil) ⟨x, rfl, hw, Nat.le_refl _, rfl⟩ (by have : x.depth + 1 ≤ n := hd; omega)) ja_nil)))))))))
  | neg x =>
    have hx : x.depth + 1 ≤ n := hd
    have hdx := nf_depth x
    refine rt_ (pre "neg" [x] _ (by decide +kernel) (by decide +kernel) (fun y hy => by rw [List.mem_singleton.mp hy]; exact ⟨hw, hx⟩) (by simp) ?_)
    have hc := cond (.tuple (.str "neg" :: [x].map Ex.toD)) [nf x] (fun y hy => by rw [List.mem_singleton.mp hy]; omega) (by simp)
    rw [List.all_cons, List.all_nil, Bool.and_true] at hc
    cases hn : (nf x).isNum with
    | true =>
      rw [hn] at hc
      obtain ⟨a, ha⟩ := isNum_of hn
      have e1 : (nf (.neg x)).toD = .tuple [.str "number", .int (wrap (0 - a))] := by show (negE (nf x)).toD = _; rw [ha]; rfl
      rw [e1]
      rw [ha] at hc
      show JB _ _ [.d (.tuple (.str "neg" :: [x].map Ex.toD)), .d (.list (([nf x]).map Ex.toD)), .u, .u, .u] _
      rw [ha]
      exact jb_rt (js_ifT hc (jb_cons (wd _ [a] (by simp)) (jb_rt (js_ifT (jt_cmp op_in_seq (j_ix (j_var 0 rfl) j_int (rb_ix (.tup (at0 _ _)))) (j_tup (ja_cons j_str (ja_cons j_str ja_nil))) rb_inB) (jb_rt (js_ret (j_tup (ja_cons j_str (ja_cons (j_ifT (jt_cmp op_eq (j_ix (j_var 0 rfl) j_int (rb_ix (.tup (at0 _ _)))) j_str rb_eqT) (j_call F_law_wrapped hr (ja_cons (j_bin op_sub j_int (j_ix (j_var 3 rfl) j_int (rb_ix (.lst (at0 _ _)))) rb_int) ja_nil) ⟨_, rfl, rfl⟩)) ja_nil)))))))))
    | false =>
      rw [hn] at hc
      refine jb_cons (js_ifF hc jb_nil) ?_
      have hq := neg_head (e := nf x)
      cases hm : nf x with
      | neg g =>
        have e1 : (nf (.neg x)).toD = g.toD := by show (negE (nf x)).toD = _; rw [hm]; rfl
        rw [e1]
        show JB _ _ [.d (.tuple (.str "neg" :: [x].map Ex.toD)), .d (.list (([nf x]).map Ex.toD)), .u, .u, .u] _
        rw [hm]
        exact jb_rt (js_ifT (jt_w (jw_andT (jt_cmp op_eq (j_ix (j_var 0 rfl) j_int (rb_ix (.tup (at0 _ _)))) j_str rb_eqT) (jw_and1 (jt_cmp op_eq (j_ix (j_ix (j_var 1 rfl) j_int (rb_ix (.lst (at0 _ _)))) j_int (rb_ix (ix_head (.neg g)))) j_str rb_eqT)))) (jb_rt (js_ret (j_ix (j_ix (j_var 1 rfl) j_int (rb_ix (.lst (at0 _ _)))) j_int (rb_ix (.tup (at1 _ _ _)))))))
      | num a => rw [hm] at hn; cases hn
      | _ =>
        rw [hm] at hq
        have e1 : (nf (.neg x)).toD = .tuple (.str "neg" :: [(nf x).toD]) := by show (negE (nf x)).toD = _; rw [hm]; rfl
        rw [e1]
        show JB _ _ [.d (.tuple (.str "neg" :: [x].map Ex.toD)), .d (.list (([nf x]).map Ex.toD)), .u, .u, .u] _
        rw [hm]
        exact jb_cons (js_ifF (jt_w (jw_andT (jt_cmp op_eq (j_ix (j_var 0 rfl) j_int (rb_ix (.tup (at0 _ _)))) j_str rb_eqT) (jw_and1 (jt_cmp op_eq (j_ix (j_ix (j_var 1 rfl) j_int (rb_ix (.lst (at0 _ _)))) j_int (rb_ix (ix_head _))) j_str (rb_eqT hq))))) jb_nil) (jb_rt (js_ret (last "neg" _ [_] (by simp) (by simp))))
  | not x =>
    have hx : x.depth + 1 ≤ n := hd
    have hdx := nf_depth x
    refine rt_ (pre "not" [x] _ (by decide +kernel) (by decide +kernel) (fun y hy => by rw [List.mem_singleton.mp hy]; exact ⟨hw, hx⟩) (by simp) ?_)
    have hc := cond (.tuple (.str "not" :: [x].map Ex.toD)) [nf x] (fun y hy => by rw [List.mem_singleton.mp hy]; omega) (by simp)
    rw [List.all_cons, List.all_nil, Bool.and_true] at hc
    cases hn : (nf x).isNum with
    | true =>
      rw [hn] at hc
      obtain ⟨a, ha⟩ := isNum_of hn
      have e1 : (nf (.not x)).toD = .tuple [.str "number", .int (if a = 0 then 1 else 0)] := by show (notE (nf x)).toD = _; rw [ha]; rfl
      rw [e1]
      rw [ha] at hc
      show JB _ _ [.d (.tuple (.str "not" :: [x].map Ex.toD)), .d (.list (([nf x]).map Ex.toD)), .u, .u, .u] _
      rw [ha]
      refine jb_rt (js_ifT hc (jb_cons (wd _ [a] (by simp)) (jb_rt (js_ifT (jt_cmp op_in_seq (j_ix (j_var 0 rfl) j_int (rb_ix (.tup (at0 _ _)))) (j_tup (ja_cons j_str (ja_cons j_str ja_nil))) rb_inB) (jb_rt (js_ret (j_tup (ja_cons j_str (ja_cons (j_ifF (jt_cmp op_eq (j_ix (j_var 0 rfl) j_int (rb_ix (.tup (at0 _ _)))) j_str rb_eqT) ?_) ja_nil)))))))))
      by_cases h0 : a = 0
      · rw [if_pos h0]
        exact j_ifT (jt_cmp op_eq (j_ix (j_var 3 rfl) j_int (rb_ix (.lst (at0 _ _)))) j_int (rb_eqN (decide_eq_true h0))) j_int
      · rw [if_neg h0]
        exact j_ifF (jt_cmp op_eq (j_ix (j_var 3 rfl) j_int (rb_ix (.lst (at0 _ _)))) j_int (rb_eqN (decide_eq_false h0))) j_int
    | false =>
      rw [hn] at hc
      have e1 : (nf (.not x)).toD = .tuple (.str "not" :: [(nf x).toD]) := by show (notE (nf x)).toD = _; cases hm : nf x <;> first | rfl | (rw [hm] at hn; cases hn)
      rw [e1]
      exact jb_cons (js_ifF hc jb_nil) (jb_cons (js_ifF (jt_w (jw_andF (jt_cmp op_eq (j_ix (j_var 0 rfl) j_int (rb_ix (.tup (at0 _ _)))) j_str rb_eqT))) jb_nil) (jb_rt (js_ret (last "not" _ [_] (by simp) (by simp)))))
  | bin o x y =>
    have hxy : max x.depth y.depth + 1 ≤ n := hd
    have hdx := nf_depth x
    have hdy := nf_depth y
    obtain ⟨h1, h2, h3, h4⟩ := op4 o
    refine rt_ (pre o.s [x, y] _ h1 h2 (fun z hz => by
      rcases List.mem_cons.mp hz with e | hz
      · rw [e]; exact ⟨hw.1, by omega⟩
      · rw [List.mem_singleton.mp hz]; exact ⟨hw.2, by omega⟩) (by simp) ?_)
    have hc := cond (.tuple (.str o.s :: [x, y].map Ex.toD)) [nf x, nf y] (fun z hz => by
      rcases List.mem_cons.mp hz with e | hz
      · rw [e]; omega
      · rw [List.mem_singleton.mp hz]; omega) (by simp)
    rw [List.all_cons, List.all_cons, List.all_nil, Bool.and_true] at hc
    have other : nf (.bin o x y) = .bin o (nf x) (nf y) → JB (bx P w K mg base ["simple", "parts", "own", "words", "found"] "_law_normal" s_law_normal f cdv A outer s H E) ((defBody s_law_normal).drop 4) [.d (.tuple (.str o.s :: [x, y].map Ex.toD)), .d (.list ([nf x, nf y].map Ex.toD)), .u, .u, .u] (.rt (nf (.bin o x y)).toD) := fun e => by
      rw [e]
      exact jb_cons (js_ifF (jt_w (jw_andF (jt_cmp op_eq (j_ix (j_var 0 rfl) j_int (rb_ix (.tup (at0 _ _)))) j_str (rb_eqT h3)))) jb_nil) (jb_rt (js_ret (last o.s _ [_, _] (by simp) (by simp))))
    cases hn : ((nf x).isNum && (nf y).isNum) with
    | false =>
      rw [hn] at hc
      refine jb_cons (js_ifF hc jb_nil) (other ?_)
      show binE o (nf x) (nf y) = _
      cases hx : nf x <;> cases hy : nf y <;> first | rfl | (rw [hx, hy] at hn; cases hn)
    | true =>
      rw [hn] at hc
      rw [Bool.and_eq_true] at hn
      obtain ⟨a, ha⟩ := isNum_of hn.1
      obtain ⟨b, hb⟩ := isNum_of hn.2
      have wa := nf_words x hw.1
      have wb := nf_words y hw.2
      rw [ha] at wa
      rw [hb] at wb
      rw [ha, hb] at hc
      have e0 : nf (.bin o x y) = (match reck o a b with | some r => .num r | none => .bin o (.num a) (.num b)) := by show binE o (nf x) (nf y) = _; rw [ha, hb]; rfl
      show JB _ _ [.d (.tuple (.str o.s :: [x, y].map Ex.toD)), .d (.list (([nf x, nf y]).map Ex.toD)), .u, .u, .u] _
      rw [ha, hb, e0]
      have fnd : JS (bx P w K mg base ["simple", "parts", "own", "words", "found"] "_law_normal" s_law_normal f cdv A outer s H E) (match (defBody s_law_normal).drop 3 with | .If _ (_ :: _ :: st :: _) _ _ :: _ => st | _ => .Pass ⟨0, 0, 0, 0⟩) [.d (.tuple (.str o.s :: [x, y].map Ex.toD)), .d (.list (([Ex.num a, Ex.num b]).map Ex.toD)), .u, .d (.list [.int a, .int b]), .u] (.nx [.d (.tuple (.str o.s :: [x, y].map Ex.toD)), .d (.list (([Ex.num a, Ex.num b]).map Ex.toD)), .u, .d (.list [.int a, .int b]), .d (match reck o a b with | some r => .int r | none => .none)]) :=
        js_set 4 sc_law_normal.nd (j_call F_law_op hr (ja_cons (j_ix (j_var 0 rfl) j_int (rb_ix (.tup (at0 _ _)))) (ja_cons (j_ix (j_var 3 rfl) j_int (rb_ix (.lst (at0 _ _)))) (ja_cons (j_ix (j_var 3 rfl) j_int (rb_ix (.lst (at1 _ _ _)))) ja_nil))) ⟨o, a, b, rfl, wa, wb, rfl⟩)
      cases hq : reck o a b with
      | some r =>
        rw [hq] at fnd
        exact jb_rt (js_ifT hc (jb_cons (wd _ [a, b] (by simp)) (jb_cons (js_ifF (jt_cmp op_in_seq (j_ix (j_var 0 rfl) j_int (rb_ix (.tup (at0 _ _)))) (j_tup (ja_cons j_str (ja_cons j_str ja_nil))) (rb_inB h4)) jb_nil) (jb_cons fnd (jb_rt (js_ret (j_ifT (jt_cmp op_notN (j_var 4 rfl) j_non rb_notN) (j_tup (ja_cons j_str (ja_cons (j_var 4 rfl) ja_nil))))))))))
      | none =>
        rw [hq] at fnd
        exact jb_rt (js_ifT hc (jb_cons (wd _ [a, b] (by simp)) (jb_cons (js_ifF (jt_cmp op_in_seq (j_ix (j_var 0 rfl) j_int (rb_ix (.tup (at0 _ _)))) (j_tup (ja_cons j_str (ja_cons j_str ja_nil))) (rb_inB h4)) jb_nil) (jb_cons fnd (jb_rt (js_ret (j_ifF (jt_cmp op_notN (j_var 4 rfl) j_non rb_notN)
          (j_bin op_catA (j_tup (ja_cons (j_ix (j_var 0 rfl) j_int (rb_ix (.tup (at0 _ _)))) ja_nil)) (j_callTy call_tuple_of T.tuple bT (ja_cons (j_var 1 rfl) ja_nil) rl_tupL) (rb_catT (xs := [.str o.s]) (ys := [(Ex.num a).toD, (Ex.num b).toD]) (Nat.le_of_ble_eq_true rfl))))))))))

theorem f_law_normal (T : Top K mg) (Z : Stand K mg "_law_normal" s_law_normal) (F_law_op : FnD P w K mg base 2 "_law_op" ["op", "one", "two"] R_law_op) (F_law_wrapped : FnD P w K mg base 1 "_law_wrapped" ["number"] R_law_wrapped) : ∀ n, n ≤ 60 → FnD P w K mg base (3 + n) "_law_normal" ["simple"] (R_law_normal n) := fun n =>
  Nat.strongRecOn n fun n ih h => f_law_normal0 h T Z F_law_op F_law_wrapped fun m hm => ih m hm (by omega)
end
end K75
namespace K75
open PySem L2 Y
section
variable {P : Program} {w : World} {K : PySem.W.Frag} {mg : Str → Option Value} {base : Heap}
abbrev s_law_deal : Stmt := topS 44
theorem sc_law_deal : FnScope ["pail", "top", "figure", "mixed"] ["pail", "top"] (defScope s_law_deal) := ⟨rfl, rfl, rfl, by decide +kernel, rfl, by decide +kernel, by decide +kernel⟩
def A_law_deal (ds : List D) : Prop := ∃ t : Int, ds = [.int t] ∧ 0 < t ∧ t < 1073741824
def R_law_deal (ds : List D) (d : D) : Prop := ∃ t r : Int, ds = [.int t] ∧ d = .int r ∧ 0 ≤ r ∧ r < t
theorem f_law_deal (T : Top K mg) (Z : Stand K mg "_law_deal" s_law_deal) : FnM P w K mg base (1) "_law_deal" ["pail", "top"] A_law_deal R_law_deal := by
  refine fnM (y := "pail") (N := ["top", "figure", "mixed"]) Z sc_law_deal (fun _ _ _ _ _ _ us hl => match us, hl with | [_, _], _ => rfl) (fun ds h => by obtain ⟨t, rfl, h0, h1⟩ := h; rfl) fun f cdv A outer s H E hr pa ds h => ?_
  obtain ⟨t, rfl, h0, h1⟩ := h
  have z0 : ∀ {pa : Addr} {X : Cx} {ρ : List Sl} {k : Nat} {p : Pos} (i : Int), JM pa X (.Constant (.int i) k p) ρ (fun d => d = .int i) := fun i => jm_pure j_int rfl
  refine sb_cons (N1 := fun ρ' => ρ' = startM 4 pa [.int t]) (sx_if2 (jtm_cmp op_gt (jm_pail 0 rfl) (z0 0) (fun da db ⟨z, e, _⟩ e2 => by subst e e2; exact ⟨_, rb_cmp rfl⟩))
    (sb_cons (sx_divmod 0 2 rfl sc_law_deal.nd T.divmod (by decide +kernel) (j_var 1 rfl) ⟨h0, h1⟩ rfl) fun ρ1 ⟨z, hz0, hz1, e⟩ => by
      subst e
      exact sb_cons (N1 := fun _ => False) (sx_ret (jm_pure (j_var 2 rfl) ⟨t, z, rfl, rfl, hz0, hz1⟩)) fun _ h => h.elim) (sb_nil rfl)) fun ρ1 e => ?_
  subst e
  refine sb_cons (sx_pail 0 (jm_bin op_add (jm_pail 0 rfl) (z0 1) (fun da db ⟨z, e, _⟩ e2 => by subst e e2; exact ⟨_, rb_int, _, rfl, fun h => absurd h (by decide)⟩)) rfl) fun ρ1 e => ?_
  subst e
  refine sb_cons (sx_set (P := fun d => ∃ m : Int, d = .int m ∧ 0 ≤ m ∧ m < 2147483489) 3 sc_law_deal.nd (jm_bin op_mod (P1 := fun d => ∃ z : Int, d = .int z) (jm_int1 T.int bI (jm_bin op_add (P1 := fun d => ∃ z : Int, d = .int z) (P2 := fun d => ∃ z : Int, d = .int z)
      (jm_bin op_mul (jm_pail 0 rfl) (z0 15511) (fun da db ⟨z, e, _⟩ e2 => by subst e e2; exact ⟨_, rb_intC (.inr ⟨by decide, by decide⟩), _, rfl⟩))
      (jm_bin op_mul (z0 11903) (jm_pail 0 rfl) (fun da db e2 ⟨z, e, _⟩ => by subst e e2; exact ⟨_, rb_intC (.inl ⟨by decide, by decide⟩), _, rfl⟩))
      (fun da db ⟨z, e⟩ ⟨z2, e2⟩ => by subst e e2; exact ⟨_, rb_int, _, rfl⟩)) (fun _ h => h)) (z0 2147483489)
    (fun da db ⟨z, e⟩ e2 => by subst e e2; exact ⟨_, rb_intC (by decide), _, rfl, Int.emod_nonneg _ (by decide), Int.emod_lt_of_pos _ (by decide)⟩))) fun ρ1 h => ?_
  obtain ⟨_, ⟨m, rfl, hm0, hm1⟩, rfl⟩ := h
  refine sb_cons (sx_pail 0 (jm_bin op_mod (P1 := fun d => ∃ z : Int, d = .int z) (jm_int1 T.int bI (jm_bin op_add (P1 := fun d => ∃ z : Int, d = .int z) (P2 := fun d => ∃ z : Int, d = .int z)
      (jm_pure (j_bin op_mul (j_var 3 rfl) (j_bin op_add (j_bin op_mod (j_callTy call_int1 T.int bI (ja_cons (j_var 3 rfl) ja_nil) rl_int1) j_int (rb_intC (by decide))) j_int rb_int) (rb_intC (.inl ⟨by omega, by omega⟩))) ⟨_, rfl⟩)
      (jm_bin op_mul (z0 31) (jm_pail 0 rfl) (fun da db e2 ⟨z, e, _⟩ => by subst e e2; exact ⟨_, rb_intC (.inl ⟨by decide, by decide⟩), _, rfl⟩))
      (fun da db ⟨z, e⟩ ⟨z2, e2⟩ => by subst e e2; exact ⟨_, rb_int, _, rfl⟩)) (fun _ h => h)) (z0 2147483489)
    (fun da db ⟨z, e⟩ e2 => by subst e e2; exact ⟨_, rb_intC (by decide), _, rfl, fun _ => ⟨Int.emod_nonneg _ (by decide), Int.emod_lt_of_pos _ (by decide)⟩⟩)) rfl) fun ρ1 e => ?_
  subst e
  exact sb_cons (N1 := fun _ => False) (sx_ret (jm_bin op_mod (P1 := fun d => ∃ z : Int, d = .int z) (jm_int1 T.int bI (jm_bin op_fdiv (jm_pail 0 rfl) (z0 349) (fun da db ⟨z, e, _⟩ e2 => by subst e e2; exact ⟨_, rb_intC ⟨by decide, by decide⟩, _, rfl⟩)) (fun _ h => h)) (jm_pure (j_var 1 rfl) (P := fun d => d = .int t) rfl)
    (fun da db ⟨z, e⟩ e2 => by subst e e2; exact ⟨_, rb_intC h0, t, _, rfl, rfl, Int.emod_nonneg _ (by omega), Int.emod_lt_of_pos _ h0⟩))) fun _ h => h.elim

abbrev s_law_any : Stmt := topS 45
theorem sc_law_any : FnScope ["pail", "some"] ["pail", "some"] (defScope s_law_any) := ⟨rfl, rfl, rfl, by decide +kernel, rfl, by decide +kernel, by decide +kernel⟩
def A_law_any (ds : List D) : Prop := ∃ l : List D, ds = [.list l] ∧ 0 < l.length ∧ l.length < 1000000
def R_law_any (ds : List D) (d : D) : Prop := ∃ l : List D, ds = [.list l] ∧ d ∈ l
theorem f_law_any (T : Top K mg) (Z : Stand K mg "_law_any" s_law_any) (F_law_deal : FnM P w K mg base 1 "_law_deal" ["pail", "top"] A_law_deal R_law_deal) : FnM P w K mg base (2) "_law_any" ["pail", "some"] A_law_any R_law_any := by
  refine fnM (y := "pail") (N := ["some"]) Z sc_law_any (fun _ _ _ _ _ _ us hl => match us, hl with | [_, _], _ => rfl) (fun ds h => by obtain ⟨l, rfl, h0, h1⟩ := h; rfl) fun f cdv A outer s H E hr pa ds h => ?_
  obtain ⟨l, rfl, h0, h1⟩ := h
  exact sb_cons (N1 := fun _ => False) (sx_ret (jm_ix (P2 := fun d => ∃ r : Int, d = .int r ∧ 0 ≤ r ∧ r < l.length) (jm_pure (j_var 1 rfl) (P := fun d => d = .list l) rfl)
    (jm_call 0 F_law_deal hr rfl (jma_cons (P1 := fun d => d = .int l.length) (jm_pure (j_callB call_len T.len PySem.boot_len (ja_cons (j_var 1 rfl) ja_nil) (rl_len (.lst l))) rfl) jma_nil)
      (fun ds ⟨d, t, e1, e2, e3⟩ => by subst e1 e2 e3; exact ⟨_, rfl, by omega, by omega⟩) (fun ds d ⟨d1, t1, e1, e2, e3⟩ ⟨t, r, e4, e5, h2, h3⟩ => by subst e1 e2 e3; cases e4; exact ⟨r, e5, h2, h3⟩))
    (fun da db e ⟨r, e2, h2, h3⟩ => by
      subst e e2
      have hr : r.toNat < l.length := by omega
      exact ⟨_, rb_ix (.lst (atI_at hr (by omega))), l, rfl, List.getElem_mem _⟩))) fun _ h => h.elim

abbrev s_law_expression : Stmt := topS 48
theorem sc_law_expression : FnScope ["pail", "depth", "sort", "op"] ["pail", "depth"] (defScope s_law_expression) := ⟨rfl, rfl, rfl, by decide +kernel, rfl, by decide +kernel, by decide +kernel⟩
def A_law_expression (n : Nat) (ds : List D) : Prop := ∃ m : Nat, ds = [.int (m : Int)] ∧ m ≤ n
def R_law_expression (n : Nat) (ds : List D) (d : D) : Prop := ∃ e : Ex, d = e.toD ∧ e.own ∧ e.depth ≤ n + 1
theorem f_law_expression0 {n : Nat} (T : Top K mg) (Z : Stand K mg "_law_expression" s_law_expression) (F_law_deal : FnM P w K mg base 1 "_law_deal" ["pail", "top"] A_law_deal R_law_deal) (F_law_any : FnM P w K mg base 2 "_law_any" ["pail", "some"] A_law_any R_law_any) (rec : ∀ m, m < n → FnM P w K mg base (4 + m) "_law_expression" ["pail", "depth"] (A_law_expression m) (R_law_expression m)) : FnM P w K mg base (4 + n) "_law_expression" ["pail", "depth"] (A_law_expression n) (R_law_expression n) := by
  refine Nat.add_comm 4 n ▸ fnM (k := n + 3) (y := "pail") (N := ["depth", "sort", "op"]) Z sc_law_expression (fun _ _ _ _ _ _ us hl => match us, hl with | [_, _], _ => rfl) (fun ds h => by obtain ⟨m, rfl, _⟩ := h; rfl) fun f cdv A outer s H E hr pa ds h => ?_
  obtain ⟨m, rfl, hmn⟩ := h
  have hs : JM pa (bx P w K mg base ["pail", "depth", "sort", "op"] "_law_expression" s_law_expression f cdv A outer s H E) (match defBody s_law_expression with | .Assign _ e _ :: _ => e | _ => .Constant .none 0 ⟨0, 0, 0, 0⟩) (startM 4 pa [.int m]) (fun d => ∃ r : Int, d = .int r ∧ 0 ≤ r ∧ (m = 0 → r < 4) ∧ r < 9) := by
    by_cases h0 : 0 < m
    · exact jm_ifT (jt_cmp op_gt (j_var 1 rfl) j_int (rb_cmp (decide_eq_true (by omega)))) (jm_mono (jm_call (P := fun d => ∃ r : Int, d = .int r ∧ 0 ≤ r ∧ r < 9) 0 F_law_deal hr rfl (jma_cons (P1 := fun d => d = .int 9) (jm_pure j_int rfl) jma_nil) (fun ds ⟨d, t, e1, e2, e3⟩ => by subst e1 e2 e3; exact ⟨_, rfl, by decide, by decide⟩) (fun ds d ⟨d1, t1, e1, e2, e3⟩ ⟨t, r, e4, e5, h2, h3⟩ => by subst e1 e2 e3; cases e4; exact ⟨r, e5, h2, h3⟩)) fun d ⟨r, e, h1, h2⟩ => ⟨r, e, h1, by omega, h2⟩)
    · exact jm_ifF (jt_cmp op_gt (j_var 1 rfl) j_int (rb_cmp (decide_eq_false (by omega)))) (jm_mono (jm_call (P := fun d => ∃ r : Int, d = .int r ∧ 0 ≤ r ∧ r < 4) 0 F_law_deal hr rfl (jma_cons (P1 := fun d => d = .int 4) (jm_pure j_int rfl) jma_nil) (fun ds ⟨d, t, e1, e2, e3⟩ => by subst e1 e2 e3; exact ⟨_, rfl, by decide, by decide⟩) (fun ds d ⟨d1, t1, e1, e2, e3⟩ ⟨t, r, e4, e5, h2, h3⟩ => by subst e1 e2 e3; cases e4; exact ⟨r, e5, h2, h3⟩)) fun d ⟨r, e, h1, h2⟩ => ⟨r, e, h1, fun _ => h2, by omega⟩)
  refine sb_cons (sx_set 2 sc_law_expression.nd hs) fun ρ1 h => ?_
  obtain ⟨_, ⟨r, rfl, hr0, hr4, hr9⟩, rfl⟩ := h
  have lt : ∀ (v : Int), v = 2 ∨ v = 4 → ∀ {k : Nat} {p q : Pos} {c : Bool}, decide (r < v) = c → JT (bx P w K mg base ["pail", "depth", "sort", "op"] "_law_expression" s_law_expression f cdv A outer s H E) (.Compare (.Name "sort" p) [.Lt] [.Constant (.int v) k q] q) ((startM 4 pa [.int m]).set 2 (.d (.int r))) c := fun v _ k p q c h => jt_cmp op_lt (j_var 2 rfl) j_int (rb_cmp h)
  by_cases c2 : r < 2
  · exact sb_cons (N1 := fun _ => False) (sx_ifT (jt_cmp op_lt (j_var 2 rfl) j_int (rb_cmp (decide_eq_true c2))) (sb_cons (N1 := fun _ => False) (sx_ret (jm_mono (jm_tup (jma_cons (P1 := fun d => d = .str "number") (jm_pure j_str rfl) (jma_cons (jm_call (P := fun d => d ∈ ([.int 0, .int 1, .int 2, .int 3, .int 300, .int 32767] : List D)) 0 F_law_any hr rfl (jma_cons (P1 := fun d => d = .list [.int 0, .int 1, .int 2, .int 3, .int 300, .int 32767]) (jm_pure (j_lst (ja_cons j_int (ja_cons j_int (ja_cons j_int (ja_cons j_int (ja_cons j_int (ja_cons j_int ja_nil))))))) rfl) jma_nil) (fun ds ⟨d, t, e1, e2, e3⟩ => by subst e1 e2 e3; exact ⟨_, rfl, by decide, by decide⟩) (fun ds d ⟨d1, t1, e1, e2, e3⟩ ⟨l, e4, e5⟩ => by subst e1 e2 e3; cases e4; exact e5)) jma_nil)) (fun ds ⟨d, t, e1, _, d2, t2, e2, _, e3⟩ => by subst e1 e2 e3; exact Nat.le_of_ble_eq_true rfl))
      (fun d ⟨ds, e, d1, t1, e1, h1, d2, t2, e2, h2, e3⟩ => by
        subst e e1 e2 e3 h1
        simp only [List.mem_cons, List.not_mem_nil, or_false] at h2
        rcases h2 with h2 | h2 | h2 | h2 | h2 | h2 <;> subst h2 <;> exact ⟨.num _, rfl, ⟨by decide, by decide⟩, by simp [Ex.depth]⟩))) fun _ h => h.elim)) fun _ h => h.elim
  refine sb_cons (N1 := fun ρ' => ρ' = (startM 4 pa [.int m]).set 2 (.d (.int r))) (sx_ifF (jt_cmp op_lt (j_var 2 rfl) j_int (rb_cmp (decide_eq_false c2))) (sb_nil rfl)) fun ρ1 e => ?_
  subst e
  by_cases c4 : r < 4
  · exact sb_cons (N1 := fun _ => False) (sx_ifT (jt_cmp op_lt (j_var 2 rfl) j_int (rb_cmp (decide_eq_true c4))) (sb_cons (N1 := fun _ => False) (sx_ret (jm_mono (jm_call (P := fun d => d ∈ ([(Ex.name false).toD, (Ex.name true).toD, Ex.me.toD, Ex.all.toD] : List D)) 0 F_law_any hr rfl (jma_cons (P1 := fun d => d = .list [(Ex.name false).toD, (Ex.name true).toD, Ex.me.toD, Ex.all.toD]) (jm_pure (j_lst (ja_cons (j_tup (ja_cons j_str (ja_cons j_str ja_nil))) (ja_cons (j_tup (ja_cons j_str (ja_cons j_str ja_nil))) (ja_cons (j_tup (ja_cons j_str ja_nil)) (ja_cons (j_tup (ja_cons j_str ja_nil)) ja_nil))))) rfl) jma_nil) (fun ds ⟨d, t, e1, e2, e3⟩ => by subst e1 e2 e3; exact ⟨_, rfl, by decide, by decide⟩) (fun ds d ⟨d1, t1, e1, e2, e3⟩ ⟨l, e4, e5⟩ => by subst e1 e2 e3; cases e4; exact e5))
      (fun d h2 => by
        simp only [List.mem_cons, List.not_mem_nil, or_false] at h2
        rcases h2 with h2 | h2 | h2 | h2 <;> subst h2
        · exact ⟨.name false, rfl, trivial, by simp [Ex.depth]⟩
        · exact ⟨.name true, rfl, trivial, by simp [Ex.depth]⟩
        · exact ⟨.me, rfl, trivial, by simp [Ex.depth]⟩
        · exact ⟨.all, rfl, trivial, by simp [Ex.depth]⟩))) fun _ h => h.elim)) fun _ h => h.elim
  refine sb_cons (N1 := fun ρ' => ρ' = (startM 4 pa [.int m]).set 2 (.d (.int r))) (sx_ifF (jt_cmp op_lt (j_var 2 rfl) j_int (rb_cmp (decide_eq_false c4))) (sb_nil rfl)) fun ρ1 e => ?_
  subst e
  have hn : 0 < m := by
    by_cases h0 : m = 0
    · exact absurd (hr4 h0) c4
    · omega
  by_cases c5 : r = 4
  · exact sb_cons (N1 := fun _ => False) (sx_ifT (jt_cmp op_eq (j_var 2 rfl) j_int (rb_eqN (decide_eq_true c5))) (sb_cons (N1 := fun _ => False) (sx_ret (jm_mono (jm_tup (jma_cons (P1 := fun d => d = .str "cell") (jm_pure j_str rfl) (jma_cons (P1 := fun d => d = .str "a") (jm_pure j_str rfl) (jma_cons (jm_call (P := fun d => ∃ x : Ex, d = x.toD ∧ x.own ∧ x.depth ≤ n - 1 + 1) 0 (rec (n - 1) (by omega)) hr rfl (jma_cons (P1 := fun d => d = .int ((m - 1 : Nat) : Int)) (jm_pure (j_bin op_sub (j_var 1 rfl) j_int rb_int) (by show PyData.int _ = PyData.int _; congr 1; omega)) jma_nil) (fun ds ⟨d, t, e1, e2, e3⟩ => by subst e1 e2 e3; exact ⟨m - 1, rfl, by omega⟩) (fun ds d ⟨d1, t1, e1, e2, e3⟩ r => r) (by omega)) jma_nil))) (fun ds ⟨d, t, e1, _, d2, t2, e2, _, d3, t3, e3, _, e4⟩ => by subst e1 e2 e3 e4; exact Nat.le_of_ble_eq_true rfl))
      (fun d ⟨ds, e, d1, t1, e1, h1, d2, t2, e2, h2, d3, t3, e3, ⟨x, ex, ox, dx⟩, e4⟩ => by
        subst e e1 e2 e3 e4 h1 h2 ex
        exact ⟨.cell x, rfl, ox, by show x.depth + 1 ≤ _; omega⟩))) fun _ h => h.elim)) fun _ h => h.elim
  refine sb_cons (N1 := fun ρ' => ρ' = (startM 4 pa [.int m]).set 2 (.d (.int r))) (sx_ifF (jt_cmp op_eq (j_var 2 rfl) j_int (rb_eqN (decide_eq_false c5))) (sb_nil rfl)) fun ρ1 e => ?_
  subst e
  by_cases c6 : r = 5
  · exact sb_cons (N1 := fun _ => False) (sx_ifT (jt_cmp op_eq (j_var 2 rfl) j_int (rb_eqN (decide_eq_true c6))) (sb_cons (N1 := fun _ => False) (sx_ret (jm_mono (jm_tup (jma_cons (jm_call (P := fun d => d ∈ ([.str "neg", .str "not"] : List D)) 0 F_law_any hr rfl (jma_cons (P1 := fun d => d = .list [.str "neg", .str "not"]) (jm_pure (j_lst (ja_cons j_str (ja_cons j_str ja_nil))) rfl) jma_nil) (fun ds ⟨d, t, e1, e2, e3⟩ => by subst e1 e2 e3; exact ⟨_, rfl, by decide, by decide⟩) (fun ds d ⟨d1, t1, e1, e2, e3⟩ ⟨l, e4, e5⟩ => by subst e1 e2 e3; cases e4; exact e5)) (jma_cons (jm_call (P := fun d => ∃ x : Ex, d = x.toD ∧ x.own ∧ x.depth ≤ n - 1 + 1) 0 (rec (n - 1) (by omega)) hr rfl (jma_cons (P1 := fun d => d = .int ((m - 1 : Nat) : Int)) (jm_pure (j_bin op_sub (j_var 1 rfl) j_int rb_int) (by show PyData.int _ = PyData.int _; congr 1; omega)) jma_nil) (fun ds ⟨d, t, e1, e2, e3⟩ => by subst e1 e2 e3; exact ⟨m - 1, rfl, by omega⟩) (fun ds d ⟨d1, t1, e1, e2, e3⟩ r => r) (by omega)) jma_nil)) (fun ds ⟨d, t, e1, _, d2, t2, e2, _, e3⟩ => by subst e1 e2 e3; exact Nat.le_of_ble_eq_true rfl))
      (fun d ⟨ds, e, d1, t1, e1, h1, d2, t2, e2, ⟨x, ex, ox, dx⟩, e3⟩ => by
        subst e e1 e2 e3 ex
        simp only [List.mem_cons, List.not_mem_nil, or_false] at h1
        rcases h1 with h1 | h1 <;> subst h1
        · exact ⟨.neg x, rfl, ox, by show x.depth + 1 ≤ _; omega⟩
        · exact ⟨.not x, rfl, ox, by show x.depth + 1 ≤ _; omega⟩))) fun _ h => h.elim)) fun _ h => h.elim
  refine sb_cons (N1 := fun ρ' => ρ' = (startM 4 pa [.int m]).set 2 (.d (.int r))) (sx_ifF (jt_cmp op_eq (j_var 2 rfl) j_int (rb_eqN (decide_eq_false c6))) (sb_nil rfl)) fun ρ1 e => ?_
  subst e
  refine sb_cons (sx_set (P := fun d => ∃ o : Op, d = .str o.s) 3 sc_law_expression.nd (jm_mono (jm_call (P := fun d => d ∈ ([.str "add", .str "sub", .str "mul", .str "div", .str "rem", .str "less", .str "same", .str "and", .str "or"] : List D)) 0 F_law_any hr rfl (jma_cons (P1 := fun d => d = .list [.str "add", .str "sub", .str "mul", .str "div", .str "rem", .str "less", .str "same", .str "and", .str "or"]) (jm_pure (j_lst (ja_cons j_str (ja_cons j_str (ja_cons j_str (ja_cons j_str (ja_cons j_str (ja_cons j_str (ja_cons j_str (ja_cons j_str (ja_cons j_str ja_nil)))))))))) rfl) jma_nil) (fun ds ⟨d, t, e1, e2, e3⟩ => by subst e1 e2 e3; exact ⟨_, rfl, by decide, by decide⟩) (fun ds d ⟨d1, t1, e1, e2, e3⟩ ⟨l, e4, e5⟩ => by subst e1 e2 e3; cases e4; exact e5)) fun d h2 => by
    simp only [List.mem_cons, List.not_mem_nil, or_false] at h2
    rcases h2 with h2 | h2 | h2 | h2 | h2 | h2 | h2 | h2 | h2 <;> subst h2
    · exact ⟨.add, rfl⟩
    · exact ⟨.sub, rfl⟩
    · exact ⟨.mul, rfl⟩
    · exact ⟨.div, rfl⟩
    · exact ⟨.rem, rfl⟩
    · exact ⟨.less, rfl⟩
    · exact ⟨.same, rfl⟩
    · exact ⟨.and, rfl⟩
    · exact ⟨.or, rfl⟩)) fun ρ1 h => ?_
  obtain ⟨_, ⟨o, rfl⟩, rfl⟩ := h
  exact sb_cons (N1 := fun _ => False) (sx_ret (jm_mono (jm_tup (jma_cons (P1 := fun d => d = .str o.s) (jm_pure (j_var 3 rfl) rfl) (jma_cons (jm_call (P := fun d => ∃ x : Ex, d = x.toD ∧ x.own ∧ x.depth ≤ n - 1 + 1) 0 (rec (n - 1) (by omega)) hr rfl (jma_cons (P1 := fun d => d = .int ((m - 1 : Nat) : Int)) (jm_pure (j_bin op_sub (j_var 1 rfl) j_int rb_int) (by show PyData.int _ = PyData.int _; congr 1; omega)) jma_nil) (fun ds ⟨d, t, e1, e2, e3⟩ => by subst e1 e2 e3; exact ⟨m - 1, rfl, by omega⟩) (fun ds d ⟨d1, t1, e1, e2, e3⟩ r => r) (by omega)) (jma_cons (jm_call (P := fun d => ∃ x : Ex, d = x.toD ∧ x.own ∧ x.depth ≤ n - 1 + 1) 0 (rec (n - 1) (by omega)) hr rfl (jma_cons (P1 := fun d => d = .int ((m - 1 : Nat) : Int)) (jm_pure (j_bin op_sub (j_var 1 rfl) j_int rb_int) (by show PyData.int _ = PyData.int _; congr 1; omega)) jma_nil) (fun ds ⟨d, t, e1, e2, e3⟩ => by subst e1 e2 e3; exact ⟨m - 1, rfl, by omega⟩) (fun ds d ⟨d1, t1, e1, e2, e3⟩ r => r) (by omega)) jma_nil))) (fun ds ⟨d, t, e1, _, d2, t2, e2, _, d3, t3, e3, _, e4⟩ => by subst e1 e2 e3 e4; exact Nat.le_of_ble_eq_true rfl))
      (fun d ⟨ds, e, d1, t1, e1, h1, d2, t2, e2, ⟨x, ex, ox, dx⟩, d3, t3, e3, ⟨y, ey, oy, dy⟩, e4⟩ => by
        subst e e1 e2 e3 e4 h1 ex ey
        exact ⟨.bin o x y, rfl, ⟨ox, oy⟩, by show max x.depth y.depth + 1 ≤ _; omega⟩))) fun _ h => h.elim

theorem f_law_expression (T : Top K mg) (Z : Stand K mg "_law_expression" s_law_expression) (F_law_deal : FnM P w K mg base 1 "_law_deal" ["pail", "top"] A_law_deal R_law_deal) (F_law_any : FnM P w K mg base 2 "_law_any" ["pail", "some"] A_law_any R_law_any) : ∀ n, FnM P w K mg base (4 + n) "_law_expression" ["pail", "depth"] (A_law_expression n) (R_law_expression n) := fun n =>
  Nat.strongRecOn n fun n ih => f_law_expression0 T Z F_law_deal F_law_any ih
end
end K75
namespace K75
open PySem L2 Y
theorem op_size (o : Op) : o.s.cps.size ≤ 4 := by cases o <;> decide +kernel
theorem op_short (o : Op) : PyData.leavesShort 13 (.str o.s) = true := by cases o <;> decide +kernel
theorem num_show {n : Int} (h : -32768 ≤ n ∧ n ≤ 32767) : PyData.showable (.int n) = true := by
  show decide (n.natAbs.log2 < 1920) = true
  refine decide_eq_true ?_
  by_cases z : n.natAbs = 0
  · rw [z]; decide
  · have p : (2 : Nat) ^ 16 = 65536 := by decide
    have q : n.natAbs < 2 ^ 16 := by omega
    exact Nat.lt_trans ((Nat.log2_lt z).mpr q) (by decide)
theorem show_toD : ∀ e : Ex, e.words → PyData.showable e.toD = true
  | .num n, h => by
    have := num_show h
    simp only [Ex.toD, PyData.showable, PyData.showableAll] at this ⊢
    rw [this] <;> rfl
  | .name _, _ => by simp [Ex.toD, PyData.showable, PyData.showableAll]
  | .me, _ => by simp [Ex.toD, PyData.showable, PyData.showableAll]
  | .all, _ => by simp [Ex.toD, PyData.showable, PyData.showableAll]
  | .cell e, h => by
    have := show_toD e h
    simp [Ex.toD, PyData.showable, PyData.showableAll] at this ⊢
    exact this
  | .neg e, h => by
    have := show_toD e h
    simp [Ex.toD, PyData.showable, PyData.showableAll] at this ⊢
    exact this
  | .not e, h => by
    have := show_toD e h
    simp [Ex.toD, PyData.showable, PyData.showableAll] at this ⊢
    exact this
  | .bin o e f, h => by
    have h1 := show_toD e h.1
    have h2 := show_toD f h.2
    simp [Ex.toD, PyData.showable, PyData.showableAll] at h1 h2 ⊢
    exact ⟨h1, h2⟩
theorem short_toD : ∀ e : Ex, e.words → PyData.leavesShort 13 e.toD = true
  | .num n, h => by
    have : PyData.leavesShort 13 (.int n) = true := decide_eq_true (PyData.shown_int_le2 (by have := h.1; omega) (by have := h.2; omega))
    simp only [Ex.toD, PyData.leavesShort, PyData.leavesShortAll] at this ⊢
    rw [this]
    decide +kernel
  | .name b, _ => by cases b <;> decide +kernel
  | .me, _ => by decide +kernel
  | .all, _ => by decide +kernel
  | .cell e, h => by
    have := short_toD e h
    simp only [Ex.toD, PyData.leavesShort, PyData.leavesShortAll] at this ⊢
    rw [this]
    decide +kernel
  | .neg e, h => by
    have := short_toD e h
    simp only [Ex.toD, PyData.leavesShort, PyData.leavesShortAll] at this ⊢
    rw [this]
    decide +kernel
  | .not e, h => by
    have := short_toD e h
    simp only [Ex.toD, PyData.leavesShort, PyData.leavesShortAll] at this ⊢
    rw [this]
    decide +kernel
  | .bin o e f, h => by
    have h1 := short_toD e h.1
    have h2 := short_toD f h.2
    have q := op_short o
    simp only [Ex.toD, PyData.leavesShort, PyData.leavesShortAll] at h1 h2 q ⊢
    rw [h1, h2, q] <;> rfl
theorem bulk_toD : ∀ e : Ex, PyData.bulk e.toD + 8 ≤ 8 * 2 ^ e.depth
  | .num n => by
    have : (PyData.str "number").bulk = 6 := by decide +kernel
    simp only [Ex.toD, PyData.bulk, PyData.bulkAll, Ex.depth] at this ⊢
    omega
  | .name b => by cases b <;> decide +kernel
  | .me => by decide +kernel
  | .all => by decide +kernel
  | .cell e => by
    have h := bulk_toD e
    have t1 : (PyData.str "cell").bulk = 4 := by decide +kernel
    have t2 : (PyData.str "a").bulk = 1 := by decide +kernel
    have p : 0 < 2 ^ e.depth := Nat.pow_pos (by decide)
    simp only [Ex.toD, PyData.bulk, PyData.bulkAll, Ex.depth, Nat.pow_succ] at h t1 t2 ⊢
    omega
  | .neg e => by
    have h := bulk_toD e
    have t1 : (PyData.str "neg").bulk = 3 := by decide +kernel
    have p : 0 < 2 ^ e.depth := Nat.pow_pos (by decide)
    simp only [Ex.toD, PyData.bulk, PyData.bulkAll, Ex.depth, Nat.pow_succ] at h t1 ⊢
    omega
  | .not e => by
    have h := bulk_toD e
    have t1 : (PyData.str "not").bulk = 3 := by decide +kernel
    have p : 0 < 2 ^ e.depth := Nat.pow_pos (by decide)
    simp only [Ex.toD, PyData.bulk, PyData.bulkAll, Ex.depth, Nat.pow_succ] at h t1 ⊢
    omega
  | .bin o e f => by
    have h1 := bulk_toD e
    have h2 := bulk_toD f
    have q := op_size o
    have p1 : 2 ^ e.depth ≤ 2 ^ max e.depth f.depth := Nat.pow_le_pow_right (by decide) (by omega)
    have p2 : 2 ^ f.depth ≤ 2 ^ max e.depth f.depth := Nat.pow_le_pow_right (by decide) (by omega)
    simp only [Ex.toD, PyData.bulk, PyData.bulkAll, Ex.depth, Nat.pow_succ] at h1 h2 q ⊢
    omega
/-- what the four calls tell -/
def toldD (e : Ex) : D := .list [e.toD, e.toD, .bool e.isNum, .bool e.isNum]
theorem told_repr {K : PySem.W.Frag} {e : Ex} (h : e.words) (hd : e.depth ≤ 5) : RL K (fun xs H Q => ∃ a d, xs = [.ref a] ∧ Dp K H (.ref a) d ∧ d.showable = true ∧ d.hasDict = false ∧ d.depth ≤ 60 ∧ d.shown.length ≤ sizeLine ∧ Q (.str d.shown) H) [toldD e] (.str (toldD e).shown) := by
  have h1 := show_toD e h
  have h2 := PyData.hasDict_of_canLay _ (lay_toD e)
  have h3 := depth_toD e
  have h4 := short_toD e h
  have h5 := bulk_toD e
  have p1 : 2 ^ e.depth ≤ 2 ^ 5 := Nat.pow_le_pow_right (by decide) hd
  have p2 : (2 : Nat) ^ 5 = 32 := by decide
  have p3 : (2 : Nat) ^ 20 = 1048576 := by decide
  refine rl_repr (.inl ⟨_, rfl⟩) ?_ ?_ ?_ (PyData.shown_fits_bulk (B := 13) (by decide) (by decide) ?_ ?_)
  · simp [toldD, PyData.showable, PyData.showableAll, h1]
  · simp [toldD, PyData.hasDict, PyData.hasDictAll, h2]
  · simp only [toldD, PyData.depth, PyData.depthAll, h3]; omega
  · simp [toldD, PyData.leavesShort, PyData.leavesShortAll, h4]
  · simp only [toldD, PyData.bulk, PyData.bulkAll]; omega
end K75
namespace K75
open PySem L2 Y
theorem rb_rep2 {K : PySem.W.Frag} {xs : List D} (h : xs.length ≤ 100) : RB K rRep (.list xs) (.int 2) (.list (xs ++ xs)) := fun v w G H Q sm dv dw q => by
  cases dw
  cases dv with
  | @lst a vs _ ha da =>
    have hl := dnAll_length da
    refine ⟨a, 2, vs, rfl, rfl, sm _ _ ha, by decide, by decide, le_line (by rw [hl]; show xs.length * 2 ≤ _; omega), fun p hp => ?_⟩
    have e : (List.replicate (2 : Int).toNat vs).flatten = vs ++ vs := by show (List.replicate 2 vs).flatten = _; simp [List.replicate]
    rw [e]
    exact q _ _ _ (Grow.new sm hp) (dn_lstNew (sm.free hp) (dnAll_app da da))
theorem rb_isnotT {K : PySem.W.Frag} : RB K (fun x y H Q => ∃ a b, x = .bl a ∧ y = .bl b ∧ Q (.bl (!decide (a = b))) H) (.bool true) (.bool true) (.bool false) := fun v w G H Q sm dv dw q => by
  cases dv; cases dw
  exact ⟨true, true, rfl, rfl, q _ G H (Grow.refl sm) (.bl false)⟩
section
variable {P : Program} {w : World} {K : PySem.W.Frag} {mg : Str → Option Value} {base : Heap}
abbrev s_law_right : Stmt := topS 50
abbrev N_right : List Str := ["pail", "lap", "simple", "due", "told", "own"]
theorem sc_law_right : FnScope N_right ["pail"] (defScope s_law_right) := ⟨rfl, rfl, rfl, by decide +kernel, rfl, by decide +kernel, by decide +kernel⟩
def A_law_right (ds : List D) : Prop := ds = []
def R_law_right (_ : List D) (d : D) : Prop := d = .bool true
structure Right (P : Program) (w : World) (K : PySem.W.Frag) (mg : Str → Option Value) (base : Heap) : Prop where
  deal : FnM P w K mg base 1 "_law_deal" ["pail", "top"] A_law_deal R_law_deal
  expr : FnM P w K mg base 8 "_law_expression" ["pail", "depth"] (A_law_expression 4) (R_law_expression 4)
  nrm : FnD P w K mg base 8 "_law_normal" ["simple"] (R_law_normal 5)
  normal : FnD P w K mg base 10 "normal" ["value"] R_normal
  normalK : FnDK P w K mg base 10 "normal" "value" R_normal
  has : FnD P w K mg base 10 "has_number" ["value"] R_has_number
  hasK : FnDK P w K mg base 10 "has_number" "value" R_has_number
  ise : FnD P w K mg base 5 "is_expression" ["value"] R_is_expression
theorem lap_right {pa : Addr} (T : Top K mg) (F : Right P w K mg base) (f : Addr) (cdv : Value) (A : Around) (outer : List Env) (s : Shared) (H : Hp) (E : XK) (hgd : A.guards = some []) (hr : Room 10 (A.deeper (PyProof.Rows.envOfC "_law_right" (defScope s_law_right) s.heap.objs.size f cdv))) (z : D) :
    SB pa (bx P w K mg base N_right "_law_right" s_law_right f cdv A outer s H E) (match defBody s_law_right with | .For _ _ b _ _ :: _ => b | _ => []) [.r (.ref pa), .d z, .u, .u, .u, .u] (fun ρ' => Weak ρ' [.r (.ref pa), .u, .u, .u, .u, .u]) (fun d => d = .bool true) := by
  refine sb_cons (sx_set (P := fun d => ∃ e : Ex, d = e.toD ∧ e.own ∧ e.depth ≤ 5) 2 sc_law_right.nd (jm_call 0 F.expr hr rfl (jma_cons (P1 := fun d => ∃ m : Nat, d = .int (m : Int) ∧ m ≤ 4) (jm_bin op_add (jm_pure (P := fun d => d = .int 1) j_int rfl)
      (jm_call (P := fun d => ∃ r : Int, d = .int r ∧ 0 ≤ r ∧ r < 4) 0 F.deal hr rfl (jma_cons (P1 := fun d => d = .int 4) (jm_pure j_int rfl) jma_nil) (fun ds ⟨d, t, e1, e2, e3⟩ => by subst e1 e2 e3; exact ⟨_, rfl, by decide, by decide⟩) (fun ds d ⟨d1, t1, e1, e2, e3⟩ ⟨t, r, e4, e5, h2, h3⟩ => by subst e1 e2 e3; cases e4; exact ⟨r, e5, h2, h3⟩))
      (fun da db e1 ⟨r, e2, h0, h1⟩ => by subst e1 e2; exact ⟨_, rb_int, (1 + r).toNat, by show PyData.int _ = PyData.int _; congr 1; omega, by omega⟩)) jma_nil)
      (fun ds ⟨d, t, e1, ⟨m, e2, h⟩, e3⟩ => by subst e1 e2 e3; exact ⟨m, rfl, h⟩) (fun ds d _ h => h))) fun ρ1 h => ?_
  obtain ⟨_, ⟨e, rfl, ho, hd⟩, rfl⟩ := h
  have hw := own_words e ho
  have hnd := Nat.le_trans (nf_depth e) hd
  have hnw := nf_words e hw
  refine sb_cons (sx_pure (js_set 3 sc_law_right.nd (j_call F.nrm hr (ja_cons (j_var 2 rfl) ja_nil) ⟨e, rfl, hw, hd, rfl⟩))) fun ρ1 h => ?_
  subst h
  refine sb_cons (sx_pure (js_set (d := toldD (nf e)) 4 sc_law_right.nd (j_lst (ja_cons (j_call F.normal hr (ja_cons (j_var 2 rfl) ja_nil) ⟨e, rfl, ho, hd, rfl⟩) (ja_cons (j_callK1 F.normalK hr (j_var 2 rfl) ⟨e, rfl, ho, hd, rfl⟩)
    (ja_cons (j_call F.has hr (ja_cons (j_var 2 rfl) ja_nil) ⟨e, rfl, ho, hd, rfl⟩) (ja_cons (j_callK1 F.hasK hr (j_var 2 rfl) ⟨e, rfl, ho, hd, rfl⟩) ja_nil))))))) fun ρ1 h => ?_
  subst h
  have isn : ∀ {ρ : List Sl} {k1 k2 : Nat} {p1 p2 p3 p4 p5 : Pos}, ρ[3]? = some (.d (nf e).toD) → J (bx P w K mg base N_right "_law_right" s_law_right f cdv A outer s H E) (.Compare (.Subscript (.Name "due" p1) (.Constant (.int 0) k1 p2) p3) [.Eq] [.Constant (.str "number") k2 p4] p5) ρ (.bool (nf e).isNum) := fun h3 =>
    j_cmp op_eq (j_ix (j_var 3 h3) j_int (rb_ix (ix_head _))) j_str (rb_eqT (nf e).isNum_eq)
  have nn : ∀ {ρ : List Sl} {k1 k2 : Nat} {p1 p2 p3 p4 p5 : Pos}, ρ[3]? = some (.d (nf e).toD) → JT (bx P w K mg base N_right "_law_right" s_law_right f cdv A outer s H E) (.Compare (.Subscript (.Name "due" p1) (.Constant (.int 0) k1 p2) p3) [.NotEq] [.Constant (.str "number") k2 p4] p5) ρ (!(nf e).isNum) := fun h3 =>
    jt_cmp op_ne (j_ix (j_var 3 h3) j_int (rb_ix (ix_head _))) j_str (rb_neT (by rw [(nf e).isNum_eq]))
  have gd : (bx P w K mg base N_right "_law_right" s_law_right f cdv A outer s H E).A.guards = some [] := hgd
  refine sb_cons (N1 := fun ρ' => ρ' = [.r (.ref pa), .d z, .d e.toD, .d (nf e).toD, .d (toldD (nf e)), .u]) (sx_ifF (jt_w (jw_orF (jt_cmp op_ne (j_callB (call_reprD gd hr.units) T.repr PyProof.Rows.boot_repr (ja_cons (j_var 4 rfl) ja_nil) (told_repr hnw hnd))
      (j_callB (call_reprD gd hr.units) T.repr PyProof.Rows.boot_repr (ja_cons (j_bin op_cat (j_lst (ja_cons (j_var 3 rfl) (ja_cons (j_var 3 rfl) ja_nil))) (j_bin op_rep (j_lst (ja_cons (isn rfl) ja_nil)) j_int (rb_rep2 (by simp))) (rb_catL (by simp))) ja_nil) (told_repr hnw hnd))
      (rb_neT (by rw [decide_eq_true rfl] <;> rfl)))
      (jw_or1 (jt_cmp op_isnot_bl (j_call F.ise hr (ja_cons (j_var 2 rfl) ja_nil) ⟨e, rfl, ho, hd, rfl⟩) j_bl rb_isnotT)))) (sb_nil rfl)) fun ρ1 h => ?_
  subst h
  have wk : Weak [.r (.ref pa), .d z, .d e.toD, .d (nf e).toD, .d (toldD (nf e)), .u] [.r (.ref pa), .u, .u, .u, .u, .u] := .same (.drop (.drop (.drop (.drop (.same .nil)))))
  cases hn : (nf e).isNum with
  | true =>
    rw [hn] at nn
    exact sb_cons (N1 := fun ρ' => Weak ρ' _) (sx_ifF (jt_w (jw_andF (nn rfl))) (sb_nil wk)) fun ρ1 h => sb_nil h
  | false =>
    rw [hn] at nn
    refine sb_cons (N1 := fun ρ' => Weak ρ' _) (sx_ifF (jt_w (jw_andT (nn rfl) (jw_and1 (jt_cmp (op_neD hr.units) (j_lc (l := [nf e, nf e]) (enc := Ex.toD) 5 rfl sc_law_right.nd (show blkC N_right (defScope s_law_right) _ _ = true from by decide +kernel) (fun _ _ _ _ _ => pg_name sc_law_right.nd rfl (Or.inl rfl))
      (ji_tup (j_tup (ja_cons (j_var 3 rfl) (ja_cons (j_call F.nrm hr (ja_cons (j_var 3 rfl) ja_nil) ⟨nf e, rfl, hnw, hnd, by rw [nf_nf]⟩) ja_nil)))) (fun _ => none) (by simp) (fun x hx s H C cl fp => ⟨jts_one (jt_cmp (op_neD hr.units) (j_var 5 rfl) (j_var 3 rfl) ?_), fun y hy => by cases hy⟩)) (j_lst ja_nil) (rb_ne rfl rfl))))) (sb_nil wk)) fun ρ1 h => sb_nil h
    have hx : x = nf e := by simpa using hx
    subst hx
    have e1 := PySem.SeqAt.eqv_refl _ (lay_toD (nf e))
    have e2 := rb_ne (K := K) (shaped_toD (Nat.le_trans hnd (by decide))) (shaped_toD (Nat.le_trans hnd (by decide)) : SeqAt.shaped (nf e).toD = true)
    rw [e1] at e2
    exact e2
theorem f_law_right (T : Top K mg) (Z : Stand K mg "_law_right" s_law_right) (F : Right P w K mg base) :
    ∃ f fd, FnG P w K mg base 11 f fd ["pail"] (spM K A_law_right R_law_right) ∧ mg "_law_right" = some (.ref f) ∧ PySem.W.keepIn K (.ref f) = true ∧ Binds K fd ["pail"] [] := by
  obtain ⟨f, fd, F0, hm⟩ := Z
  refine ⟨f, fd, fnG_of (N := N_right) F0 sc_law_right (fun vs H Q E h => ?_) (fun cdv A fr s H vs Q E hgd hr h => ?_), hm, F0.kp, F0.binds fun _ _ _ _ _ _ us hl => match us, hl with | [_], _ => rfl⟩
  · obtain ⟨pa, G, ws, ds, rfl, _, _, _, hd, rfl, _⟩ := h
    cases hd
    rfl
  · obtain ⟨pa, G, ws, ds, rfl, sm, n, pl, hd, rfl, q⟩ := h
    cases hd
    refine ⟨_, pbW, ?_⟩
    have body : SB pa (bx P w K mg base N_right "_law_right" s_law_right f cdv A fr s H E) (defBody s_law_right) (startM 6 pa []) (fun _ => False) (fun d => d = .bool true) := by
      refine sb_cons (sx_for 1 PassesOwn.never rfl sc_law_right.nd (ji_range T.range j_int (by decide) (by decide)) (Weak.refl _) (fun k d hk => lap_right T F f cdv A fr s H E hgd hr d)) fun ρ1 e => ?_
      subst e
      exact sb_cons (N1 := fun _ => False) (sx_ret (jm_pure j_bl rfl)) fun _ h => h.elim
    exact body _ G H _ (env_startM (N := ["lap", "simple", "due", "told", "own"]) .nil) sm n pl (fun _ _ _ _ _ _ z => z.elim) fun v G' H' d s dn r => q v G' H' d s dn r
end
end K75
namespace K75
open PySem L2 Y
theorem bAbs : bootBuiltins ("abs" : Str) = some (.builtin "abs") := by decide +kernel
theorem bMax : bootBuiltins ("max" : Str) = some (.builtin "max") := by decide +kernel
theorem bMin : bootBuiltins ("min" : Str) = some (.builtin "min") := by decide +kernel
section
variable {P : Program} {w : World} {K : PySem.W.Frag} {mg : Str → Option Value} {base : Heap}
abbrev s_law_pail : Stmt := topS 43
abbrev N_pail : List Str := ["script", "turn", "mixed", "cell", "own"]
theorem sc_law_pail : FnScope N_pail ["script", "turn"] (defScope s_law_pail) := ⟨rfl, rfl, rfl, by decide +kernel, rfl, by decide +kernel, by decide +kernel⟩
theorem f_law_pail (hlen : mg "len" = none) (hint : mg "int" = none) (habs : mg "abs" = none) (Z : Stand K mg "_law_pail" s_law_pail) : FnP P w K mg base := by
  obtain ⟨f, fd, F, hm⟩ := Z
  refine ⟨f, fd, F.ok (N := N_pail) sc_law_pail (fun vs H Q E h => ?_) (fun cdv A outer s H vs Q E hr h => ?_), hm, F.kp, F.binds fun _ _ _ _ _ _ us hl => match us, hl with | [_, _], _ => rfl⟩
  · obtain ⟨a, ns, t, G, rfl, _⟩ := h
    rfl
  · obtain ⟨a, ns, t, G, rfl, sm, hS, ht0, ht1, q⟩ := h
    refine ⟨_, pbW, ?_⟩
    have mi := fun k => mix_in (ns := ns) ht0 ht1 k
    let X := bx P w K mg base N_pail "_law_pail" s_law_pail f cdv A outer s H E
    refine toB (pss_cons psW pbW) (at_js (X := X) (js_set 2 sc_law_pail.nd (j_bin op_add j_int (j_bin op_mul j_int (j_var 1 rfl) (rb_intC (.inl ⟨by decide, by decide⟩))) rb_int)) (env_pail hS) sm fun σ1 G1 H1 g1 e1 => ?_)
    refine toB (pss_cons psW pbW) (at_js (X := X) (js_for (ρ := [.s ns, .d (.int t), .d (.int (mixS ns t 0)), .u, .u]) 3 PassesOwn.never rfl sc_law_pail.nd (ji_lst (j_sliceS 0 (k := 12) rfl)) (fun k => ([.s ns, .d (.int t), .d (.int (mixS ns t k)), .u, .u] : List Sl)) rfl (fun k d hk => ?_)) e1 g1.i fun σ2 G2 H2 g2 e2 => ?_)
    · rw [List.getElem?_map] at hk
      obtain ⟨c, hc, rfl⟩ := Option.map_eq_some_iff.mp hk
      have m0 := mi k
      refine ⟨[.s ns, .d (.int t), .d (.int (mixS ns t (k + 1))), .d (.int c), .u], .same (.same (.same (.drop (.same .nil)))), .inl (jb_cons ?_ jb_nil)⟩
      rw [mix_next hc]
      exact js_set 2 sc_law_pail.nd (j_bin op_mod (j_callTy call_int1 hint bI (ja_cons (j_bin op_add (j_bin op_add (j_bin op_mul (j_var 2 rfl) j_int (rb_intC (.inr ⟨by decide, by decide⟩)))
        (j_bin op_mul (j_bin op_mod (j_callTy call_int1 hint bI (ja_cons (j_var 3 rfl) ja_nil) rl_int1) j_int (rb_intC (by decide))) j_int (rb_intC (.inr ⟨by decide, by decide⟩))) rb_int) j_int rb_int) ja_nil) rl_int1) j_int (rb_intC (by decide)))
    have m0 := mi ((ns.take 12).map PyData.int).length
    generalize mixS ns t ((ns.take 12).map PyData.int).length = m at e2 m0
    have own : ∃ c : Int, J X (match (defBody s_law_pail).drop 2 with | .Assign _ e _ :: _ => e | _ => .Constant .none 0 ⟨0, 0, 0, 0⟩) [.s ns, .d (.int t), .d (.int m), .u, .u] (.int c) := by
      by_cases hlt : t < ns.length
      · have hr : t.toNat < ns.length := by omega
        refine ⟨ns[t.toNat], j_ifT (jt_cmp op_lt (j_var 1 rfl) (j_lenS 0 rfl hlen PySem.boot_len) (rb_cmp (decide_eq_true hlt))) (j_callTy call_int1 hint bI (ja_cons (j_ixS 0 (z := t) (c := ns[t.toNat]) rfl (j_var 1 rfl) ?_) ja_nil) rl_int1)⟩
        unfold atI ixN
        rw [if_pos ht0, if_pos (by omega)]
        exact List.getElem?_eq_getElem hr
      · exact ⟨0, j_ifF (jt_cmp op_lt (j_var 1 rfl) (j_lenS 0 rfl hlen PySem.boot_len) (rb_cmp (decide_eq_false hlt))) j_int⟩
    obtain ⟨c, own⟩ := own
    refine toB (pss_cons psW pbW) (at_js (X := X) (js_set 4 sc_law_pail.nd own) e2 g2.i fun σ3 G3 H3 g3 e3 => ?_)
    refine toB (pss_cons psW pbW) (at_js (X := X) (js_set (d := .int ((m * 89 + c % 2147483489 * 76003 + 11) % 2147483489)) 2 sc_law_pail.nd (j_bin op_mod (j_callTy call_int1 hint bI (ja_cons (j_bin op_add (j_bin op_add (j_bin op_mul (j_var 2 rfl) j_int (rb_intC (.inr ⟨by decide, by decide⟩)))
        (j_bin op_mul (j_bin op_mod (j_var 4 rfl) j_int (rb_intC (by decide))) j_int (rb_intC (.inr ⟨by decide, by decide⟩))) rb_int) j_int rb_int) ja_nil) rl_int1) j_int (rb_intC (by decide))) ) e3 g3.i fun σ4 G4 H4 g4 e4 => ?_)
    have b0 : 0 ≤ (m * 89 + c % 2147483489 * 76003 + 11) % 2147483489 ∧ (m * 89 + c % 2147483489 * 76003 + 11) % 2147483489 < 2147483489 := by omega
    generalize (m * 89 + c % 2147483489 * 76003 + 11) % 2147483489 = b at e4 b0
    have ab : J X (match (defBody s_law_pail).drop 4 with | .Return (some (.List (.IfExp _ e _ _ :: _) _)) _ :: _ => e | _ => .Constant .none 0 ⟨0, 0, 0, 0⟩) [.s ns, .d (.int t), .d (.int b), .u, .d (.int c)] (.int (if c < 0 then -c else c)) := j_callB call_abs habs bAbs (ja_cons (j_var 4 rfl) ja_nil) rl_abs
    have first : ∃ x : Int, J X (match (defBody s_law_pail).drop 4 with | .Return (some (.List (e :: _) _)) _ :: _ => e | _ => .Constant .none 0 ⟨0, 0, 0, 0⟩) [.s ns, .d (.int t), .d (.int b), .u, .d (.int c)] (.int x) := by
      by_cases h1 : c < 0
      · exact ⟨_, j_ifT (jt_w (jw_orT (jt_cmp op_lt (j_var 4 rfl) j_int (rb_cmp (decide_eq_true h1))))) ab⟩
      · by_cases h2 : (10 : Int) ^ (15 : Int).toNat ≤ c
        · exact ⟨_, j_ifT (jt_w (jw_orF (jt_cmp op_lt (j_var 4 rfl) j_int (rb_cmp (decide_eq_false h1))) (jw_or1 (jt_cmp op_ge (j_var 4 rfl) (j_bin op_pow j_int j_int (rb_intC ⟨by decide, by decide, by decide⟩)) (rb_cmp (decide_eq_true h2)))))) ab⟩
        · exact ⟨0, j_ifF (jt_w (jw_orF (jt_cmp op_lt (j_var 4 rfl) j_int (rb_cmp (decide_eq_false h1))) (jw_or1 (jt_cmp op_ge (j_var 4 rfl) (j_bin op_pow j_int j_int (rb_intC ⟨by decide, by decide, by decide⟩)) (rb_cmp (decide_eq_false h2)))))) j_int⟩
    obtain ⟨x, first⟩ := first
    refine toB (pss_cons psW pbW) (toS (ps_ret peW) (toE (pe_lst paW) (at_ja (X := X) (ja_cons first (ja_cons (j_var 2 rfl) (ja_cons j_int ja_nil))) e4 g4.i fun vs G5 H5 g5 d5 => ?_)))
    cases d5 with
    | cons h1 d5 =>
      cases d5 with
      | cons h2 d5 =>
        cases d5 with
        | cons h3 d5 =>
          cases d5
          cases h1; cases h2; cases h3
          have gg := (((g1.trans g2).trans g3).trans g4).trans g5
          exact ⟨le_line (show 3 ≤ 100000 by decide), fun p hp => q p x b _ _ (gg.trans (Grow.new g5.i hp)) (gg.h.free hp) upd_same b0.1 b0.2⟩
abbrev s_law : Stmt := topS 51
theorem sc_law : FnScope ["script", "turn"] ["script"] (defScope s_law) := ⟨rfl, rfl, rfl, by decide +kernel, rfl, by decide +kernel, by decide +kernel⟩
theorem f_law {k : Nat} {ff : Addr} {ffd : FuncData} {A0 : List D → Prop} {R0 : List D → D → Prop} (h1k : 1 ≤ k) (hlen : mg "len" = none) (hmax : mg "max" = none) (hmin : mg "min" = none) (hall : mg "all" = none) (hran : mg "range" = none) (FP : FnP P w K mg base)
    (FR : FnG P w K mg base k ff ffd ["pail"] (spM K A0 R0)) (hA : A0 []) (hR : ∀ d, R0 [] d → d = .bool true) (hmr : mg "_law_right" = some (.ref ff)) (hk : PySem.W.keepIn K (.ref ff) = true) (hb : Binds K ffd ["pail"] [])
    {f : Addr} {fd : FuncData} (F : L2.Fun K "law" "law" s_law f fd) : FnG P w K mg base (k + 1) f fd ["script"] (spLaw K) := by
  refine fnG_of (N := ["script", "turn"]) F sc_law (fun vs H Q E h => by obtain ⟨a, ns, rfl, _⟩ := h; rfl) (fun cdv A fr s H vs Q E hgd hr h => ?_)
  obtain ⟨a, ns, rfl, hS, q⟩ := h
  refine ⟨_, pbW, ?_⟩
  let X := bx P w K mg base ["script", "turn"] "law" s_law f cdv A fr s H E
  have rng : ∃ n : Int, 0 ≤ n ∧ n ≤ 50 ∧ J X (match defBody s_law with | .Return (some (.Call _ [.ListComp _ [⟨_, .Call _ [e] _ _, _, _⟩] _ _] _ _)) _ :: _ => e | _ => .Constant .none 0 ⟨0, 0, 0, 0⟩) [.s ns, .u] (.int n) := by
    refine ⟨_, ?_, ?_, j_callB (call_max2 rfl) hmax bMax (ja_cons j_int (ja_cons (j_callB (call_min2 rfl) hmin bMin (ja_cons (j_lenS 0 rfl hlen PySem.boot_len) (ja_cons j_int ja_nil)) rl_min2) ja_nil)) rl_max2⟩
    · split <;> split <;> omega
    · split <;> split <;> omega
  obtain ⟨n, hn0, hn1, rng⟩ := rng
  have bd : JB X (defBody s_law) [.s ns, .u] (.rt (.bool true)) :=
    jb_rt (js_ret (j_callB (cr_all rfl) hall bAll (ja_cons (j_lc (l := List.range n.toNat) (enc := fun k : Nat => PyData.int (k : Int)) 1 rfl sc_law.nd (show blkC ["script", "turn"] (defScope s_law) _ _ = true from by decide +kernel) (fun _ _ _ _ _ => pg_name sc_law.nd rfl (Or.inl rfl)) (ji_range hran rng (by omega) (by omega)) (fun _ => some (.bool true))
      (by rw [List.length_range]; omega) (fun c hc s H C cl fp => ⟨jts_nil, fun y hy => by
        cases hy
        have := List.mem_range.mp hc
        exact j_right hgd hr h1k FP FR hA hR hmr hk hb rfl rfl (by omega) (by omega)⟩)) ja_nil) (rl_allT _)))
  exact bd _ H H _ (env_law hS) (Same.refl _) fun v G' H' g dn => by
    cases dn
    exact q H'
end
end K75
namespace K75
open PySem L2 Y
def fnL0 : List He.DefD := [mkD "is_whole" s_is_whole, mkDd "is_number" s_is_number [.non], mkD "is_tuple_of" s_is_tuple_of, mkD "is_text_of" s_is_text_of, mkD "is_plain_name" s_is_plain_name, mkD "wrap" s_wrap, mkD "numbered" s_numbered, mkD "truth_of" s_truth_of, mkD "reckon" s_reckon, mkD "head_of" s_head_of, mkD "parts_in" s_parts_in, mkD "has_own_form" s_has_own_form, mkD "is_expression_form" s_is_expression_form, mkD "is_number_form" s_is_number_form, mkD "negated" s_negated, mkD "denied" s_denied, mkD "joined" s_joined, mkD "normal_form" s_normal_form, mkD "check_expression" s_check_expression, mkD "normal" s_normal]
def fnL1 : List He.DefD := [mkD "has_number" s_has_number, mkD "is_expression" s_is_expression, mkD "_law_pail" s_law_pail, mkD "_law_deal" s_law_deal, mkD "_law_any" s_law_any, mkD "_law_wrapped" s_law_wrapped, mkD "_law_op" s_law_op, mkD "_law_expression" s_law_expression, mkD "_law_normal" s_law_normal, mkD "_law_right" s_law_right, mkD "law" s_law]
def fnL : List He.DefD := fnL0 ++ fnL1
def ckL0 : List Ck := [.fa (.free "isinstance"), .fa (.free "len"), .fa (.free "all"), .fa (.free "int"), .fa (.free "bool"), .fa (.free "str"), .fa (.free "tuple"), .fa (.free "range"), .fa (.free "divmod"), .fa (.free "repr"), .fa (.free "abs"), .fa (.free "max"), .fa (.free "min"), .gd "LEAST_WORD" (.int (-32768)), .gd "MOST_WORD" (.int 32767), .gd "MOST_LETTERS" (.int 8), .gd "LETTERS" (.str "abcdefghijklmnopqrstuvwxyz"), .gd "ROUND" (.int 65536), .gd "MOST_DEEP" (.int 5), .gd "RESERVED" (.tuple (txts ["all", "and", "crowd", "deed", "do", "else", "fence", "give", "if", "let", "me", "most", "next", "not", "or", "out", "say", "share", "stop", "while"]))]
def ckL1 : List Ck := [.gd "OPS" (.tuple (txts ["add", "sub", "mul", "div", "rem", "less", "same", "and", "or"])), .gd "DIVISIONS" (.tuple (txts ["div", "rem"])), .gd "PLAIN" (.tuple (txts ["me", "all"])), .gd "SINGLE" (.tuple (txts ["neg", "not"]))]
def ckL : List Ck := ckL0 ++ ckL1
def looseL0 : List PySem.Str := ["CrowdError", "InvalidTree", "LEAST_WORD", "MOST_WORD", "MOST_LETTERS", "LETTERS", "RESERVED", "is_whole", "is_number", "is_tuple_of", "is_text_of", "is_plain_name", "OPS", "DIVISIONS", "ROUND", "wrap", "numbered", "truth_of", "reckon", "MOST_DEEP", "PLAIN", "SINGLE", "head_of", "parts_in", "has_own_form", "is_expression_form", "is_number_form", "negated", "denied", "joined"]
def looseL1 : List PySem.Str := ["normal_form", "check_expression", "normal", "has_number", "is_expression", "_law_pail", "_law_deal", "_law_any", "_law_wrapped", "_law_op", "_law_expression", "_law_normal", "_law_right"]
def looseL : List PySem.Str := looseL0 ++ looseL1
abbrev Rw : PySem.W.OpenRow := PySem.W.OpenLaw.row PySem.Challenge.rw_stepcrowds_k75_whole_normal_forms
abbrev hkL : PySem.W.Hook := hookY 4 ckL fnL
def obL (s : PySem.W.SharedT) : He.AlD := obsYG 4 ckL fnL (HandSHeadRun.getT s)
theorem obL_eq (s : PySem.W.SharedT) : obL s = hkL.obs s.abs := obsYG_eq (HandSHeadRun.getT_eq s)
theorem runL (w : World) : HandSHeadRun.RunEq Rw (PySem.W.view Rw.prog [51]) hkL obL 6000 looseL w := by
  intro os
  kernel_rfl
theorem facts {P : Program} {w : World} {K : PySem.W.Frag} {h : Heap} {mg : Str → Option Value} {f : Addr} (X : K.In h) (G : h.Ns mainGlobals mg) (hfa : mg ("law" : Str) = some (.ref f)) (c : SaysY ckL fnL K) :
    ∃ fd : FuncData, (∀ (s : Shared) (v : Value), BindsTo s fd ⟨[v], []⟩ [("script", v)]) ∧ ∀ base : Heap, K.In base → base.Ns mainGlobals mg → FnG P w K mg base 12 f fd ["script"] (spLaw K) := by
  have n_isinstance := c.free X G 0 (x := "isinstance")
  have n_len := c.free X G 1 (x := "len")
  have n_all := c.free X G 2 (x := "all")
  have n_int := c.free X G 3 (x := "int")
  have n_bool := c.free X G 4 (x := "bool")
  have n_str := c.free X G 5 (x := "str")
  have n_tuple := c.free X G 6 (x := "tuple")
  have n_range := c.free X G 7 (x := "range")
  have n_divmod := c.free X G 8 (x := "divmod")
  have n_repr := c.free X G 9 (x := "repr")
  have n_abs := c.free X G 10 (x := "abs")
  have n_max := c.free X G 11 (x := "max")
  have n_min := c.free X G 12 (x := "min")
  have g_LEAST_WORD := c.glob X G 13 (x := "LEAST_WORD")
  have g_MOST_WORD := c.glob X G 14 (x := "MOST_WORD")
  have g_MOST_LETTERS := c.glob X G 15 (x := "MOST_LETTERS")
  have g_LETTERS := c.glob X G 16 (x := "LETTERS")
  have g_ROUND := c.glob X G 17 (x := "ROUND")
  have g_MOST_DEEP := c.glob X G 18 (x := "MOST_DEEP")
  have g_RESERVED := c.glob X G 19 (x := "RESERVED")
  have g_OPS := c.glob X G 20 (x := "OPS")
  have g_DIVISIONS := c.glob X G 21 (x := "DIVISIONS")
  have g_PLAIN := c.glob X G 22 (x := "PLAIN")
  have g_SINGLE := c.glob X G 23 (x := "SINGLE")
  have z_is_whole : Stand K mg "is_whole" s_is_whole := c.stand X G 0
  have z_is_number : StandD K mg "is_number" s_is_number [V.non] := c.standD X G 1
  have z_is_tuple_of : Stand K mg "is_tuple_of" s_is_tuple_of := c.stand X G 2
  have z_is_text_of : Stand K mg "is_text_of" s_is_text_of := c.stand X G 3
  have z_is_plain_name : Stand K mg "is_plain_name" s_is_plain_name := c.stand X G 4
  have z_wrap : Stand K mg "wrap" s_wrap := c.stand X G 5
  have z_numbered : Stand K mg "numbered" s_numbered := c.stand X G 6
  have z_truth_of : Stand K mg "truth_of" s_truth_of := c.stand X G 7
  have z_reckon : Stand K mg "reckon" s_reckon := c.stand X G 8
  have z_head_of : Stand K mg "head_of" s_head_of := c.stand X G 9
  have z_parts_in : Stand K mg "parts_in" s_parts_in := c.stand X G 10
  have z_has_own_form : Stand K mg "has_own_form" s_has_own_form := c.stand X G 11
  have z_is_expression_form : Stand K mg "is_expression_form" s_is_expression_form := c.stand X G 12
  have z_is_number_form : Stand K mg "is_number_form" s_is_number_form := c.stand X G 13
  have z_negated : Stand K mg "negated" s_negated := c.stand X G 14
  have z_denied : Stand K mg "denied" s_denied := c.stand X G 15
  have z_joined : Stand K mg "joined" s_joined := c.stand X G 16
  have z_normal_form : Stand K mg "normal_form" s_normal_form := c.stand X G 17
  have z_check_expression : Stand K mg "check_expression" s_check_expression := c.stand X G 18
  have z_normal : Stand K mg "normal" s_normal := c.stand X G 19
  have z_has_number : Stand K mg "has_number" s_has_number := c.stand X G 20
  have z_is_expression : Stand K mg "is_expression" s_is_expression := c.stand X G 21
  have z_law_pail : Stand K mg "_law_pail" s_law_pail := c.stand X G 22
  have z_law_deal : Stand K mg "_law_deal" s_law_deal := c.stand X G 23
  have z_law_any : Stand K mg "_law_any" s_law_any := c.stand X G 24
  have z_law_wrapped : Stand K mg "_law_wrapped" s_law_wrapped := c.stand X G 25
  have z_law_op : Stand K mg "_law_op" s_law_op := c.stand X G 26
  have z_law_expression : Stand K mg "_law_expression" s_law_expression := c.stand X G 27
  have z_law_normal : Stand K mg "_law_normal" s_law_normal := c.stand X G 28
  have z_law_right : Stand K mg "_law_right" s_law_right := c.stand X G 29
  have z_law : Stand K mg "law" s_law := c.stand X G 30
  have T : Top K mg := ⟨n_isinstance, n_len, n_all, n_int, n_bool, n_str, n_tuple, n_range, n_divmod, n_repr, g_LEAST_WORD, g_MOST_WORD, g_MOST_LETTERS, g_LETTERS, g_ROUND, g_MOST_DEEP, g_RESERVED, g_OPS, g_DIVISIONS, g_PLAIN, g_SINGLE⟩
  obtain ⟨f2, fd, F, hm⟩ := z_law
  cases hfa.symm.trans hm
  refine ⟨fd, fun s v => ?_, fun base _ _ => ?_⟩
  · obtain ⟨oc, od, kV, doc, pm, an, cdv, ct, osl, rfl, _⟩ := F.ex
    exact .of_eq rfl
  have d_is_whole := f_is_whole (P := P) (w := w) (base := base) T z_is_whole
  have d_is_number := f_is_number T z_is_number d_is_whole
  have d_is_tuple_of := f_is_tuple_of (P := P) (w := w) (base := base) T z_is_tuple_of
  have d_is_text_of := f_is_text_of (P := P) (w := w) (base := base) T z_is_text_of
  have d_is_plain_name := f_is_plain_name T z_is_plain_name d_is_text_of
  have d_wrap := f_wrap (P := P) (w := w) (base := base) T z_wrap
  have d_numbered := f_numbered (P := P) (w := w) (base := base) T z_numbered
  have d_truth_of := f_truth_of (P := P) (w := w) (base := base) T z_truth_of
  have d_reckon := f_reckon T z_reckon d_numbered d_truth_of d_wrap
  have d_head_of := f_head_of (P := P) (w := w) (base := base) T z_head_of
  have d_parts_in := f_parts_in (P := P) (w := w) (base := base) T z_parts_in
  have d_is_number_form := f_is_number_form (P := P) (w := w) (base := base) T z_is_number_form
  have d_has_own_form := f_has_own_form T z_has_own_form d_head_of d_is_tuple_of d_is_number d_is_plain_name
  have d_is_expression_form := f_is_expression_form T z_is_expression_form d_has_own_form d_parts_in
  have d_negated := f_negated T z_negated d_is_number_form d_wrap
  have d_denied := f_denied T z_denied d_is_number_form
  have d_joined := f_joined T z_joined d_is_number_form d_reckon
  have d_normal_form := f_normal_form T z_normal_form d_negated d_denied d_joined 5
  have d_check := f_check_expression T z_check_expression d_is_expression_form
  have d_normal := f_normal T z_normal d_check d_normal_form
  have dk_normal := fk_normal T z_normal d_check d_normal_form
  have d_has := f_has_number T z_has_number d_check d_normal_form d_is_number_form
  have dk_has := fk_has_number T z_has_number d_check d_normal_form d_is_number_form
  have d_ise := f_is_expression T z_is_expression d_is_expression_form
  have d_wrapped := f_law_wrapped (P := P) (w := w) (base := base) T z_law_wrapped
  have d_op := f_law_op T z_law_op d_wrapped
  have d_nrm := f_law_normal T z_law_normal d_op d_wrapped 5 (by decide)
  have d_deal := f_law_deal (P := P) (w := w) (base := base) T z_law_deal
  have d_any := f_law_any T z_law_any d_deal
  have d_expr := f_law_expression T z_law_expression d_deal d_any 4
  obtain ⟨ff, ffd, FR, hmr, hk, hb⟩ := f_law_right T z_law_right ⟨d_deal, d_expr, d_nrm, d_normal, dk_normal, d_has, dk_has, d_ise⟩
  exact f_law (by decide) n_len n_max n_min n_all n_range (f_law_pail n_len n_int n_abs z_law_pail) FR rfl (fun _ h => h) hmr hk hb F
end K75
open PySem PySem.W PySem.Calls PyProof.Rows
set_option maxRecDepth 100000 in
set_option maxHeartbeats 0 in
theorem PySem.Challenge.cw_stepcrowds_k75_whole_normal_forms_holds : PySem.Challenge.rw_stepcrowds_k75_whole_normal_forms.Holds := by
  w_on; o_law
  refine HandSHeadRun.head_any (r := OpenLaw.row PySem.Challenge.rw_stepcrowds_k75_whole_normal_forms) (q := view (OpenLaw.row PySem.Challenge.rw_stepcrowds_k75_whole_normal_forms).prog [51]) (H := K75.hkL) (ob := K75.obL) (M := 6000) (loose := K75.looseL) (d := HandSHeadRun.topDef (OpenLaw.row PySem.Challenge.rw_stepcrowds_k75_whole_normal_forms).prog 51) (kwd := []) K75.obL_eq
    (by kernel_rfl) (fun s => by kernel_rfl) K75.runL (by kernel_rfl) (by kernel_rfl) (by kernel_rfl) (by rfl) (by first | assumption | decide +kernel) (by decide +kernel) ⟨rfl, rfl, rfl, rfl, rfl, by decide +kernel⟩ ?hw ?hc
  case hw => w_witness2
  case hc =>
    refine Y.walk_ofGE (l := PySem.Challenge.rw_stepcrowds_k75_whole_normal_forms) (n := 63) (k := 12) (x := "script") rfl (by decide) (by kernel_rfl) ⟨rfl, by decide, by decide⟩ ?F
    intro w mg fa h Y G hmg0
    obtain ⟨K, KX, c⟩ := Y
    have hmg : mg ("law" : PySem.Str) = some (.ref fa) := by
      have e : (HandSHeadRun.topDef (OpenLaw.row PySem.Challenge.rw_stepcrowds_k75_whole_normal_forms).prog 51).name = ("law" : PySem.Str) := by kernel_rfl
      rw [← e]
      exact hmg0
    obtain ⟨fd, hb, hF⟩ := K75.facts (P := (PySem.Challenge.rw_stepcrowds_k75_whole_normal_forms).prog) (w := w) KX G hmg c
    exact ⟨K, fd, Y.spLaw K, KX, hb, fun H a ns hl _ hS => ⟨a, ns, rfl, hS, fun _ => rfl⟩, hF⟩
