import PyProof.Rows.All
import Wide.All
import OpenK.AllK
import Wide.FinOn
import HandS.ForMost
import HandS.ForExc
import HandS.Wide
import HandS.WideBits
import HandS.ExcInit
import HandS.IsInst
import HandS.TryOnly
import HandS.ExcIs
import HandS.Comp
import HandS.FStr
import HandS.Style
import HandS.ExcSuper
import HandS.ExcField
import HandS.ExcBuiltin
import HandS.ClsMeth
import HandS.StrMore
import HandS.Dict
import HandS.HotCalls
import HandS.ExcInitHot
import HandS.Defaults
import PyProof.Rows.CountFlat
import PyProof.EqKinds
import KE.KStateDown
import HandS.Head0
import HandS.Head1
import HandS.Head2
import HandS.HeadEnd
import HandS.EndBits
import HandS.HeadHook1
import HandS.HeadHook2
import PySem.Challenge.RW_measurewise_k25_rounding
set_option Elab.async false
set_option linter.all false
set_option maxRecDepth 100000
set_option maxHeartbeats 4000000
namespace Mw
open PySem PySem.Spec PyProof.Rows L2
/-! ### data: values without addresses -/
inductive D where
  | non | bl (b : Bool) | int (i : Int) | str (x : Str) | ty (n : String) | cls (a : Addr)
  | tup (xs : List D) | lst (xs : List D) | dct (kvs : List (Key × D)) | obj (C : Addr) (fs : List (Str × D)) | xc (a dd : Addr) (fs : List (Str × D)) | exv (C : Addr) (fs : List (Str × D))
mutual
/-- the value v is the datum d, in the heap H -/
def Is (K : PySem.W.Frag) (H : Hp) : D → V → Prop
  | .non, v => v = .non
  | .bl b, v => v = .bl b
  | .int i, v => v = .int i
  | .str x, v => v = .str x
  | .ty n, v => v = .ty n
  | .cls a, v => v = .ref a
  | .tup ds, v => ∃ a vs, v = .ref a ∧ SqT K H a vs ∧ IsL K H ds vs
  | .lst ds, v => ∃ a vs, v = .ref a ∧ SqL K H a vs ∧ IsL K H ds vs
  | .dct ks, v => ∃ a kvs, v = .ref a ∧ Rd H a (.dK kvs) ∧ IsK K H ks kvs
  | .obj C fs, v => ∃ a dx gs, v = .ref a ∧ H a = some (.ins C dx gs) ∧ IsF K H fs gs
  | .xc a dd fs, v => ∃ gs, v = .ref a ∧ H dd = some (.xd gs) ∧ IsF K H fs gs
  | .exv C fs, v => ∃ a dx gs, v = .ref a ∧ H a = some (exo a C (some dx)) ∧ H dx = some (exd dx gs) ∧ IsF K H fs gs
def IsL (K : PySem.W.Frag) (H : Hp) : List D → List V → Prop
  | [], vs => vs = []
  | d :: ds, vs => ∃ v r, vs = v :: r ∧ Is K H d v ∧ IsL K H ds r
def IsK (K : PySem.W.Frag) (H : Hp) : List (Key × D) → List (Key × V) → Prop
  | [], vs => vs = []
  | (k, d) :: ds, vs => ∃ v r, vs = (k, v) :: r ∧ Is K H d v ∧ IsK K H ds r
def IsF (K : PySem.W.Frag) (H : Hp) : List (Str × D) → List (Str × V) → Prop
  | [], vs => vs = []
  | (k, d) :: ds, vs => ∃ v r, vs = (k, v) :: r ∧ Is K H d v ∧ IsF K H ds r
end
theorem Same.rd {H H' : Hp} {a : Addr} {u : HO} (e : Same H H') (h : Rd H a u) : Rd H' a u := by
  rcases h with h | ⟨o, h⟩
  · exact Or.inl (e a _ h)
  · exact Or.inr ⟨o, e a _ h⟩
theorem Same.tup {K : PySem.W.Frag} {H H' : Hp} {a : Addr} {xs : List V} (e : Same H H') (h : SqT K H a xs) : SqT K H' a xs := by
  rcases h with h | h
  · exact Or.inl (Same.rd e h)
  · exact Or.inr h
theorem Same.lst {K : PySem.W.Frag} {H H' : Hp} {a : Addr} {xs : List V} (e : Same H H') (h : SqL K H a xs) : SqL K H' a xs := by
  rcases h with h | h
  · exact Or.inl (Same.rd e h)
  · exact Or.inr h
section
variable {K : PySem.W.Frag} {H H' : Hp}
mutual
theorem Is.mono (e : Same H H') : ∀ {d : D} {v : V}, Is K H d v → Is K H' d v
  | .non, _, h => h
  | .bl _, _, h => h
  | .int _, _, h => h
  | .str _, _, h => h
  | .ty _, _, h => h
  | .cls _, _, h => h
  | .tup ds, _, h => by
    obtain ⟨a, vs, h1, h2, h3⟩ := h
    exact ⟨a, vs, h1, Same.tup e h2, IsL.mono e h3⟩
  | .lst ds, _, h => by
    obtain ⟨a, vs, h1, h2, h3⟩ := h
    exact ⟨a, vs, h1, Same.lst e h2, IsL.mono e h3⟩
  | .dct ds, _, h => by
    obtain ⟨a, vs, h1, h2, h3⟩ := h
    exact ⟨a, vs, h1, Same.rd e h2, IsK.mono e h3⟩
  | .obj C fs, _, h => by
    obtain ⟨a, dx, vs, h1, h2, h3⟩ := h
    exact ⟨a, dx, vs, h1, e _ _ h2, IsF.mono e h3⟩
  | .xc a dd fs, _, h => by
    obtain ⟨vs, h1, h2, h3⟩ := h
    exact ⟨vs, h1, e _ _ h2, IsF.mono e h3⟩
  | .exv C fs, _, h => by
    obtain ⟨a, dx, vs, h1, h2, h3, h4⟩ := h
    exact ⟨a, dx, vs, h1, e _ _ h2, e _ _ h3, IsF.mono e h4⟩
theorem IsL.mono (e : Same H H') : ∀ {ds : List D} {vs : List V}, IsL K H ds vs → IsL K H' ds vs
  | [], _, h => h
  | d :: ds, _, h => by
    obtain ⟨v, r, h1, h2, h3⟩ := h
    exact ⟨v, r, h1, Is.mono e h2, IsL.mono e h3⟩
theorem IsK.mono (e : Same H H') : ∀ {ds : List (Key × D)} {vs : List (Key × V)}, IsK K H ds vs → IsK K H' ds vs
  | [], _, h => h
  | (k, d) :: ds, _, h => by
    obtain ⟨v, r, h1, h2, h3⟩ := h
    exact ⟨v, r, h1, Is.mono e h2, IsK.mono e h3⟩
theorem IsF.mono (e : Same H H') : ∀ {ds : List (Str × D)} {vs : List (Str × V)}, IsF K H ds vs → IsF K H' ds vs
  | [], _, h => h
  | (k, d) :: ds, _, h => by
    obtain ⟨v, r, h1, h2, h3⟩ := h
    exact ⟨v, r, h1, Is.mono e h2, IsF.mono e h3⟩
end
theorem IsL.len : ∀ {ds : List D} {vs : List V}, IsL K H ds vs → vs.length = ds.length
  | [], _, h => by rw [show _ = [] from h]; rfl
  | d :: ds, _, h => by
    obtain ⟨v, r, h1, h2, h3⟩ := h
    rw [h1, List.length_cons, List.length_cons, IsL.len h3]
theorem IsL.get : ∀ {ds : List D} {vs : List V} {i : Nat} {d : D}, IsL K H ds vs → ds[i]? = some d → ∃ v, vs[i]? = some v ∧ Is K H d v
  | [], _, _, _, _, e => by simp at e
  | d :: ds, _, 0, d', h, e => by
    obtain ⟨v, r, h1, h2, h3⟩ := h
    rw [List.getElem?_cons_zero] at e
    cases e
    exact ⟨v, by rw [h1]; rfl, h2⟩
  | d :: ds, _, i + 1, d', h, e => by
    obtain ⟨v, r, h1, h2, h3⟩ := h
    rw [List.getElem?_cons_succ] at e
    obtain ⟨u, q1, q2⟩ := IsL.get h3 e
    exact ⟨u, by rw [h1, List.getElem?_cons_succ]; exact q1, q2⟩
theorem IsL.app : ∀ {ds es : List D} {vs ws : List V}, IsL K H ds vs → IsL K H es ws → IsL K H (ds ++ es) (vs ++ ws)
  | [], es, vs, ws, h, g => by rw [show vs = [] from h]; exact g
  | d :: ds, es, vs, ws, h, g => by
    obtain ⟨v, r, h1, h2, h3⟩ := h
    exact ⟨v, r ++ ws, by rw [h1]; rfl, h2, IsL.app h3 g⟩
theorem IsL.one {d : D} {v : V} (h : Is K H d v) : IsL K H [d] [v] := ⟨v, [], rfl, h, rfl⟩
theorem IsL.cons {d : D} {v : V} {ds : List D} {vs : List V} (h : Is K H d v) (g : IsL K H ds vs) : IsL K H (d :: ds) (v :: vs) := ⟨v, vs, rfl, h, g⟩
theorem IsL.set : ∀ {ds : List D} {vs : List V} {d : D} {v : V} (i : Nat), IsL K H ds vs → Is K H d v → IsL K H (ds.set i d) (vs.set i v)
  | [], _, _, _, _, h, _ => by rw [show _ = [] from h]; exact rfl
  | d :: ds, _, _, _, 0, h, q => by
    obtain ⟨v, r, h1, h2, h3⟩ := h
    rw [h1]
    exact ⟨_, r, rfl, q, h3⟩
  | d :: ds, _, _, _, i + 1, h, q => by
    obtain ⟨v, r, h1, h2, h3⟩ := h
    rw [h1]
    exact ⟨v, r.set i _, rfl, h2, IsL.set i h3 q⟩
theorem IsL.map_int : ∀ {ns : List Int}, IsL K H (ns.map D.int) (ns.map V.int)
  | [] => rfl
  | n :: ns => ⟨_, _, rfl, rfl, IsL.map_int⟩
theorem IsL.take : ∀ {ds : List D} {vs : List V} (n : Nat), IsL K H ds vs → IsL K H (ds.take n) (vs.take n)
  | [], _, n, h => by rw [show _ = [] from h, List.take_nil, List.take_nil]; exact rfl
  | d :: ds, _, 0, h => by rw [List.take_zero, List.take_zero]; exact rfl
  | d :: ds, _, n + 1, h => by
    obtain ⟨v, r, h1, h2, h3⟩ := h
    rw [h1]
    exact ⟨v, r.take n, rfl, h2, IsL.take n h3⟩
theorem IsL.drop : ∀ {ds : List D} {vs : List V} (n : Nat), IsL K H ds vs → IsL K H (ds.drop n) (vs.drop n)
  | [], _, n, h => by rw [show _ = [] from h, List.drop_nil, List.drop_nil]; exact rfl
  | d :: ds, _, 0, h => h
  | d :: ds, _, n + 1, h => by
    obtain ⟨v, r, h1, h2, h3⟩ := h
    rw [h1]
    exact IsL.drop n h3
end
/-! ### growth of a heap H with a frozen part H0 -/
structure Grow (H0 H H0' H' : Hp) : Prop where
  frz : Same H0 H0'
  all : Same H H'
  sub : Same H0' H'
  new : ∀ a, H0' a ≠ none → H0 a ≠ none ∨ H a = none
theorem Grow.refl {H0 H : Hp} (h : Same H0 H) : Grow H0 H H0 H := ⟨Same.refl _, Same.refl _, h, fun _ x => .inl x⟩
theorem Grow.trans {H0 H H0' H' H0'' H'' : Hp} (g : Grow H0 H H0' H') (g' : Grow H0' H' H0'' H'') : Grow H0 H H0'' H'' :=
  ⟨g.frz.trans g'.frz, g.all.trans g'.all, g'.sub, fun a x => by
    rcases g'.new a x with q | q
    · exact g.new a q
    · exact .inr (g.all.free q)⟩
theorem Same.new {H : Hp} {p : Addr} {o : HO} (h : H p = none) : Same H (upd H p o) := fun a u e => by
  rw [upd_ne (ne_of_none e h)]
  exact e
/-- a new object, frozen at once -/
theorem Grow.laid {H0 H : Hp} {p : Addr} {o : HO} (h : Same H0 H) (hp : H p = none) : Grow H0 H (upd H0 p o) (upd H p o) := by
  have h0 : H0 p = none := h.free hp
  refine ⟨Same.new h0, Same.new hp, fun a u e => ?_, fun a x => ?_⟩
  · by_cases z : a = p
    · rw [z, upd_same] at e ⊢; exact e
    · rw [upd_ne z] at e ⊢; exact h a u e
  · by_cases z : a = p
    · rw [z]; exact .inr hp
    · rw [upd_ne z] at x; exact .inl x
/-- a new object, not frozen -/
theorem Grow.made {H0 H : Hp} {p : Addr} {o : HO} (h : Same H0 H) (hp : H p = none) : Grow H0 H H0 (upd H p o) :=
  ⟨Same.refl _, Same.new hp, h.trans (Same.new hp), fun _ x => .inl x⟩
theorem Grow.start {H0 H H0' H' : Hp} (g : Grow H0 H H0' H') (h : Same H0 H) : Same H0 H' := h.trans g.all
/-! ### the largest readings -/
def re (X : Cx) (e : Expr) : TE := fun σ H Q => ∀ (pins : List (Addr × Obj)) (s : Shared), Inv X pins σ H s → wpAny (model X.prog X.w) X.A (eval e X.env) (EP X pins σ Q) X.xe s
def rt (X : Cx) (e : Expr) : TT := fun σ H Q => ∀ (pins : List (Addr × Obj)) (s : Shared), Inv X pins σ H s → wpAny (model X.prog X.w) X.A (isTrue e X.env (eval e X.env)) (TP X pins σ Q) X.xe s
def ra (X : Cx) (es : List Expr) : TA := fun σ H Q => ∀ (pos : Pos) (pins : List (Addr × Obj)) (s : Shared), Inv X pins σ H s → wpAny (model X.prog X.w) X.A (spliced (backTo pos (starEach es X.env))) (AP X pins σ Q) X.xe s
def rs (X : Cx) (st : Stmt) : TS := fun D σ H => ∀ (pins : List (Addr × Obj)) (s : Shared), Inv X pins σ H s → wpAny (model X.prog X.w) X.A (exec st X.env) (SP X pins D) X.xe s
def rss (X : Cx) (sts : List Stmt) : TS := fun D σ H => ∀ (pins : List (Addr × Obj)) (s : Shared), Inv X pins σ H s → wpAny (model X.prog X.w) X.A (execs sts X.env) (SP X pins D) X.xe s
section
variable {X : Cx} {e : Expr} {es : List Expr} {st : Stmt} {sts : List Stmt} {σ : L2.St} {H : Hp}
theorem re_pe : PE X e (re X e) := ⟨fun pins s σ H Q I h => h pins s I⟩
theorem rt_pt : PT X e (rt X e) := ⟨fun pins s σ H Q I h => h pins s I⟩
theorem ra_pa : PA X es (ra X es) := ⟨fun pos pins s σ H Q I h => h pos pins s I⟩
theorem rs_ps : PS X st (rs X st) := ⟨fun pins s σ H D I h => h pins s I⟩
theorem rss_pss : PSs X sts (rss X sts) := ⟨fun pins s σ H D I h => h pins s I⟩
theorem re_of {t : TE} {Q : VK} (h : PE X e t) (q : t σ H Q) : re X e σ H Q := fun pins s I => h.run pins s σ H Q I q
theorem rt_of {t : TT} {Q : Bool → Hp → Prop} (h : PT X e t) (q : t σ H Q) : rt X e σ H Q := fun pins s I => h.run pins s σ H Q I q
theorem ra_of {t : TA} {Q : List V → Hp → Prop} (h : PA X es t) (q : t σ H Q) : ra X es σ H Q := fun pos pins s I => h.run pos pins s σ H Q I q
theorem rs_of {t : TS} {D : Ends} (h : PS X st t) (q : t D σ H) : rs X st D σ H := fun pins s I => h.run pins s σ H D I q
theorem rss_of {t : TS} {D : Ends} (h : PSs X sts t) (q : t D σ H) : rss X sts D σ H := fun pins s I => h.run pins s σ H D I q
end
/-- the largest wish that X takes -/
def wx (X : Cx) : WX := fun cls d σ H => ∃ W : WX, Takes X W ∧ W cls d σ H
theorem wx_takes {X : Cx} : Takes X (wx X) := fun u s' ⟨a, B, sI, pins, σ, H, cls, d, e, I, nb, up, sky, na, os, ag, W, t, w⟩ =>
  t u s' ⟨a, B, sI, pins, σ, H, cls, d, e, I, nb, up, sky, na, os, ag, w⟩
theorem wx_of {X : Cx} {W : WX} {cls : Value} {d : Option Addr} {σ : L2.St} {H : Hp} (t : Takes X W) (w : W cls d σ H) : wx X cls d σ H := ⟨W, t, w⟩
/-! ### exceptions as data -/
structure Exn where
  cls : Addr
  fs : List (Str × D) := []
def IsX (K : PySem.W.Frag) (H0 H : Hp) (c : Value) (d : Option Addr) (x : Exn) : Prop :=
  c = .ref x.cls ∧ ((x.fs = [] ∧ d = none) ∨ x.fs ≠ [] ∧ ∃ dd gs, d = some dd ∧ H0 dd = some (.xd gs) ∧ IsF K H0 x.fs gs)
/-! ### expressions over data -/
abbrev DE := List (Option D)
def SlF (K : PySem.W.Frag) (H0 : Hp) (σ : L2.St) (as : DE) : Prop := ∀ (i : Nat) (d : D), as[i]? = some (some d) → ∃ v, σ[i]? = some (some v) ∧ Is K H0 d v
theorem SlF.mono {K : PySem.W.Frag} {H0 H1 : Hp} {σ : L2.St} {as : DE} (h : SlF K H0 σ as) (e : Same H0 H1) : SlF K H1 σ as := fun i d q =>
  let ⟨v, a, b⟩ := h i d q
  ⟨v, a, b.mono e⟩
/-- e is worth d -/
structure EE (X : Cx) (e : Expr) (as : DE) (d : D) : Prop where
  run : ∀ (σ : L2.St) (H0 H : Hp), Same H0 H → SlF X.K H0 σ as → ∀ Q : VK, (∀ v H0' H', Grow H0 H H0' H' → Is X.K H0' d v → Q v H') → re X e σ H Q
/-- es are worth ds -/
structure EA (X : Cx) (es : List Expr) (as : DE) (ds : List D) : Prop where
  run : ∀ (σ : L2.St) (H0 H : Hp), Same H0 H → SlF X.K H0 σ as → ∀ Q : List V → Hp → Prop, (∀ vs H0' H', Grow H0 H H0' H' → IsL X.K H0' ds vs → Q vs H') → ra X es σ H Q
/-- the test e comes out as b -/
structure ET (X : Cx) (e : Expr) (as : DE) (b : Bool) : Prop where
  run : ∀ (σ : L2.St) (H0 H : Hp), Same H0 H → SlF X.K H0 σ as → ∀ Q : Bool → Hp → Prop, (∀ H0' H', Grow H0 H H0' H' → Q b H') → rt X e σ H Q
/-- e raises x -/
structure EX (X : Cx) (e : Expr) (as : DE) (x : Exn) : Prop where
  run : ∀ (σ : L2.St) (H0 H : Hp), Same H0 H → SlF X.K H0 σ as → ∀ Q : VK, (∀ c dd H0' H', Grow H0 H H0' H' → IsX X.K H0' H' c dd x → wx X c dd σ H') → re X e σ H Q
/-- what is at a new address, its parts frozen -/
def Own (K : PySem.W.Frag) (H0 H : Hp) (a : Addr) : D → Prop
  | .lst ds => ∃ vs, H a = some (.lst vs) ∧ IsL K H0 ds vs
  | .dct ks => ∃ kvs, H a = some (.dK kvs) ∧ IsK K H0 ks kvs
  | .obj C fs => ∃ dx gs, H a = some (.ins C dx gs) ∧ IsF K H0 fs gs
  | _ => False
/-- e makes a new d -/
structure EN (X : Cx) (e : Expr) (as : DE) (d : D) : Prop where
  run : ∀ (σ : L2.St) (H0 H : Hp), Same H0 H → SlF X.K H0 σ as → ∀ Q : VK, (∀ a H0' H', Grow H0 H H0' H' → H a = none → H0' a = none → Own X.K H0' H' a d → Q (.ref a) H') → re X e σ H Q
theorem Own.is {K : PySem.W.Frag} {H0 H : Hp} {a : Addr} : ∀ {d : D}, Own K H0 H a d → Same H0 H → Is K H d (.ref a)
  | .lst ds, ⟨vs, h1, h2⟩, e => ⟨a, vs, rfl, SqL.of h1, h2.mono e⟩
  | .dct ks, ⟨vs, h1, h2⟩, e => ⟨a, vs, rfl, .inl h1, h2.mono e⟩
  | .obj C fs, ⟨dx, gs, h1, h2⟩, e => ⟨a, dx, gs, rfl, h1, h2.mono e⟩
  | .non, h, _ => h.elim
  | .bl _, h, _ => h.elim
  | .int _, h, _ => h.elim
  | .str _, h, _ => h.elim
  | .ty _, h, _ => h.elim
  | .cls _, h, _ => h.elim
  | .tup _, h, _ => h.elim
  | .xc _ _ _, h, _ => h.elim
  | .exv _ _, h, _ => h.elim
theorem Own.frz {K : PySem.W.Frag} {H0 H H0' : Hp} {a : Addr} (e : Same H0 H0') (h2 : H0' a = H a) : ∀ {d : D}, Own K H0 H a d → Is K H0' d (.ref a)
  | .lst ds, ⟨vs, h1, h⟩ => ⟨a, vs, rfl, SqL.of (h2.trans h1), h.mono e⟩
  | .dct ks, ⟨vs, h1, h⟩ => ⟨a, vs, rfl, .inl (h2.trans h1), h.mono e⟩
  | .obj C fs, ⟨dx, gs, h1, h⟩ => ⟨a, dx, gs, rfl, h2.trans h1, h.mono e⟩
  | .non, h => h.elim
  | .bl _, h => h.elim
  | .int _, h => h.elim
  | .str _, h => h.elim
  | .ty _, h => h.elim
  | .cls _, h => h.elim
  | .tup _, h => h.elim
  | .xc _ _ _, h => h.elim
  | .exv _ _, h => h.elim
theorem Own.keep {K : PySem.W.Frag} {H0 H H0' H' : Hp} {a : Addr} (e : Same H0 H0') (h2 : ∀ o, H a = some o → H' a = some o) : ∀ {d : D}, Own K H0 H a d → Own K H0' H' a d
  | .lst ds, ⟨vs, h1, h⟩ => ⟨vs, h2 _ h1, h.mono e⟩
  | .dct ks, ⟨vs, h1, h⟩ => ⟨vs, h2 _ h1, h.mono e⟩
  | .obj C fs, ⟨dx, gs, h1, h⟩ => ⟨dx, gs, h2 _ h1, h.mono e⟩
  | .non, h => h.elim
  | .bl _, h => h.elim
  | .int _, h => h.elim
  | .str _, h => h.elim
  | .ty _, h => h.elim
  | .cls _, h => h.elim
  | .tup _, h => h.elim
  | .xc _ _ _, h => h.elim
  | .exv _ _, h => h.elim
theorem Own.some {K : PySem.W.Frag} {H0 H : Hp} {a : Addr} : ∀ {d : D}, Own K H0 H a d → ∃ o, H a = some o
  | .lst ds, ⟨vs, h1, h⟩ => ⟨_, h1⟩
  | .dct ks, ⟨vs, h1, h⟩ => ⟨_, h1⟩
  | .obj C fs, ⟨dx, gs, h1, h⟩ => ⟨_, h1⟩
  | .non, h => h.elim
  | .bl _, h => h.elim
  | .int _, h => h.elim
  | .str _, h => h.elim
  | .ty _, h => h.elim
  | .cls _, h => h.elim
  | .tup _, h => h.elim
  | .xc _ _ _, h => h.elim
  | .exv _ _, h => h.elim
/-- freeze what is new -/
theorem Grow.freeze {H0 H H0' H' : Hp} {a : Addr} {o : HO} (g : Grow H0 H H0' H') (ha : H a = none) (h0 : H0' a = none) (ho : H' a = some o) : Grow H0 H (upd H0' a o) H' := by
  refine ⟨g.frz.trans (Same.new h0), g.all, fun b u e => ?_, fun b x => ?_⟩
  · by_cases z : b = a
    · rw [z, upd_same] at e; rw [z, ho]; exact e
    · rw [upd_ne z] at e; exact g.sub b u e
  · by_cases z : b = a
    · rw [z]; exact .inr ha
    · rw [upd_ne z] at x; exact g.new b x
theorem EN.ee {X : Cx} {e : Expr} {as : DE} {d : D} (h : EN X e as d) : EE X e as d := .mk fun σ H0 H hs hf Q q =>
  h.run σ H0 H hs hf Q fun a H0' H' g ha h0 ho => by
    obtain ⟨o, e⟩ := ho.some
    exact q (.ref a) (upd H0' a o) H' (g.freeze ha h0 e) (ho.frz (Same.new h0) (by rw [upd_same, e]))
end Mw
set_option maxHeartbeats 4000000
namespace Mw
open PySem PySem.Spec PyProof.Rows L2
/-! ### expressions -/
section
variable {X : Cx} {as : DE} {d x y : D} {a b e : Expr} {es : List Expr} {ds : List D} {pos : Pos}
theorem EE.mk_c {v : V} {d : D} {e : Expr} (h : PE X e (tC v)) (hv : ∀ H, Is X.K H d v) : EE X e as d := .mk fun σ H0 H hs hf Q q =>
  re_of h (q v H0 H (Grow.refl hs) (hv H0))
theorem ee_name (i : Nat) {n : Str} (hi : X.N[i]? = some n) (hv : Vis X.env.scope n) (ha : as[i]? = some (some d)) (hd : (n == ("__debug__" : Str)) = false := by decide) (hcd : (n == ("__classdict__" : Str)) = false := by decide) : EE X (.Name n pos) as d := .mk fun σ H0 H hs hf Q q =>
  let ⟨v, e, h⟩ := hf i d ha
  re_of (pe_var hi hv hd hcd) ⟨v, e, q v H0 H (Grow.refl hs) h⟩
theorem ee_int {i : Int} {j : Nat} : EE X (.Constant (.int i) j pos) as (.int i) := .mk_c pe_int fun _ => rfl
theorem ee_bl {k : Bool} {j : Nat} : EE X (.Constant (.bool k) j pos) as (.bl k) := .mk_c pe_bl fun _ => rfl
theorem ee_non {j : Nat} : EE X (.Constant .none j pos) as .non := .mk_c pe_non fun _ => rfl
theorem ee_str {z : Str} {j : Nat} : EE X (.Constant (.str z) j pos) as (.str z) := .mk_c pe_str fun _ => rfl
theorem ee_glob {n : Str} {u : Value} (hg : Gl X n) (hm : X.mg n = some u) {v : V} (r : RelV v u) (hv : ∀ H, Is X.K H d v) (hd : (n == ("__debug__" : Str)) = false := by decide) : EE X (.Name n pos) as d := .mk_c (pe_glob hg hm r hd) hv
theorem ee_bltn {n : Str} {u : Value} (hg : Gl X n) (hm : X.mg n = none) (hb : bootBuiltins n = some u) {v : V} (r : RelV v u) (hv : ∀ H, Is X.K H d v) (hn : n ≠ "__name__" := by decide) (hd : (n == ("__debug__" : Str)) = false := by decide) : EE X (.Name n pos) as d := .mk_c (pe_bltn hg hm hb r hn hd) hv
/-- a two-place operation on data -/
def OpD (X : Cx) (f : Value → Value → Sem Value) (x y d : D) : Prop :=
  ∃ r : R2, OpR X f r ∧ ∀ v w H0 H, Same H0 H → Is X.K H0 x v → Is X.K H0 y w → ∀ Q : VK, (∀ z H0' H', Grow H0 H H0' H' → Is X.K H0' d z → Q z H') → r v w H Q
/-- an operation that gives a bool or a number, whatever -/
theorem OpD.flat {f : Value → Value → Sem Value} {r : R2} {z : V} (ho : OpR X f r) (hz : ∀ H, Is X.K H d z)
    (hr : ∀ v w H, Is X.K H x v → Is X.K H y w → ∀ Q : VK, Q z H → r v w H Q) : OpD X f x y d :=
  ⟨r, ho, fun v w H0 H hs hx hy Q q => hr v w H (hx.mono hs) (hy.mono hs) Q (q z H0 H (Grow.refl hs) (hz H0))⟩
theorem ee_bin {op : Operator} (ha : EE X a as x) (hb : EE X b as y) (ho : OpD X (binaryOp op) x y d) : EE X (.BinOp a op b pos) as d := .mk fun σ H0 H hs hf Q q => by
  obtain ⟨r, ho, hr⟩ := ho
  refine re_of (pe_op ho re_pe re_pe) ?_
  exact ha.run σ H0 H hs hf _ fun v H1 H' g i1 => hb.run σ H1 H' g.sub (hf.mono g.frz) _ fun w H2 H'' g' i2 => hr v w H2 H'' g'.sub (i1.mono g'.frz) i2 Q fun z _ _ g'' i => q z _ _ ((g.trans g').trans g'') i
theorem ee_cmp {op : CmpOp} (ha : EE X a as x) (hb : EE X b as y) (ho : OpD X (compareOp op) x y d) (hm : behindInMarks op b = false) : EE X (.Compare a [op] [b] pos) as d := .mk fun σ H0 H hs hf Q q => by
  obtain ⟨r, ho, hr⟩ := ho
  refine re_of (pe_cmpR ho re_pe re_pe hm) ?_
  exact ha.run σ H0 H hs hf _ fun v H1 H' g i1 => hb.run σ H1 H' g.sub (hf.mono g.frz) _ fun w H2 H'' g' i2 => hr v w H2 H'' g'.sub (i1.mono g'.frz) i2 Q fun z _ _ g'' i => q z _ _ ((g.trans g').trans g'') i
theorem et_cmp {op : CmpOp} {k : Bool} (ha : EE X a as x) (hb : EE X b as y) (ho : OpD X (compareOp op) x y (.bl k)) (hm : behindInMarks op b = false) : ET X (.Compare a [op] [b] pos) as k := .mk fun σ H0 H hs hf Q q => by
  obtain ⟨r, ho, hr⟩ := ho
  refine rt_of (pt_cmpR ho re_pe re_pe hm) ?_
  exact ha.run σ H0 H hs hf _ fun v H1 H' g i1 => hb.run σ H1 H' g.sub (hf.mono g.frz) _ fun w H2 H'' g' i2 => hr v w H2 H'' g'.sub (i1.mono g'.frz) i2 _ fun z _ _ g'' i => ⟨k, i, q _ _ ((g.trans g').trans g'')⟩
/-- an expression that gives a bool, as a test -/
theorem et_val {k : Bool} (h : EE X e as (.bl k)) (he : ∀ whole, isTrue e X.env whole = (do let v ← whole; standAt e.pos; holding [v] (truthy v)) := by intro _; rfl) : ET X e as k := .mk fun σ H0 H hs hf Q q =>
  rt_of (pt_val re_pe he) (h.run σ H0 H hs hf _ fun v H1 H' g i => ⟨k, i, q _ _ g⟩)
theorem et_not {k : Bool} (h : ET X a as k) : ET X (.UnaryOp .Not a pos) as (!k) := .mk fun σ H0 H hs hf Q q =>
  rt_of (pt_not rt_pt) (h.run σ H0 H hs hf _ fun H1 H' g => q _ _ g)
/-- and, or as tests: whatever whole is -/
structure EW (X : Cx) (e : Expr) (as : DE) (b : Bool) : Prop where
  run : ∀ (σ : L2.St) (H0 H : Hp), Same H0 H → SlF X.K H0 σ as → ∀ Q : Bool → Hp → Prop, (∀ H0' H', Grow H0 H H0' H' → Q b H') → ∀ (whole : Sem Value) (pins : List (Addr × Obj)) (s : Shared), Inv X pins σ H s → wpAny (model X.prog X.w) X.A (isTrue e X.env whole) (TP X pins σ Q) X.xe s
theorem EW.et {k : Bool} (h : EW X e as k) : ET X e as k := .mk fun σ H0 H hs hf Q q pins s I => h.run σ H0 H hs hf Q q _ pins s I
def rw_ (X : Cx) (e : Expr) : TT := fun σ H Q => ∀ (whole : Sem Value) (pins : List (Addr × Obj)) (s : Shared), Inv X pins σ H s → wpAny (model X.prog X.w) X.A (isTrue e X.env whole) (TP X pins σ Q) X.xe s
theorem rw_pw : PW X e (rw_ X e) := ⟨fun wh pins s σ H Q I h => h wh pins s I⟩
theorem rw_of {t : TT} {σ : L2.St} {H : Hp} {Q : Bool → Hp → Prop} (h : PW X e t) (q : t σ H Q) : rw_ X e σ H Q := fun wh pins s I => h.run wh pins s σ H Q I q
theorem ew_and1 {k : Bool} (h : ET X a as k) : EW X (.BoolOp .And [a] pos) as k := .mk fun σ H0 H hs hf Q q =>
  rw_of (pw_and1 rt_pt) (h.run σ H0 H hs hf _ q)
theorem ew_or1 {k : Bool} (h : ET X a as k) : EW X (.BoolOp .Or [a] pos) as k := .mk fun σ H0 H hs hf Q q =>
  rw_of (pw_or1 rt_pt) (h.run σ H0 H hs hf _ q)
theorem ew_and {k l : Bool} (h : ET X a as k) (h2 : k = true → EW X (.BoolOp .And (b :: es) pos) as l) : EW X (.BoolOp .And (a :: b :: es) pos) as (k && l) := .mk fun σ H0 H hs hf Q q =>
  rw_of (pw_and rt_pt rw_pw) (h.run σ H0 H hs hf _ fun H1 H' g => by
    cases k with
    | true =>
      rw [if_pos rfl]
      exact (h2 rfl).run σ H1 H' g.sub (hf.mono g.frz) _ fun _ _ g' => q _ _ (g.trans g')
    | false =>
      rw [if_neg Bool.false_ne_true]
      exact q _ _ g)
theorem ew_or {k l : Bool} (h : ET X a as k) (h2 : k = false → EW X (.BoolOp .Or (b :: es) pos) as l) : EW X (.BoolOp .Or (a :: b :: es) pos) as (k || l) := .mk fun σ H0 H hs hf Q q =>
  rw_of (pw_or rt_pt rw_pw) (h.run σ H0 H hs hf _ fun H1 H' g => by
    cases k with
    | true =>
      rw [if_pos rfl]
      exact q _ _ g
    | false =>
      rw [if_neg Bool.false_ne_true]
      exact (h2 rfl).run σ H1 H' g.sub (hf.mono g.frz) _ fun _ _ g' => q _ _ (g.trans g'))
/-- as values, of bools -/
theorem ee_one {op : BoolOp} (h : EE X a as d) : EE X (.BoolOp op [a] pos) as d := .mk fun σ H0 H hs hf Q q => re_of (pe_one re_pe) (h.run σ H0 H hs hf Q q)
theorem ee_and {k l : Bool} (h : EE X a as (.bl k)) (h2 : k = true → EE X (.BoolOp .And (b :: es) pos) as (.bl l)) : EE X (.BoolOp .And (a :: b :: es) pos) as (.bl (k && l)) := .mk fun σ H0 H hs hf Q q =>
  re_of (pe_and re_pe re_pe) (h.run σ H0 H hs hf _ fun v H1 H' g i => by
    refine ⟨k, i, ?_⟩
    cases k with
    | true =>
      rw [if_pos rfl]
      exact (h2 rfl).run σ H1 H' g.sub (hf.mono g.frz) _ fun _ _ _ g' i' => q _ _ _ (g.trans g') i'
    | false =>
      rw [if_neg Bool.false_ne_true]
      exact q _ _ _ g rfl)
theorem ee_or {k l : Bool} (h : EE X a as (.bl k)) (h2 : k = false → EE X (.BoolOp .Or (b :: es) pos) as (.bl l)) : EE X (.BoolOp .Or (a :: b :: es) pos) as (.bl (k || l)) := .mk fun σ H0 H hs hf Q q =>
  re_of (pe_or re_pe re_pe) (h.run σ H0 H hs hf _ fun v H1 H' g i => by
    refine ⟨k, i, ?_⟩
    cases k with
    | true =>
      rw [if_pos rfl]
      exact q _ _ _ g rfl
    | false =>
      rw [if_neg Bool.false_ne_true]
      exact (h2 rfl).run σ H1 H' g.sub (hf.mono g.frz) _ fun _ _ _ g' i' => q _ _ _ (g.trans g') i')
theorem ee_not {k : Bool} (h : EE X a as (.bl k)) : EE X (.UnaryOp .Not a pos) as (.bl (!k)) := .mk fun σ H0 H hs hf Q q =>
  re_of (pe_not re_pe) (h.run σ H0 H hs hf _ fun v H1 H' g i => ⟨k, i, q _ _ _ g rfl⟩)
/-- a if c else b -/
theorem ee_if {c : Expr} {k : Bool} {d1 d2 : D} (h : ET X c as k) (h1 : k = true → EE X a as d1) (h2 : k = false → EE X b as d2) : EE X (.IfExp c a b pos) as (if k = true then d1 else d2) := .mk fun σ H0 H hs hf Q q =>
  re_of (pe_ifExp rt_pt re_pe re_pe) (h.run σ H0 H hs hf _ fun H1 H' g => by
    cases k with
    | true =>
      rw [if_pos rfl]
      exact (h1 rfl).run σ H1 H' g.sub (hf.mono g.frz) _ fun _ _ _ g' i' => q _ _ _ (g.trans g') (by rw [if_pos rfl]; exact i')
    | false =>
      rw [if_neg Bool.false_ne_true]
      exact (h2 rfl).run σ H1 H' g.sub (hf.mono g.frz) _ fun _ _ _ g' i' => q _ _ _ (g.trans g') (by rw [if_neg Bool.false_ne_true]; exact i'))
theorem ee_ifT {c : Expr} {d1 : D} (h : ET X c as true) (h1 : EE X a as d1) : EE X (.IfExp c a b pos) as d1 := by
  have q := ee_if (X := X) (as := as) (c := c) (a := a) (b := b) (d1 := d1) (d2 := d1) (pos := pos) h (fun _ => h1) (fun z => nomatch z)
  rw [if_pos rfl] at q
  exact q
theorem ee_ifF {c : Expr} {d1 : D} (h : ET X c as false) (h1 : EE X b as d1) : EE X (.IfExp c a b pos) as d1 := by
  have q := ee_if (X := X) (as := as) (c := c) (a := a) (b := b) (d1 := d1) (d2 := d1) (pos := pos) h (fun z => nomatch z) (fun _ => h1)
  rw [if_neg Bool.false_ne_true] at q
  exact q
/-! ### arguments, displays -/
theorem ea_nil : EA X [] as [] := .mk fun σ H0 H hs hf Q q => ra_of pa_nil (q [] H0 H (Grow.refl hs) rfl)
theorem ea_cons (h : EE X e as d) (hr : EA X es as ds) (hs : starEach (e :: es) X.env = (false, eval e X.env) :: starEach es X.env := by rfl) : EA X (e :: es) as (d :: ds) := .mk fun σ H0 H hs' hf Q q =>
  ra_of (pa_cons re_pe ra_pa hs) (h.run σ H0 H hs' hf _ fun v H1 H' g i => hr.run σ H1 H' g.sub (hf.mono g.frz) _ fun vs _ _ g' i' => q _ _ _ (g.trans g') (IsL.cons (i.mono g'.frz) i'))
theorem ee_tup {k : Nat} (h : EA X es as ds) (hl : ds.length ≤ sizeLine) : EE X (.Tuple es k pos) as (.tup ds) := .mk fun σ H0 H hs hf Q q =>
  re_of (pe_tup ra_pa) (h.run σ H0 H hs hf _ fun vs H1 H' g i => ⟨by rw [i.len]; exact hl, fun p hp =>
    q _ (upd H1 p (.tup vs)) _ (g.trans (Grow.laid g.sub hp)) ⟨p, vs, rfl, SqT.of upd_same, i.mono (Same.new (g.sub.free hp))⟩⟩)
theorem en_lst (h : EA X es as ds) (hl : ds.length ≤ sizeLine) : EN X (.List es pos) as (.lst ds) := .mk fun σ H0 H hs hf Q q =>
  re_of (pe_lst ra_pa) (h.run σ H0 H hs hf _ fun vs H1 H' g i => ⟨by rw [i.len]; exact hl, fun p hp =>
    q p H1 _ (g.trans (Grow.made g.sub hp)) (g.all.free hp) (g.sub.free hp) ⟨vs, upd_same, i⟩⟩)
/-! ### calls -/
/-- a call of the value f upon data -/
def CaD (X : Cx) (f : Value) (ds : List D) (d : D) : Prop :=
  ∃ r : List V → Hp → VK → Prop, CallR X f r ∧ ∀ vs H0 H, Same H0 H → IsL X.K H0 ds vs → ∀ Q : VK, (∀ z H0' H', Grow H0 H H0' H' → Is X.K H0' d z → Q z H') → r vs H Q
def CaN (X : Cx) (f : Value) (ds : List D) (d : D) : Prop :=
  ∃ r : List V → Hp → VK → Prop, CallR X f r ∧ ∀ vs H0 H, Same H0 H → IsL X.K H0 ds vs → ∀ Q : VK, (∀ a H0' H', Grow H0 H H0' H' → H a = none → H0' a = none → Own X.K H0' H' a d → Q (.ref a) H') → r vs H Q
theorem ee_callB {n : Str} {id : String} {p : Pos} (ha : EA X (e :: es) as ds) (hc : CaD X (.builtin id) ds d) (hg : Gl X n) (hm : X.mg n = none) (hv : bootBuiltins n = some (.builtin id)) (hn : n ≠ "__name__" := by decide) (hdb : (n == ("__debug__" : Str)) = false := by decide)
    (he : starEach (e :: es) X.env = (false, eval e X.env) :: starEach es X.env := by rfl) (hpl : (backTo pos (starEach es X.env)).any (·.1) = false := by rfl) : EE X (.Call (.Name n p) (e :: es) [] pos) as d := .mk fun σ H0 H hs hf Q q => by
  obtain ⟨r, hc, hr⟩ := hc
  exact re_of (pe_callB hc hg hm hv ra_pa hn hdb he hpl) (ha.run σ H0 H hs hf _ fun vs H1 H' g i => hr vs H1 H' g.sub i Q fun z _ _ g' i' => q _ _ _ (g.trans g') i')
theorem ee_callTy {n : Str} {T : String} {p : Pos} (ha : EA X (e :: es) as ds) (hc : CaD X (.type T) ds d) (hg : Gl X n) (hm : X.mg n = none) (hv : bootBuiltins n = some (.type T)) (hn : n ≠ "__name__" := by decide) (hdb : (n == ("__debug__" : Str)) = false := by decide)
    (he : starEach (e :: es) X.env = (false, eval e X.env) :: starEach es X.env := by rfl) (hpl : (backTo pos (starEach es X.env)).any (·.1) = false := by rfl) : EE X (.Call (.Name n p) (e :: es) [] pos) as d := .mk fun σ H0 H hs hf Q q => by
  obtain ⟨r, hc, hr⟩ := hc
  exact re_of (pe_callTy hc hg hm hv ra_pa hn hdb he hpl) (ha.run σ H0 H hs hf _ fun vs H1 H' g i => hr vs H1 H' g.sub i Q fun z _ _ g' i' => q _ _ _ (g.trans g') i')
theorem en_callTy {n : Str} {T : String} {p : Pos} (ha : EA X (e :: es) as ds) (hc : CaN X (.type T) ds d) (hg : Gl X n) (hm : X.mg n = none) (hv : bootBuiltins n = some (.type T)) (hn : n ≠ "__name__" := by decide) (hdb : (n == ("__debug__" : Str)) = false := by decide)
    (he : starEach (e :: es) X.env = (false, eval e X.env) :: starEach es X.env := by rfl) (hpl : (backTo pos (starEach es X.env)).any (·.1) = false := by rfl) : EN X (.Call (.Name n p) (e :: es) [] pos) as d := .mk fun σ H0 H hs hf Q q => by
  obtain ⟨r, hc, hr⟩ := hc
  exact re_of (pe_callTy hc hg hm hv ra_pa hn hdb he hpl) (ha.run σ H0 H hs hf _ fun vs H1 H' g i => hr vs H1 H' g.sub i Q fun a _ _ g' h1 h2 h3 => q _ _ _ (g.trans g') (g.all.free h1) h2 h3)
end
/-! ### defs: what they do, over data -/
abbrev FS := List D → Except Exn D → Prop
def spOf (K : PySem.W.Frag) (S : FS) : Sp := fun vs H Q E => ∃ (H0 : Hp) (ds : List D) (r : Except Exn D), Same H0 H ∧ IsL K H0 ds vs ∧ S ds r ∧
  match r with
  | .ok d => ∀ v H0' H', Grow H0 H H0' H' → Is K H0' d v → Q v H'
  | .error x => ∀ c dd H0' H', Grow H0 H H0' H' → IsX K H0' H' c dd x → E c dd H'
section
variable {X : Cx} {k : Nat} {f : Addr} {fd : FuncData} {ps : List Str} {S : FS} {x : Str} {p pos : Pos} {e : Expr} {es : List Expr} {as : DE} {ds : List D} {d : D} {dvs : List V} {dds : List D} {dus : List Value}
theorem run_fnD {sp : Sp} {CX : CXT} {E : L2.St → XK} {pins : List (Addr × Obj)} {σ : L2.St} {H : Hp} {s : Shared} {Q : VK} {us : List Value} {vs : List V} (F : FnOk X.prog X.w X.K X.mg X.base CX k f fd ps sp) (hr : Room k X.A) (hb : Binds X.K fd ps dus) (hd : Vals dvs dus) (hx : PassesAt CX X σ (E σ))
    (I : Inv X pins σ H s) (r : Vals vs us) (h : sp (vs ++ dvs) H Q (E σ)) : wpAny (model X.prog X.w) X.A (call (.ref f) us) (EP X pins σ Q) X.xe s := by
  have r' := r.append hd
  have hl : (us ++ dus).length = ps.length := by rw [← r'.length]; exact F.len _ _ _ _ h
  have b := hb s us I.kIn hl
  refine wpAny_call (codeAny_mono (F.run X.A X.stack s H ⟨us, []⟩ (us ++ dus) (vs ++ dvs) Q (E σ) hr I.env0 b r' h) fun r s' hq => ?_)
  cases r with
  | error e => exact hx pins H s e s' I hq
  | ok fl =>
    cases fl with
    | ret u => exact I.after hq
    | next => exact False.elim hq
    | brk => exact False.elim hq
    | cont => exact False.elim hq
def tCallD (sp : Sp) (dvs : List V) (E : L2.St → XK) (t : TA) : TE := fun σ H Q => t σ H fun vs H1 => sp (vs ++ dvs) H1 Q (E σ)
theorem pe_callD {sp : Sp} {CX : CXT} {E : L2.St → XK} {t : TA} (F : FnOk X.prog X.w X.K X.mg X.base CX k f fd ps sp) (hr : Room k X.A) (hg : Gl X x) (hm : X.mg x = some (.ref f)) (hk : PySem.W.keepIn X.K (.ref f) = true) (hb : Binds X.K fd ps dus) (hd : Vals dvs dus) (hx : ∀ σ, PassesAt CX X σ (E σ))
    (ha : PA X (e :: es) t) (hdb : (x == ("__debug__" : Str)) = false := by decide) (he : starEach (e :: es) X.env = (false, eval e X.env) :: starEach es X.env := by rfl) (hpl : (backTo pos (starEach es X.env)).any (·.1) = false := by rfl) :
    PE X (.Call (.Name x p) (e :: es) [] pos) (tCallD sp dvs E t) := by
  refine ⟨fun pins s σ H Q I h => ?_⟩
  refine wpAny_Call_Name_kw (ld_glob I hg hm ?_ hdb)
  refine PySem.W.callWith_K (h₀ := X.base) I.ok.mod.kin hk (thn (ha.run pos pins s σ H _ I h) fun us s1 ⟨vs, H1, I1, r, q⟩ => ⟨I1.kIn, ?_⟩) he hpl
  exact run_fnD F hr hb hd (hx σ) I1 r q
/-- the defaults: data, whatever the heap -/
structure Dflt (K : PySem.W.Frag) (dds : List D) (dvs : List V) (dus : List Value) : Prop where
  vals : Vals dvs dus
  is : ∀ H, IsL K H dds dvs
theorem Dflt.nil {K : PySem.W.Frag} : Dflt K [] [] [] := ⟨.nil, fun _ => rfl⟩
/-- what a caller has of a def of the text -/
structure FnE (P : Program) (w : World) (K : PySem.W.Frag) (mg : Str → Option Value) (base : Heap) (k : Nat) (x : Str) (dds : List D) (S : FS) : Prop where
  ex : ∃ (f : Addr) (fd : FuncData) (ps : List Str) (dvs : List V) (dus : List Value), FnOk P w K mg base (L2.CX P w) k f fd ps (spOf K S) ∧ mg x = some (.ref f) ∧ PySem.W.keepIn K (.ref f) = true ∧ Binds K fd ps dus ∧ Dflt K dds dvs dus
abbrev FnD (X : Cx) (k : Nat) (x : Str) (dds : List D) (S : FS) : Prop := FnE X.prog X.w X.K X.mg X.base k x dds S
theorem ee_call (F : FnD X k x dds S) (ha : EA X (e :: es) as ds) (hS : S (ds ++ dds) (.ok d)) (hr : Room k X.A) (hg : Gl X x) (hdb : (x == ("__debug__" : Str)) = false := by decide) (he : starEach (e :: es) X.env = (false, eval e X.env) :: starEach es X.env := by rfl) (hpl : (backTo pos (starEach es X.env)).any (·.1) = false := by rfl) :
    EE X (.Call (.Name x p) (e :: es) [] pos) as d := .mk fun σ H0 H hs hf Q q => by
  obtain ⟨f, fd, ps, dvs, dus, F, hm, hk, hb, hd⟩ := F.ex
  refine re_of (pe_callD (E := WE (wx X)) F hr hg hm hk hb hd.vals (fun σ => passAt wx_takes σ) ra_pa hdb he hpl) ?_
  exact ha.run σ H0 H hs hf _ fun vs H1 H' g i => ⟨H1, ds ++ dds, .ok d, g.sub, i.app (hd.is H1), hS, fun v _ _ g' i' => q v _ _ (g.trans g') i'⟩
theorem ex_call {xn : Exn} (F : FnD X k x dds S) (ha : EA X (e :: es) as ds) (hS : S (ds ++ dds) (.error xn)) (hr : Room k X.A) (hg : Gl X x) (hdb : (x == ("__debug__" : Str)) = false := by decide) (he : starEach (e :: es) X.env = (false, eval e X.env) :: starEach es X.env := by rfl) (hpl : (backTo pos (starEach es X.env)).any (·.1) = false := by rfl) :
    EX X (.Call (.Name x p) (e :: es) [] pos) as xn := .mk fun σ H0 H hs hf Q q => by
  obtain ⟨f, fd, ps, dvs, dus, F, hm, hk, hb, hd⟩ := F.ex
  refine re_of (pe_callD (E := WE (wx X)) F hr hg hm hk hb hd.vals (fun σ => passAt wx_takes σ) ra_pa hdb he hpl) ?_
  exact ha.run σ H0 H hs hf _ fun vs H1 H' g i => ⟨H1, ds ++ dds, .error xn, g.sub, i.app (hd.is H1), hS, fun c dd _ _ g' i' => q c dd _ _ (g.trans g') i'⟩
end
end Mw
set_option maxHeartbeats 4000000
namespace Mw
open PySem PySem.Spec PyProof.Rows L2
/-! ### statements over data -/
inductive Sl where
  | un | fz (d : D) | ow (d : D)
abbrev AS := List Sl
def hid1 : Sl → Option D
  | .fz d => some d
  | _ => none
def vis1 : Sl → Option D
  | .fz d => some d
  | .ow d => some d
  | _ => none
def frz1 : Sl → Sl
  | .ow d => .fz d
  | s => s
abbrev hid (as : AS) : DE := as.map hid1
abbrev vis (as : AS) : DE := as.map vis1
abbrev frz (as : AS) : AS := as.map frz1
/-- the slots σ and the heap H, H0 its frozen part, are as as says; Gs, G: frozen part and heap at the entry -/
structure StH (K : PySem.W.Frag) (Gs G : Hp) (σ : L2.St) (H : Hp) (as : AS) (H0 : Hp) : Prop where
  grow : Grow Gs G H0 H
  fz : ∀ (i : Nat) (d : D), as[i]? = some (.fz d) → ∃ v, σ[i]? = some (some v) ∧ Is K H0 d v
  ow : ∀ (i : Nat) (d : D), as[i]? = some (.ow d) → ∃ a, σ[i]? = some (some (.ref a)) ∧ H0 a = none ∧ G a = none ∧ Own K H0 H a d
  dis : ∀ (i j : Nat) (a : Addr) (d d' : D), as[i]? = some (.ow d) → as[j]? = some (.ow d') → σ[i]? = some (some (.ref a)) → σ[j]? = some (some (.ref a)) → i = j
section
variable {K : PySem.W.Frag} {Gs G H H' H0 H0' : Hp} {σ : L2.St} {as : AS}
theorem map_at {α β : Type} {f : α → β} {l : List α} {i : Nat} {y : β} (h : (l.map f)[i]? = some y) : ∃ x, l[i]? = some x ∧ f x = y := by
  rw [List.getElem?_map] at h
  cases e : l[i]? with
  | none => rw [e] at h; cases h
  | some x => rw [e] at h; exact ⟨x, rfl, Option.some.inj h⟩
theorem StH.hid (S : StH K Gs G σ H as H0) : SlF K H0 σ (hid as) := fun i d e => by
  obtain ⟨x, e1, e2⟩ := map_at e
  cases x with
  | fz d' => cases e2; exact S.fz i d e1
  | un => cases e2
  | ow d' => cases e2
theorem StH.vis (S : StH K Gs G σ H as H0) : SlF K H σ (vis as) := fun i d e => by
  obtain ⟨x, e1, e2⟩ := map_at e
  cases x with
  | fz d' =>
    cases e2
    obtain ⟨v, h1, h2⟩ := S.fz i d e1
    exact ⟨v, h1, h2.mono S.grow.sub⟩
  | un => cases e2
  | ow d' =>
    cases e2
    obtain ⟨a, h1, h2, h3, h4⟩ := S.ow i d e1
    exact ⟨_, h1, h4.is S.grow.sub⟩
/-- the heap has grown -/
theorem StH.more (S : StH K Gs G σ H as H0) (g : Grow H0 H H0' H') : StH K Gs G σ H' as H0' :=
  ⟨S.grow.trans g, fun i d e => let ⟨v, h1, h2⟩ := S.fz i d e; ⟨v, h1, h2.mono g.frz⟩,
   fun i d e => by
    obtain ⟨a, h1, h2, h3, h4⟩ := S.ow i d e
    obtain ⟨o, e4⟩ := h4.some
    refine ⟨a, h1, ?_, h3, h4.keep g.frz fun o q => g.all a o q⟩
    cases z : H0' a with
    | none => rfl
    | some u =>
      rcases g.new a (by rw [z]; simp) with q | q
      · exact absurd h2 q
      · rw [e4] at q
        exact (nomatch q), S.dis⟩
/-- the heap has grown, nothing of it is held -/
theorem StH.tmp (S : StH K Gs G σ H as H0) (e : Same H H') : StH K Gs G σ H' as H0 :=
  S.more ⟨Same.refl _, e, S.grow.sub.trans e, fun _ x => .inl x⟩
theorem set_at {α : Type} {l : List α} {i j : Nat} {x y : α} (h : (l.set i x)[j]? = some y) : (i = j ∧ x = y) ∨ (i ≠ j ∧ l[j]? = some y) := by
  by_cases e : i = j
  · subst e
    by_cases hl : i < l.length
    · rw [List.getElem?_set_self hl] at h
      exact .inl ⟨rfl, Option.some.inj h⟩
    · rw [List.getElem?_eq_none (by simpa using hl)] at h
      cases h
  · rw [List.getElem?_set_ne e] at h
    exact .inr ⟨e, h⟩
/-- a slot is stored: frozen -/
theorem StH.setF (S : StH K Gs G σ H as H0) {i : Nat} {d : D} {v : V} (hi : i < σ.length) (hv : Is K H0 d v) : StH K Gs G (σ.set i (some v)) H (as.set i (.fz d)) H0 := by
  refine ⟨S.grow, fun j d' e => ?_, fun j d' e => ?_, fun j k a d1 d2 e1 e2 s1 s2 => ?_⟩
  · rcases set_at e with ⟨rfl, q⟩ | ⟨n, q⟩
    · cases q
      exact ⟨v, List.getElem?_set_self hi, hv⟩
    · rw [List.getElem?_set_ne n]
      exact S.fz j d' q
  · rcases set_at e with ⟨rfl, q⟩ | ⟨n, q⟩
    · cases q
    · rw [List.getElem?_set_ne n]
      exact S.ow j d' q
  · rcases set_at e1 with ⟨rfl, q⟩ | ⟨n1, q1⟩
    · cases q
    · rcases set_at e2 with ⟨rfl, q⟩ | ⟨n2, q2⟩
      · cases q
      · rw [List.getElem?_set_ne n1] at s1
        rw [List.getElem?_set_ne n2] at s2
        exact S.dis j k a d1 d2 q1 q2 s1 s2
theorem StH.setU (S : StH K Gs G σ H as H0) {i : Nat} {w : Option V} : StH K Gs G (σ.set i w) H (as.set i .un) H0 := by
  refine ⟨S.grow, fun j d' e => ?_, fun j d' e => ?_, fun j k a d1 d2 e1 e2 s1 s2 => ?_⟩
  · rcases set_at e with ⟨rfl, q⟩ | ⟨n, q⟩
    · cases q
    · rw [List.getElem?_set_ne n]
      exact S.fz j d' q
  · rcases set_at e with ⟨rfl, q⟩ | ⟨n, q⟩
    · cases q
    · rw [List.getElem?_set_ne n]
      exact S.ow j d' q
  · rcases set_at e1 with ⟨rfl, q⟩ | ⟨n1, q1⟩
    · cases q
    · rcases set_at e2 with ⟨rfl, q⟩ | ⟨n2, q2⟩
      · cases q
      · rw [List.getElem?_set_ne n1] at s1
        rw [List.getElem?_set_ne n2] at s2
        exact S.dis j k a d1 d2 q1 q2 s1 s2
/-- a slot is stored: a new object of one's own, at an address that no other owned slot has -/
theorem StH.setO (S : StH K Gs G σ H as H0) {i : Nat} {d : D} {p : Addr} (hi : i < σ.length) (h0 : H0 p = none) (hG : G p = none) (ho : Own K H0 H p d) (hn : ∀ (j : Nat) (d' : D), as[j]? = some (.ow d') → σ[j]? ≠ some (some (.ref p))) :
    StH K Gs G (σ.set i (some (.ref p))) H (as.set i (.ow d)) H0 := by
  refine ⟨S.grow, fun j d' e => ?_, fun j d' e => ?_, fun j k a d1 d2 e1 e2 s1 s2 => ?_⟩
  · rcases set_at e with ⟨rfl, q⟩ | ⟨n, q⟩
    · cases q
    · rw [List.getElem?_set_ne n]
      exact S.fz j d' q
  · rcases set_at e with ⟨rfl, q⟩ | ⟨n, q⟩
    · cases q
      exact ⟨p, List.getElem?_set_self hi, h0, hG, ho⟩
    · rw [List.getElem?_set_ne n]
      exact S.ow j d' q
  · rcases set_at e1 with ⟨rfl, q⟩ | ⟨n1, q1⟩
    · rcases set_at e2 with ⟨rfl, q'⟩ | ⟨n2, q2⟩
      · rfl
      · rw [List.getElem?_set_self hi] at s1
        rw [List.getElem?_set_ne n2] at s2
        cases s1
        exact absurd s2 (hn k d2 q2)
    · rcases set_at e2 with ⟨rfl, q⟩ | ⟨n2, q2⟩
      · rw [List.getElem?_set_self hi] at s2
        rw [List.getElem?_set_ne n1] at s1
        cases s2
        exact absurd s1 (hn j d1 q1)
      · rw [List.getElem?_set_ne n1] at s1
        rw [List.getElem?_set_ne n2] at s2
        exact S.dis j k a d1 d2 q1 q2 s1 s2
/-- an owned object is written -/
theorem StH.write (S : StH K Gs G σ H as H0) {i : Nat} {d d' : D} {a : Addr} {o : HO} (hi : as[i]? = some (.ow d)) (hs : σ[i]? = some (some (.ref a))) (ho : Own K H0 (upd H a o) a d') :
    StH K Gs G σ (upd H a o) (as.set i (.ow d')) H0 := by
  obtain ⟨b, q1, q2, q3, q4⟩ := S.ow i d hi
  rw [hs] at q1
  cases q1
  have g : Grow Gs G H0 (upd H a o) := ⟨S.grow.frz, fun b u e => by rw [upd_ne (ne_of_none e q3)]; exact S.grow.all b u e, fun b u e => by rw [upd_ne (ne_of_none e q2)]; exact S.grow.sub b u e, S.grow.new⟩
  refine ⟨g, fun j e q => ?_, fun j e q => ?_, fun j k c d1 d2 e1 e2 s1 s2 => ?_⟩
  · rcases set_at q with ⟨rfl, z⟩ | ⟨n, z⟩
    · cases z
    · exact S.fz j e z
  · rcases set_at q with ⟨rfl, z⟩ | ⟨n, z⟩
    · cases z
      exact ⟨a, hs, q2, q3, ho⟩
    · obtain ⟨c, r1, r2, r3, r4⟩ := S.ow j e z
      refine ⟨c, r1, r2, r3, r4.keep (Same.refl _) fun u hu => ?_⟩
      have hca : c ≠ a := fun w => by
        subst w
        exact n (S.dis i j c d e hi z hs r1)
      rw [upd_ne hca]
      exact hu
  · rcases set_at e1 with ⟨rfl, z1⟩ | ⟨n1, z1⟩
    · rcases set_at e2 with ⟨rfl, z2⟩ | ⟨n2, z2⟩
      · rfl
      · exact S.dis i k c d d2 hi z2 s1 s2
    · rcases set_at e2 with ⟨rfl, z2⟩ | ⟨n2, z2⟩
      · exact S.dis j i c d1 d z1 hi s1 s2
      · exact S.dis j k c d1 d2 z1 z2 s1 s2
open Classical in
/-- what is owned is frozen, at the slots p -/
theorem StH.freeze (S : StH K Gs G σ H as H0) (p : Nat → Bool) : ∃ H0', Same H0 H0' ∧ StH K Gs G σ H (as.mapIdx fun i s => if p i then frz1 s else s) H0' := by
  let H1 : Hp := fun b => if ∃ (i : Nat) (d : D), p i = true ∧ as[i]? = some (.ow d) ∧ σ[i]? = some (some (.ref b)) then H b else H0 b
  have e1 : ∀ (i : Nat) (d : D) (a : Addr), p i = true → as[i]? = some (.ow d) → σ[i]? = some (some (.ref a)) → H1 a = H a := fun i d a h1 h2 h3 => if_pos ⟨i, d, h1, h2, h3⟩
  have sm : Same H0 H1 := fun b o e => by
    show (if _ then H b else H0 b) = some o
    split
    · exact S.grow.sub b o e
    · exact e
  have sub : Same H1 H := fun b o e => by
    have e' : (if ∃ (i : Nat) (d : D), p i = true ∧ as[i]? = some (.ow d) ∧ σ[i]? = some (some (.ref b)) then H b else H0 b) = some o := e
    split at e'
    · exact e'
    · exact S.grow.sub b o e'
  refine ⟨H1, sm, ⟨⟨S.grow.frz.trans sm, S.grow.all, sub, fun a x => ?_⟩, fun i d e => ?_, fun i d e => ?_, fun i j a d d' x1 x2 x3 x4 => ?_⟩⟩
  · have x' : (if ∃ (i : Nat) (d : D), p i = true ∧ as[i]? = some (.ow d) ∧ σ[i]? = some (some (.ref a)) then H a else H0 a) ≠ none := x
    split at x'
    · rename_i h
      obtain ⟨i, d, h1, h2, h3⟩ := h
      obtain ⟨b, q1, q2, q3, q4⟩ := S.ow i d h2
      rw [h3] at q1
      cases q1
      exact .inr q3
    · exact S.grow.new a x'
  · rw [List.getElem?_mapIdx] at e
    cases z : as[i]? with
    | none => rw [z] at e; cases e
    | some s =>
      rw [z] at e
      have e : (if p i = true then frz1 s else s) = .fz d := Option.some.inj e
      cases s with
      | un => split at e <;> cases e
      | fz d' =>
        have e' : d' = d := by
          split at e
          · exact Sl.fz.inj e
          · exact Sl.fz.inj e
        subst e'
        obtain ⟨v, h1, h2⟩ := S.fz i d' z
        exact ⟨v, h1, h2.mono sm⟩
      | ow d' =>
        split at e
        · rename_i hp
          cases e
          obtain ⟨a, q1, q2, q3, q4⟩ := S.ow i d z
          exact ⟨_, q1, q4.frz sm (e1 i d a hp z q1)⟩
        · cases e
  · rw [List.getElem?_mapIdx] at e
    cases z : as[i]? with
    | none => rw [z] at e; cases e
    | some s =>
      rw [z] at e
      have e : (if p i = true then frz1 s else s) = .ow d := Option.some.inj e
      have hp : p i = false := by
        cases hp : p i with
        | false => rfl
        | true =>
          rw [if_pos hp] at e
          cases s <;> cases e
      rw [hp, if_neg Bool.false_ne_true] at e
      subst e
      obtain ⟨a, q1, q2, q3, q4⟩ := S.ow i d z
      refine ⟨a, q1, ?_, q3, q4.keep sm fun _ h => h⟩
      show (if _ then H a else H0 a) = none
      rw [if_neg]
      · exact q2
      · rintro ⟨j, d', h1, h2, h3⟩
        have ij := S.dis i j a d d' z h2 q1 h3
        subst ij
        rw [hp] at h1
        cases h1
  · have back : ∀ (i : Nat) (d : D), (as.mapIdx fun i s => if p i then frz1 s else s)[i]? = some (.ow d) → as[i]? = some (.ow d) := fun i d e => by
      rw [List.getElem?_mapIdx] at e
      cases z : as[i]? with
      | none => rw [z] at e; cases e
      | some s =>
        rw [z] at e
        have e : (if p i = true then frz1 s else s) = .ow d := Option.some.inj e
        split at e
        · cases s <;> cases e
        · rw [e]
    exact S.dis i j a d d' (back i d x1) (back j d' x2) x3 x4
end
structure Fin where
  nx : AS → Prop
  rt : D → Prop
  bk : AS → Prop := fun _ => False
  ct : AS → Prop := fun _ => False
  ex : Exn → AS → Prop := fun _ _ => False
/-- the ends D serve F -/
structure EndsOk (X : Cx) (Gs G H0 : Hp) (F : Fin) (E : Ends) : Prop where
  nx : ∀ σ H as H1, Same H0 H1 → StH X.K Gs G σ H as H1 → F.nx as → E.nx σ H
  rt : ∀ v H d H1, Same H0 H1 → Grow Gs G H1 H → Is X.K H1 d v → F.rt d → E.rt v H
  bk : ∀ σ H as H1, Same H0 H1 → StH X.K Gs G σ H as H1 → F.bk as → E.bk σ H
  ct : ∀ σ H as H1, Same H0 H1 → StH X.K Gs G σ H as H1 → F.ct as → E.ct σ H
  ex : ∀ c dd σ H x as H1, Same H0 H1 → StH X.K Gs G σ H as H1 → IsX X.K H1 H c dd x → F.ex x as → wx X c dd σ H
theorem EndsOk.more {X : Cx} {Gs G H0 H1 : Hp} {F : Fin} {E : Ends} (h : EndsOk X Gs G H0 F E) (e : Same H0 H1) : EndsOk X Gs G H1 F E :=
  ⟨fun σ H as H2 q => h.nx σ H as H2 (e.trans q), fun v H d H2 q => h.rt v H d H2 (e.trans q), fun σ H as H2 q => h.bk σ H as H2 (e.trans q), fun σ H as H2 q => h.ct σ H as H2 (e.trans q), fun c dd σ H x as H2 q => h.ex c dd σ H x as H2 (e.trans q)⟩
structure S1 (X : Cx) (Gs G : Hp) (st : Stmt) (as : AS) (F : Fin) : Prop where
  run : ∀ (σ : L2.St) (H H0 : Hp), StH X.K Gs G σ H as H0 → ∀ E : Ends, EndsOk X Gs G H0 F E → rs X st E σ H
structure SS (X : Cx) (Gs G : Hp) (sts : List Stmt) (as : AS) (F : Fin) : Prop where
  run : ∀ (σ : L2.St) (H H0 : Hp), StH X.K Gs G σ H as H0 → ∀ E : Ends, EndsOk X Gs G H0 F E → rss X sts E σ H
theorem rs_len {X : Cx} {st : Stmt} {σ : L2.St} {H : Hp} {E : Ends} (h : σ.length = X.N.length → rs X st E σ H) : rs X st E σ H := fun pins s I => h I.len pins s I
theorem rss_len {X : Cx} {sts : List Stmt} {σ : L2.St} {H : Hp} {E : Ends} (h : σ.length = X.N.length → rss X sts E σ H) : rss X sts E σ H := fun pins s I => h I.len pins s I
section
variable {X : Cx} {Gs G : Hp} {st : Stmt} {sts : List Stmt} {as as' : AS} {F : Fin} {e : Expr} {d : D} {pos : Pos}
theorem ss_nil (h : F.nx as) : SS X Gs G [] as F := .mk fun σ H H0 S E ok => rss_of pss_nil (ok.nx σ H as H0 (Same.refl _) S h)
theorem ss_cons (h : S1 X Gs G st as { F with nx := fun as' => SS X Gs G sts as' F }) : SS X Gs G (st :: sts) as F := .mk fun σ H H0 S E ok => by
  refine rss_of (pss_cons rs_ps rss_pss) ?_
  refine h.run σ H H0 S _ ⟨fun σ' H' as' H1 q S' h' => ?_, ok.rt, ok.bk, ok.ct, ok.ex⟩
  exact h'.run σ' H' H1 S' E (ok.more q)
theorem ss_one (h : S1 X Gs G st as F) : SS X Gs G [st] as F := .mk fun σ H H0 S E ok => by
  refine rss_of (pss_one rs_ps) ?_
  exact h.run σ H H0 S E ok
theorem S1.imp {F' : Fin} (h : S1 X Gs G st as F) (h1 : ∀ a, F.nx a → F'.nx a) (h2 : ∀ a, F.rt a → F'.rt a) (h3 : ∀ a, F.bk a → F'.bk a) (h4 : ∀ a, F.ct a → F'.ct a) (h5 : ∀ x a, F.ex x a → F'.ex x a) : S1 X Gs G st as F' := .mk fun σ H H0 S E ok =>
  h.run σ H H0 S E ⟨fun σ' H' as' H1 q S' z => ok.nx σ' H' as' H1 q S' (h1 _ z), fun v H' d H1 q g i z => ok.rt v H' d H1 q g i (h2 _ z), fun σ' H' as' H1 q S' z => ok.bk σ' H' as' H1 q S' (h3 _ z), fun σ' H' as' H1 q S' z => ok.ct σ' H' as' H1 q S' (h4 _ z), fun c dd σ' H' x as' H1 q S' i z => ok.ex c dd σ' H' x as' H1 q S' i (h5 _ _ z)⟩
theorem SS.imp {F' : Fin} (h : SS X Gs G sts as F) (h1 : ∀ a, F.nx a → F'.nx a) (h2 : ∀ a, F.rt a → F'.rt a) (h3 : ∀ a, F.bk a → F'.bk a) (h4 : ∀ a, F.ct a → F'.ct a) (h5 : ∀ x a, F.ex x a → F'.ex x a) : SS X Gs G sts as F' := .mk fun σ H H0 S E ok =>
  h.run σ H H0 S E ⟨fun σ' H' as' H1 q S' z => ok.nx σ' H' as' H1 q S' (h1 _ z), fun v H' d H1 q g i z => ok.rt v H' d H1 q g i (h2 _ z), fun σ' H' as' H1 q S' z => ok.bk σ' H' as' H1 q S' (h3 _ z), fun σ' H' as' H1 q S' z => ok.ct σ' H' as' H1 q S' (h4 _ z), fun c dd σ' H' x as' H1 q S' i z => ok.ex c dd σ' H' x as' H1 q S' i (h5 _ _ z)⟩
/-- freeze at the slots p first -/
theorem s1_freeze (p : Nat → Bool) (h : S1 X Gs G st (as.mapIdx fun i s => if p i then frz1 s else s) F) : S1 X Gs G st as F := .mk fun σ H H0 S E ok => by
  obtain ⟨H1, e, S1⟩ := S.freeze p
  exact h.run σ H H1 S1 E (ok.more e)
theorem s1_frz (h : S1 X Gs G st (frz as) F) : S1 X Gs G st as F := by
  refine s1_freeze (fun _ => true) ?_
  have e : (as.mapIdx fun i s => if (fun _ => true) i = true then frz1 s else s) = frz as := by
    rw [List.mapIdx_eq_iff]
    intro i
    rw [List.getElem?_map]
    rfl
  rw [e]
  exact h
theorem vis_frz : hid (frz as) = vis as := by
  unfold hid frz vis
  rw [List.map_map]
  congr 1
  funext s
  cases s <;> rfl
theorem s1_ret (h : EE X e (vis as) d) (q : F.rt d) : S1 X Gs G (.Return (some e) pos) as F := by
  refine s1_frz ⟨fun σ H H0 S E ok => ?_⟩
  refine rs_of (ps_ret re_pe) ?_
  have sf := S.hid
  rw [vis_frz] at sf
  exact h.run σ H0 H S.grow.sub sf _ fun v H1 H' g i => ok.rt v H' d H1 g.frz (S.grow.trans g) i q
theorem s1_retN (q : F.rt .non) : S1 X Gs G (.Return none pos) as F := .mk fun σ H H0 S E ok => rs_of ps_retN (ok.rt _ H .non H0 (Same.refl _) S.grow rfl q)
theorem s1_pass (q : F.nx as) : S1 X Gs G (.Pass pos) as F := .mk fun σ H H0 S E ok => rs_of ps_pass (ok.nx σ H as H0 (Same.refl _) S q)
theorem s1_brk (q : F.bk as) : S1 X Gs G (.Break pos) as F := .mk fun σ H H0 S E ok => rs_of ps_break (ok.bk σ H as H0 (Same.refl _) S q)
theorem s1_ct (q : F.ct as) : S1 X Gs G (.Continue pos) as F := .mk fun σ H H0 S E ok => rs_of ps_continue (ok.ct σ H as H0 (Same.refl _) S q)
/-- an expression for what it does -/
theorem s1_expr (h : EE X e (vis as) d) (hs : swapsWith e none pos.line X.env = pure false := by rfl) (q : F.nx as) : S1 X Gs G (.Expr e pos) as F := .mk fun σ H H0 S E ok => by
  refine rs_of (ps_expr re_pe hs) ?_
  exact h.run σ H H (Same.refl _) S.vis _ fun v H1 H' g i => ok.nx σ H' as H0 (Same.refl _) (S.tmp g.all) q
/-- a name is stored -/
theorem s1_set (i : Nat) {n : Str} {pos' : Pos} (hN : X.N.Nodup) (hi : X.N[i]? = some n) (hx : Loc X.env.scope n) (h : EE X e (hid as) d) (q : F.nx (as.set i (.fz d)))
    (hs : swapsWith e (some (.Name n pos')) pos.line X.env = pure false := by rfl) (hf : X.fn n = true ∨ X.env.scope.names.lookup n = some .local := by first | exact .inl rfl | exact .inr rfl | assumption) : S1 X Gs G (.Assign [.Name n pos'] e pos) as F := .mk fun σ H H0 S E ok => by
  refine rs_len fun hl => rs_of (ps_set hN hi hx re_pe hs hf) ?_
  exact h.run σ H0 H S.grow.sub S.hid _ fun v H1 H' g iv => ok.nx _ H' _ H1 g.frz ((S.more g).setF (by rw [hl]; exact (List.getElem?_eq_some_iff.mp hi).1) iv) q
/-- flat data lie in no heap -/
def flatD : D → Bool
  | .non => true
  | .bl _ => true
  | .int _ => true
  | .str _ => true
  | .ty _ => true
  | .cls _ => true
  | _ => false
theorem Is.flat {K : PySem.W.Frag} {H H' : Hp} {v : V} : ∀ {d : D}, flatD d = true → Is K H d v → Is K H' d v
  | .non, _, h => h
  | .bl _, _, h => h
  | .int _, _, h => h
  | .str _, _, h => h
  | .ty _, _, h => h
  | .cls _, _, h => h
  | .tup _, e, _ => nomatch e
  | .lst _, e, _ => nomatch e
  | .dct _, e, _ => nomatch e
  | .obj _ _, e, _ => nomatch e
  | .xc _ _ _, e, _ => nomatch e
  | .exv _ _, e, _ => nomatch e
theorem s1_setV (i : Nat) {n : Str} {pos' : Pos} (hN : X.N.Nodup) (hi : X.N[i]? = some n) (hx : Loc X.env.scope n) (h : EE X e (vis as) d) (hd : flatD d = true) (q : F.nx (as.set i (.fz d)))
    (hs : swapsWith e (some (.Name n pos')) pos.line X.env = pure false := by rfl) (hf : X.fn n = true ∨ X.env.scope.names.lookup n = some .local := by first | exact .inl rfl | exact .inr rfl | assumption) : S1 X Gs G (.Assign [.Name n pos'] e pos) as F := .mk fun σ H H0 S E ok => by
  refine rs_len fun hl => rs_of (ps_set hN hi hx re_pe hs hf) ?_
  exact h.run σ H H (Same.refl _) S.vis _ fun v H1 H' g iv => ok.nx _ H' _ H0 (Same.refl _) ((S.tmp g.all).setF (by rw [hl]; exact (List.getElem?_eq_some_iff.mp hi).1) (iv.flat hd)) q
theorem s1_setN (i : Nat) {n : Str} {pos' : Pos} (hN : X.N.Nodup) (hi : X.N[i]? = some n) (hx : Loc X.env.scope n) (h : EN X e (hid as) d) (q : F.nx (as.set i (.ow d)))
    (hs : swapsWith e (some (.Name n pos')) pos.line X.env = pure false := by rfl) (hf : X.fn n = true ∨ X.env.scope.names.lookup n = some .local := by first | exact .inl rfl | exact .inr rfl | assumption) : S1 X Gs G (.Assign [.Name n pos'] e pos) as F := .mk fun σ H H0 S E ok => by
  refine rs_len fun hl => rs_of (ps_set hN hi hx re_pe hs hf) ?_
  refine h.run σ H0 H S.grow.sub S.hid _ fun a H1 H' g ha h0 ho => ok.nx _ H' _ H1 g.frz ((S.more g).setO (by rw [hl]; exact (List.getElem?_eq_some_iff.mp hi).1) h0 ?_ ho fun j d' e1 e2 => ?_) q
  · exact S.grow.all.free ha
  · obtain ⟨b, q1, q2, q3, q4⟩ := S.ow j d' e1
    rw [e2] at q1
    cases q1
    obtain ⟨o, e4⟩ := q4.some
    rw [ha] at e4
    cases e4
theorem s1_if {c : Expr} {t u : List Stmt} {b : Bool} (h : ET X c (vis as) b) (h1 : b = true → SS X Gs G t as F) (h2 : b = false → SS X Gs G u as F) : S1 X Gs G (.If c t u pos) as F := .mk fun σ H H0 S E ok => by
  refine rs_of (ps_if rt_pt rss_pss rss_pss) ?_
  refine h.run σ H H (Same.refl _) S.vis _ fun H1 H' g => ?_
  cases b with
  | true =>
    rw [if_pos rfl]
    exact (h1 rfl).run σ H' H0 (S.tmp g.all) E ok
  | false =>
    rw [if_neg Bool.false_ne_true]
    exact (h2 rfl).run σ H' H0 (S.tmp g.all) E ok
theorem s1_ifT {c : Expr} {t u : List Stmt} (h : ET X c (vis as) true) (h1 : SS X Gs G t as F) : S1 X Gs G (.If c t u pos) as F := s1_if h (fun _ => h1) fun z => nomatch z
theorem s1_ifF {c : Expr} {t u : List Stmt} (h : ET X c (vis as) false) (h1 : SS X Gs G u as F) : S1 X Gs G (.If c t u pos) as F := s1_if h (fun z => nomatch z) fun _ => h1
/-- while: I m, m falls -/
theorem s1_while {c : Expr} {body : List Stmt} (I : Nat → AS → Prop) (m0 : Nat) (h0 : I m0 as) (hp : PassesOwn (model X.prog X.w) X.A X.env X.xe)
    (hs : ∀ m as', I m as' → ∃ b, ET X c (vis as') b ∧ (b = true → SS X Gs G body as' { F with nx := fun a => ∃ m', m' < m ∧ I m' a, ct := fun a => ∃ m', m' < m ∧ I m' a, bk := F.nx }) ∧ (b = false → F.nx as')) : S1 X Gs G (.While c body [] pos) as F := .mk fun σ H H0 S E ok => by
  refine rs_of (ps_while hp rt_pt rss_pss) ?_
  refine ⟨fun m σ' H' => ∃ as' H1, Same H0 H1 ∧ StH X.K Gs G σ' H' as' H1 ∧ I m as', ⟨m0, as, H0, Same.refl _, S, h0⟩, fun m σ' H' w => ?_⟩
  obtain ⟨as', H1, q1, S', i⟩ := w
  obtain ⟨b, hb, h1, h2⟩ := hs m as' i
  refine hb.run σ' H' H' (Same.refl _) S'.vis _ fun H2 H3 g => ?_
  cases b with
  | true =>
    rw [if_pos rfl]
    refine ⟨fun σ2 H4 => ∃ m', m' < m ∧ ∃ as' H1, Same H0 H1 ∧ StH X.K Gs G σ2 H4 as' H1 ∧ I m' as', fun σ2 H4 z => z, ?_⟩
    refine (h1 rfl).run σ' H3 H1 (S'.tmp g.all) _ ⟨fun σ4 H4 as4 H5 q S4 ⟨m', l, z⟩ => ⟨m', l, as4, H5, q1.trans q, S4, z⟩, (ok.more q1).rt, (ok.more q1).nx, fun σ4 H4 as4 H5 q S4 ⟨m', l, z⟩ => ⟨m', l, as4, H5, q1.trans q, S4, z⟩, (ok.more q1).ex⟩
  | false =>
    rw [if_neg Bool.false_ne_true]
    exact ok.nx σ' H3 as' H1 q1 (S'.tmp g.all) (h2 rfl)
/-- for n in a list -/
theorem s1_forL {l : Expr} {body : List Stmt} {n : Str} {pos' : Pos} {ds : List D} (i : Nat) (hl : EE X l (hid as) (.lst ds)) (I : Nat → AS → Prop) (h0 : I 0 as)
    (hs : ∀ j d as', ds[j]? = some d → I j as' → SS X Gs G body (as'.set i (.fz d)) { F with nx := I (j + 1), ct := I (j + 1), bk := F.nx }) (hd : ∀ as', I ds.length as' → F.nx as')
    (hp : PassesOwn (model X.prog X.w) X.A X.env X.xe) (hc : X.calm = true) (hN : X.N.Nodup) (hi : X.N[i]? = some n) (hx : Loc X.env.scope n)
    (hf : X.fn n = true ∨ X.env.scope.names.lookup n = some .local := by first | exact .inl rfl | exact .inr rfl | assumption) (hss : ∀ x, foldedSetIterable l X.env x = pure x := by intro _; rfl) : S1 X Gs G (.For (.Name n pos') l body [] pos) as F := .mk fun σ H H0 S E ok => by
  refine rs_of (ps_for hp hc (pi_list re_pe) (pg_name hN hi hx hf) rss_pss hss) ?_
  refine hl.run σ H0 H S.grow.sub S.hid _ fun v H1 H' g iv => ?_
  obtain ⟨a, vs, rfl, hq, hv⟩ := iv
  have hq' : SqL X.K H' a vs := Same.lst g.sub hq
  have ev : vs.length = ds.length := hv.len
  refine ⟨a, rfl, ⟨vs, hq'⟩, for_list (xs := vs) (fun j σ' H2 => ∃ as' H3, Same H1 H3 ∧ StH X.K Gs G σ' H2 as' H3 ∧ I j as') ⟨as, H1, Same.refl _, S.more g, h0⟩ (fun j σ' H2 _ ⟨as', H3, q, S', _⟩ => Same.lst (q.trans S'.grow.sub) hq) ?_ ?_⟩
  · rintro j x σ' H2 hx' ⟨as', H3, q, S', ij⟩
    have hj : j < ds.length := by rw [← ev]; exact (List.getElem?_eq_some_iff.mp hx').1
    obtain ⟨u, e1, e2⟩ := hv.get (i := j) (d := ds[j]) (List.getElem?_eq_getElem hj)
    rw [hx'] at e1
    cases e1
    show rss X body _ (σ'.set i (some x)) H2
    refine rss_len fun hl2 => ?_
    refine (hs j ds[j] as' (List.getElem?_eq_getElem hj) ij).run _ H2 H3 (S'.setF (by rw [List.length_set] at hl2; rw [hl2]; exact (List.getElem?_eq_some_iff.mp hi).1) (e2.mono q)) _ ⟨fun σ4 H4 as4 H5 r S4 z => ?_, (ok.more (g.frz.trans q)).rt, (ok.more (g.frz.trans q)).nx, fun σ4 H4 as4 H5 r S4 z => ?_, (ok.more (g.frz.trans q)).ex⟩
    · exact ⟨as4, H5, q.trans r, S4, z⟩
    · exact ⟨as4, H5, q.trans r, S4, z⟩
  · rintro σ' H2 ⟨as', H3, q, S', z⟩
    rw [ev] at z
    exact ok.nx σ' H2 as' H3 (g.frz.trans q) S' (hd as' z)
end
end Mw
set_option maxHeartbeats 4000000
namespace Mw
open PySem PySem.Spec PyProof.Rows L2
section
variable {X : Cx} {as : DE} {d x y : D} {a b e : Expr} {es : List Expr} {ds : List D} {pos : Pos}
/-! ### operators -/
theorem od_addI {i j : Int} : OpD X (binaryOp .Add) (.int i) (.int j) (.int (i + j)) := .flat op_add (fun _ => rfl) fun v w H hx hy Q q => ⟨i, j, hx, hy, q⟩
theorem od_subI {i j : Int} : OpD X (binaryOp .Sub) (.int i) (.int j) (.int (i - j)) := .flat op_sub (fun _ => rfl) fun v w H hx hy Q q => ⟨i, j, hx, hy, q⟩
theorem od_mul {i j : Int} (h : CMulW i j) : OpD X (binaryOp .Mult) (.int i) (.int j) (.int (i * j)) := .flat op_mulW (fun _ => rfl) fun v w H hx hy Q q => ⟨i, j, hx, hy, h, q⟩
theorem od_fdiv {i j : Int} (h : CDivW i j) : OpD X (binaryOp .FloorDiv) (.int i) (.int j) (.int (i / j)) := .flat op_fdivW (fun _ => rfl) fun v w H hx hy Q q => ⟨i, j, hx, hy, h, q⟩
theorem od_mod {i j : Int} (h : 0 < j) : OpD X (binaryOp .Mod) (.int i) (.int j) (.int (i % j)) := .flat op_mod (fun _ => rfl) fun v w H hx hy Q q => ⟨i, j, hx, hy, h, q⟩
theorem od_pow {i j : Int} (h : CPow i j) : OpD X (binaryOp .Pow) (.int i) (.int j) (.int (i ^ j.toNat)) := .flat op_pow (fun _ => rfl) fun v w H hx hy Q q => ⟨i, j, hx, hy, h, q⟩
theorem od_addS {i j : Str} (h : i.length + j.length ≤ sizeLine) : OpD X (binaryOp .Add) (.str i) (.str j) (.str (i ++ j)) := .flat op_add_str (fun _ => rfl) fun v w H hx hy Q q => ⟨i, j, hx, hy, h, q⟩
theorem oc_lt {i j : Int} : OpD X (compareOp .Lt) (.int i) (.int j) (.bl (decide (i < j))) := .flat op_lt (fun _ => rfl) fun v w H hx hy Q q => ⟨i, j, hx, hy, q⟩
theorem oc_le {i j : Int} : OpD X (compareOp .LtE) (.int i) (.int j) (.bl (decide (i ≤ j))) := .flat op_le (fun _ => rfl) fun v w H hx hy Q q => ⟨i, j, hx, hy, q⟩
theorem oc_gt {i j : Int} : OpD X (compareOp .Gt) (.int i) (.int j) (.bl (decide (j < i))) := .flat op_gt (fun _ => rfl) fun v w H hx hy Q q => ⟨i, j, hx, hy, q⟩
theorem oc_ge {i j : Int} : OpD X (compareOp .GtE) (.int i) (.int j) (.bl (decide (j ≤ i))) := .flat op_ge (fun _ => rfl) fun v w H hx hy Q q => ⟨i, j, hx, hy, q⟩
theorem dec_iff {p q : Prop} [Decidable p] [Decidable q] (h : p ↔ q) : decide p = decide q := by
  by_cases hp : p
  · rw [decide_eq_true hp, decide_eq_true (h.mp hp)]
  · rw [decide_eq_false hp, decide_eq_false fun z => hp (h.mpr z)]
theorem oc_eqI {i j : Int} : OpD X (compareOp .Eq) (.int i) (.int j) (.bl (decide (i = j))) := .flat op_eq (fun _ => rfl) fun v w H hx hy Q q => by
  rw [show v = _ from hx, show w = _ from hy]
  refine ⟨rfl, ?_⟩
  rw [show decide (V.int i = V.int j) = decide (i = j) from dec_iff ⟨fun z => V.int.inj z, fun z => by rw [z]⟩]
  exact q
theorem oc_neI {i j : Int} : OpD X (compareOp .NotEq) (.int i) (.int j) (.bl (!decide (i = j))) := .flat op_ne (fun _ => rfl) fun v w H hx hy Q q => by
  rw [show v = _ from hx, show w = _ from hy]
  refine ⟨rfl, ?_⟩
  rw [show decide (V.int i = V.int j) = decide (i = j) from dec_iff ⟨fun z => V.int.inj z, fun z => by rw [z]⟩]
  exact q
theorem oc_eqS {i j : Str} : OpD X (compareOp .Eq) (.str i) (.str j) (.bl (decide (i = j))) := .flat op_eq (fun _ => rfl) fun v w H hx hy Q q => by
  rw [show v = _ from hx, show w = _ from hy]
  refine ⟨rfl, ?_⟩
  rw [show decide (V.str i = V.str j) = decide (i = j) from dec_iff ⟨fun z => V.str.inj z, fun z => by rw [z]⟩]
  exact q
theorem oc_neS {i j : Str} : OpD X (compareOp .NotEq) (.str i) (.str j) (.bl (!decide (i = j))) := .flat op_ne (fun _ => rfl) fun v w H hx hy Q q => by
  rw [show v = _ from hx, show w = _ from hy]
  refine ⟨rfl, ?_⟩
  rw [show decide (V.str i = V.str j) = decide (i = j) from dec_iff ⟨fun z => V.str.inj z, fun z => by rw [z]⟩]
  exact q
/-! ### == of data -/
mutual
def toPy : D → PyData
  | .non => .none
  | .bl b => .bool b
  | .int i => .int i
  | .str z => .str z
  | .tup ds => .tuple (toPys ds)
  | .lst ds => .list (toPys ds)
  | _ => .none
def toPys : List D → List PyData
  | [] => []
  | d :: ds => toPy d :: toPys ds
end
mutual
/-- plain data: what == takes -/
def plain : D → Bool
  | .non => true
  | .bl _ => true
  | .int _ => true
  | .str z => PyData.strOk z
  | .tup ds => plains ds
  | .lst ds => plains ds
  | _ => false
def plains : List D → Bool
  | [] => true
  | d :: ds => plain d && plains ds
end
mutual
theorem Is.dp {K : PySem.W.Frag} {H : Hp} : ∀ {d : D} {v : V}, plain d = true → Is K H d v → Dp K H v (toPy d)
  | .non, _, _, h => by rw [show _ = V.non from h]; exact .non
  | .bl b, _, _, h => by rw [show _ = V.bl b from h]; exact .bl b
  | .int i, _, _, h => by rw [show _ = V.int i from h]; exact .int i
  | .str z, _, _, h => by rw [show _ = V.str z from h]; exact .str z
  | .tup ds, _, p, h => by
    obtain ⟨a, vs, h1, h2, h3⟩ := h
    rw [h1]
    exact .tup h2 (IsL.dp p h3)
  | .lst ds, _, p, h => by
    obtain ⟨a, vs, h1, h2, h3⟩ := h
    rw [h1]
    exact .lst h2 (IsL.dp p h3)
theorem IsL.dp {K : PySem.W.Frag} {H : Hp} : ∀ {ds : List D} {vs : List V}, plains ds = true → IsL K H ds vs → DpAll K H vs (toPys ds)
  | [], _, _, h => by rw [show _ = [] from h]; exact .nil
  | d :: ds, _, p, h => by
    obtain ⟨v, r, h1, h2, h3⟩ := h
    rw [h1]
    have p' : (plain d && plains ds) = true := p
    rw [Bool.and_eq_true] at p'
    exact .cons (Is.dp p'.1 h2) (IsL.dp p'.2 h3)
end
mutual
theorem canLay_plain : ∀ {d : D}, plain d = true → (toPy d).canLay0 = true
  | .non, _ => rfl
  | .bl b, _ => rfl
  | .int i, _ => rfl
  | .str z, h => h
  | .tup ds, h => canLays_plain (ds := ds) h
  | .lst ds, h => canLays_plain (ds := ds) h
theorem canLays_plain : ∀ {ds : List D}, plains ds = true → PyData.canLayAll0 (toPys ds) = true
  | [], _ => rfl
  | d :: ds, h => by
    have p' : (plain d && plains ds) = true := h
    rw [Bool.and_eq_true] at p'
    show ((toPy d).canLay0 && PyData.canLayAll0 (toPys ds)) = true
    rw [canLay_plain p'.1, canLays_plain p'.2] <;> rfl
end
/-- plain, and at most 64 deep -/
def pyOk (d : D) : Bool := plain d && decide ((toPy d).depth ≤ 64)
theorem pyOk.shaped {d : D} (h : pyOk d = true) : SeqAt.shaped (toPy d) = true := by
  have h' : (plain d && decide ((toPy d).depth ≤ 64)) = true := h
  rw [Bool.and_eq_true] at h'
  show ((toPy d).canLay0 && decide ((toPy d).depth ≤ 64)) = true
  rw [canLay_plain h'.1, h'.2] <;> rfl
theorem pyOk.plain {d : D} (h : pyOk d = true) : Mw.plain d = true := by
  have h' : (Mw.plain d && decide ((toPy d).depth ≤ 64)) = true := h
  rw [Bool.and_eq_true] at h'
  exact h'.1
def eqD (x y : D) : Bool := PyData.eqv (toPy x) (toPy y)
theorem oc_eqD {k : Nat} (hr : Room k X.A) (hx : pyOk x = true) (hy : pyOk y = true) : OpD X (compareOp .Eq) x y (.bl (eqD x y)) := .flat (op_eqD hr.units) (fun _ => rfl) fun v w H h1 h2 Q q =>
  ⟨_, _, h1.dp (pyOk.plain hx), h2.dp (pyOk.plain hy), pyOk.shaped hx, pyOk.shaped hy, q⟩
theorem oc_neD {k : Nat} (hr : Room k X.A) (hx : pyOk x = true) (hy : pyOk y = true) : OpD X (compareOp .NotEq) x y (.bl (!eqD x y)) := .flat (op_neD hr.units) (fun _ => rfl) fun v w H h1 h2 Q q =>
  ⟨_, _, h1.dp (pyOk.plain hx), h2.dp (pyOk.plain hy), pyOk.shaped hx, pyOk.shaped hy, q⟩
/-- is None -/
def isNon : D → Bool
  | .non => true
  | _ => false
theorem Is.non {K : PySem.W.Frag} {H : Hp} : ∀ {d : D} {v : V}, Is K H d v → decide (v = V.non) = isNon d
  | .non, _, h => by rw [show _ = V.non from h]; rfl
  | .bl b, _, h => by rw [show _ = V.bl b from h]; rfl
  | .int i, _, h => by rw [show _ = V.int i from h]; rfl
  | .str z, _, h => by rw [show _ = V.str z from h]; rfl
  | .ty n, _, h => by rw [show _ = V.ty n from h]; rfl
  | .cls a, _, h => by rw [show _ = V.ref a from h]; rfl
  | .tup ds, _, h => by obtain ⟨a, vs, h1, h2, h3⟩ := h; rw [h1]; rfl
  | .lst ds, _, h => by obtain ⟨a, vs, h1, h2, h3⟩ := h; rw [h1]; rfl
  | .dct ds, _, h => by obtain ⟨a, vs, h1, h2, h3⟩ := h; rw [h1]; rfl
  | .obj C ds, _, h => by obtain ⟨a, dx, vs, h1, h2, h3⟩ := h; rw [h1]; rfl
  | .xc a dd ds, _, h => by obtain ⟨vs, h1, h2, h3⟩ := h; rw [h1]; rfl
  | .exv C ds, _, h => by obtain ⟨a, dx, vs, h1, h2, h3⟩ := h; rw [h1]; rfl
theorem oc_isN : OpD X (compareOp .Is) x .non (.bl (isNon x)) := .flat op_isN (fun _ => rfl) fun v w H h1 h2 Q q => ⟨h2, by rw [h1.non]; exact q⟩
theorem oc_notN : OpD X (compareOp .IsNot) x .non (.bl (!isNon x)) := .flat op_notN (fun _ => rfl) fun v w H h1 h2 Q q => ⟨h2, by rw [h1.non]; exact q⟩
/-! ### x in a row of flat things -/
def flatP : D → Bool
  | .non => true
  | .bl _ => true
  | .int _ => true
  | .str _ => true
  | _ => false
def toV : D → V
  | .non => .non
  | .bl b => .bl b
  | .int i => .int i
  | .str z => .str z
  | _ => .non
theorem Is.toV {K : PySem.W.Frag} {H : Hp} : ∀ {d : D} {v : V}, flatP d = true → Is K H d v → v = Mw.toV d ∧ flatV v = true
  | .non, _, _, h => by rw [show _ = V.non from h]; exact ⟨rfl, rfl⟩
  | .bl b, _, _, h => by rw [show _ = V.bl b from h]; exact ⟨rfl, rfl⟩
  | .int i, _, _, h => by rw [show _ = V.int i from h]; exact ⟨rfl, rfl⟩
  | .str z, _, _, h => by rw [show _ = V.str z from h]; exact ⟨rfl, rfl⟩
theorem IsL.toV {K : PySem.W.Frag} {H : Hp} : ∀ {ds : List D} {vs : List V}, ds.all flatP = true → IsL K H ds vs → vs = ds.map Mw.toV ∧ vs.all flatV = true
  | [], _, _, h => by rw [show _ = [] from h]; exact ⟨rfl, rfl⟩
  | d :: ds, _, p, h => by
    obtain ⟨v, r, h1, h2, h3⟩ := h
    rw [List.all_cons, Bool.and_eq_true] at p
    obtain ⟨e1, e2⟩ := Is.toV p.1 h2
    obtain ⟨e3, e4⟩ := IsL.toV p.2 h3
    rw [h1, List.all_cons, e2, e4]
    exact ⟨by rw [e1, e3]; rfl, rfl⟩
def inD (x : D) (ds : List D) : Bool := inV (toV x) (ds.map toV)
theorem oc_inT (hx : flatP x = true) (hd : ds.all flatP = true) : OpD X (compareOp .In) x (.tup ds) (.bl (inD x ds)) := .flat op_in_seq (fun _ => rfl) fun v w H h1 h2 Q q => by
  obtain ⟨a, vs, rfl, hq, hv⟩ := h2
  obtain ⟨e1, e2⟩ := h1.toV hx
  obtain ⟨e3, e4⟩ := hv.toV hd
  refine ⟨a, vs, rfl, .inr hq, e2, e4, ?_⟩
  rw [if_neg Bool.false_ne_true, e1, e3]
  exact q
theorem oc_inL (hx : flatP x = true) (hd : ds.all flatP = true) : OpD X (compareOp .In) x (.lst ds) (.bl (inD x ds)) := .flat op_in_seq (fun _ => rfl) fun v w H h1 h2 Q q => by
  obtain ⟨a, vs, rfl, hq, hv⟩ := h2
  obtain ⟨e1, e2⟩ := h1.toV hx
  obtain ⟨e3, e4⟩ := hv.toV hd
  refine ⟨a, vs, rfl, .inl hq, e2, e4, ?_⟩
  rw [if_neg Bool.false_ne_true, e1, e3]
  exact q
theorem oc_ninT (hx : flatP x = true) (hd : ds.all flatP = true) : OpD X (compareOp .NotIn) x (.tup ds) (.bl (!inD x ds)) := .flat op_notIn_seq (fun _ => rfl) fun v w H h1 h2 Q q => by
  obtain ⟨a, vs, rfl, hq, hv⟩ := h2
  obtain ⟨e1, e2⟩ := h1.toV hx
  obtain ⟨e3, e4⟩ := hv.toV hd
  refine ⟨a, vs, rfl, .inr hq, e2, e4, ?_⟩
  rw [if_pos rfl, e1, e3]
  exact q
theorem oc_ninL (hx : flatP x = true) (hd : ds.all flatP = true) : OpD X (compareOp .NotIn) x (.lst ds) (.bl (!inD x ds)) := .flat op_notIn_seq (fun _ => rfl) fun v w H h1 h2 Q q => by
  obtain ⟨a, vs, rfl, hq, hv⟩ := h2
  obtain ⟨e1, e2⟩ := h1.toV hx
  obtain ⟨e3, e4⟩ := hv.toV hd
  refine ⟨a, vs, rfl, .inl hq, e2, e4, ?_⟩
  rw [if_pos rfl, e1, e3]
  exact q
theorem oc_inS {c : Nat} {z : Str} : OpD X (compareOp .In) (.str ⟨#[c]⟩) (.str z) (.bl (decide (c ∈ z.cps.toList))) := .flat op_in_sign (fun _ => rfl) fun v w H h1 h2 Q q => ⟨c, z, h1, h2, q⟩
theorem oc_ninS {c : Nat} {z : Str} : OpD X (compareOp .NotIn) (.str ⟨#[c]⟩) (.str z) (.bl (!decide (c ∈ z.cps.toList))) := .flat op_notIn_sign (fun _ => rfl) fun v w H h1 h2 Q q => ⟨c, z, h1, h2, q⟩
/-! ### negation, subscripts -/
theorem ee_neg {i : Int} (h : EE X a as (.int i)) : EE X (.UnaryOp .USub a pos) as (.int (-i)) := .mk fun σ H0 H hs hf Q q =>
  re_of (pe_un un_neg re_pe) (h.run σ H0 H hs hf _ fun v H1 H' g iv => ⟨i, iv, q _ _ _ g rfl⟩)
theorem atI_is {K : PySem.W.Frag} {H : Hp} {ds : List D} {vs : List V} {i : Int} (h : IsL K H ds vs) (e : atI ds i = some d) : ∃ v, atI vs i = some v ∧ Is K H d v := by
  unfold atI at e ⊢
  rw [h.len]
  cases q : ixN ds.length i with
  | none => rw [q] at e; cases e
  | some j =>
    rw [q] at e
    exact h.get e
theorem ee_ixT {i : Int} (ha : EE X a as (.tup ds)) (hb : EE X b as (.int i)) (h : atI ds i = some d) (hp : PlainIx b := by exact fun _ _ => rfl) : EE X (.Subscript a b pos) as d := .mk fun σ H0 H hs hf Q q =>
  re_of (pe_ix ix_tup re_pe re_pe hp) (ha.run σ H0 H hs hf _ fun v H1 H' g iv => hb.run σ H1 H' g.sub (hf.mono g.frz) _ fun w H2 H'' g' iw => by
    obtain ⟨p, vs, rfl, hq, hv⟩ := iv
    obtain ⟨z, e1, e2⟩ := atI_is (hv.mono g'.frz) h
    exact ⟨p, vs, i, z, rfl, iw, Same.tup (g'.frz.trans g'.sub) hq, e1, q _ _ _ (g.trans g') e2⟩)
theorem ee_ixL {i : Int} (ha : EE X a as (.lst ds)) (hb : EE X b as (.int i)) (h : atI ds i = some d) (hp : PlainIx b := by exact fun _ _ => rfl) : EE X (.Subscript a b pos) as d := .mk fun σ H0 H hs hf Q q =>
  re_of (pe_ix ix_list re_pe re_pe hp) (ha.run σ H0 H hs hf _ fun v H1 H' g iv => hb.run σ H1 H' g.sub (hf.mono g.frz) _ fun w H2 H'' g' iw => by
    obtain ⟨p, vs, rfl, hq, hv⟩ := iv
    obtain ⟨z, e1, e2⟩ := atI_is (hv.mono g'.frz) h
    exact ⟨p, vs, i, z, rfl, iw, Same.lst (g'.frz.trans g'.sub) hq, e1, q _ _ _ (g.trans g') e2⟩)
theorem ee_ixS {i : Int} {z : Str} {c : Nat} (ha : EE X a as (.str z)) (hb : EE X b as (.int i)) (hz : z.length ≤ sizeLine) (h : atI z.cps.toList i = some c) (hp : PlainIx b := by exact fun _ _ => rfl) : EE X (.Subscript a b pos) as (.str ⟨#[c]⟩) := .mk fun σ H0 H hs hf Q q =>
  re_of (pe_ix ix_str re_pe re_pe hp) (ha.run σ H0 H hs hf _ fun v H1 H' g iv => hb.run σ H1 H' g.sub (hf.mono g.frz) _ fun w H2 H'' g' iw =>
    ⟨z, i, c, iv, iw, hz, h, q _ _ _ (g.trans g') rfl⟩)
/-! ### built-ins -/
theorem CaD.flat {f : Value} {r : List V → Hp → VK → Prop} {z : V} (ho : CallR X f r) (hz : ∀ H, Is X.K H d z) (hr : ∀ vs H, IsL X.K H ds vs → ∀ Q : VK, Q z H → r vs H Q) : CaD X f ds d :=
  ⟨r, ho, fun vs H0 H hs hx Q q => hr vs H (hx.mono hs) Q (q z H0 H (Grow.refl hs) (hz H0))⟩
theorem is1 {K : PySem.W.Frag} {H : Hp} {vs : List V} (h : IsL K H [x] vs) : ∃ v, vs = [v] ∧ Is K H x v := by
  obtain ⟨v, r, h1, h2, h3⟩ := h
  rw [show r = [] from h3] at h1
  exact ⟨v, h1, h2⟩
theorem is2 {K : PySem.W.Frag} {H : Hp} {vs : List V} (h : IsL K H [x, y] vs) : ∃ v w, vs = [v, w] ∧ Is K H x v ∧ Is K H y w := by
  obtain ⟨v, r, h1, h2, h3⟩ := h
  obtain ⟨w, e1, e2⟩ := is1 h3
  rw [e1] at h1
  exact ⟨v, w, h1, h2, e2⟩
theorem ca_abs {i : Int} : CaD X (.builtin "abs") [.int i] (.int (if i < 0 then -i else i)) := .flat call_abs (fun _ => rfl) fun vs H h Q q => by
  obtain ⟨v, e, h1⟩ := is1 h
  exact ⟨i, by rw [e, show v = _ from h1], q⟩
theorem ca_max2 {i j : Int} (hc : X.calm = true) : CaD X (.builtin "max") [.int i, .int j] (.int (if j > i then j else i)) := .flat (call_max2 hc) (fun _ => rfl) fun vs H h Q q => by
  obtain ⟨v, w, e, h1, h2⟩ := is2 h
  exact ⟨i, j, by rw [e, show v = _ from h1, show w = _ from h2], q⟩
theorem ca_min2 {i j : Int} (hc : X.calm = true) : CaD X (.builtin "min") [.int i, .int j] (.int (if j < i then j else i)) := .flat (call_min2 hc) (fun _ => rfl) fun vs H h Q q => by
  obtain ⟨v, w, e, h1, h2⟩ := is2 h
  exact ⟨i, j, by rw [e, show v = _ from h1, show w = _ from h2], q⟩
theorem ca_intI {i : Int} : CaD X (.type "int") [.int i] (.int i) := .flat call_int1 (fun _ => rfl) fun vs H h Q q => by
  obtain ⟨v, e, h1⟩ := is1 h
  exact .inl ⟨i, by rw [e, show v = _ from h1], q⟩
theorem ca_intB {k : Bool} : CaD X (.type "int") [.bl k] (.int (if k then 1 else 0)) := .flat call_int1 (fun _ => rfl) fun vs H h Q q => by
  obtain ⟨v, e, h1⟩ := is1 h
  exact .inr ⟨k, by rw [e, show v = _ from h1], q⟩
theorem ca_intS {z : Str} {n : Int} (hn : PySem.intText? z = some n) (hz : z.length ≤ 640) : CaD X (.type "int") [.str z] (.int n) := .flat call_int_str (fun _ => rfl) fun vs H h Q q => by
  obtain ⟨v, e, h1⟩ := is1 h
  exact ⟨z, n, by rw [e, show v = _ from h1], hn, hz, q⟩
theorem ca_strI {i : Int} (hi : i.natAbs.log2 < 1920) : CaD X (.type "str") [.int i] (.str (toString i)) := .flat call_str_int (fun _ => rfl) fun vs H h Q q => by
  obtain ⟨v, e, h1⟩ := is1 h
  exact ⟨i, by rw [e, show v = _ from h1], hi, q⟩
theorem ca_lenS {z : Str} (hz : z.length ≤ sizeLine) : CaD X (.builtin "len") [.str z] (.int (z.length : Nat)) := .flat call_len (fun _ => rfl) fun vs H h Q q => by
  obtain ⟨v, e, h1⟩ := is1 h
  exact ⟨v, z.length, e, by rw [show v = _ from h1]; exact ⟨hz, rfl⟩, q⟩
theorem ca_lenT : CaD X (.builtin "len") [.tup ds] (.int (ds.length : Nat)) := .flat call_len (fun _ => rfl) fun vs H h Q q => by
  obtain ⟨v, e, a, us, h1, h2, h3⟩ := is1 h
  exact ⟨v, ds.length, e, by rw [h1]; exact .inr ⟨us, h2, h3.len.symm⟩, q⟩
theorem ca_lenL : CaD X (.builtin "len") [.lst ds] (.int (ds.length : Nat)) := .flat call_len (fun _ => rfl) fun vs H h Q q => by
  obtain ⟨v, e, a, us, h1, h2, h3⟩ := is1 h
  exact ⟨v, ds.length, e, by rw [h1]; exact .inl ⟨us, h2, h3.len.symm⟩, q⟩
theorem ca_divmod {i j : Int} (h : CDivP i j) : CaD X (.builtin "divmod") [.int i, .int j] (.tup [.int (i / j), .int (i % j)]) :=
  ⟨_, call_divmodW, fun vs H0 H hs hx Q q => by
    obtain ⟨v, w, e, h1, h2⟩ := is2 hx
    refine ⟨i, j, by rw [e, show v = _ from h1, show w = _ from h2], h, fun p hp => ?_⟩
    exact q _ (upd H0 p _) _ (Grow.laid hs hp) ⟨p, _, rfl, SqT.of upd_same, _, _, rfl, rfl, _, _, rfl, rfl, rfl⟩⟩
/-! ### isinstance -/
def tyN : D → Option String
  | .non => some "NoneType"
  | .bl _ => some "bool"
  | .int _ => some "int"
  | .str _ => some "str"
  | .tup _ => some "tuple"
  | .lst _ => some "list"
  | .dct _ => some "dict"
  | _ => none
theorem Is.ty {K : PySem.W.Frag} {H : Hp} : ∀ {d : D} {v : V} {n : String}, tyN d = some n → Is K H d v → TyX K H v (.type n)
  | .non, _, _, e, h => by cases e; rw [show _ = V.non from h]; exact .base .non
  | .bl b, _, _, e, h => by cases e; rw [show _ = V.bl b from h]; exact .base (.bl b)
  | .int i, _, _, e, h => by cases e; rw [show _ = V.int i from h]; exact .base (.int i)
  | .str z, _, _, e, h => by cases e; rw [show _ = V.str z from h]; exact .base (.str z)
  | .tup ds, _, _, e, h => by
    cases e
    obtain ⟨a, vs, h1, h2, h3⟩ := h
    rw [h1]
    rcases h2 with (h2 | ⟨o, h2⟩) | ⟨o, its, n, h2, h4, _⟩
    · exact .base (.tup h2)
    · exact .fTuple h2
    · exact .kTuple h2 h4
  | .lst ds, _, _, e, h => by
    cases e
    obtain ⟨a, vs, h1, h2, h3⟩ := h
    rw [h1]
    rcases h2 with (h2 | ⟨o, h2⟩) | ⟨o, its, n, h2, h4, _⟩
    · exact .base (.lst h2)
    · exact .base (.frz h2)
    · exact .kList h2 h4
  | .dct ds, _, _, e, h => by
    cases e
    obtain ⟨a, vs, h1, h2, h3⟩ := h
    rw [h1]
    rcases h2 with h2 | ⟨o, h2⟩
    · exact .base (.dK h2)
    · exact .fDict h2
theorem ca_isi {n m : String} {k : Bool} (hx : tyN x = some n) (hk : kitB n m = some k) : CaD X (.builtin "isinstance") [x, .ty m] (.bl k) := .flat call_isi (fun _ => rfl) fun vs H h Q q => by
  obtain ⟨v, w, e, h1, h2⟩ := is2 h
  rw [show w = _ from h2] at e
  exact ⟨v, .ty m, _, _, k, e, .ty m, h1.ty hx, kit_ty hk, q⟩
def isThing (d : D) : Bool := (tyN d).isSome
def isTyI : D → Bool
  | .int _ => true
  | .bl _ => true
  | _ => false
def isTyB : D → Bool
  | .bl _ => true
  | _ => false
def isTyS : D → Bool
  | .str _ => true
  | _ => false
def isTyT : D → Bool
  | .tup _ => true
  | _ => false
def isTyL : D → Bool
  | .lst _ => true
  | _ => false
def isTyDc : D → Bool
  | .dct _ => true
  | _ => false
theorem ca_isI (h : isThing x = true) : CaD X (.builtin "isinstance") [x, .ty "int"] (.bl (isTyI x)) := by
  cases x with
  | non => first | exact ca_isi (k := true) rfl (by decide +kernel) | exact ca_isi (k := false) rfl (by decide +kernel)
  | bl b => first | exact ca_isi (k := true) rfl (by decide +kernel) | exact ca_isi (k := false) rfl (by decide +kernel)
  | int i => first | exact ca_isi (k := true) rfl (by decide +kernel) | exact ca_isi (k := false) rfl (by decide +kernel)
  | str z => first | exact ca_isi (k := true) rfl (by decide +kernel) | exact ca_isi (k := false) rfl (by decide +kernel)
  | tup ds => first | exact ca_isi (k := true) rfl (by decide +kernel) | exact ca_isi (k := false) rfl (by decide +kernel)
  | lst ds => first | exact ca_isi (k := true) rfl (by decide +kernel) | exact ca_isi (k := false) rfl (by decide +kernel)
  | dct ds => first | exact ca_isi (k := true) rfl (by decide +kernel) | exact ca_isi (k := false) rfl (by decide +kernel)
  | ty n => cases h
  | cls n => cases h
  | obj C fs => cases h
  | xc a dd fs => cases h
  | exv C fs => cases h
theorem ca_isB (h : isThing x = true) : CaD X (.builtin "isinstance") [x, .ty "bool"] (.bl (isTyB x)) := by
  cases x with
  | non => first | exact ca_isi (k := true) rfl (by decide +kernel) | exact ca_isi (k := false) rfl (by decide +kernel)
  | bl b => first | exact ca_isi (k := true) rfl (by decide +kernel) | exact ca_isi (k := false) rfl (by decide +kernel)
  | int i => first | exact ca_isi (k := true) rfl (by decide +kernel) | exact ca_isi (k := false) rfl (by decide +kernel)
  | str z => first | exact ca_isi (k := true) rfl (by decide +kernel) | exact ca_isi (k := false) rfl (by decide +kernel)
  | tup ds => first | exact ca_isi (k := true) rfl (by decide +kernel) | exact ca_isi (k := false) rfl (by decide +kernel)
  | lst ds => first | exact ca_isi (k := true) rfl (by decide +kernel) | exact ca_isi (k := false) rfl (by decide +kernel)
  | dct ds => first | exact ca_isi (k := true) rfl (by decide +kernel) | exact ca_isi (k := false) rfl (by decide +kernel)
  | ty n => cases h
  | cls n => cases h
  | obj C fs => cases h
  | xc a dd fs => cases h
  | exv C fs => cases h
theorem ca_isS (h : isThing x = true) : CaD X (.builtin "isinstance") [x, .ty "str"] (.bl (isTyS x)) := by
  cases x with
  | non => first | exact ca_isi (k := true) rfl (by decide +kernel) | exact ca_isi (k := false) rfl (by decide +kernel)
  | bl b => first | exact ca_isi (k := true) rfl (by decide +kernel) | exact ca_isi (k := false) rfl (by decide +kernel)
  | int i => first | exact ca_isi (k := true) rfl (by decide +kernel) | exact ca_isi (k := false) rfl (by decide +kernel)
  | str z => first | exact ca_isi (k := true) rfl (by decide +kernel) | exact ca_isi (k := false) rfl (by decide +kernel)
  | tup ds => first | exact ca_isi (k := true) rfl (by decide +kernel) | exact ca_isi (k := false) rfl (by decide +kernel)
  | lst ds => first | exact ca_isi (k := true) rfl (by decide +kernel) | exact ca_isi (k := false) rfl (by decide +kernel)
  | dct ds => first | exact ca_isi (k := true) rfl (by decide +kernel) | exact ca_isi (k := false) rfl (by decide +kernel)
  | ty n => cases h
  | cls n => cases h
  | obj C fs => cases h
  | xc a dd fs => cases h
  | exv C fs => cases h
theorem ca_isT (h : isThing x = true) : CaD X (.builtin "isinstance") [x, .ty "tuple"] (.bl (isTyT x)) := by
  cases x with
  | non => first | exact ca_isi (k := true) rfl (by decide +kernel) | exact ca_isi (k := false) rfl (by decide +kernel)
  | bl b => first | exact ca_isi (k := true) rfl (by decide +kernel) | exact ca_isi (k := false) rfl (by decide +kernel)
  | int i => first | exact ca_isi (k := true) rfl (by decide +kernel) | exact ca_isi (k := false) rfl (by decide +kernel)
  | str z => first | exact ca_isi (k := true) rfl (by decide +kernel) | exact ca_isi (k := false) rfl (by decide +kernel)
  | tup ds => first | exact ca_isi (k := true) rfl (by decide +kernel) | exact ca_isi (k := false) rfl (by decide +kernel)
  | lst ds => first | exact ca_isi (k := true) rfl (by decide +kernel) | exact ca_isi (k := false) rfl (by decide +kernel)
  | dct ds => first | exact ca_isi (k := true) rfl (by decide +kernel) | exact ca_isi (k := false) rfl (by decide +kernel)
  | ty n => cases h
  | cls n => cases h
  | obj C fs => cases h
  | xc a dd fs => cases h
  | exv C fs => cases h
theorem ca_isL (h : isThing x = true) : CaD X (.builtin "isinstance") [x, .ty "list"] (.bl (isTyL x)) := by
  cases x with
  | non => first | exact ca_isi (k := true) rfl (by decide +kernel) | exact ca_isi (k := false) rfl (by decide +kernel)
  | bl b => first | exact ca_isi (k := true) rfl (by decide +kernel) | exact ca_isi (k := false) rfl (by decide +kernel)
  | int i => first | exact ca_isi (k := true) rfl (by decide +kernel) | exact ca_isi (k := false) rfl (by decide +kernel)
  | str z => first | exact ca_isi (k := true) rfl (by decide +kernel) | exact ca_isi (k := false) rfl (by decide +kernel)
  | tup ds => first | exact ca_isi (k := true) rfl (by decide +kernel) | exact ca_isi (k := false) rfl (by decide +kernel)
  | lst ds => first | exact ca_isi (k := true) rfl (by decide +kernel) | exact ca_isi (k := false) rfl (by decide +kernel)
  | dct ds => first | exact ca_isi (k := true) rfl (by decide +kernel) | exact ca_isi (k := false) rfl (by decide +kernel)
  | ty n => cases h
  | cls n => cases h
  | obj C fs => cases h
  | xc a dd fs => cases h
  | exv C fs => cases h
theorem ca_isDc (h : isThing x = true) : CaD X (.builtin "isinstance") [x, .ty "dict"] (.bl (isTyDc x)) := by
  cases x with
  | non => first | exact ca_isi (k := true) rfl (by decide +kernel) | exact ca_isi (k := false) rfl (by decide +kernel)
  | bl b => first | exact ca_isi (k := true) rfl (by decide +kernel) | exact ca_isi (k := false) rfl (by decide +kernel)
  | int i => first | exact ca_isi (k := true) rfl (by decide +kernel) | exact ca_isi (k := false) rfl (by decide +kernel)
  | str z => first | exact ca_isi (k := true) rfl (by decide +kernel) | exact ca_isi (k := false) rfl (by decide +kernel)
  | tup ds => first | exact ca_isi (k := true) rfl (by decide +kernel) | exact ca_isi (k := false) rfl (by decide +kernel)
  | lst ds => first | exact ca_isi (k := true) rfl (by decide +kernel) | exact ca_isi (k := false) rfl (by decide +kernel)
  | dct ds => first | exact ca_isi (k := true) rfl (by decide +kernel) | exact ca_isi (k := false) rfl (by decide +kernel)
  | ty n => cases h
  | cls n => cases h
  | obj C fs => cases h
  | xc a dd fs => cases h
  | exv C fs => cases h
/-- an own class: no builtin thing is of it -/
theorem ca_isiC {n : String} {C : Addr} {k : Bool} (hx : tyN x = some n) (hk : PySem.W.kitOne X.K (.type n) (.ref C) = some k) : CaD X (.builtin "isinstance") [x, .cls C] (.bl k) := .flat call_isi (fun _ => rfl) fun vs H h Q q => by
  obtain ⟨v, w, e, h1, h2⟩ := is2 h
  rw [show w = _ from h2] at e
  exact ⟨v, .ref C, _, _, k, e, .own C, h1.ty hx, hk, q⟩
end
end Mw
set_option maxHeartbeats 4000000
namespace Mw
open PySem PySem.Spec PyProof.Rows L2
/-! ### what is known of a body's context -/
inductive At : List Str → Str → Nat → Prop
  | here {n : Str} {r : List Str} : At (n :: r) n 0
  | there {m n : Str} {r : List Str} {i : Nat} (h : At r n i) : At (m :: r) n (i + 1)
theorem At.get {N : List Str} {n : Str} {i : Nat} (h : At N n i) : N[i]? = some n := by
  induction h with
  | here => rfl
  | there _ ih => rw [List.getElem?_cons_succ]; exact ih
theorem At.mem {N : List Str} {n : Str} {i : Nat} (h : At N n i) : n ∈ N := List.mem_of_getElem? h.get
def locOk (sc : Scope) (n : Str) : Bool := (sc.names.lookup n == some .local || sc.names.lookup n == some .cell) && !(n == ("__debug__" : Str)) && !(n == ("__classdict__" : Str))
def glbOk (sc : Scope) (n : Str) : Bool := (sc.names.lookup n == some .globalImplicit) && !(n == ("__debug__" : Str)) && !(n == ("__name__" : Str))
/-- names that are read, with their slots; global names -/
structure Nms (X : Cx) (N : List Str) : Prop where
  at_ : ∀ n i, At N n i → X.N[i]? = some n ∧ Vis X.env.scope n ∧ (n == ("__debug__" : Str)) = false ∧ (n == ("__classdict__" : Str)) = false
structure Gls (X : Cx) (gs : List Str) : Prop where
  at_ : ∀ n i, At gs n i → Gl X n ∧ (n == ("__debug__" : Str)) = false ∧ n ≠ "__name__"
/-- N: all slots; L: the def's own, ahead in N; gs: globals; sc: the def's scope -/
structure Body (X : Cx) (N L gs : List Str) (k : Nat) (sc : Scope) : Prop where
  hN : X.N = N
  hsc : X.env.scope = sc
  nd : N.Nodup
  pre : N.take L.length = L
  loc : L.all (locOk sc) = true
  gl : gs.all (glbOk sc) = true
  kind : sc.kind = .function
  nofree : ∀ y ∈ sc.names, y.2 ≠ .free
  fn : ∀ n, X.fn n = true
  room : Room k X.A
  calm : X.calm = true
  pown : PassesOwn (model X.prog X.w) X.A X.env X.xe
  stk : X.stack = X.env :: X.outer
  frm : X.env.frame = some X.env.locals
section
variable {X : Cx} {N L gs : List Str} {k : Nat} {n : Str} {i j : Nat} {as : DE} {d : D} {sc : Scope}
theorem nk_beq {a b : Option NameKind} (h : (a == b) = true) : a = b := by simpa using h
theorem loc_vis {sc : Scope} (h : Loc sc n) : Vis sc n := h.elim .inl fun z => .inr (.inl z)
theorem Body.locs (B : Body X N L gs k sc) (h : At L n i) : X.N[i]? = some n ∧ Loc X.env.scope n ∧ (n == ("__debug__" : Str)) = false ∧ (n == ("__classdict__" : Str)) = false := by
  have q := List.all_eq_true.mp B.loc n h.mem
  unfold locOk at q
  simp only [Bool.and_eq_true, Bool.or_eq_true, Bool.not_eq_true'] at q
  refine ⟨?_, ?_, q.1.2, q.2⟩
  · have e := h.get
    rw [← B.pre] at e
    have hi : i < (N.take L.length).length := (List.getElem?_eq_some_iff.mp e).1
    rw [List.length_take] at hi
    rw [List.getElem?_take_of_lt (by omega)] at e
    rw [B.hN]
    exact e
  · rw [B.hsc]
    rcases q.1.1 with z | z
    · exact .inl (nk_beq z)
    · exact .inr (nk_beq z)
theorem Body.gls (B : Body X N L gs k sc) (h : At gs n i) : Gl X n ∧ (n == ("__debug__" : Str)) = false ∧ n ≠ "__name__" := by
  have q := List.all_eq_true.mp B.gl n h.mem
  unfold glbOk at q
  simp only [Bool.and_eq_true, Bool.not_eq_true'] at q
  refine ⟨?_, q.1.2, by simpa using q.2⟩
  show X.env.scope.names.lookup n = _
  rw [B.hsc]
  exact nk_beq q.1.1
theorem Body.nms (B : Body X N L gs k sc) : Nms X L := ⟨fun n i h => let ⟨a, b, c, d⟩ := B.locs h; ⟨a, loc_vis b, c, d⟩⟩
theorem Body.glb (B : Body X N L gs k sc) : Gls X gs := ⟨fun n i h => B.gls h⟩
theorem Body.ndX (B : Body X N L gs k sc) : X.N.Nodup := by rw [B.hN]; exact B.nd
theorem Body.tr (B : Body X N L gs k sc) {pn : List (Addr × Obj)} {xe : Value → Shared → Prop} (hp : PassesOwn (model X.prog X.w) X.A X.env xe) : Body (X.tr pn xe) N L gs k sc := ⟨B.hN, B.hsc, B.nd, B.pre, B.loc, B.gl, B.kind, B.nofree, B.fn, B.room, B.calm, hp, B.stk, B.frm⟩
theorem Nms.tr {pn : List (Addr × Obj)} {xe : Value → Shared → Prop} (h : Nms X L) : Nms (X.tr pn xe) L := ⟨h.at_⟩
theorem Gls.tr {pn : List (Addr × Obj)} {xe : Value → Shared → Prop} (h : Gls X gs) : Gls (X.tr pn xe) gs := ⟨h.at_⟩
theorem Nms.suite {a : Addr} {pn : List (Addr × Obj)} (h : Nms X L) : Nms (X.suite a pn) L := ⟨h.at_⟩
theorem Gls.suite {a : Addr} {pn : List (Addr × Obj)} (h : Gls X gs) : Gls (X.suite a pn) gs := ⟨h.at_⟩
end
section
variable {X : Cx} {N L gs : List Str} {k : Nat} {n : Str} {i j : Nat} {as : DE} {d x y : D} {pos p p2 p3 : Pos} {e a b : Expr} {es : List Expr} {ds : List D}
/-! ### the rules by name -/
theorem e_name (B : Nms X L) (h : At L n i) (ha : as[i]? = some (some d)) : EE X (.Name n pos) as d :=
  let ⟨h1, h2, h3, h4⟩ := B.at_ _ _ h
  ee_name i h1 h2 ha h3 h4
theorem e_ty {T : String} (B : Gls X gs) (h : At gs n i) (hm : X.mg n = none) (hb : bootBuiltins n = some (.type T)) : EE X (.Name n pos) as (.ty T) :=
  let ⟨h1, h2, h3⟩ := B.at_ _ _ h
  ee_bltn (v := .ty T) h1 hm hb rfl (fun _ => rfl) h3 h2
theorem e_cls {C : Addr} (B : Gls X gs) (h : At gs n i) (hm : X.mg n = some (.ref C)) : EE X (.Name n pos) as (.cls C) :=
  let ⟨h1, h2, h3⟩ := B.at_ _ _ h
  ee_glob (v := .ref C) h1 hm rfl (fun _ => rfl) h2
/-- a constant of the module -/
structure CstE (K : PySem.W.Frag) (mg : Str → Option Value) (n : Str) (d : D) : Prop where
  ex : ∃ (u : Value) (v : V), mg n = some u ∧ RelV v u ∧ ∀ H, Is K H d v
abbrev CstD (X : Cx) (n : Str) (d : D) : Prop := CstE X.K X.mg n d
theorem e_cst (B : Gls X gs) (c : CstD X n d) (h : At gs n i) : EE X (.Name n pos) as d := by
  obtain ⟨u, v, h1, h2, h3⟩ := c.ex
  obtain ⟨g1, g2, g3⟩ := B.at_ _ _ h
  exact ee_glob g1 h1 h2 h3 g2
theorem e_abs (B : Gls X gs) (h : At gs "abs" i) (hm : X.mg "abs" = none) {z : Int} (ha : EE X e as (.int z)) (he : starEach [e] X.env = (false, eval e X.env) :: starEach [] X.env := by rfl) : EE X (.Call (.Name "abs" p) [e] [] pos) as (.int (if z < 0 then -z else z)) :=
  let ⟨h1, h2, h3⟩ := B.at_ _ _ h
  ee_callB (ea_cons ha ea_nil he) ca_abs h1 hm boot_abs h3 h2 he rfl
theorem e_len (B : Gls X gs) (h : At gs "len" i) (hm : X.mg "len" = none) (ha : EE X e as x) (hc : CaD X (.builtin "len") [x] d) (he : starEach [e] X.env = (false, eval e X.env) :: starEach [] X.env := by rfl) : EE X (.Call (.Name "len" p) [e] [] pos) as d :=
  let ⟨h1, h2, h3⟩ := B.at_ _ _ h
  ee_callB (ea_cons ha ea_nil he) hc h1 hm boot_len h3 h2 he rfl
theorem e_divmod (B : Gls X gs) (h : At gs "divmod" i) (hm : X.mg "divmod" = none) {z w : Int} (ha : EE X a as (.int z)) (hb : EE X b as (.int w)) (hd : CDivP z w) (he : starEach [a, b] X.env = (false, eval a X.env) :: starEach [b] X.env := by rfl) (he2 : starEach [b] X.env = (false, eval b X.env) :: starEach [] X.env := by rfl)
    (hpl : (backTo pos (starEach [b] X.env)).any (·.1) = false := by rfl) : EE X (.Call (.Name "divmod" p) [a, b] [] pos) as (.tup [.int (z / w), .int (z % w)]) :=
  let ⟨h1, h2, h3⟩ := B.at_ _ _ h
  ee_callB (ea_cons ha (ea_cons hb ea_nil he2) he) (ca_divmod hd) h1 hm boot_divmod h3 h2 he hpl
theorem e_isi (B : Gls X gs) (h : At gs "isinstance" i) (hm : X.mg "isinstance" = none) (ha : EE X a as x) (hb : EE X b as y) (hc : CaD X (.builtin "isinstance") [x, y] d) (he : starEach [a, b] X.env = (false, eval a X.env) :: starEach [b] X.env := by rfl) (he2 : starEach [b] X.env = (false, eval b X.env) :: starEach [] X.env := by rfl)
    (hpl : (backTo pos (starEach [b] X.env)).any (·.1) = false := by rfl) : EE X (.Call (.Name "isinstance" p) [a, b] [] pos) as d :=
  let ⟨h1, h2, h3⟩ := B.at_ _ _ h
  ee_callB (ea_cons ha (ea_cons hb ea_nil he2) he) hc h1 hm boot_isinstance h3 h2 he hpl
theorem e_int (B : Gls X gs) (h : At gs "int" i) (hm : X.mg "int" = none) (ha : EE X e as x) (hc : CaD X (.type "int") [x] d) (he : starEach [e] X.env = (false, eval e X.env) :: starEach [] X.env := by rfl) : EE X (.Call (.Name "int" p) [e] [] pos) as d :=
  let ⟨h1, h2, h3⟩ := B.at_ _ _ h
  ee_callTy (ea_cons ha ea_nil he) hc h1 hm boot_int h3 h2 he rfl
theorem e_strc (B : Gls X gs) (h : At gs "str" i) (hm : X.mg "str" = none) (ha : EE X e as x) (hc : CaD X (.type "str") [x] d) (he : starEach [e] X.env = (false, eval e X.env) :: starEach [] X.env := by rfl) : EE X (.Call (.Name "str" p) [e] [] pos) as d :=
  let ⟨h1, h2, h3⟩ := B.at_ _ _ h
  ee_callTy (ea_cons ha ea_nil he) hc h1 hm boot_str h3 h2 he rfl
variable {f : Addr} {dds : List D} {S : FS} {k' : Nat}
theorem e_call (B : Gls X gs) (F : FnD X k' n dds S) (h : At gs n i) (hr : Room k' X.A) (ha : EA X (e :: es) as ds) (hS : S (ds ++ dds) (.ok d)) (he : starEach (e :: es) X.env = (false, eval e X.env) :: starEach es X.env := by rfl) (hpl : (backTo pos (starEach es X.env)).any (·.1) = false := by rfl) :
    EE X (.Call (.Name n p) (e :: es) [] pos) as d :=
  let ⟨h1, h2, h3⟩ := B.at_ _ _ h
  ee_call F ha hS hr h1 h2 he hpl
theorem x_call {xn : Exn} (B : Gls X gs) (F : FnD X k' n dds S) (h : At gs n i) (hr : Room k' X.A) (ha : EA X (e :: es) as ds) (hS : S (ds ++ dds) (.error xn)) (he : starEach (e :: es) X.env = (false, eval e X.env) :: starEach es X.env := by rfl) (hpl : (backTo pos (starEach es X.env)).any (·.1) = false := by rfl) :
    EX X (.Call (.Name n p) (e :: es) [] pos) as xn :=
  let ⟨h1, h2, h3⟩ := B.at_ _ _ h
  ex_call F ha hS hr h1 h2 he hpl
end
/-! ### statements by name -/
inductive SetA : AS → Nat → Sl → AS → Prop
  | here {s x : Sl} {l : AS} : SetA (s :: l) 0 x (x :: l)
  | there {s x : Sl} {l l' : AS} {i : Nat} (h : SetA l i x l') : SetA (s :: l) (i + 1) x (s :: l')
theorem SetA.eq {l l' : AS} {i : Nat} {x : Sl} (h : SetA l i x l') : l.set i x = l' := by
  induction h with
  | here => rfl
  | there _ ih => rw [List.set_cons_succ, ih]
section
variable {X : Cx} {N L gs : List Str} {k : Nat} {sc : Scope} {n m : Str} {i j : Nat} {Gs G : Hp} {as as1 as2 : AS} {F : Fin} {d x y : D} {pos p p2 p3 : Pos} {e a b : Expr} {es : List Expr} {ds : List D} {body : List Stmt}
theorem t_set (B : Body X N L gs k sc) (h : At L n i) (he : EE X e (hid as) d) (hs : swapsWith e (some (.Name n p)) pos.line X.env = pure false := by rfl) (ha : SetA as i (.fz d) as1) (q : F.nx as1) : S1 X Gs G (.Assign [.Name n p] e pos) as F :=
  let ⟨h1, h2, _, _⟩ := B.locs h
  s1_set i B.ndX h1 h2 he (by rw [ha.eq]; exact q) hs (.inl (B.fn n))
theorem t_setV (B : Body X N L gs k sc) (h : At L n i) (he : EE X e (vis as) d) (hs : swapsWith e (some (.Name n p)) pos.line X.env = pure false := by rfl) (hd : flatD d = true) (ha : SetA as i (.fz d) as1) (q : F.nx as1) : S1 X Gs G (.Assign [.Name n p] e pos) as F :=
  let ⟨h1, h2, _, _⟩ := B.locs h
  s1_setV i B.ndX h1 h2 he hd (by rw [ha.eq]; exact q) hs (.inl (B.fn n))
theorem t_setN (B : Body X N L gs k sc) (h : At L n i) (he : EN X e (hid as) d) (hs : swapsWith e (some (.Name n p)) pos.line X.env = pure false := by rfl) (ha : SetA as i (.ow d) as1) (q : F.nx as1) : S1 X Gs G (.Assign [.Name n p] e pos) as F :=
  let ⟨h1, h2, _, _⟩ := B.locs h
  s1_setN i B.ndX h1 h2 he (by rw [ha.eq]; exact q) hs (.inl (B.fn n))
/-- a statement whose expression raises -/
theorem s1_retX {xn : Exn} (h : EX X e (vis as) xn) (q : F.ex xn (frz as)) : S1 X Gs G (.Return (some e) pos) as F := by
  refine s1_frz ⟨fun σ H H0 S E ok => ?_⟩
  refine rs_of (ps_ret re_pe) ?_
  have sf := S.hid
  rw [vis_frz] at sf
  exact h.run σ H0 H S.grow.sub sf _ fun c dd H1 H' g iv => ok.ex c dd σ H' xn _ H1 g.frz (S.more g) iv q
theorem s1_exprX {xn : Exn} (h : EX X e (vis as) xn) (hs : swapsWith e none pos.line X.env = pure false := by rfl) (q : F.ex xn (frz as)) : S1 X Gs G (.Expr e pos) as F := by
  refine s1_frz ⟨fun σ H H0 S E ok => ?_⟩
  refine rs_of (ps_expr re_pe hs) ?_
  have sf := S.hid
  rw [vis_frz] at sf
  exact h.run σ H0 H S.grow.sub sf _ fun c dd H1 H' g iv => ok.ex c dd σ H' xn _ H1 g.frz (S.more g) iv q
theorem t_setX {xn : Exn} (B : Body X N L gs k sc) (hn : At L n i) (h : EX X e (vis as) xn) (hs : swapsWith e (some (.Name n p)) pos.line X.env = pure false := by rfl) (q : F.ex xn (frz as)) : S1 X Gs G (.Assign [.Name n p] e pos) as F := by
  obtain ⟨h1, h2, _, _⟩ := B.locs hn
  refine s1_frz ⟨fun σ H H0 S E ok => ?_⟩
  refine rs_of (ps_set B.ndX h1 h2 re_pe hs (.inl (B.fn n))) ?_
  have sf := S.hid
  rw [vis_frz] at sf
  exact h.run σ H0 H S.grow.sub sf _ fun c dd H1 H' g iv => ok.ex c dd σ H' xn _ H1 g.frz (S.more g) iv q
theorem s1_ifX {xn : Exn} {c : Expr} {t u : List Stmt} (h : EX X c (vis as) xn) (he : ∀ whole, isTrue c X.env whole = (do let v ← whole; standAt c.pos; holding [v] (truthy v)) := by intro _; rfl) (q : F.ex xn (frz as)) : S1 X Gs G (.If c t u pos) as F := by
  refine s1_frz ⟨fun σ H H0 S E ok => ?_⟩
  refine rs_of (ps_if (pt_val re_pe he) rss_pss rss_pss) ?_
  have sf := S.hid
  rw [vis_frz] at sf
  exact h.run σ H0 H S.grow.sub sf _ fun c dd H1 H' g iv => ok.ex c dd σ H' xn _ H1 g.frz (S.more g) iv q
/-- an own exception class without fields -/
structure ExcE (K : PySem.W.Frag) (mg : Str → Option Value) (n : Str) (C : Addr) : Prop where
  g : mg n = some (.ref C)
  x : PySem.W.excIn K C [.type "ValueError", .type "Exception", .type "BaseException", .type "object"] "ValueError.__new__" = true
  k : PySem.W.keepIn K (.ref C) = true
  b : PySem.W.subIn K (.ref C) (.type "BaseException") = some true
  t : PySem.W.typeIn K (.ref C) = some (.type "type")
abbrev ExcOk (X : Cx) (n : Str) (C : Addr) : Prop := ExcE X.K X.mg n C
theorem t_raise {C : Addr} {z : Nat} (B : Body X N L gs k sc) (hC : ExcOk X n C) (h : At gs n i) (q : F.ex ⟨C, []⟩ as) : S1 X Gs G (.Raise (some (.Call (.Name n p) [.Constant (.str m) z p2] [] p3)) none pos) as F := .mk fun σ H H0 S E ok => by
  obtain ⟨h1, h2, h3⟩ := B.gls h
  refine rs_of (ps_raise B.calm wx_takes (pmk_own PySem.F.excBase_ValueError hC.x hC.g hC.k (raises_own hC.b hC.t) h1 h2)) ?_
  exact ok.ex _ _ σ H ⟨C, []⟩ as H0 (Same.refl _) S ⟨rfl, .inl ⟨rfl, rfl⟩⟩ q
/-- a, b = e -/
theorem t_two {k2 : Nat} (B : Body X N L gs k sc) (h1 : At L n i) (h2 : At L m j) (he : EE X e (hid as) (.tup [x, y]))
    (hs : swapsWithSole [.Tuple [.Name n p, .Name m p2] k2 p3] e pos.line X.env = pure false := by rfl) (hw : swappedStores [.Tuple [.Name n p, .Name m p2] k2 p3] e X.env = pure none := by rfl) (ha1 : SetA as i (.fz x) as1) (ha2 : SetA as1 j (.fz y) as2) (q : F.nx as2) : S1 X Gs G (.Assign [.Tuple [.Name n p, .Name m p2] k2 p3] e pos) as F := .mk fun σ H H0 S E ok => by
  obtain ⟨a1, a2, _, _⟩ := B.locs h1
  obtain ⟨b1, b2, _, _⟩ := B.locs h2
  refine rs_len fun hl => rs_of (ps_asg re_pe (pg_tup B.calm (pgs_cons (pg_name B.ndX a1 a2 (.inl (B.fn n))) (pgs_cons (pg_name B.ndX b1 b2 (.inl (B.fn m))) pgs_nil))) hs hw) ?_
  refine he.run σ H0 H S.grow.sub S.hid _ fun v H1 H' g iv => ?_
  obtain ⟨a, vs, rfl, hq, hv⟩ := iv
  obtain ⟨v1, v2, e1, i1, i2⟩ := is2 hv
  subst e1
  refine ⟨a, _, rfl, Same.tup g.sub hq, rfl, v1, [v2], rfl, v2, [], rfl, rfl, ?_⟩
  have il : i < σ.length := by rw [hl]; exact (List.getElem?_eq_some_iff.mp a1).1
  have jl : j < (σ.set i (some v1)).length := by rw [List.length_set, hl]; exact (List.getElem?_eq_some_iff.mp b1).1
  exact ok.nx _ H' _ H1 g.frz (((S.more g).setF il i1).setF jl i2) (by rw [ha1.eq, ha2.eq]; exact q)
/-- for n in range(e) -/
theorem t_forR {z : Int} {e : Expr} (B : Body X N L gs k sc) (h : At L n i) (hr : At gs "range" j) (hm : X.mg "range" = none) (he : EE X e (vis as) (.int z)) (hz : -(2 ^ 62) ≤ z ∧ z < 2 ^ 62) (I : Nat → AS → Prop) (h0 : I 0 as)
    (hs : ∀ (t : Nat) as', (t : Int) < z → I t as' → ∃ as2, SetA as' i (.fz (.int t)) as2 ∧ SS X Gs G body as2 { F with nx := I (t + 1), ct := I (t + 1), bk := F.nx }) (hd : ∀ as', I z.toNat as' → F.nx as')
    (hst : starEach [e] X.env = [(false, eval e X.env)] := by rfl) (hss : ∀ x, foldedSetIterable (.Call (.Name "range" p2) [e] [] p3) X.env x = pure x := by intro _; rfl) : S1 X Gs G (.For (.Name n p) (.Call (.Name "range" p2) [e] [] p3) body [] pos) as F := .mk fun σ H H0 S E ok => by
  obtain ⟨a1, a2, _, _⟩ := B.locs h
  obtain ⟨g1, g2, g3⟩ := B.gls hr
  refine rs_of (ps_for B.pown B.calm (pi_range1 g1 hm (pa_cons re_pe pa_nil hst) hst) (pg_name B.ndX a1 a2 (.inl (B.fn n))) rss_pss hss) ?_
  refine he.run σ H H (Same.refl _) S.vis _ fun v H1 H' g iv => ?_
  subst iv
  refine ⟨z, rfl, hz.1, hz.2, for_range (lo := 0) (n := z.toNat) (fun t σ' H2 => ∃ as' H3, Same H0 H3 ∧ StH X.K Gs G σ' H2 as' H3 ∧ I t as') ⟨as, H0, Same.refl _, S.tmp g.all, h0⟩ ?_ ?_⟩
  · rintro t σ' H2 ht ⟨as', H3, q, S', it⟩
    show rss X body _ (σ'.set i (some (.int (0 + (t : Int))))) H2
    rw [Int.zero_add]
    refine rss_len fun hl2 => ?_
    obtain ⟨as2, ea, hb2⟩ := hs t as' (by omega) it
    refine hb2.run _ H2 H3 (by rw [← ea.eq]; exact S'.setF (by rw [List.length_set] at hl2; rw [hl2]; exact (List.getElem?_eq_some_iff.mp a1).1) rfl) _ ⟨fun σ4 H4 as4 H5 r S4 z => ⟨as4, H5, q.trans r, S4, z⟩, (ok.more q).rt, (ok.more q).nx, fun σ4 H4 as4 H5 r S4 z => ⟨as4, H5, q.trans r, S4, z⟩, (ok.more q).ex⟩
  · rintro σ' H2 ⟨as', H3, q, S', z⟩
    exact ok.nx σ' H2 as' H3 q S' (hd as' z)
/-- for n in range(a, b) -/
theorem t_forR2 {z w : Int} (B : Body X N L gs k sc) (h : At L n i) (hr : At gs "range" j) (hm : X.mg "range" = none) (ha : EE X a (vis as) (.int z)) (hb : EE X b (vis as) (.int w)) (hz : -(2 ^ 62) ≤ z ∧ z < 2 ^ 62 ∧ -(2 ^ 62) ≤ w ∧ w < 2 ^ 62) (I : Nat → AS → Prop) (h0 : I 0 as)
    (hs : ∀ (t : Nat) as', z + (t : Int) < w → I t as' → ∃ as2, SetA as' i (.fz (.int (z + t))) as2 ∧ SS X Gs G body as2 { F with nx := I (t + 1), ct := I (t + 1), bk := F.nx }) (hd : ∀ as', I (w - z).toNat as' → F.nx as')
    (hst : starEach [a, b] X.env = [(false, eval a X.env), (false, eval b X.env)] := by rfl) (hst2 : starEach [b] X.env = [(false, eval b X.env)] := by rfl) (hss : ∀ x, foldedSetIterable (.Call (.Name "range" p2) [a, b] [] p3) X.env x = pure x := by intro _; rfl) : S1 X Gs G (.For (.Name n p) (.Call (.Name "range" p2) [a, b] [] p3) body [] pos) as F := .mk fun σ H H0 S E ok => by
  obtain ⟨a1, a2, _, _⟩ := B.locs h
  obtain ⟨g1, g2, g3⟩ := B.gls hr
  refine rs_of (ps_for B.pown B.calm (pi_range2 g1 hm (pa_cons re_pe (pa_cons re_pe pa_nil hst2) (by rw [hst, hst2])) hst hst2) (pg_name B.ndX a1 a2 (.inl (B.fn n))) rss_pss hss) ?_
  refine ha.run σ H H (Same.refl _) S.vis _ fun v H1 H' g iv => ?_
  subst iv
  refine hb.run σ H' H' (Same.refl _) (S.tmp g.all).vis _ fun v H1 H'' g' iv => ?_
  subst iv
  refine ⟨z, w, rfl, hz, for_range (lo := z) (n := (w - z).toNat) (fun t σ' H2 => ∃ as' H3, Same H0 H3 ∧ StH X.K Gs G σ' H2 as' H3 ∧ I t as') ⟨as, H0, Same.refl _, S.tmp (g.all.trans g'.all), h0⟩ ?_ ?_⟩
  · rintro t σ' H2 ht ⟨as', H3, q, S', it⟩
    show rss X body _ (σ'.set i (some (.int (z + (t : Int))))) H2
    refine rss_len fun hl2 => ?_
    obtain ⟨as2, ea, hb2⟩ := hs t as' (by omega) it
    refine hb2.run _ H2 H3 (by rw [← ea.eq]; exact S'.setF (by rw [List.length_set] at hl2; rw [hl2]; exact (List.getElem?_eq_some_iff.mp a1).1) rfl) _ ⟨fun σ4 H4 as4 H5 r S4 z => ⟨as4, H5, q.trans r, S4, z⟩, (ok.more q).rt, (ok.more q).nx, fun σ4 H4 as4 H5 r S4 z => ⟨as4, H5, q.trans r, S4, z⟩, (ok.more q).ex⟩
  · rintro σ' H2 ⟨as', H3, q, S', z⟩
    exact ok.nx σ' H2 as' H3 q S' (hd as' z)
/-- n.append(e) -/
theorem t_append {apos cpos : Pos} (B : Body X N L gs k sc) (h : At L n i) (ha : as[i]? = some (.ow (.lst ds))) (he : EE X e (hid as) d) (hz : ds.length < sizeLine)
    (hfew : ((backTo cpos (starEach [e] X.env)).all (fun x => !x.1) && (backToKw cpos (keywordEach [] X.env)).all (fun x => x.1.isSome)
      && decide ([e].length + ([] : List Keyword).length + (if ([] : List Keyword).isEmpty then 0 else 1) < 30)) = true := by rfl)
    (hline : (apos.endLine == cpos.line) = true := by rfl) (hst : starEach [e] X.env = (false, eval e X.env) :: starEach [] X.env := by rfl) (hsw : swapsWith (.Call (.Attribute (.Name n p) "append" apos) [e] [] cpos) none pos.line X.env = pure false := by rfl) (hst0 : SetA as i (.ow (.lst (ds ++ [d]))) as1) (q : F.nx as1) :
    S1 X Gs G (.Expr (.Call (.Attribute (.Name n p) "append" apos) [e] [] cpos) pos) as F := .mk fun σ H H0 S E ok => by
  obtain ⟨a1, a2, a3, a4⟩ := B.locs h
  obtain ⟨l, s1, s2, s3, us, hu, hi⟩ := S.ow i _ ha
  refine rs_of (ps_expr (pe_bm PySem.F.plainAttrs_list PySem.F.slot_list_append PySem.F.type_list_append mt_append (pe_var a1 (loc_vis a2) a3 a4) (pa_cons re_pe pa_nil hst) rfl hfew hline hst rfl) hsw) ?_
  refine ⟨_, s1, .inl ⟨rfl, us, SqL.of hu⟩, ?_⟩
  refine he.run σ H0 H S.grow.sub S.hid _ fun v H1 H' g iv => ?_
  refine ⟨l, us, v, rfl, rfl, g.all _ _ hu, by rw [hi.len]; exact hz, ?_⟩
  exact ok.nx σ _ _ H1 g.frz ((S.more g).write (d := .lst ds) (d' := .lst (ds ++ [d])) ha s1 ⟨us ++ [v], upd_same, (hi.mono g.frz).app (.one iv)⟩) (by rw [hst0.eq]; exact q)
end
/-! ### a def -/
theorem start_get {N : List Str} {vs : List V} {i : Nat} {v : V} (h : vs[i]? = some v) : (L2.start N vs)[i]? = some (some v) := by
  unfold L2.start
  have hi : i < vs.length := (List.getElem?_eq_some_iff.mp h).1
  rw [List.getElem?_append_left (by rw [List.length_map]; exact hi), List.getElem?_map, h]
  rfl
def startA (N : List Str) (ds : List D) : AS := ds.map .fz ++ List.replicate (N.length - ds.length) .un
theorem startA_at {N : List Str} {ds : List D} {i : Nat} {s : Sl} (h : (startA N ds)[i]? = some s) : (∃ d, s = .fz d ∧ ds[i]? = some d) ∨ s = .un := by
  unfold startA at h
  by_cases hi : i < ds.length
  · rw [List.getElem?_append_left (by rw [List.length_map]; exact hi), List.getElem?_map, List.getElem?_eq_getElem hi] at h
    exact .inl ⟨ds[i], (Option.some.inj h).symm, List.getElem?_eq_getElem hi⟩
  · rw [List.getElem?_append_right (by rw [List.length_map]; omega), List.getElem?_replicate] at h
    split at h
    · exact .inr (Option.some.inj h).symm
    · cases h
section
variable {P : Program} {w : World} {K : PySem.W.Frag} {mg : Str → Option Value} {base : Heap}
/-- a def's body, checked -/
structure BodyOk (N L ps gs : List Str) (sc : Scope) : Prop where
  fs : FnScope N ps sc
  pre : N.take L.length = L
  loc : L.all (locOk sc) = true
  gl : gs.all (glbOk sc) = true
theorem fn_okD {x qual : Str} {st : Stmt} {f : Addr} {fd : FuncData} {N L ps gs : List Str} {k : Nat} {S : FS} (F : Fun K x qual st f fd) (C : BodyOk N L ps gs (defScope st)) (len : ∀ ds r, S ds r → ds.length = ps.length)
    (body : ∀ X : Cx, X.prog = P → X.w = w → X.K = K → X.mg = mg → X.base = base → Body X N L gs k (defScope st) → ∀ (Gs G : Hp) (ds : List D) (r : Except Exn D), S ds r → SS X Gs G (defBody st) (startA N ds) { nx := fun _ => r = .ok .non, rt := fun d => r = .ok d, ex := fun x _ => r = .error x }) :
    FnOk P w K mg base (L2.CX P w) (k + 1) f fd ps (spOf K S) := by
  refine F.okX C.fs (fun vs H Q E h => ?_) (fun cdv A outer s H vs Q E hr h => ?_)
  · obtain ⟨H0, ds, r, _, h1, h2, _⟩ := h
    rw [h1.len]
    exact len ds r h2
  · obtain ⟨H0, ds, r, hs, hi, hS, post⟩ := h
    refine ⟨_, rss_pss, ?_⟩
    have BX : Body (cxOf (L2.CX P w) P w K mg base N qual (defScope st) f cdv A outer s H E) N L gs k (defScope st) := ⟨rfl, rfl, C.fs.nd, C.pre, C.loc, C.gl, C.fs.kind, C.fs.nofree, fun _ => rfl, hr, rfl, passes_of rfl, rfl, rfl⟩
    refine (body _ rfl rfl rfl rfl rfl BX H0 H ds r hS).run _ H H0 ⟨Grow.refl hs, fun i d e => ?_, fun i d e => ?_, fun i j a d d' e => ?_⟩ _ ⟨fun σ' H' as' H1 _ S' z => ?_, fun v H' d H1 _ g i z => ?_, fun _ _ _ _ _ _ z => z.elim, fun _ _ _ _ _ _ z => z.elim, fun c dd σ' H' x as' H1 _ S' i z => ?_⟩
    · rcases startA_at e with ⟨d', e1, e2⟩ | e1
      · cases e1
        obtain ⟨v, q1, q2⟩ := hi.get e2
        exact ⟨v, start_get q1, q2⟩
      · cases e1
    · rcases startA_at e with ⟨d', e1, e2⟩ | e1 <;> cases e1
    · rcases startA_at e with ⟨d', e1, e2⟩ | e1 <;> cases e1
    · have z' : r = .ok .non := z
      subst z'
      exact post .non H1 H' S'.grow rfl
    · have z' : r = .ok d := z
      subst z'
      exact post v H1 H' g i
    · have z' : r = .error x := z
      subst z'
      exact wx_of (takes_of (E := E) rfl rfl rfl rfl) (post c dd H1 H' S'.grow i)
end
end Mw
set_option maxHeartbeats 4000000
namespace Mw
open PySem PySem.Spec PyProof.Rows L2
section
variable {X : Cx} {as : DE} {d d' x y : D} {a b c e : Expr} {es : List Expr} {ds : List D} {pos : Pos} {k l : Bool}
theorem len_le {n : Nat} (h : Nat.ble n 1000 = true) : n ≤ sizeLine := Nat.le_trans (Nat.le_of_ble_eq_true h) (by decide)
theorem ee_is (h : EE X e as d) (q : d = d') : EE X e as d' := q ▸ h
theorem et_is (h : ET X e as k) (q : k = l) : ET X e as l := q ▸ h
theorem ew_is (h : EW X e as k) (q : k = l) : EW X e as l := q ▸ h
theorem ew_orT (h : ET X a as true) : EW X (.BoolOp .Or (a :: b :: es) pos) as true := ew_or (l := true) h fun z => nomatch z
theorem ew_orF (h : ET X a as false) (h2 : EW X (.BoolOp .Or (b :: es) pos) as l) : EW X (.BoolOp .Or (a :: b :: es) pos) as l := ew_or h fun _ => h2
theorem ew_andT (h : ET X a as true) (h2 : EW X (.BoolOp .And (b :: es) pos) as l) : EW X (.BoolOp .And (a :: b :: es) pos) as l := ew_and h fun _ => h2
theorem ew_andF (h : ET X a as false) : EW X (.BoolOp .And (a :: b :: es) pos) as false := ew_and (l := true) h fun z => nomatch z
theorem ee_orT (h : EE X a as (.bl true)) : EE X (.BoolOp .Or (a :: b :: es) pos) as (.bl true) := ee_or (l := true) h fun z => nomatch z
theorem ee_orF (h : EE X a as (.bl false)) (h2 : EE X (.BoolOp .Or (b :: es) pos) as (.bl l)) : EE X (.BoolOp .Or (a :: b :: es) pos) as (.bl l) := ee_or h fun _ => h2
theorem ee_andT (h : EE X a as (.bl true)) (h2 : EE X (.BoolOp .And (b :: es) pos) as (.bl l)) : EE X (.BoolOp .And (a :: b :: es) pos) as (.bl l) := ee_and h fun _ => h2
theorem ee_andF (h : EE X a as (.bl false)) : EE X (.BoolOp .And (a :: b :: es) pos) as (.bl false) := ee_and (l := true) h fun z => nomatch z
/-- a chain of two comparisons -/
theorem et_chain {op op' : CmpOp} {z : D} (ha : EE X a as x) (hb : EE X b as y) (hc : EE X c as z) (ho : OpD X (compareOp op) x y (.bl k)) (ho' : OpD X (compareOp op') y z (.bl l)) (hm : lastMarks [op, op'] [b, c] = false := by with_unfolding_all rfl) :
    ET X (.Compare a [op, op'] [b, c] pos) as (k && l) := .mk fun σ H0 H hs hf Q q => by
  obtain ⟨r, ho, hr⟩ := ho
  obtain ⟨r', ho', hr'⟩ := ho'
  refine rt_of (pt_chain ho ho' re_pe re_pe re_pe hm) ?_
  refine ha.run σ H0 H hs hf _ fun v H1 H' g i1 => ?_
  refine hb.run σ H1 H' g.sub (hf.mono g.frz) _ fun w H2 H'' g' i2 => ?_
  refine hr v w H2 H'' g'.sub (i1.mono g'.frz) i2 _ fun z H3 H3' g'' i => ⟨k, i, ?_⟩
  cases k with
  | true =>
    rw [if_pos rfl]
    refine hc.run σ H3 H3' g''.sub (hf.mono ((g.frz.trans g'.frz).trans g''.frz)) _ fun u H4 H4' g4 i4 => ?_
    refine hr' w u H4 H4' g4.sub (i2.mono (g''.frz.trans g4.frz)) i4 _ fun z H5 H5' g5 i5 => ?_
    exact ⟨l, i5, q _ _ ((((g.trans g').trans g'').trans g4).trans g5)⟩
  | false =>
    rw [if_neg Bool.false_ne_true]
    exact ⟨false, rfl, q _ _ ((g.trans g').trans g'')⟩
theorem ee_chain {op op' : CmpOp} {z : D} (ha : EE X a as x) (hb : EE X b as y) (hc : EE X c as z) (ho : OpD X (compareOp op) x y (.bl k)) (ho' : OpD X (compareOp op') y z (.bl l)) (hm : lastMarks [op, op'] [b, c] = false := by with_unfolding_all rfl) :
    EE X (.Compare a [op, op'] [b, c] pos) as (.bl (k && l)) := .mk fun σ H0 H hs hf Q q => by
  obtain ⟨r, ho, hr⟩ := ho
  obtain ⟨r', ho', hr'⟩ := ho'
  refine re_of (pe_chain ho ho' re_pe re_pe re_pe hm) ?_
  refine ha.run σ H0 H hs hf _ fun v H1 H' g i1 => ?_
  refine hb.run σ H1 H' g.sub (hf.mono g.frz) _ fun w H2 H'' g' i2 => ?_
  refine hr v w H2 H'' g'.sub (i1.mono g'.frz) i2 _ fun z H3 H3' g'' i => ⟨k, i, ?_⟩
  cases k with
  | true =>
    rw [if_pos rfl]
    refine hc.run σ H3 H3' g''.sub (hf.mono ((g.frz.trans g'.frz).trans g''.frz)) _ fun u H4 H4' g4 i4 => ?_
    exact hr' w u H4 H4' g4.sub (i2.mono (g''.frz.trans g4.frz)) i4 _ fun z H5 H5' g5 i5 => q _ _ _ ((((g.trans g').trans g'').trans g4).trans g5) i5
  | false =>
    rw [if_neg Bool.false_ne_true]
    exact q _ _ _ ((g.trans g').trans g'') rfl
end
/-! ### what is walked -/
/-- the iterator J yields ds -/
structure Walks (K : PySem.W.Frag) (J : It) (H0 : Hp) (ds : List D) : Prop where
  stop : ∀ H, Same H0 H → J.stop ds.length H
  go : ∀ i H, i < ds.length → Same H0 H → J.go i H
  yld : ∀ i d H0' H x H2, ds[i]? = some d → Same H0 H0' → Same H0' H → J.yld i H x H2 → ∃ H0'', Grow H0' H H0'' H2 ∧ Is K H0'' d x
theorem Walks.mono {K : PySem.W.Frag} {J : It} {H0 H1 : Hp} {ds : List D} (w : Walks K J H0 ds) (e : Same H0 H1) : Walks K J H1 ds :=
  ⟨fun H q => w.stop H (e.trans q), fun i H h q => w.go i H h (e.trans q), fun i d H0' H x H2 a b c y => w.yld i d H0' H x H2 a (e.trans b) c y⟩
structure IW (X : Cx) (tg iter : Expr) (as : DE) (ds : List D) : Prop where
  run : ∃ wi, PI X tg iter wi ∧ ∀ (σ : L2.St) (H0 H : Hp), Same H0 H → SlF X.K H0 σ as → ∀ R : It → Hp → Prop, (∀ J H0' H', Grow H0 H H0' H' → Walks X.K J H0' ds → R J H') → wi σ H R
section
variable {X : Cx} {as : DE} {d x y : D} {tg a b c e : Expr} {es : List Expr} {ds : List D} {pos p : Pos}
theorem iw_list (h : EE X e as (.lst ds)) : IW X tg e as ds := ⟨_, pi_list re_pe, fun σ H0 H hs hf R q => h.run σ H0 H hs hf _ fun v H1 H' g iv => by
  obtain ⟨a, vs, rfl, hq, hv⟩ := iv
  have hl := hv.len
  refine ⟨a, rfl, ⟨vs, Same.lst g.sub hq⟩, q _ H1 _ g ⟨fun H2 e => ⟨vs, Same.lst e hq, by omega⟩, fun i H2 hi e => ⟨vs, vs[i]'(by omega), Same.lst e hq, List.getElem?_eq_getElem _⟩, fun i d H2 H3 x H4 hd e1 e2 hy => ?_⟩⟩
  obtain ⟨rfl, hx⟩ := hy
  obtain ⟨u, q1, q2⟩ := hv.get hd
  have e3 := hx vs (Same.lst (e1.trans e2) hq)
  rw [q1] at e3
  cases e3
  exact ⟨H2, Grow.refl e2, q2.mono e1⟩⟩
theorem iw_tup (h : EE X e as (.tup ds)) : IW X tg e as ds := ⟨_, pi_tup re_pe, fun σ H0 H hs hf R q => h.run σ H0 H hs hf _ fun v H1 H' g iv => by
  obtain ⟨a, vs, rfl, hq, hv⟩ := iv
  have hl := hv.len
  refine ⟨a, rfl, ⟨vs, Same.tup g.sub hq⟩, q _ H1 _ g ⟨fun H2 e => ⟨vs, Same.tup e hq, by omega⟩, fun i H2 hi e => ⟨vs, vs[i]'(by omega), Same.tup e hq, List.getElem?_eq_getElem _⟩, fun i d H2 H3 x H4 hd e1 e2 hy => ?_⟩⟩
  obtain ⟨rfl, hx⟩ := hy
  obtain ⟨u, q1, q2⟩ := hv.get hd
  have e3 := hx vs (Same.tup (e1.trans e2) hq)
  rw [q1] at e3
  cases e3
  exact ⟨H2, Grow.refl e2, q2.mono e1⟩⟩
theorem walks_range {K : PySem.W.Frag} {H0 : Hp} {lo : Int} {n : Nat} : Walks K (Itr lo n) H0 ((List.range n).map fun i => D.int (lo + (i : Nat))) := by
  refine ⟨fun H _ => ?_, fun i H hi _ => ?_, fun i d H2 H3 x H4 hd e1 e2 hy => ?_⟩
  · show n ≤ _
    simp
  · show i < n
    simpa using hi
  · obtain ⟨rfl, rfl⟩ := hy
    refine ⟨H2, Grow.refl e2, ?_⟩
    rw [List.getElem?_map] at hd
    cases z : (List.range n)[i]? with
    | none => rw [z] at hd; cases hd
    | some j =>
      rw [z] at hd
      have hi : i < n := by
        have := (List.getElem?_eq_some_iff.mp z).1
        simpa using this
      rw [List.getElem?_range hi] at z
      cases z
      cases hd
      exact rfl
theorem iw_range1 {gs : List Str} {j : Nat} {z : Int} {p2 : Pos} (B : Gls X gs) (hr : At gs "range" j) (hm : X.mg "range" = none) (he : EE X e as (.int z)) (hz : -(2 ^ 62) ≤ z ∧ z < 2 ^ 62) (hst : starEach [e] X.env = [(false, eval e X.env)] := by rfl) :
    IW X tg (.Call (.Name "range" p) [e] [] p2) as ((List.range z.toNat).map fun i => D.int (0 + (i : Nat))) := ⟨_, pi_range1 (B.at_ _ _ hr).1 hm (pa_cons re_pe pa_nil hst) hst, fun σ H0 H hs hf R q => he.run σ H0 H hs hf _ fun v H1 H' g iv => by
  subst iv
  exact ⟨z, rfl, hz.1, hz.2, q _ H1 _ g walks_range⟩⟩
theorem iw_range2 {gs : List Str} {j : Nat} {z w : Int} {p2 : Pos} (B : Gls X gs) (hr : At gs "range" j) (hm : X.mg "range" = none) (ha : EE X a as (.int z)) (hb : EE X b as (.int w)) (hz : -(2 ^ 62) ≤ z ∧ z < 2 ^ 62 ∧ -(2 ^ 62) ≤ w ∧ w < 2 ^ 62)
    (hst : starEach [a, b] X.env = [(false, eval a X.env), (false, eval b X.env)] := by rfl) (hst2 : starEach [b] X.env = [(false, eval b X.env)] := by rfl) :
    IW X tg (.Call (.Name "range" p) [a, b] [] p2) as ((List.range (w - z).toNat).map fun i => D.int (z + (i : Nat))) := ⟨_, pi_range2 (B.at_ _ _ hr).1 hm (pa_cons re_pe (pa_cons re_pe pa_nil hst2) (by rw [hst, hst2])) hst hst2, fun σ H0 H hs hf R q => ha.run σ H0 H hs hf _ fun v H1 H' g iv => by
  subst iv
  refine hb.run σ H1 H' g.sub (hf.mono g.frz) _ fun v H2 H'' g' iv => ?_
  subst iv
  exact ⟨z, w, rfl, hz, q _ H2 _ (g.trans g') walks_range⟩⟩
end
/-! ### targets -/
def rg (X : Cx) (tg : Expr) : TG := fun v σ H Q => ∀ (pins : List (Addr × Obj)) (s : Shared) (u : Value), Inv X pins σ H s → RelV v u → wpAny (model X.prog X.w) X.A (assign tg X.env u) (fun _ s' => ∃ σ' H', Inv X pins σ' H' s' ∧ Q σ' H') X.xe s
theorem rg_pg {X : Cx} {tg : Expr} : PG X tg (rg X tg) := ⟨fun pins s σ H v u Q I r h => h pins s u I r⟩
theorem rg_of {X : Cx} {tg : Expr} {t : TG} {v : V} {σ : L2.St} {H : Hp} {Q : L2.St → Hp → Prop} (h : PG X tg t) (q : t v σ H Q) : rg X tg v σ H Q := fun pins s u I r => h.run pins s σ H v u Q I r q
/-- stores that a target makes: slots with data -/
abbrev Sto := List (Nat × D)
def stoS : Sto → AS → AS
  | [], as => as
  | (i, d) :: r, as => stoS r (as.set i (.fz d))
def stoE : Sto → DE → DE
  | [], as => as
  | (i, d) :: r, as => stoE r (as.set i (some d))
def stoV : List (Nat × V) → L2.St → L2.St
  | [], σ => σ
  | (i, v) :: r, σ => stoV r (σ.set i (some v))
/-- the target tg, given d, stores w -/
structure TgD (X : Cx) (tg : Expr) (d : D) (w : Sto) : Prop where
  run : ∀ (σ : L2.St) (H0 H : Hp) (v : V), Same H0 H → Is X.K H0 d v → ∀ Q : L2.St → Hp → Prop, (∀ vs : List (Nat × V), Paired (fun (a : Nat × D) (b : Nat × V) => a.1 = b.1 ∧ a.1 < X.N.length ∧ Is X.K H0 a.2 b.2) w vs → Q (stoV vs σ) H) → rg X tg v σ H Q
section
variable {X : Cx} {N L gs : List Str} {k : Nat} {sc : Scope} {n m o : Str} {i j l : Nat} {d x y z : D} {p p2 p3 p4 : Pos}
theorem tg_name' (hN : X.N.Nodup) (hi : X.N[i]? = some n) (hx : Loc X.env.scope n) (hf : X.fn n = true ∨ X.env.scope.names.lookup n = some .local) : TgD X (.Name n p) d [(i, d)] := .mk fun σ H0 H v hs iv Q q =>
  rg_of (pg_name hN hi hx hf) (q [(i, v)] (.cons ⟨rfl, (List.getElem?_eq_some_iff.mp hi).1, iv⟩ .nil))
theorem tg_two' {k2 : Nat} (hc : X.calm = true) (hN : X.N.Nodup) (hi : X.N[i]? = some n) (hx : Loc X.env.scope n) (hf : X.fn n = true ∨ X.env.scope.names.lookup n = some .local) (hi2 : X.N[j]? = some m) (hx2 : Loc X.env.scope m) (hf2 : X.fn m = true ∨ X.env.scope.names.lookup m = some .local) :
    TgD X (.Tuple [.Name n p, .Name m p2] k2 p3) (.tup [x, y]) [(i, x), (j, y)] := .mk fun σ H0 H v hs iv Q q => by
  refine rg_of (pg_tup hc (pgs_cons (pg_name hN hi hx hf) (pgs_cons (pg_name hN hi2 hx2 hf2) pgs_nil))) ?_
  obtain ⟨a, vs, rfl, hq, hv⟩ := iv
  obtain ⟨v1, v2, e1, i1, i2⟩ := is2 hv
  subst e1
  exact ⟨a, _, rfl, Same.tup hs hq, rfl, v1, [v2], rfl, v2, [], rfl, rfl, q [(i, v1), (j, v2)] (.cons ⟨rfl, (List.getElem?_eq_some_iff.mp hi).1, i1⟩ (.cons ⟨rfl, (List.getElem?_eq_some_iff.mp hi2).1, i2⟩ .nil))⟩
theorem is3 {K : PySem.W.Frag} {H : Hp} {vs : List V} (h : IsL K H [x, y, z] vs) : ∃ v w u, vs = [v, w, u] ∧ Is K H x v ∧ Is K H y w ∧ Is K H z u := by
  obtain ⟨v, r, h1, h2, h3⟩ := h
  obtain ⟨w, u, e1, e2, e3⟩ := is2 h3
  rw [e1] at h1
  exact ⟨v, w, u, h1, h2, e2, e3⟩
theorem tg_three' {k2 : Nat} (hc : X.calm = true) (hN : X.N.Nodup) (hi : X.N[i]? = some n) (hx : Loc X.env.scope n) (hf : X.fn n = true ∨ X.env.scope.names.lookup n = some .local) (hi2 : X.N[j]? = some m) (hx2 : Loc X.env.scope m) (hf2 : X.fn m = true ∨ X.env.scope.names.lookup m = some .local)
    (hi3 : X.N[l]? = some o) (hx3 : Loc X.env.scope o) (hf3 : X.fn o = true ∨ X.env.scope.names.lookup o = some .local) :
    TgD X (.Tuple [.Name n p, .Name m p2, .Name o p4] k2 p3) (.tup [x, y, z]) [(i, x), (j, y), (l, z)] := .mk fun σ H0 H v hs iv Q q => by
  refine rg_of (pg_tup hc (pgs_cons (pg_name hN hi hx hf) (pgs_cons (pg_name hN hi2 hx2 hf2) (pgs_cons (pg_name hN hi3 hx3 hf3) pgs_nil)))) ?_
  obtain ⟨a, vs, rfl, hq, hv⟩ := iv
  obtain ⟨v1, v2, v3, e1, i1, i2, i3⟩ := is3 hv
  subst e1
  exact ⟨a, _, rfl, Same.tup hs hq, rfl, v1, [v2, v3], rfl, v2, [v3], rfl, v3, [], rfl, rfl, q [(i, v1), (j, v2), (l, v3)] (.cons ⟨rfl, (List.getElem?_eq_some_iff.mp hi).1, i1⟩ (.cons ⟨rfl, (List.getElem?_eq_some_iff.mp hi2).1, i2⟩ (.cons ⟨rfl, (List.getElem?_eq_some_iff.mp hi3).1, i3⟩ .nil)))⟩
theorem tg_name (B : Body X N L gs k sc) (h : At L n i) : TgD X (.Name n p) d [(i, d)] :=
  let ⟨h1, h2, _, _⟩ := B.locs h
  tg_name' B.ndX h1 h2 (.inl (B.fn n))
theorem tg_two {k2 : Nat} (B : Body X N L gs k sc) (h : At L n i) (h' : At L m j) : TgD X (.Tuple [.Name n p, .Name m p2] k2 p3) (.tup [x, y]) [(i, x), (j, y)] :=
  let ⟨h1, h2, _, _⟩ := B.locs h
  let ⟨g1, g2, _, _⟩ := B.locs h'
  tg_two' B.calm B.ndX h1 h2 (.inl (B.fn n)) g1 g2 (.inl (B.fn m))
theorem tg_three {k2 : Nat} (B : Body X N L gs k sc) (h : At L n i) (h' : At L m j) (h'' : At L o l) : TgD X (.Tuple [.Name n p, .Name m p2, .Name o p4] k2 p3) (.tup [x, y, z]) [(i, x), (j, y), (l, z)] :=
  let ⟨h1, h2, _, _⟩ := B.locs h
  let ⟨g1, g2, _, _⟩ := B.locs h'
  let ⟨f1, f2, _, _⟩ := B.locs h''
  tg_three' B.calm B.ndX h1 h2 (.inl (B.fn n)) g1 g2 (.inl (B.fn m)) f1 f2 (.inl (B.fn o))
end
theorem stoV_len : ∀ (vs : List (Nat × V)) (σ : L2.St), (stoV vs σ).length = σ.length
  | [], σ => rfl
  | (i, v) :: r, σ => by
    show (stoV r _).length = _
    rw [stoV_len r, List.length_set]
theorem StH.sto {K : PySem.W.Frag} {Gs G : Hp} {H H0 : Hp} {n : Nat} : ∀ {w : Sto} {vs : List (Nat × V)} {σ : L2.St} {as : AS}, StH K Gs G σ H as H0 → σ.length = n → Paired (fun (a : Nat × D) (b : Nat × V) => a.1 = b.1 ∧ a.1 < n ∧ Is K H0 a.2 b.2) w vs → StH K Gs G (stoV vs σ) H (stoS w as) H0
  | [], _, _, _, S, _, .nil => S
  | (i, d) :: w, _, σ, as, S, hn, .cons (b := (j, v)) ⟨e, h1, h2⟩ t => by
    have e' : i = j := e
    subst e'
    exact StH.sto (σ := σ.set i (some v)) (as := as.set i (.fz d)) (S.setF (by rw [hn]; exact h1) h2) (by rw [List.length_set]; exact hn) t
/-! ### for -/
section
variable {X : Cx} {N L gs : List Str} {k : Nat} {sc : Scope} {Gs G : Hp} {as : AS} {F : Fin} {tg iter : Expr} {body : List Stmt} {ds : List D} {pos : Pos}
theorem t_for (B : Body X N L gs k sc) (w : D → Sto) (hw : IW X tg iter (hid as) ds) (I : Nat → AS → Prop) (h0 : I 0 as) (ht : ∀ (j : Nat) (d : D), ds[j]? = some d → TgD X tg d (w d))
    (hs : ∀ (j : Nat) (d : D) (as' : AS), ds[j]? = some d → I j as' → SS X Gs G body (stoS (w d) as') { F with nx := I (j + 1), ct := I (j + 1), bk := F.nx }) (hd : ∀ as', I ds.length as' → F.nx as')
    (hss : ∀ x, foldedSetIterable iter X.env x = pure x := by intro _; rfl) : S1 X Gs G (.For tg iter body [] pos) as F := .mk fun σ H H0 S E ok => by
  obtain ⟨wi, hpi, hwi⟩ := hw.run
  refine rs_of (ps_for B.pown B.calm hpi rg_pg rss_pss hss) ?_
  refine hwi σ H0 H S.grow.sub S.hid _ fun J H1 H' g wk => ?_
  refine ⟨fun i m σ' H2 => m = ds.length - i ∧ i ≤ ds.length ∧ ∃ as' H3, Same H1 H3 ∧ StH X.K Gs G σ' H2 as' H3 ∧ I i as', ⟨ds.length, by simp, Nat.zero_le _, as, H1, Same.refl _, S.more g, h0⟩, ?_⟩
  rintro i m σ' H2 ⟨rfl, hi, as', H3, q, S', ij⟩
  by_cases hlt : i < ds.length
  · refine .inr ⟨wk.go i H2 hlt (q.trans S'.grow.sub), fun σ4 H4 => ∃ as4 H5, Same H1 H5 ∧ StH X.K Gs G σ4 H4 as4 H5 ∧ I (i + 1) as4, fun σ4 H4 ⟨as4, H5, a1, a2, a3⟩ => ⟨ds.length - (i + 1), by omega, rfl, hlt, as4, H5, a1, a2, a3⟩, fun x H4 hy => ?_⟩
    have hd' : ds[i]? = some ds[i] := List.getElem?_eq_getElem hlt
    obtain ⟨H5, g5, i5⟩ := wk.yld i ds[i] H3 H2 x H4 hd' q S'.grow.sub hy
    have S5 := S'.more g5
    refine (ht i ds[i] hd').run σ' H5 H4 x g5.sub i5 _ fun vs hp => ?_
    refine rss_len fun hl => ?_
    rw [stoV_len] at hl
    refine (hs i ds[i] as' hd' ij).run _ H4 H5 (S5.sto hl hp) _ ⟨fun σ6 H6 as6 H7 r S6 z => ⟨as6, H7, (q.trans g5.frz).trans r, S6, z⟩, (ok.more (g.frz.trans (q.trans g5.frz))).rt, (ok.more (g.frz.trans (q.trans g5.frz))).nx, fun σ6 H6 as6 H7 r S6 z => ⟨as6, H7, (q.trans g5.frz).trans r, S6, z⟩, (ok.more (g.frz.trans (q.trans g5.frz))).ex⟩
  · have e : i = ds.length := by omega
    subst e
    exact .inl ⟨wk.stop H2 (q.trans S'.grow.sub), ok.nx σ' H2 as' H3 (g.frz.trans q) S' (hd as' ij)⟩
end
/-! ### comprehensions -/
theorem lookup_rel_free {g : Str × NameKind → Str × NameKind} (hg : ∀ q, (g q).1 = q.1 ∧ (q.2 = .free → (g q).2 = .free ∨ (g q).2 = .cell)) : ∀ {names : List (Str × NameKind)} {x : Str}, names.lookup x = some .free → (names.map g).lookup x = some .free ∨ (names.map g).lookup x = some .cell
  | [], x, h => by cases h
  | (n, k) :: r, x, h => by
    rw [List.map_cons]
    obtain ⟨g1, g2⟩ := hg (n, k)
    have eg : g (n, k) = (n, (g (n, k)).2) := Prod.ext g1 rfl
    rw [eg]
    rw [List.lookup_cons] at h
    rw [List.lookup_cons]
    cases hx : x == n with
    | true =>
      rw [hx] at h
      have e : k = .free := Option.some.inj h
      rcases g2 e with z | z
      · exact .inl (congrArg some z)
      · exact .inr (congrArg some z)
    | false =>
      rw [hx] at h
      exact lookup_rel_free hg h
def visB (scope : Scope) (n : Str) : Bool := (scope.names.lookup n == some .local || scope.names.lookup n == some .free) && !(n == ("__debug__" : Str)) && !(n == ("__classdict__" : Str))
/-- N': N, none for what the block does not see -/
def seesB (scope : Scope) (N : List Str) (N' : List (Option Str)) : Bool := (N'.zip N).all fun q => match q.1 with | none => true | some n => n == q.2 && visB scope n
inductive AtB : List (Option Str) → Str → Nat → Prop
  | here {n : Str} {r : List (Option Str)} : AtB (some n :: r) n 0
  | there {m : Option Str} {n : Str} {r : List (Option Str)} {i : Nat} (h : AtB r n i) : AtB (m :: r) n (i + 1)
theorem AtB.get {N : List (Option Str)} {n : Str} {i : Nat} (h : AtB N n i) : N[i]? = some (some n) := by
  induction h with
  | here => rfl
  | there _ ih => rw [List.getElem?_cons_succ]; exact ih
structure NmsB (X : Cx) (N : List (Option Str)) : Prop where
  at_ : ∀ n i, AtB N n i → X.N[i]? = some n ∧ Vis X.env.scope n ∧ (n == ("__debug__" : Str)) = false ∧ (n == ("__classdict__" : Str)) = false
theorem e_nameB {X : Cx} {L : List (Option Str)} {n : Str} {i : Nat} {as : DE} {d : D} {pos : Pos} (B : NmsB X L) (h : AtB L n i) (ha : as[i]? = some (some d)) : EE X (.Name n pos) as d :=
  let ⟨h1, h2, h3, h4⟩ := B.at_ _ _ h
  ee_name i h1 h2 ha h3 h4
section
variable {X : Cx} {N L gs : List Str} {k : Nat} {sc : Scope} {scope : Scope} {cl : List (Str × Addr)} {C : Addr} {s : Shared} {H : Hp} {fp : List Addr}
theorem blk_vis {n : Str} (h : visB scope n = true) : Vis (X.blk s H scope (compEnvC scope cl C X.env) fp).env.scope n := by
  unfold visB at h
  simp only [Bool.and_eq_true, Bool.or_eq_true] at h
  rcases h.1.1 with z | z
  · exact .inl (lookup_relabel_local (nk_beq z))
  · have q := lookup_rel_free (g := fun q => if (q.2 == NameKind.free && X.env.scope.kind == .function && X.env.kindOf q.1 == some .cell) then (q.1, NameKind.cell) else (q.1, q.2)) (fun q => ⟨by split <;> rfl, fun e => by split <;> first | exact .inr rfl | exact .inl e⟩) (nk_beq z)
    rcases q with q | q
    · exact .inr (.inr q)
    · exact .inr (.inl q)
theorem blk_nms {N' : List (Option Str)} (B : Body X N L gs k sc) (hl : N'.length ≤ N.length) (h : seesB scope N N' = true) : NmsB (X.blk s H scope (compEnvC scope cl C X.env) fp) N' := .mk fun n i ha => by
  have e := ha.get
  have hi : i < N'.length := (List.getElem?_eq_some_iff.mp e).1
  have hz : (N'.zip N)[i]? = some (some n, N[i]'(by omega)) := by
    rw [List.getElem?_zip_eq_some]
    exact ⟨e, List.getElem?_eq_getElem _⟩
  have q : (n == N[i]'(by omega) && visB scope n) = true := List.all_eq_true.mp h _ (List.mem_of_getElem? hz)
  rw [Bool.and_eq_true] at q
  obtain ⟨q1, q2⟩ := q
  have e1 : n = N[i]'(by omega) := by simpa using q1
  refine ⟨?_, blk_vis q2, ?_⟩
  · show X.N[i]? = some n
    rw [B.hN, List.getElem?_eq_getElem (by omega), ← e1]
  · unfold visB at q2
    simp only [Bool.and_eq_true, Bool.not_eq_true'] at q2
    exact ⟨q2.1.2, q2.2⟩
theorem blk_gls {gs' : List Str} (h : gs'.all (glbOk scope) = true) : Gls (X.blk s H scope (compEnvC scope cl C X.env) fp) gs' := .mk fun n i ha => by
  have q := List.all_eq_true.mp h n ha.mem
  unfold glbOk at q
  simp only [Bool.and_eq_true, Bool.not_eq_true'] at q
  refine ⟨?_, q.1.2, by simpa using q.2⟩
  exact lookup_relS_keep (sc := X.env.scope) (by decide) (nk_beq q.1.1)
end
theorem rs_lenE {X : Cx} {e : Expr} {σ : L2.St} {H : Hp} {Q : VK} (h : σ.length = X.N.length → re X e σ H Q) : re X e σ H Q := fun pins s I => h I.len pins s I
/-- tests of a clause -/
structure ETs (X : Cx) (ifs : List Expr) (as : DE) (b : Bool) : Prop where
  run : ∀ (σ : L2.St) (H0 H : Hp), Same H0 H → SlF X.K H0 σ as → ∀ Q : Bool → Hp → Prop, (∀ H0' H', Grow H0 H H0' H' → Q b H') → ∀ (pins : List (Addr × Obj)) (s : Shared), Inv X pins σ H s →
    wpAny (model X.prog X.w) X.A (forIn ifs true fun c r => if r = true then do let ok ← isTrue c X.env (eval c X.env); pure (ForInStep.yield ok) else pure (ForInStep.yield r)) (TP X pins σ Q) X.xe s
theorem ets_nil {X : Cx} {as : DE} : ETs X [] as true := .mk fun σ H0 H hs hf Q q pins s I => pts_nil.run pins s σ H Q I (q H0 H (Grow.refl hs))
theorem ets_one {X : Cx} {c : Expr} {as : DE} {b : Bool} (h : ET X c as b) : ETs X [c] as b := .mk fun σ H0 H hs hf Q q pins s I => (pts_one rt_pt).run pins s σ H Q I (h.run σ H0 H hs hf Q q)
def rts (X : Cx) (ifs : List Expr) : TT := fun σ H Q => ∀ (pins : List (Addr × Obj)) (s : Shared), Inv X pins σ H s → wpAny (model X.prog X.w) X.A (forIn ifs true fun c r => if r = true then do let ok ← isTrue c X.env (eval c X.env); pure (ForInStep.yield ok) else pure (ForInStep.yield r)) (TP X pins σ Q) X.xe s
/-- wiping the block's own slots -/
def wipeE : DE → List Nat → DE
  | as, [] => as
  | as, v :: vs => (wipeE as vs).set v none
theorem SlF.wipe {K : PySem.W.Frag} {H0 : Hp} {σ : L2.St} {as : DE} (h : SlF K H0 σ as) : ∀ vs : List Nat, SlF K H0 (L2.wipe σ vs) (wipeE as vs)
  | [] => h
  | v :: vs => fun i d e => by
    have ih := SlF.wipe h vs
    have e' : ((wipeE as vs).set v none)[i]? = some (some d) := e
    rcases (set_at e') with ⟨_, q⟩ | ⟨n, q⟩
    · cases q
    · obtain ⟨u, h1, h2⟩ := ih i d q
      exact ⟨u, by show ((L2.wipe σ vs).set v none)[i]? = _; rw [List.getElem?_set_ne n]; exact h1, h2⟩
theorem SlF.sto {K : PySem.W.Frag} {H0 : Hp} {n : Nat} : ∀ {w : Sto} {vs : List (Nat × V)} {σ : L2.St} {as : DE}, SlF K H0 σ as → σ.length = n → Paired (fun (a : Nat × D) (b : Nat × V) => a.1 = b.1 ∧ a.1 < n ∧ Is K H0 a.2 b.2) w vs → SlF K H0 (stoV vs σ) (stoE w as)
  | [], _, _, _, S, _, .nil => S
  | (i, d) :: w, _, σ, as, S, hn, .cons (b := (j, v)) ⟨e, h1, h2⟩ t => by
    have e' : i = j := e
    subst e'
    refine SlF.sto (σ := σ.set i (some v)) (as := as.set i (some d)) (fun l d' q => ?_) (by rw [List.length_set]; exact hn) t
    rcases set_at q with ⟨e1, q1⟩ | ⟨m, q1⟩
    · cases q1
      subst e1
      exact ⟨v, List.getElem?_set_self (by rw [hn]; exact h1), h2⟩
    · obtain ⟨u, a, b⟩ := S l d' q1
      exact ⟨u, by rw [List.getElem?_set_ne m]; exact a, b⟩
theorem wipe_set {v : Nat} {x : Option V} : ∀ {vs : List Nat} {σ : L2.St}, v ∈ vs → wipe (σ.set v x) vs = wipe σ vs
  | [], σ, h => by cases h
  | u :: vs, σ, h => by
    show (wipe (σ.set v x) vs).set u none = (wipe σ vs).set u none
    by_cases e : v ∈ vs
    · rw [wipe_set e]
    · have e' : v = u := by
        rcases List.mem_cons.mp h with z | z
        · exact z
        · exact absurd z e
      subst e'
      rw [wipe_out_set e, List.set_set]
where
  wipe_out_set {v : Nat} {x : Option V} : ∀ {vs : List Nat} {σ : L2.St}, v ∉ vs → wipe (σ.set v x) vs = (wipe σ vs).set v x
  | [], σ, _ => rfl
  | u :: vs, σ, h => by
    show (wipe (σ.set v x) vs).set u none = ((wipe σ vs).set u none).set v x
    rw [wipe_out_set (fun z => h (List.mem_cons_of_mem _ z)), List.set_comm]
    exact fun z => h (by rw [z]; exact List.mem_cons_self)
theorem wipe_sto : ∀ {ws : List (Nat × V)} {vs : List Nat} {σ : L2.St}, (∀ q ∈ ws, q.1 ∈ vs) → wipe (stoV ws σ) vs = wipe σ vs
  | [], vs, σ, _ => rfl
  | (i, v) :: r, vs, σ, h => by
    show wipe (stoV r (σ.set i (some v))) vs = _
    rw [wipe_sto fun q hq => h q (List.mem_cons_of_mem _ hq), wipe_set (h (i, v) List.mem_cons_self)]
theorem wipe_wipe : ∀ {vs us : List Nat} {σ : L2.St}, (∀ v ∈ vs, v ∈ us) → wipe (wipe σ vs) us = wipe σ us
  | [], us, σ, _ => rfl
  | v :: vs, us, σ, h => by
    show wipe ((wipe σ vs).set v none) us = _
    rw [wipe_set (h v List.mem_cons_self), wipe_wipe fun x hx => h x (List.mem_cons_of_mem _ hx)]
theorem paired_mem {α β : Type} {F : α → β → Prop} : ∀ {l : List α} {m : List β}, Paired F l m → ∀ b ∈ m, ∃ a ∈ l, F a b
  | _, _, .nil, _, h => nomatch h
  | _, _, .cons r t, b, h => by
    rcases List.mem_cons.mp h with z | z
    · subst z
      exact ⟨_, List.mem_cons_self, r⟩
    · obtain ⟨a, h1, h2⟩ := paired_mem t b z
      exact ⟨a, List.mem_cons_of_mem _ h1, h2⟩
section
variable {X : Cx} {N L gs : List Str} {k : Nat} {sc : Scope} {scope : Scope} {as : DE} {tg iter elt : Expr} {ifs : List Expr} {ds : List D} {pos : Pos}
/-- what a comprehension makes -/
theorem en_lc (own : List (Str × Nat)) (N' : List (Option Str)) (gs' : List Str) (w : D → Sto) (f : D → D) (pr : D → Bool) (B : Body X N L gs k sc) (hw : IW X tg iter as ds)
    (hok : blkC N sc scope own = true) (hN' : (decide (N'.length ≤ N.length) && seesB scope N N' && gs'.all (glbOk scope)) = true) (hz : ds.length < sizeLine) (how : ∀ (j : Nat) (d : D), ds[j]? = some d → ∀ q ∈ w d, q.1 ∈ own.map (·.2))
    (ht : ∀ (s : Shared) (H : Hp) (cl : List (Str × Addr)) (C : Addr) (fp : List Addr), NmsB (X.blk s H scope (compEnvC scope cl C X.env) fp) N' → ∀ (j : Nat) (d : D), ds[j]? = some d → TgD (X.blk s H scope (compEnvC scope cl C X.env) fp) tg d (w d))
    (hb : ∀ (s : Shared) (H : Hp) (cl : List (Str × Addr)) (C : Addr) (fp : List Addr), NmsB (X.blk s H scope (compEnvC scope cl C X.env) fp) N' → Gls (X.blk s H scope (compEnvC scope cl C X.env) fp) gs' → ∀ (j : Nat) (d : D), ds[j]? = some d →
      ETs (X.blk s H scope (compEnvC scope cl C X.env) fp) ifs (stoE (w d) (wipeE as (own.map (·.2)))) (pr d) ∧ (pr d = true → EE (X.blk s H scope (compEnvC scope cl C X.env) fp) elt (stoE (w d) (wipeE as (own.map (·.2)))) (f d)))
    (hss : ∀ x, foldedSetIterable iter X.env x = pure x := by intro _; rfl) : EN X (.ListComp elt [⟨tg, iter, ifs, 0⟩] scope pos) as (.lst ((ds.filter pr).map f)) := .mk fun σ H0 H hs hf Q q => by
  obtain ⟨wi, hpi, hwi⟩ := hw.run
  simp only [Bool.and_eq_true, decide_eq_true_eq] at hN'
  obtain ⟨⟨n1, n2⟩, n3⟩ := hN'
  let g : TG := fun v σ H Q => ∀ (s' : Shared) (H' : Hp) (C : Addr) (cl : List (Str × Addr)) (fp : List Addr), rg (X.blk s' H' scope (compEnvC scope cl C X.env) fp) tg v σ H Q
  let tt : TT := fun σ H Q => ∀ (s' : Shared) (H' : Hp) (C : Addr) (cl : List (Str × Addr)) (fp : List Addr), rts (X.blk s' H' scope (compEnvC scope cl C X.env) fp) ifs σ H Q
  let te : TE := fun σ H Q => ∀ (s' : Shared) (H' : Hp) (C : Addr) (cl : List (Str × Addr)) (fp : List Addr), re (X.blk s' H' scope (compEnvC scope cl C X.env) fp) elt σ H Q
  refine rs_lenE fun hlen => re_of (pe_lc (g := g) (tt := tt) (te := te) (own := own) B.calm B.ndX hpi (by rw [B.hN, B.hsc]; exact blkOk_by hok) (fun s' H' C cl fp => ⟨fun pins s σ H v u Q I r h => h s' H' C cl fp pins s u I r⟩) (fun s' H' C cl fp => ⟨fun pins s σ H Q I h => h s' H' C cl fp pins s I⟩) (fun s' H' C cl fp => ⟨fun pins s σ H Q I h => h s' H' C cl fp pins s I⟩) hss) ?_
  refine hwi σ H0 H hs hf _ fun J H1 H' gr wk Dl hDl => ?_
  -- W: behind i turns the list holds what was made
  refine ⟨fun i m H2 => m = ds.length - i ∧ i ≤ ds.length ∧ ∃ H3 vs, Grow H1 (upd H' Dl (.lst [])) H3 (upd H2 Dl (.lst [])) ∧ H3 Dl = none ∧ H2 Dl = some (.lst vs) ∧ IsL X.K H3 (((ds.take i).filter pr).map f) vs ∧ (∀ b o, b ≠ Dl → H' b = some o → H2 b = some o), ⟨ds.length, by simp, Nat.zero_le _, H1, [], ?_, gr.sub.free hDl, upd_same, rfl, fun b o hb e => by rw [upd_ne hb]; exact e⟩, ?_⟩
  · rw [upd_upd]
    exact Grow.refl (gr.sub.trans (Same.new hDl))
  rintro i m H2 ⟨rfl, hi, H3, vs, g3, h3D, h2D, hv, hk⟩
  have s32 : Same H3 H2 := fun b o e => by
    have e' := g3.sub b o e
    have hb : b ≠ Dl := fun z => by rw [z, h3D] at e; cases e
    rw [upd_ne hb] at e'
    exact e'
  by_cases hlt : i < ds.length
  · have hd : ds[i]? = some ds[i] := List.getElem?_eq_getElem hlt
    refine .inr ⟨wk.go i H2 hlt (g3.frz.trans s32), fun H4 => ∃ H5 vs', Grow H1 (upd H' Dl (.lst [])) H5 (upd H4 Dl (.lst [])) ∧ H5 Dl = none ∧ H4 Dl = some (.lst vs') ∧ IsL X.K H5 (((ds.take (i + 1)).filter pr).map f) vs' ∧ (∀ b o, b ≠ Dl → H' b = some o → H4 b = some o), fun H4 ⟨H5, vs', a1, a2, a3, a4, a5⟩ => ⟨ds.length - (i + 1), by omega, rfl, hlt, H5, vs', a1, a2, a3, a4, a5⟩, fun x H4 hy => ?_⟩
    obtain ⟨H5, g5, i5⟩ := wk.yld i ds[i] H3 H2 x H4 hd g3.frz s32 hy
    have more : ∀ {Ha Hb Ha' Hb' : Hp}, Grow Ha Hb Ha' Hb' → Ha Dl = none → Hb Dl = some (.lst vs) → Ha' Dl = none ∧ Hb' Dl = some (.lst vs) ∧ Grow Ha (upd Hb Dl (.lst [])) Ha' (upd Hb' Dl (.lst [])) := fun {Ha Hb Ha' Hb'} gg e1 e2 => by
      have e3 : Ha' Dl = none := by
        cases z : Ha' Dl with
        | none => rfl
        | some u =>
          rcases gg.new Dl (by rw [z]; simp) with w | w
          · exact absurd e1 w
          · rw [e2] at w; cases w
      refine ⟨e3, gg.all _ _ e2, gg.frz, fun b o e => ?_, fun b o e => ?_, fun b hb => ?_⟩
      · by_cases z : b = Dl
        · rw [z, upd_same] at e ⊢; exact e
        · rw [upd_ne z] at e ⊢; exact gg.all b o e
      · have z : b ≠ Dl := fun z => by rw [z, e3] at e; cases e
        rw [upd_ne z]
        exact gg.sub b o e
      · rcases gg.new b hb with w | w
        · exact .inl w
        · have z : b ≠ Dl := fun z => by rw [z, e2] at w; cases w
          exact .inr (by rw [upd_ne z]; exact w)
    obtain ⟨d5, d4, gg5⟩ := more g5 h3D h2D
    intro s' Hs C cl fp
    refine (ht s' Hs cl C fp (blk_nms B n1 n2) i ds[i] hd).run _ H5 H4 x g5.sub i5 _ fun ws hp => ?_
    have hmem : ∀ q ∈ ws, q.1 ∈ own.map (·.2) := fun q hq => by
      obtain ⟨a, ha1, ha2⟩ := paired_mem hp q hq
      rw [← ha2.1]
      exact how i ds[i] hd a ha1
    refine ⟨by rw [wipe_sto hmem, wipe_wipe fun _ h => h], ?_⟩
    have hsl : SlF X.K H5 (stoV ws (wipe σ (own.map (·.2)))) (stoE (w ds[i]) (wipeE as (own.map (·.2)))) := SlF.sto (((hf.mono gr.frz).mono (g3.frz.trans g5.frz)).wipe _) (by rw [wipe_length]; exact hlen) hp
    intro s1 Hs1 C1 cl1 fp1
    have bb := hb s1 Hs1 cl1 C1 fp1 (blk_nms B n1 n2) (blk_gls n3) i ds[i] hd
    refine bb.1.run _ H5 H4 g5.sub hsl _ fun H6 H7 g6 => ?_
    obtain ⟨d6, d7, gg6⟩ := more g6 d5 d4
    have tk : ds.take (i + 1) = ds.take i ++ [ds[i]] := by rw [List.take_add_one, hd]; rfl
    cases hpr : pr ds[i] with
    | false =>
      rw [if_neg Bool.false_ne_true]
      refine ⟨H6, vs, (g3.trans gg5).trans gg6, d6, d7, ?_, fun b o hb' e => g6.all b o (g5.all b o (hk b o hb' e))⟩
      rw [tk, List.filter_append, List.filter_cons, if_neg (by rw [hpr]; exact Bool.false_ne_true), List.filter_nil, List.append_nil]
      exact hv.mono (g5.frz.trans g6.frz)
    | true =>
      rw [if_pos rfl]
      intro s2 Hs2 C2 cl2 fp2
      have bb2 := hb s2 Hs2 cl2 C2 fp2 (blk_nms B n1 n2) (blk_gls n3) i ds[i] hd
      refine (bb2.2 hpr).run _ H6 H7 g6.sub (hsl.mono g6.frz) _ fun y H8 H9 g8 i8 => ?_
      obtain ⟨d8, d9, gg8⟩ := more g8 d6 d7
      refine ⟨vs, d9, ?_, H8, vs ++ [y], ?_, d8, upd_same, ?_, fun b o hb' e => by rw [upd_ne hb']; exact g8.all b o (g6.all b o (g5.all b o (hk b o hb' e)))⟩
      · have l1 := hv.len
        rw [l1, List.length_map]
        have l2 := List.length_filter_le pr (ds.take i)
        rw [List.length_take] at l2
        omega
      · rw [upd_upd]
        exact ((g3.trans gg5).trans gg6).trans gg8
      · rw [tk, List.filter_append, List.filter_cons, if_pos hpr, List.filter_nil, List.map_append]
        exact (hv.mono ((g5.frz.trans g6.frz).trans g8.frz)).app (.one i8)
  · have e : i = ds.length := by omega
    subst e
    refine .inl ⟨wk.stop H2 (g3.frz.trans s32), ?_⟩
    rw [List.take_length] at hv
    have g4 : Grow H1 H' H3 H2 := by
      refine ⟨g3.frz, fun b o e => hk b o (fun z => by rw [z, hDl] at e; cases e) e, s32, fun b hb => ?_⟩
      rcases g3.new b hb with w | w
      · exact .inl w
      · have z : b ≠ Dl := fun z => hb (by rw [z]; exact h3D)
        rw [upd_ne z] at w
        exact .inr w
    exact q Dl H3 H2 (gr.trans g4) (gr.all.free hDl) h3D ⟨vs, h2D, hv⟩
/-- the block's own name is its slot -/
theorem blk_own {n : Str} {cl : List (Str × Addr)} {C : Addr} {s : Shared} {H : Hp} {fp : List Addr} (h : (scope.names.lookup n == some .local) = true) : (X.blk s H scope (compEnvC scope cl C X.env) fp).env.scope.names.lookup n = some .local := lookup_relabel_local (nk_beq h)
/-- what is looked at of a comprehension's scope: one name -/
def chk1 (N : List Str) (sc scope : Scope) (n : Str) (i : Nat) (N' : List (Option Str)) (gs' : List Str) : Bool :=
  blkC N sc scope [(n, i)] && (decide (N'.length ≤ N.length) && seesB scope N N' && gs'.all (glbOk scope)) && (scope.names.lookup n == some .local)
theorem en_lc1 {n : Str} {p : Pos} (i : Nat) (N' : List (Option Str)) (gs' : List Str) (f : D → D) (pr : D → Bool) (B : Body X N L gs k sc) (hw : IW X (.Name n p) iter as ds) (hc : chk1 N sc scope n i N' gs' = true) (hz : ds.length < sizeLine)
    (hb : ∀ (s : Shared) (H : Hp) (cl : List (Str × Addr)) (C : Addr) (fp : List Addr), NmsB (X.blk s H scope (compEnvC scope cl C X.env) fp) N' → Gls (X.blk s H scope (compEnvC scope cl C X.env) fp) gs' → ∀ (j : Nat) (d : D), ds[j]? = some d →
      ETs (X.blk s H scope (compEnvC scope cl C X.env) fp) ifs ((as.set i none).set i (some d)) (pr d) ∧ (pr d = true → EE (X.blk s H scope (compEnvC scope cl C X.env) fp) elt ((as.set i none).set i (some d)) (f d)))
    (hss : ∀ x, foldedSetIterable iter X.env x = pure x := by intro _; rfl) : EN X (.ListComp elt [⟨.Name n p, iter, ifs, 0⟩] scope pos) as (.lst ((ds.filter pr).map f)) := by
  unfold chk1 at hc
  rw [Bool.and_eq_true, Bool.and_eq_true] at hc
  obtain ⟨⟨c1, c2⟩, c3⟩ := hc
  have hi : N[i]? = some n := (blkOk_by c1).ix (n, i) (List.mem_singleton.mpr rfl)
  refine en_lc [(n, i)] N' gs' (fun d => [(i, d)]) f pr B hw c1 c2 hz (fun j d _ q hq => ?_) (fun s H cl C fp _ j d _ => ?_) hb hss
  · have e : q = (i, d) := List.mem_singleton.mp hq
    rw [e]
    exact List.mem_singleton.mpr rfl
  · exact tg_name' B.ndX (by show X.N[i]? = _; rw [B.hN]; exact hi) (.inl (blk_own c3)) (.inr (blk_own c3))
/-- .. two names -/
def chk2 (N : List Str) (sc scope : Scope) (n m : Str) (i j : Nat) (N' : List (Option Str)) (gs' : List Str) : Bool :=
  blkC N sc scope [(n, i), (m, j)] && (decide (N'.length ≤ N.length) && seesB scope N N' && gs'.all (glbOk scope)) && ((scope.names.lookup n == some .local) && (scope.names.lookup m == some .local))
def two (i j : Nat) : D → Sto
  | .tup [x, y] => [(i, x), (j, y)]
  | _ => []
theorem en_lc2 {n m : Str} {p p2 p3 : Pos} {k2 : Nat} (i j : Nat) (N' : List (Option Str)) (gs' : List Str) (f : D → D) (pr : D → Bool) (B : Body X N L gs k sc) (hw : IW X (.Tuple [.Name n p, .Name m p2] k2 p3) iter as ds) (hc : chk2 N sc scope n m i j N' gs' = true) (hz : ds.length < sizeLine)
    (h2 : ∀ (t : Nat) (d : D), ds[t]? = some d → ∃ x y, d = .tup [x, y])
    (hb : ∀ (s : Shared) (H : Hp) (cl : List (Str × Addr)) (C : Addr) (fp : List Addr), NmsB (X.blk s H scope (compEnvC scope cl C X.env) fp) N' → Gls (X.blk s H scope (compEnvC scope cl C X.env) fp) gs' → ∀ (t : Nat) (x y : D), ds[t]? = some (.tup [x, y]) →
      ETs (X.blk s H scope (compEnvC scope cl C X.env) fp) ifs ((((as.set j none).set i none).set i (some x)).set j (some y)) (pr (.tup [x, y])) ∧ (pr (.tup [x, y]) = true → EE (X.blk s H scope (compEnvC scope cl C X.env) fp) elt ((((as.set j none).set i none).set i (some x)).set j (some y)) (f (.tup [x, y]))))
    (hss : ∀ x, foldedSetIterable iter X.env x = pure x := by intro _; rfl) : EN X (.ListComp elt [⟨.Tuple [.Name n p, .Name m p2] k2 p3, iter, ifs, 0⟩] scope pos) as (.lst ((ds.filter pr).map f)) := by
  unfold chk2 at hc
  obtain ⟨h12, h34⟩ := Bool.and_eq_true_iff.mp hc
  obtain ⟨c1, c2⟩ := Bool.and_eq_true_iff.mp h12
  obtain ⟨c3, c4⟩ := Bool.and_eq_true_iff.mp h34
  have hi : N[i]? = some n := (blkOk_by c1).ix (n, i) List.mem_cons_self
  have hj : N[j]? = some m := (blkOk_by c1).ix (m, j) (List.mem_cons_of_mem _ List.mem_cons_self)
  refine en_lc [(n, i), (m, j)] N' gs' (two i j) f pr B hw c1 c2 hz (fun t d hd q hq => ?_) (fun s H cl C fp _ t d hd => ?_) (fun s H cl C fp nb gb t d hd => ?_) hss
  · obtain ⟨x, y, rfl⟩ := h2 t d hd
    have hq' : q ∈ [(i, x), (j, y)] := hq
    rcases List.mem_cons.mp hq' with e | e
    · rw [e]; exact List.mem_cons_self
    · rw [List.mem_singleton.mp e]; exact List.mem_cons_of_mem _ List.mem_cons_self
  · obtain ⟨x, y, rfl⟩ := h2 t d hd
    exact tg_two' B.calm B.ndX (by show X.N[i]? = _; rw [B.hN]; exact hi) (.inl (blk_own c3)) (.inr (blk_own c3)) (by show X.N[j]? = _; rw [B.hN]; exact hj) (.inl (blk_own c4)) (.inr (blk_own c4))
  · obtain ⟨x, y, rfl⟩ := h2 t d hd
    exact hb s H cl C fp nb gb t x y hd
end
end Mw
set_option maxHeartbeats 4000000
namespace Mw
open PySem PySem.Spec PyProof.Rows L2
/-! ### a[b] -/
def SubD (X : Cx) (b : Expr) (x y d : D) : Prop :=
  ∃ R : R2, (∀ a pos ta tb, PE X a ta → PE X b tb → PE X (.Subscript a b pos) (tOp R ta tb)) ∧ ∀ v w H0 H, Same H0 H → Is X.K H0 x v → Is X.K H0 y w → ∀ Q : VK, (∀ z H0' H', Grow H0 H H0' H' → Is X.K H0' d z → Q z H') → R v w H Q
section
variable {X : Cx} {as : DE} {d x y : D} {a b c e : Expr} {es : List Expr} {ds : List D} {pos p p2 : Pos}
theorem ee_sub (ha : EE X a as x) (hb : EE X b as y) (hs : SubD X b x y d) : EE X (.Subscript a b pos) as d := .mk fun σ H0 H hs' hf Q q => by
  obtain ⟨R, hp, hr⟩ := hs
  refine re_of (hp a pos _ _ re_pe re_pe) ?_
  exact ha.run σ H0 H hs' hf _ fun v H1 H' g i1 => hb.run σ H1 H' g.sub (hf.mono g.frz) _ fun w H2 H'' g' i2 => hr v w H2 H'' g'.sub (i1.mono g'.frz) i2 Q fun z _ _ g'' i => q z _ _ ((g.trans g').trans g'') i
theorem sub_T {i : Int} (h : atI ds i = some d) (hp : PlainIx b := by exact fun _ _ => rfl) : SubD X b (.tup ds) (.int i) d := ⟨_, fun a pos ta tb h1 h2 => pe_ix ix_tup h1 h2 hp, fun v w H0 H hs iv iw Q q => by
  obtain ⟨p, vs, rfl, hq, hv⟩ := iv
  obtain ⟨z, e1, e2⟩ := atI_is hv h
  exact ⟨p, vs, i, z, rfl, iw, Same.tup hs hq, e1, q _ _ _ (Grow.refl hs) e2⟩⟩
theorem sub_L {i : Int} (h : atI ds i = some d) (hp : PlainIx b := by exact fun _ _ => rfl) : SubD X b (.lst ds) (.int i) d := ⟨_, fun a pos ta tb h1 h2 => pe_ix ix_list h1 h2 hp, fun v w H0 H hs iv iw Q q => by
  obtain ⟨p, vs, rfl, hq, hv⟩ := iv
  obtain ⟨z, e1, e2⟩ := atI_is hv h
  exact ⟨p, vs, i, z, rfl, iw, Same.lst hs hq, e1, q _ _ _ (Grow.refl hs) e2⟩⟩
theorem sub_S {i : Int} {z : Str} {c : Nat} (hz : z.length ≤ sizeLine) (h : atI z.cps.toList i = some c) (hp : PlainIx b := by exact fun _ _ => rfl) : SubD X b (.str z) (.int i) (.str ⟨#[c]⟩) := ⟨_, fun a pos ta tb h1 h2 => pe_ix ix_str h1 h2 hp, fun v w H0 H hs iv iw Q q =>
  ⟨z, i, c, iv, iw, hz, h, q _ _ _ (Grow.refl hs) rfl⟩⟩
/-! ### f'..' -/
/-- a part's text -/
inductive FmD : D → Str → Prop
  | str {z : Str} (h : z.length ≤ sizeLine) : FmD (.str z) z
  | int {i : Int} (h : i.natAbs.log2 < 1920) : FmD (.int i) (toString i)
theorem ee_fmt {z : Str} (h : EE X e as x) (hz : FmD x z) : EE X (.FormattedValue e (-1) none pos) as (.str z) := .mk fun σ H0 H hs hf Q q =>
  re_of (pe_fmt re_pe) (h.run σ H0 H hs hf _ fun v H1 H' g i => by
    cases hz with
    | str hz => exact .inl ⟨_, i, hz, q _ _ _ g rfl⟩
    | int hz => exact .inr ⟨_, i, hz, q _ _ _ g rfl⟩)
/-- the parts, one behind the other -/
inductive EJ (X : Cx) (as : DE) : List Expr → Str → Str → Prop
  | nil {acc : Str} : EJ X as [] acc acc
  | cons {e : Expr} {es : List Expr} {acc z out : Str} (h : EE X e as (.str z)) (hl : (acc ++ z).length ≤ sizeLine) (r : EJ X as es (acc ++ z) out) : EJ X as (e :: es) acc out
theorem pj_re : ∀ es : List Expr, PJ X es (es.map (re X))
  | [] => .nil
  | e :: es => .cons re_pe (pj_re es)
theorem EJ.run : ∀ {es : List Expr} {acc out : Str}, EJ X as es acc out → ∀ (σ : L2.St) (H0 H : Hp), Same H0 H → SlF X.K H0 σ as → ∀ Q : Str → Hp → Prop, (∀ H0' H', Grow H0 H H0' H' → Q out H') → tJs (es.map (re X)) acc σ H Q
  | [], _, _, .nil, σ, H0, H, hs, hf, Q, q => q H0 H (Grow.refl hs)
  | e :: es, _, _, .cons h hl r, σ, H0, H, hs, hf, Q, q => h.run σ H0 H hs hf _ fun v H1 H' g i => ⟨_, i, hl, EJ.run r σ H1 H' g.sub (hf.mono g.frz) Q fun _ _ g' => q _ _ (g.trans g')⟩
theorem ee_joined {v1 v2 : Expr} {rest : List Expr} {out : Str} (h : EJ X as (v1 :: v2 :: rest) Str.empty out) : EE X (.JoinedStr (v1 :: v2 :: rest) pos) as (.str out) := .mk fun σ H0 H hs hf Q q =>
  re_of (pe_joined (pj_re _)) (h.run σ H0 H hs hf _ fun _ _ g => q _ _ _ g rfl)
theorem ee_joined1 {z : Str} (h : EE X e as (.str z)) : EE X (.JoinedStr [e] pos) as (.str z) := .mk fun σ H0 H hs hf Q q => re_of (pe_joined1 re_pe) (h.run σ H0 H hs hf Q q)
end
/-! ### try .. except -/
/-- what the class object at M, named in a clause, says -/
structure CatE (K : PySem.W.Frag) (c m : Addr) (b : Bool) : Prop where
  ex : PySem.W.exmOne K (.ref c) (.ref m) = some b
section
variable {X : Cx} {N L gs : List Str} {k : Nat} {sc : Scope} {n x : Str} {i j : Nat} {Gs G : Hp} {as : AS} {F : Fin} {M : Addr} {body suite : List Stmt} {b₀ : Stmt} {np pos pos' : Pos}
/-- the suite's end: the clause's name is gone -/
def Fin.gone (F : Fin) (i : Nat) : Fin := { nx := fun as => F.nx (as.set i .un), rt := F.rt, bk := fun as => F.bk (as.set i .un), ct := fun as => F.ct (as.set i .un), ex := fun _ _ => False }
/-- the name's slot: the exception at a, its own dict with its fields -/
def excS (a : Addr) (dd : Option Addr) (x : Exn) : Sl := match dd with
  | none => .fz (.cls a)
  | some d => .fz (.xc a d x.fs)
theorem t_try (EX : Exn → AS → Prop) (B : Body X N L gs k sc) (hn : At L n i) (hnl : sc.names.lookup n = some .local) (hg : At gs x j) (hm : X.mg x = some (.ref M))
    (hb : ∀ (pn : List (Addr × Obj)) (xe : Value → Shared → Prop), Body (X.tr pn xe) N L gs k sc → SS (X.tr pn xe) Gs G body as { F with ex := EX })
    (hx : ∀ xn as', EX xn as' → ∃ b, CatE X.K xn.cls M b ∧ (b = false → F.ex xn as') ∧ (b = true → ∀ (a : Addr) (oe : Obj) (dd : Option Addr) (pn : List (Addr × Obj)), Zc (.ref xn.cls) dd oe → (∃ vs, oe.data = .fields vs) → (xn.fs = [] → dd = none) → (xn.fs ≠ [] → ∃ d, dd = some d) → SS (X.suite a ((a, oe) :: pn)) Gs G (b₀ :: suite) (as'.set i (excS a dd xn)) (F.gone i))) :
    S1 X Gs G (.Try body [.ExceptHandler (some (.Name x np)) (some n) (b₀ :: suite) pos'] [] [] pos) as F := .mk fun σ H H0 S E ok => by
  obtain ⟨a1, a2, _, _⟩ := B.locs hn
  obtain ⟨g1, g2, g3⟩ := B.gls hg
  let tb : WX → TS := fun W D σ H => ∀ (pn : List (Addr × Obj)) (xe : Value → Shared → Prop), Takes (X.tr pn xe) W → PassesOwn (model X.prog X.w) X.A X.env xe → rss (X.tr pn xe) body D σ H
  let ts : Addr → Value → Option Addr → TS := fun a cls d D σ H => ∀ (oe : Obj) (pn : List (Addr × Obj)), Zc cls d oe → (∃ vs, oe.data = .fields vs) → rss (X.suite a ((a, oe) :: pn)) (b₀ :: suite) D σ H
  refine rs_of (ps_try_as (i := i) (tb := tb) (ts := ts) B.stk B.frm B.ndX a1 (by show X.env.scope.names.lookup n = _; rw [B.hsc]; exact hnl) ⟨g1, g2, .inl hm⟩ wx_takes (fun W pn xe tk hp => ⟨fun pins s σ H D I h => h pn xe tk hp pins s I⟩) (fun a oe cls d pn hz hf => ⟨fun pins s σ H D I h => h oe pn hz hf pins s I⟩)) ?_
  intro pn xe tk hp
  refine (hb pn xe (B.tr hp)).run σ H H0 S E ⟨fun σ' H' as' H1 q S' => ok.nx σ' H' as' H1 q S', fun v H' d H1 q => ok.rt v H' d H1 q, fun σ' H' as' H1 q S' => ok.bk σ' H' as' H1 q S', fun σ' H' as' H1 q S' => ok.ct σ' H' as' H1 q S', fun c dd σ' H' xn as' H1 q S' iv hex => ?_⟩
  refine wx_of tk ?_
  obtain ⟨b, hb1, hb2, hb3⟩ := hx xn as' hex
  obtain ⟨ec, iv'⟩ := id iv
  refine ⟨b, by rw [ec]; exact hb1.ex, fun hbt a ha => ?_, fun hbf => ok.ex c dd σ' H' xn as' H1 q S' iv (hb2 hbf)⟩
  intro oe pn' hz hfl
  rw [ec] at hz
  refine rss_len fun hlen => ?_
  have hi : i < σ'.length := by
    have h1 : i < X.N.length := (List.getElem?_eq_some_iff.mp a1).1
    have h2 : (σ'.set i (some (V.ref a))).length = X.N.length := hlen
    rw [List.length_set] at h2
    omega
  have S2 : StH X.K Gs G (σ'.set i (some (.ref a))) H' (as'.set i (excS a dd xn)) H1 := by
    unfold excS
    cases dd with
    | none => exact S'.setF hi rfl
    | some d =>
      rcases iv' with ⟨_, z⟩ | ⟨_, d', gs', e1, e2, e3⟩
      · cases z
      · cases e1
        exact S'.setF hi ⟨gs', rfl, e2, e3⟩
  refine (hb3 hbt a oe dd pn' hz hfl (fun z => by
      rcases iv' with ⟨_, q⟩ | ⟨q, _⟩
      · exact q
      · exact absurd z q) (fun z => by
      rcases iv' with ⟨q, _⟩ | ⟨_, d', _, e1, _⟩
      · exact absurd q z
      · exact ⟨d', e1⟩)).run _ H' H1 S2 _ ⟨fun σ4 H4 as4 H5 r S4 z => ?_, fun v H4 d H5 r g4 i4 z => ok.rt v H4 d H5 (q.trans r) g4 i4 z, fun σ4 H4 as4 H5 r S4 z => ?_, fun σ4 H4 as4 H5 r S4 z => ?_, fun _ _ _ _ _ _ _ _ _ _ z => z.elim⟩
  · exact ok.nx _ H4 _ H5 (q.trans r) S4.setU z
  · exact ok.bk _ H4 _ H5 (q.trans r) S4.setU z
  · exact ok.ct _ H4 _ H5 (q.trans r) S4.setU z
end
/-! ### isinstance in a suite -/
section
variable {X : Cx} {a C : Addr} {oe : Obj} {pn : List (Addr × Obj)} {b : Bool}
theorem ca_isE {M : Addr} (c : ExcC X.K C) (hz : Zc (.ref C) none oe) (hf : ∃ vs, oe.data = .fields vs) (hk : PySem.W.kitOne X.K (.ref C) (.ref M) = some b) : CaD (X.suite a ((a, oe) :: pn)) (.builtin "isinstance") [.cls a, .cls M] (.bl b) := .flat (call_isE c hz hf) (fun _ => rfl) fun vs H h Q q => by
  obtain ⟨v, w, e, h1, h2⟩ := is2 h
  rw [show v = _ from h1, show w = _ from h2] at e
  exact ⟨.ref M, .ref M, b, e, fun u r => r, hk, q⟩
theorem ca_isET {T : String} (c : ExcC X.K C) (hz : Zc (.ref C) none oe) (hf : ∃ vs, oe.data = .fields vs) (hk : PySem.W.kitOne X.K (.ref C) (.type T) = some b) : CaD (X.suite a ((a, oe) :: pn)) (.builtin "isinstance") [.cls a, .ty T] (.bl b) := .flat (call_isE c hz hf) (fun _ => rfl) fun vs H h Q q => by
  obtain ⟨v, w, e, h1, h2⟩ := is2 h
  rw [show v = _ from h1, show w = _ from h2] at e
  exact ⟨.ty T, .type T, b, e, fun u r => r, hk, q⟩
end
end Mw
set_option maxHeartbeats 4000000
namespace Mw
open PySem PySem.Spec PyProof.Rows L2
section
variable {X : Cx} {as : DE} {a b c : Expr} {pos : Pos}
/-! ### is of bools -/
theorem oc_isB {k l : Bool} : OpD X (compareOp .Is) (.bl k) (.bl l) (.bl (decide (k = l))) := .flat op_isBl (fun _ => rfl) fun v w H h1 h2 Q q => ⟨k, l, h1, h2, q⟩
theorem oc_notB {k l : Bool} : OpD X (compareOp .IsNot) (.bl k) (.bl l) (.bl (!decide (k = l))) := .flat op_notBl (fun _ => rfl) fun v w H h1 h2 Q q => ⟨k, l, h1, h2, q⟩
/-! ### lists put together -/
def rCatL (K : PySem.W.Frag) : R2 := fun x y H Q => ∃ a b xs ys, x = .ref a ∧ y = .ref b ∧ SqL K H a xs ∧ SqL K H b ys ∧ xs.length + ys.length ≤ sizeLine ∧ ∀ p, H p = none → Q (.ref p) (upd H p (.lst (xs ++ ys)))
theorem op_catL : OpR X (binaryOp .Add) (rCatL X.K) := by
  intro pins s σ H x y v u Q I rx ry h
  obtain ⟨l, b, xs, zs, rfl, rfl, hx, hy, hz, q⟩ := h
  cases rx
  cases ry
  obtain ⟨its, r, ⟨⟨cls, dd, data, sl⟩, n, ho, hc, hd, hs⟩, z⟩ := I.list hx
  obtain ⟨its2, r2, ⟨⟨cls2, dd2, data2, sl2⟩, n2, ho2, hc2, hd2, hs2⟩, z2⟩ := I.list hy
  simp only at hc hd hs hc2 hd2 hs2
  subst hc hd hs hc2 hd2 hs2
  have l1 := r.length
  have l2 := r2.length
  refine concat_meets ⟨_, ho, rfl⟩ ⟨_, ho2, rfl⟩ PySem.noFill_list_add PySem.seq_list_add PySem.F.slot_list_add PySem.F.entry_list_add (PySem.F.args_list_add_2 _ _) (PyProof.Rows.list_addW l b its.toArray its2.toArray n n2 none none sl sl2 (by rw [List.size_toArray, List.size_toArray]; omega)) ⟨ho, ho2, ?_⟩
  have ea : its.toArray ++ its2.toArray = (its ++ its2).toArray := by simp
  rw [ea]
  exact ⟨.ref _, _, I.lnew (t' := s.toks) (r.append r2) (by rw [List.length_append]; omega), rfl, q _ I.fresh⟩
theorem od_catL {ds es : List D} (h : ds.length + es.length ≤ sizeLine) : OpD X (binaryOp .Add) (.lst ds) (.lst es) (.lst (ds ++ es)) := ⟨_, op_catL, fun v w H0 H hs h1 h2 Q q => by
  obtain ⟨a, vs, rfl, q1, i1⟩ := h1
  obtain ⟨b, ws, rfl, q2, i2⟩ := h2
  refine ⟨a, b, vs, ws, rfl, rfl, Same.lst hs q1, Same.lst hs q2, by rw [i1.len, i2.len]; exact h, fun p hp => ?_⟩
  exact q _ (upd H0 p (.lst (vs ++ ws))) _ (Grow.laid hs hp) ⟨p, vs ++ ws, rfl, SqL.of upd_same, (i1.app i2).mono (Same.new (hs.free hp))⟩⟩
/-! ### a if c else b, that raises -/
theorem ex_ifT {x : Exn} (h : ET X c as true) (h1 : EX X a as x) : EX X (.IfExp c a b pos) as x := .mk fun σ H0 H hs hf Q q =>
  re_of (pe_ifExp rt_pt re_pe re_pe) (h.run σ H0 H hs hf _ fun H1 H' g => by
    rw [if_pos rfl]
    exact h1.run σ H1 H' g.sub (hf.mono g.frz) _ fun _ _ _ _ g' i' => q _ _ _ _ (g.trans g') i')
theorem ex_ifF {x : Exn} (h : ET X c as false) (h1 : EX X b as x) : EX X (.IfExp c a b pos) as x := .mk fun σ H0 H hs hf Q q =>
  re_of (pe_ifExp rt_pt re_pe re_pe) (h.run σ H0 H hs hf _ fun H1 H' g => by
    rw [if_neg Bool.false_ne_true]
    exact h1.run σ H1 H' g.sub (hf.mono g.frz) _ fun _ _ _ _ g' i' => q _ _ _ _ (g.trans g') i')
end
end Mw
set_option maxHeartbeats 4000000
/-! own exceptions with fields: made by their own __init__, raised, or held as values -/
namespace Mw
section
open PySem PySem.Spec PySem.Calls PyProof.Rows PySem.W PySem.HandSPX
variable {prog : Program} {w : World} {A : Around} {E : Value → Shared → Prop} {s : Shared} {K : Frag} {x D : Addr} {ox od : Obj}
/-- e.__class__, e an own exception with its own dict -/
theorem exv_class {Q : Option Value → Shared → Prop} (C : L2.ExcC K D) (X : K.In s.heap) (I : InstAt s.heap x ox D (some od)) (h : Q (some (.ref D)) { s with toks := s.toks + 1 }) : wpAny (model prog w) A (getAttr? (.ref x) "__class__") Q E s := by
  have hf : findObj K D (some od) "__class__" = some (.bind (.builtin "getset_descriptor.__get__") (.builtin "object.__class__")) :=
    findObj_data (show (clsIn K D).isSome = true by obtain ⟨cd, hc, _⟩ := any_some C.hd; rw [hc]; rfl) C.ha C.hn C.ht
  obtain ⟨hp, g, d, t, os⟩ := s
  have L0 := I.type (M := model prog w)
  have L1 := looks_findIn (M := model prog w) X C.hg
  have L2 := looks_findIn (M := model prog w) X C.hk
  have L3 := looks_find (M := model prog w) X I hf
  have sub : Looks (model prog w) hp (isInstance (.ref x) (.type "BaseException")) true := L0.andThen (looks_subIn X C.hs)
  have n0 : (Value.builtin "BaseException.__getattribute__" == Value.builtin "object.__getattribute__") = false := by decide +kernel
  unfold getAttr? getAttrBy? getAttrBy
  refine wpAny_bind (wpAny_mkText (wpAny_bind (wpAny_attempt (wpAny_holding (wpAny_bind (L0.at (wpAny_bind (L1.at ?_))))))))
  show wpAny _ _ (if (onTheHeap (Value.ref D) && Value.builtin "BaseException.__getattribute__" == Value.builtin "object.__getattribute__") = true then _ else _) _ _ _
  rw [n0, Bool.and_false, if_neg Bool.false_ne_true]
  unfold getAttrByItsOwn hookBefore
  refine wpAny_bind ?_
  rw [if_pos (show onTheHeap (Value.ref D) = true from rfl)]
  refine L2.at (wpAny_bind (wpAny_attempt (wpAny_holding ?_)))
  unfold callGetattribute
  rw [Bool.false_and, if_neg Bool.false_ne_true]
  unfold boundAndCalled
  rw [PySem.F.excAttr_ValueError.ga.bind (.ref x)]
  refine wpAny_bind (wpAny_pure ?_)
  show wpAny _ _ (call (.builtin "BaseException.__getattribute__") [.ref x, .str "__class__" t]) _ _ _
  refine wpAny_call (codeAny_call_builtin PySem.F.excAttr_ValueError.ga.plain PySem.F.entry_bexc_ga ?_)
  refine @check_slot (model prog w) _ _ ⟨hp, g, d, t + 1, os⟩ "BaseException.__getattribute__" "BaseException" "__getattribute__" (.ref x) [.str "__class__" t] [] _ (by decide +kernel) (by decide +kernel) sub (PySem.F.args_bexc_ga (.ref x) (.str "__class__" t)) ?_
  unfold Builtin.«object.__getattribute__»
  refine wpAny_bind (wpAny_of_eq (a := ((Value.ref x : Value), [Value.str "__class__" t])) (by first | rfl | (simp only [slotArgs]; rfl)) ?_)
  refine wpAny_bind (wpAny_pure (wpAny_bind (L0.at (wpAny_bind (L3.at ?_)))))
  show wpAny _ _ (holding [Value.builtin "object.__class__"] (call (.builtin "getset_descriptor.__get__") [.builtin "object.__class__", .ref x, .ref D]) >>= ret) _ _ _
  refine wpAny_bind (wpAny_holding (wpAny_call (class_get (s := ⟨hp, g, d, t + 1, os⟩) (ox := ox) (od := some od) X I C.hm (wpAny_pure ?_))))
  show wpAny _ _ (handedOut (.ref D)) _ _ _
  rw [handedOut_of (v := .ref D) rfl]
  first
    | exact wpAny_pure (wpAny_pure h)
    | exact wpAny_pure h
    | exact wpAny_pure (wpAny_bind (wpAny_pure (wpAny_pure h)))
theorem exv_kit (C : L2.ExcC K D) : KitX K (.ref x) (.ref D) (fun h => InstAt h x ox D (some od)) where
  ty := fun _ _ _ I => I.type
  it := fun _ _ X _ => by
    obtain ⟨cdD, hcD, _⟩ := any_some C.hd
    unfold clsIn at hcD
    split at hcD
    · rename_i ho
      intro A' Q' E' s' k q
      unfold isType loadHead
      exact wpAny_bind (wpAny_loadPart (k _ _ (X _ _ ho)) (wpAny_pure q))
    · cases hcD
  ne := fun h tp dd its n sl X htp => by
    obtain ⟨cdD, hcD, _⟩ := any_some C.hd
    refine Bool.eq_false_iff.mpr fun q => ?_
    obtain rfl : D = tp := Value.ref.inj (beq_iff_eq.mp q)
    unfold clsIn at hcD
    split at hcD
    · rename_i ho
      cases (X _ _ ho).symm.trans htp
    · cases hcD
  ca := fun X I k => exv_class C X I k
end
section
open PySem PySem.Spec PyProof.Rows L2
variable {X : Cx} {pins : List (Addr × Obj)} {σ : L2.St} {H : Hp} {s : Shared} {a C : Addr} {dx : Addr} {gs : List (Str × V)}
/-- the object of an exception held as a value -/
theorem exv_at (I : Inv X pins σ H s) (ea : H a = some (exo a C (some dx))) (ed : H dx = some (exd dx gs)) : ∃ (ox od : Obj) (mA : Str → Option Value), PySem.W.InstAt s.heap a ox C (some od) ∧ (∀ n, PySem.W.lookIn n od = some (mA n)) ∧ ∀ f, RelO (gs.lookup f) (mA f) := by
  obtain ⟨t1, ho⟩ := exo_at I.hok ea
  obtain ⟨mA, hns, rel⟩ := exd_at I.hok ed
  obtain ⟨od, hod, hl⟩ := lookIn_ns hns
  exact ⟨_, od, mA, ⟨ho, rfl, rfl, hod⟩, hl, rel⟩
/-- e.f -/
def tXv (K : PySem.W.Frag) (C : Addr) (f : Str) (te : TE) : TE := fun σ H Q => te σ H fun x H1 => ∃ (a dx : Addr) (gs : List (Str × V)) (v : V), x = .ref a ∧ H1 a = some (exo a C (some dx)) ∧ H1 dx = some (exd dx gs) ∧ gs.lookup f = some v ∧ Q v H1
theorem pe_xv {e : Expr} {te : TE} {pos : Pos} {n : Str} (T : XfC X.K C) (hno : PySem.W.findIn X.K (.ref C) n = some none) (he : PE X e te) (hb : attributeBase e n X.env (eval e X.env) = eval e X.env := by rfl) : PE X (.Attribute e n pos) (tXv X.K C n te) := by
  refine ⟨fun pins s σ H Q I h => ?_⟩
  refine attr_of hb (thn (he.run pins s σ H _ I h) fun u s1 hh => ?_)
  obtain ⟨x, H1, I1, rx, a, dx, gs, v, ex, ea, ed, l, q⟩ := hh
  subst ex
  obtain rfl : u = Value.ref a := rx
  obtain ⟨ox, od, mA, J, hl, hr⟩ := exv_at I1 ea ed
  obtain ⟨u, hu, ru⟩ := RelO.some_of (v := v) (o := mA n) (by rw [← l]; exact hr n)
  exact PySem.HandSPX.exc_get I1.kIn J T.ga T.gg T.exC (PySem.W.findObj_own T.hdC hno rfl (by rw [hl, hu])) (handed_of ru) ⟨v, H1, I1.tok _, ru, q⟩
/-- isinstance(e, c) -/
def rIsV (K : PySem.W.Frag) (C : Addr) : List V → Hp → VK → Prop := fun xs H Q => ∃ (a dx : Addr) (gs : List (Str × V)) (c : V) (cv : Value) (b : Bool), xs = [.ref a, c] ∧ H a = some (exo a C (some dx)) ∧ H dx = some (exd dx gs) ∧ (∀ u, RelV c u → u = cv) ∧ PySem.W.kitOne K (.ref C) cv = some b ∧ Q (.bl b) H
theorem call_isV (T : ExcC X.K C) : CallR X (.builtin "isinstance") (rIsV X.K C) := by
  intro pins s σ H xs us Q I r h
  obtain ⟨a, dx, gs, c, cv, b, rfl, ea, ed, hcv, e, q⟩ := h
  obtain ⟨u0, u1, rfl, rx, rt⟩ := vals2 r
  obtain rfl : u0 = Value.ref a := rx
  obtain rfl := hcv _ rt
  obtain ⟨ox, od, mA, J, _, _⟩ := exv_at I ea ed
  exact PySem.W.kia_one (exv_kit T) I.kIn J e (fun z => nomatch z) fun tk => ⟨.bl b, H, I.kept (t' := tk) fun _ _ z => z, rfl, q⟩
end
/-! ### made by their own __init__ -/
section
open PySem PySem.Spec PyProof.Rows L2
abbrev putF (fs : List Str) (ys : List V) : List (Str × V) := (fs.zip ys).reverse
abbrev putD (fs : List Str) (ds : List D) : List (Str × D) := (fs.zip ds).reverse
/-- an own __init__ that stores its params under fs -/
def spInit (C : Addr) (fs : List Str) : Sp := fun vs H Q _ => ∃ (a : Addr) (ys : List V), vs = .ref a :: ys ∧ ys.length = fs.length ∧ H a = some (exo a C none) ∧
  ∀ (dx : Addr) (H' : Hp), H dx = none → dx ≠ a → H' a = some (exo a C (some dx)) → H' dx = some (exd dx (putF fs ys)) → (∀ b, b ≠ a → b ≠ dx → H' b = H b) → Q .non H'
/-- what a caller has of such a class -/
structure MkE (P : Program) (w : World) (K : PySem.W.Frag) (mg : Str → Option Value) (base : Heap) (k : Nat) (x : Str) (C : Addr) (fs : List Str) : Prop where
  oc : OexC K C
  nn : fs ≠ []
  ex : ∃ (fI : Addr) (fd : FuncData) (ps : List Str), PySem.W.findIn K (.ref C) "__init__" = some (some (.ref fI)) ∧ PySem.W.typeIn K (.ref fI) = some (.type "function") ∧ FnOk P w K mg base (L2.CX P w) k fI fd ps (spInit C fs) ∧ Binds K fd ps []
  g : mg x = some (.ref C)
abbrev MkD (X : Cx) (k : Nat) (x : Str) (C : Addr) (fs : List Str) : Prop := MkE X.prog X.w X.K X.mg X.base k x C fs
theorem isF_zip {K : PySem.W.Frag} {H : Hp} : ∀ {fs : List Str} {ds : List D} {vs : List V}, IsL K H ds vs → IsF K H (fs.zip ds) (fs.zip vs)
  | [], _, _, _ => rfl
  | f :: fs, [], _, h => by
    rw [show _ = [] from h]
    exact rfl
  | f :: fs, d :: ds, _, h => by
    obtain ⟨v, r, h1, h2, h3⟩ := h
    rw [h1]
    exact ⟨v, _, rfl, h2, isF_zip h3⟩
theorem IsF.app {K : PySem.W.Frag} {H : Hp} : ∀ {ds es : List (Str × D)} {vs ws : List (Str × V)}, IsF K H ds vs → IsF K H es ws → IsF K H (ds ++ es) (vs ++ ws)
  | [], _, _, _, h, g => by rw [show _ = [] from h]; exact g
  | (k, d) :: ds, _, _, _, h, g => by
    obtain ⟨v, r, h1, h2, h3⟩ := h
    rw [h1]
    exact ⟨v, _, rfl, h2, IsF.app h3 g⟩
theorem IsF.rev {K : PySem.W.Frag} {H : Hp} : ∀ {ds : List (Str × D)} {vs : List (Str × V)}, IsF K H ds vs → IsF K H ds.reverse vs.reverse
  | [], _, h => by rw [show _ = [] from h]; exact rfl
  | (k, d) :: ds, _, h => by
    obtain ⟨v, r, h1, h2, h3⟩ := h
    rw [h1, List.reverse_cons, List.reverse_cons]
    exact IsF.app h3.rev ⟨v, _, rfl, h2, rfl⟩
theorem IsF.lookup {K : PySem.W.Frag} {H : Hp} {n : Str} {d : D} : ∀ {ds : List (Str × D)} {vs : List (Str × V)}, IsF K H ds vs → ds.lookup n = some d → ∃ v, vs.lookup n = some v ∧ Is K H d v
  | [], _, h, e => nomatch e
  | (k, x) :: ds, _, h, e => by
    obtain ⟨v, r, h1, h2, h3⟩ := h
    rw [h1]
    rw [List.lookup_cons] at e ⊢
    by_cases q : n == k
    · rw [q] at e ⊢
      cases e
      exact ⟨v, rfl, h2⟩
    · rw [Bool.eq_false_iff.mpr q] at e ⊢
      exact IsF.lookup h3 e
variable {X : Cx} {pins : List (Addr × Obj)} {σ : L2.St} {H1 : Hp} {k : Nat} {x : Str} {C : Addr} {fs : List Str}
theorem call_mk {s1 : Shared} {us : List Value} {vs : List V} {Q : Value → Shared → Prop} (M : MkD X k x C fs) (hr : Room (k + 1) X.A) (I1 : Inv X pins σ H1 s1) (r1 : Vals vs us) (hl : vs.length = fs.length) (hz : fs.length ≤ 1000)
    (h : ∀ (a dx : Addr) (H2 : Hp) (s' : Shared), H1 a = none → H1 dx = none → dx ≠ a → Inv X pins σ H2 s' → H2 a = some (exo a C (some dx)) → H2 dx = some (exd dx (putF fs vs)) → (∀ b, b ≠ a → b ≠ dx → H2 b = H1 b) → Q (.ref a) s') : wpAny (model X.prog X.w) X.A (call (.ref C) us) Q X.xe s1 := by
  obtain ⟨fI, fd, ps, iC, tI, F1, hb⟩ := M.ex
  obtain ⟨nm, q, N, bs, bm, sn, sub, ab, col, dd, k0, k1, k2, k3, k5, hC, hbm⟩ := M.oc.cls
  obtain ⟨hp, g, dr, tk, os⟩ := s1
  have hsz : hp.objs.size ≤ hp.objs.size + 1 := Nat.le_succ _
  have hn : H1 (hp.objs.size + 1) = none := I1.hok.fresh hsz
  have kk : ∀ b o, hp.get? b = some o → ((hp.push (PySem.W.kdv_tup us)).push (PySem.HandSPX.excO C hp.objs.size)).get? b = some o := fun b o e => Heap.get?_push_of_some _ (Heap.get?_push_of_some _ e)
  have hget : ((hp.push (PySem.W.kdv_tup us)).push (PySem.HandSPX.excO C hp.objs.size)).get? (hp.objs.size + 1) = some (PySem.HandSPX.excO C hp.objs.size) := by heap_get
  have I2 : Inv X pins σ (upd H1 (hp.objs.size + 1) (exo (hp.objs.size + 1) C none)) ⟨(hp.push (PySem.W.kdv_tup us)).push (PySem.HandSPX.excO C hp.objs.size), g, dr, tk, os⟩ :=
    I1.laid (t' := tk) (a := hp.objs.size + 1) (o := exo (hp.objs.size + 1) C none) (h' := (hp.push (PySem.W.kdv_tup us)).push (PySem.HandSPX.excO C hp.objs.size)) kk hsz (exo_ok hget)
  have hq : spInit C fs (.ref (hp.objs.size + 1) :: vs) (upd H1 (hp.objs.size + 1) (exo (hp.objs.size + 1) C none)) (fun v H2 => v = .non ∧ ∃ dx : Addr, H1 dx = none ∧ dx ≠ hp.objs.size + 1 ∧ H2 (hp.objs.size + 1) = some (exo (hp.objs.size + 1) C (some dx)) ∧ H2 dx = some (exd dx (putF fs vs)) ∧ ∀ b, b ≠ hp.objs.size + 1 → b ≠ dx → H2 b = H1 b) (fun _ _ _ => False) :=
    ⟨_, vs, rfl, hl, upd_same, fun dx H' e1 e2 e3 e4 e5 => ⟨rfl, dx, by rw [upd_ne e2] at e1; exact e1, e2, e3, e4, fun b n1 n2 => by rw [e5 b n1 n2, upd_ne n1]⟩⟩
  have r2 : Vals (V.ref (hp.objs.size + 1) :: vs) (Value.ref (hp.objs.size + 1) :: us) := .cons rfl r1
  have hlen : (Value.ref (hp.objs.size + 1) :: us).length = ps.length := by
    have e := r2.length
    rw [F1.len _ _ _ _ hq] at e
    exact e.symm
  have hus : us.length ≤ sizeLine := by
    rw [← Paired.length r1, sizeLine_eq]
    omega
  have hb2 := hb _ (Value.ref (hp.objs.size + 1) :: us) I2.kIn (by rw [List.append_nil]; exact hlen)
  rw [List.append_nil] at hb2
  refine wpAny_call (PySem.HandSPX.call_own F.excBase_ValueError (fun Y => PySem.HandSPX.refsVE_contains Y bm hbm) (I1.kIn _ _ hC) (PySem.W.looks_findIn I1.kIn iC) (fun self => PySem.W.bind_fn I1.kIn self tI) hus
    (codeAny_mono (F1.run _ X.stack _ _ ⟨Value.ref (hp.objs.size + 1) :: us, []⟩ (Value.ref (hp.objs.size + 1) :: us) _ _ (fun _ _ _ => False) (hr.make C us []) (I2.env0.make C us []) hb2 r2 hq) fun r s' hq' => ?_))
  cases r with
  | error er => exact passes_call wx_takes (E := fun _ _ _ => False) (fun _ _ _ _ z => z.elim) pins σ _ _ er s' I2 hq'
  | ok fl =>
    cases fl with
    | ret u =>
      obtain ⟨v, H2, os2, bare2, un2, hok2, rv, ev, dx, n1, n2, ea, ed, hk⟩ := hq'
      subst ev
      exact ⟨rv, h _ dx H2 _ hn n1 n2 (I2.call' (ch := []) os2 un2 hok2 bare2 fun b z => absurd z (by simp)) ea ed hk⟩
    | next => exact False.elim hq'
    | brk => exact False.elim hq'
    | cont => exact False.elim hq'
/-- C(e, ..) as a value -/
theorem ee_mk {e : Expr} {es : List Expr} {as : DE} {ds : List D} {p pos : Pos} (M : MkD X k x C fs) (hr : Room (k + 1) X.A) (hg : Gl X x) (hdb : (x == ("__debug__" : Str)) = false) (ha : EA X (e :: es) as ds) (hl : ds.length = fs.length) (hz : fs.length ≤ 1000)
    (he : starEach (e :: es) X.env = (false, eval e X.env) :: starEach es X.env := by rfl) (hpl : (backTo pos (starEach es X.env)).any (·.1) = false := by rfl) : EE X (.Call (.Name x p) (e :: es) [] pos) as (.exv C (putD fs ds)) := .mk fun σ H0 H hs hf Q q => by
  intro pins s I
  refine wpAny_Call_Name_kw (ld_glob I hg M.g ?_ hdb)
  refine PySem.W.callWith_K (h₀ := X.base) I.ok.mod.kin M.oc.kC (thn ((ra_pa (es := e :: es)).run pos pins s σ H (fun vs H' => ∃ H0', Grow H0 H H0' H' ∧ IsL X.K H0' ds vs) I (ha.run σ H0 H hs hf _ fun vs H1 H' g i => ⟨H1, g, i⟩)) fun us s1 ⟨vs, H1, I1, r1, H0', g, iv⟩ => ⟨I1.kIn, ?_⟩) he hpl
  show wpAny _ _ (call (.ref C) us) _ _ _
  refine call_mk M hr I1 r1 (by rw [iv.len]; exact hl) hz fun a dx H2 s' n1 n2 ne J ea ed hk => ?_
  have m1 : H0' a = none := g.sub.free n1
  have m2 : H0' dx = none := g.sub.free n2
  have sm : Same H0' (upd (upd H0' a (exo a C (some dx))) dx (exd dx (putF fs vs))) := (Same.new m1).trans (Same.new (by rw [upd_ne ne]; exact m2))
  refine ⟨.ref a, H2, J, rfl, q (.ref a) (upd (upd H0' a (exo a C (some dx))) dx (exd dx (putF fs vs))) H2 (g.trans ⟨sm, fun b o e => ?_, fun b o e => ?_, fun b z => ?_⟩) ⟨a, dx, _, rfl, ?_, upd_same, ?_⟩⟩
  · rw [hk b (ne_of_none e n1) (ne_of_none e n2)]
    exact e
  · by_cases h1 : b = dx
    · subst h1
      rw [upd_same] at e
      rw [ed]
      exact e
    · rw [upd_ne h1] at e
      by_cases h2 : b = a
      · subst h2
        rw [upd_same] at e
        rw [ea]
        exact e
      · rw [upd_ne h2] at e
        rw [hk b h2 h1]
        exact g.sub b o e
  · by_cases h1 : b = dx
    · rw [h1]; exact .inr n2
    · rw [upd_ne h1] at z
      by_cases h2 : b = a
      · rw [h2]; exact .inr n1
      · rw [upd_ne h2] at z
        exact .inl z
  · rw [upd_ne (Ne.symm ne), upd_same]
  · exact (isF_zip (iv.mono sm)).rev
/-- e.f, e an exception held as a value -/
theorem ee_xv {e : Expr} {as : DE} {n : Str} {d : D} {ms : List (Str × D)} {pos : Pos} (T : XfC X.K C) (hno : PySem.W.findIn X.K (.ref C) n = some none) (he : EE X e as (.exv C ms)) (hl : ms.lookup n = some d) (hb : attributeBase e n X.env (eval e X.env) = eval e X.env := by rfl) : EE X (.Attribute e n pos) as d := .mk fun σ H0 H hs hf Q q =>
  re_of (pe_xv T hno re_pe hb) (he.run σ H0 H hs hf _ fun v H1 H' g i => by
    obtain ⟨a, dx, gs, e1, e2, e3, e4⟩ := i
    obtain ⟨v', h1, h2⟩ := e4.lookup hl
    exact ⟨a, dx, gs, v', e1, g.sub _ _ e2, g.sub _ _ e3, h1, q _ _ _ g h2⟩)
theorem ca_isV {M : Addr} {b : Bool} {ms : List (Str × D)} (T : ExcC X.K C) (hk : PySem.W.kitOne X.K (.ref C) (.ref M) = some b) : CaD X (.builtin "isinstance") [.exv C ms, .cls M] (.bl b) := .flat (call_isV T) (fun _ => rfl) fun vs H h Q q => by
  obtain ⟨v, w, e, h1, h2⟩ := is2 h
  obtain ⟨a, dx, gs, e1, e2, e3, e4⟩ := h1
  rw [e1, show w = _ from h2] at e
  exact ⟨a, dx, gs, .ref M, .ref M, b, e, e2, e3, fun u r => r, hk, q⟩
end
end Mw
set_option maxHeartbeats 4000000
/-! own __init__s of exceptions; such exceptions raised -/
namespace Mw
open PySem PySem.Spec PyProof.Rows L2
/-- an own base class of exceptions, without own __init__ -/
structure BaseI (K : PySem.W.Frag) (mg : Str → Option Value) (n : Str) (M : Addr) : Prop where
  g : mg n = some (.ref M)
  ex : ∃ mc, ClX.CRead K M mc ∧ PySem.W.findCls K (.ref M) mc "__init__" = some (.val (.builtin "ValueError.__init__"))
section
variable {X : Cx} {N L gs : List Str} {k : Nat} {sc : Scope} {σ : L2.St} {H : Hp} {E : Ends} {a C M dx : Addr} {y : V} {f n : Str} {i j : Nat} {e : Expr} {es : List Expr} {ta : TA} {p p' p1 p2 p3 pos pos' : Pos} {st : Stmt} {sts : List Stmt}
theorem pe_meinit {pl : Sem Bool} {mc : Value} (hg : Gl X n) (hm : X.mg n = some (.ref M)) (hdb : (n == ("__debug__" : Str)) = false) (r : ClX.CRead X.K M mc) (vV : PySem.W.findCls X.K (.ref M) mc "__init__" = some (.val (.builtin "ValueError.__init__"))) (ha : PA X (e :: es) ta)
    (hc : eval (.Call (.Attribute (.Name n p1) "__init__" p2) (e :: es) [] pos) X.env = (do
      let ov ← eval (.Name n p1) X.env
      standAt p2.atName
      let (f, first) ← holding [ov] (getMethod ov "__init__" pl)
      callWith pos f first (backTo pos (starEach (e :: es) X.env)) (backToKw pos (keywordEach [] X.env))) := by rfl)
    (he : starEach (e :: es) X.env = (false, eval e X.env) :: starEach es X.env := by rfl) (hpl : (backTo pos (starEach es X.env)).any (·.1) = false := by rfl) :
    PE X (.Call (.Attribute (.Name n p1) "__init__" p2) (e :: es) [] pos) (tVeI X.K ta) := by
  refine ⟨fun pins s σ H Q I h => ?_⟩
  refine PySem.W.methodCall_KW (ld_glob I hg hm ?_ hdb) hc
  refine PySem.W.method_cls I.kIn r.ga (PySem.W.cls_value I.kIn r.rd vV (by decide +kernel) ?_)
  show wpAny _ _ (callWith pos (Value.builtin "ValueError.__init__") [] (backTo pos (starEach (e :: es) X.env)) []) _ _ _
  refine PyProof.Rows.callWith_method1 (thn (ha.run pos pins _ σ H _ (I.tok _) h) fun us s1 ⟨vs, H1, I1, r1, a, C, ws, ev, hl, T, ea, q⟩ => ?_) he hpl
  subst ev
  obtain ⟨u0, ur, rfl, ra, rw'⟩ : ∃ u0 ur, us = u0 :: ur ∧ RelV (.ref a) u0 ∧ Vals ws ur := by cases r1; exact ⟨_, _, rfl, ‹_›, ‹_›⟩
  obtain rfl : u0 = Value.ref a := ra
  exact oinit_ok T I1 ea (by rw [← Paired.length rw', sizeLine_eq]; omega) fun s' J => ⟨.non, H1, J, rfl, q⟩
theorem rs_then (h : rs X st { E with nx := fun σ' H' => rss X sts E σ' H' } σ H) : rss X (st :: sts) E σ H := rss_of (pss_cons rs_ps rss_pss) h
theorem rs_last (h : rs X st E σ H) : rss X [st] E σ H := rss_of (pss_one rs_ps) h
/-- B.__init__(self, 'm') -/
theorem st_meinit {m g0 : Str} {z : Nat} (B : Body X N L gs k sc) (hb : BaseI X.K X.mg n M) (hn : At gs n j) (h0 : At L g0 0) (T : OexC X.K C) (hs : σ[0]? = some (some (.ref a))) (ha : H a = some (exo a C none)) (q : E.nx σ H)
    (hw : swapsWith (.Call (.Attribute (.Name n p1) "__init__" p2) [.Name g0 p, .Constant (.str m) z p'] [] pos) none pos'.line X.env = pure false := by rfl)
    (he : starEach [.Name g0 p, .Constant (.str m) z p'] X.env = (false, eval (.Name g0 p) X.env) :: starEach [.Constant (.str m) z p'] X.env := by rfl) (he2 : starEach [.Constant (.str m) z p'] X.env = (false, eval (.Constant (.str m) z p') X.env) :: starEach [] X.env := by rfl)
    (hpl : (backTo pos (starEach [.Constant (.str m) z p'] X.env)).any (·.1) = false := by rfl) {pl : Sem Bool}
    (hc : eval (.Call (.Attribute (.Name n p1) "__init__" p2) [.Name g0 p, .Constant (.str m) z p'] [] pos) X.env = (do
      let ov ← eval (.Name n p1) X.env
      standAt p2.atName
      let (f, first) ← holding [ov] (getMethod ov "__init__" pl)
      callWith pos f first (backTo pos (starEach [.Name g0 p, .Constant (.str m) z p'] X.env)) (backToKw pos (keywordEach [] X.env))) := by rfl) :
    rs X (.Expr (.Call (.Attribute (.Name n p1) "__init__" p2) [.Name g0 p, .Constant (.str m) z p'] [] pos) pos') E σ H := by
  obtain ⟨mc, r, vV⟩ := hb.ex
  obtain ⟨g1, g2, _⟩ := B.gls hn
  obtain ⟨a1, a2, a3, a4⟩ := B.locs h0
  refine rs_of (ps_expr (pe_meinit g1 hb.g g2 r vV (pa_cons (pe_var a1 (loc_vis a2) a3 a4) (pa_cons pe_str pa_nil he2) he) hc he hpl) hw) ?_
  exact ⟨.ref a, hs, a, C, [.str m], rfl, (show 1 ≤ 1000 by decide), T, ha, q⟩
/-- self.f = v, the first one -/
theorem st_first {g q : Str} (B : Body X N L gs k sc) (h0 : At L q 0) (hi : At L g i) (T : OexC X.K C) (hf : PySem.W.findIn X.K (.ref C) f = some none) (hs : σ[0]? = some (some (.ref a))) (hy : σ[i]? = some (some y)) (ha : H a = some (exo a C none))
    (nx : ∀ dx, H dx = none → dx ≠ a → E.nx σ (upd (upd H dx (exd dx [(f, y)])) a (exo a C (some dx)))) (hw : swapsWith (.Name g p) (some (.Attribute (.Name q p1) f p')) pos.line X.env = pure false := by rfl) : rs X (.Assign [.Attribute (.Name q p1) f p'] (.Name g p) pos) E σ H := by
  obtain ⟨a1, a2, a3, a4⟩ := B.locs h0
  obtain ⟨b1, b2, b3, b4⟩ := B.locs hi
  refine rs_of (ps_ost (pe_var a1 (loc_vis a2) a3 a4) (pe_var b1 (loc_vis b2) b3 b4) hw) ?_
  exact ⟨y, hy, .ref a, hs, a, C, rfl, T, hf, .inl ⟨ha, nx⟩⟩
/-- .. a further one -/
theorem st_more {g q : Str} {ms : List (Str × V)} (B : Body X N L gs k sc) (h0 : At L q 0) (hi : At L g i) (T : OexC X.K C) (hf : PySem.W.findIn X.K (.ref C) f = some none) (hs : σ[0]? = some (some (.ref a))) (hy : σ[i]? = some (some y)) (ha : H a = some (exo a C (some dx))) (hd : H dx = some (exd dx ms)) (hl : ms.length ≤ 900)
    (nx : E.nx σ (upd H dx (exd dx ((f, y) :: ms)))) (hw : swapsWith (.Name g p) (some (.Attribute (.Name q p1) f p')) pos.line X.env = pure false := by rfl) : rs X (.Assign [.Attribute (.Name q p1) f p'] (.Name g p) pos) E σ H := by
  obtain ⟨a1, a2, a3, a4⟩ := B.locs h0
  obtain ⟨b1, b2, b3, b4⟩ := B.locs hi
  refine rs_of (ps_ost (pe_var a1 (loc_vis a2) a3 a4) (pe_var b1 (loc_vis b2) b3 b4) hw) ?_
  exact ⟨y, hy, .ref a, hs, a, C, rfl, T, hf, .inr ⟨dx, ms, ha, hd, hl, nx⟩⟩
end
section
variable {P : Program} {w : World} {K : PySem.W.Frag} {mg : Str → Option Value} {base : Heap}
theorem fn_okI {x qual : Str} {st : Stmt} {f C : Addr} {fd : FuncData} {N L ps gs fs : List Str} {k : Nat} (F : Fun K x qual st f fd) (W : BodyOk N L ps gs (defScope st)) (len : ps.length = fs.length + 1)
    (body : ∀ X : Cx, X.prog = P → X.w = w → X.K = K → X.mg = mg → X.base = base → Body X N L gs k (defScope st) → ∀ (a : Addr) (ys : List V) (H : Hp) (Q : VK), ys.length = fs.length → H a = some (exo a C none) →
      (∀ (dx : Addr) (H' : Hp), H dx = none → dx ≠ a → H' a = some (exo a C (some dx)) → H' dx = some (exd dx (putF fs ys)) → (∀ b, b ≠ a → b ≠ dx → H' b = H b) → Q .non H') →
      rss X (defBody st) { nx := fun _ H' => Q .non H', rt := Q } (L2.start N (.ref a :: ys)) H) : FnOk P w K mg base (L2.CX P w) (k + 1) f fd ps (spInit C fs) := by
  refine F.okX W.fs (fun vs H Q E h => ?_) (fun cdv A outer s H vs Q E hr h => ?_)
  · obtain ⟨a, ys, rfl, h1, _⟩ := h
    rw [List.length_cons, h1, len]
  · obtain ⟨a, ys, rfl, h1, h2, h3⟩ := h
    have BX : Body (cxOf (L2.CX P w) P w K mg base N qual (defScope st) f cdv A outer s H E) N L gs k (defScope st) := ⟨rfl, rfl, W.fs.nd, W.pre, W.loc, W.gl, W.fs.kind, W.fs.nofree, fun _ => rfl, hr, rfl, passes_of rfl, rfl, rfl⟩
    exact ⟨_, rss_pss, body _ rfl rfl rfl rfl rfl BX a ys H Q h1 h2 h3⟩
end
/-! ### raise C(e, ..) -/
section
variable {X : Cx} {N L gs : List Str} {k k' : Nat} {sc : Scope} {C : Addr} {n : Str} {j : Nat} {fs : List Str} {e : Expr} {es : List Expr} {as : AS} {ds : List D} {F : Fin} {Gs G : Hp} {p pos pos' : Pos}
theorem t_raiseF (B : Body X N L gs k sc) (M : MkD X k' n C fs) (hn : At gs n j) (hr : Room (k' + 1) X.A) (ha : EA X (e :: es) (vis as) ds) (hl : ds.length = fs.length) (hz : fs.length ≤ 1000) (q : F.ex ⟨C, putD fs ds⟩ (frz as))
    (he : starEach (e :: es) X.env = (false, eval e X.env) :: starEach es X.env := by rfl) (hpl : (backTo pos (starEach es X.env)).any (·.1) = false := by rfl) : S1 X Gs G (.Raise (some (.Call (.Name n p) (e :: es) [] pos)) none pos') as F := by
  obtain ⟨g1, g2, _⟩ := B.gls hn
  obtain ⟨fI, fd, ps, iC, tI, F1, hb⟩ := M.ex
  refine s1_frz ⟨fun σ H H0 S E ok => ?_⟩
  refine rs_of (ps_raise B.calm wx_takes (pmk_oex (dvs := []) M.oc iC tI F1 hr hb .nil (passes_call wx_takes (E := fun _ _ _ => False) (fun _ _ _ _ z => z.elim)) g1 M.g ra_pa g2 he hpl)) ?_
  have sf := S.hid
  rw [vis_frz] at sf
  refine ha.run σ H0 H S.grow.sub sf _ fun vs H1 H' g iv => ?_
  have hlv : vs.length = fs.length := by rw [iv.len]; exact hl
  refine ⟨by omega, fun a na => ?_⟩
  rw [List.append_nil]
  refine ⟨a, vs, rfl, hlv, upd_same, fun dx H2 n1 ne ea ed hk => ⟨rfl, dx, _, ea, ed, by rw [upd_ne ne] at n1; exact n1, ?_⟩⟩
  rw [upd_ne ne] at n1
  have eq : upd (L2.del H2 a) dx (.xd (putF fs vs)) = upd H' dx (.xd (putF fs vs)) := by
    funext b
    by_cases h1 : b = dx
    · rw [h1, upd_same, upd_same]
    · rw [upd_ne h1, upd_ne h1]
      by_cases h2 : b = a
      · rw [h2, L2.del_same, na]
      · rw [L2.del_ne h2, hk b h2 h1, upd_ne h2]
  rw [eq]
  have g2' := g.trans (Grow.laid (o := .xd (putF fs vs)) g.sub n1)
  have nn : putD fs ds ≠ [] := by
    intro z
    have z1 : (fs.zip ds).length = 0 := by rw [← List.length_reverse]; exact congrArg List.length z
    rw [List.length_zip, hl, Nat.min_self] at z1
    exact M.nn (List.length_eq_zero_iff.mp z1)
  exact ok.ex (.ref C) (some dx) σ _ ⟨C, putD fs ds⟩ _ _ g2'.frz (S.more g2') ⟨rfl, .inr ⟨nn, dx, putF fs vs, rfl, upd_same, (isF_zip (iv.mono (Same.new (g.sub.free n1)))).rev⟩⟩ q
end
section
variable {X : Cx} {gs : List Str} {k' : Nat} {C : Addr} {n : Str} {j : Nat} {fs : List Str} {e : Expr} {es : List Expr} {as : DE} {ds : List D} {p pos : Pos} {d : D} {ms : List (Str × D)}
theorem e_mk (B : Gls X gs) (M : MkD X k' n C fs) (h : At gs n j) (hr : Room (k' + 1) X.A) (ha : EA X (e :: es) as ds) (hl : ds.length = fs.length) (hz : fs.length ≤ 1000)
    (he : starEach (e :: es) X.env = (false, eval e X.env) :: starEach es X.env := by rfl) (hpl : (backTo pos (starEach es X.env)).any (·.1) = false := by rfl) : EE X (.Call (.Name n p) (e :: es) [] pos) as (.exv C (putD fs ds)) :=
  let ⟨g1, g2, _⟩ := B.at_ _ _ h
  ee_mk M hr g1 g2 ha hl hz he hpl
/-- what is asked of a class whose instances' fields are read -/
structure XvC (K : PySem.W.Frag) (C : Addr) : Prop where
  x : XfC K C
  e : ExcC K C
abbrev NoAt (K : PySem.W.Frag) (C : Addr) (n : Str) : Prop := PySem.W.findIn K (.ref C) n = some none
theorem e_xv (he : EE X e as (.exv C ms)) (T : XvC X.K C) (hno : NoAt X.K C n) (hl : ms.lookup n = some d) (hb : attributeBase e n X.env (eval e X.env) = eval e X.env := by rfl) : EE X (.Attribute e n pos) as d := ee_xv T.x hno he hl hb
end
end Mw
set_option maxHeartbeats 4000000
/-! objects without fields or with frozen ones: made, their methods, isinstance -/
namespace Mw
open PySem PySem.Spec PyProof.Rows L2
/-- what a caller has of a method of the class at C -/
structure MetE (P : Program) (w : World) (K : PySem.W.Frag) (mg : Str → Option Value) (base : Heap) (k : Nat) (C : Addr) (m : Str) (dds : List D) (S : FS) : Prop where
  c : Cls K C
  ex : ∃ (f : Addr) (fd : FuncData) (ps : List Str) (dvs : List V) (dus : List Value), Meth K C m f ∧ FnOk P w K mg base (L2.CX P w) k f fd ps (spOf K S) ∧ Binds K fd ps dus ∧ Dflt K dds dvs dus
abbrev MetD (X : Cx) (k : Nat) (C : Addr) (m : Str) (dds : List D) (S : FS) : Prop := MetE X.prog X.w X.K X.mg X.base k C m dds S
/-- a class without own __init__ -/
structure New0 (K : PySem.W.Frag) (mg : Str → Option Value) (x : Str) (C : Addr) : Prop where
  makes : PySem.W.makesIn K C = true
  init : PySem.W.findIn K (.ref C) "__init__" = some (some (.builtin "object.__init__"))
  kp : PySem.W.keepIn K (.ref C) = true
  top : PySem.W.mroIn K C (.type "object") = some true
  g : mg x = some (.ref C)
/-- an instance's class, for isinstance -/
structure InsE (K : PySem.W.Frag) (C : Addr) : Prop where
  c : Cls K C
  ha : PySem.W.findIn K (.ref C) "__class__" = some (some (.builtin "object.__class__"))
  hn : PySem.W.specialIn K (.builtin "object.__class__") "__get__" = some (some (.builtin "getset_descriptor.__get__"))
  ht : PySem.W.takesIn K (.builtin "object.__class__") = some true
  hm : PySem.W.mroIn K C (.type "object") = some true
section
variable {X : Cx} {gs : List Str} {k k' : Nat} {C : Addr} {m x : Str} {dds : List D} {S : FS} {fs : List (Str × D)} {o e : Expr} {es : List Expr} {as : DE} {ds : List D} {d : D} {apos pos p : Pos} {to : TE} {ta : TA} {sp : Sp} {f : Addr} {fd : FuncData} {ps : List Str} {dvs : List V} {dus : List Value} {E : L2.St → XK} {j : Nat}
def tMethD (C : Addr) (m : Str) (sp : Sp) (dvs : List V) (E : L2.St → XK) (ta : TE) (t : TA) : TE := fun σ H Q => ta σ H fun x H1 => ∃ a dx fs, x = .ref a ∧ H1 a = some (.ins C dx fs) ∧ fs.lookup m = none ∧
  t σ H1 fun vs H2 => sp (x :: (vs ++ dvs)) H2 Q (E σ)
theorem pe_methD {pl : Sem Bool} {CX : CXT} (he : PE X o to) (c : Cls X.K C) (hm : Meth X.K C m f) (F : FnOk X.prog X.w X.K X.mg X.base CX k f fd ps sp) (hr : Room k X.A) (hb : Binds X.K fd ps dus) (hd : Vals dvs dus) (hx : ∀ σ, PassesAt CX X σ (E σ)) (ha : PA X (e :: es) ta)
    (hst : starEach (e :: es) X.env = (false, eval e X.env) :: starEach es X.env := by rfl) (hpl : (backTo pos (starEach es X.env)).any (·.1) = false := by rfl)
    (ht : eval (.Call (.Attribute o m apos) (e :: es) [] pos) X.env = (do
      let ov ← eval o X.env
      standAt apos.atName
      let (f, first) ← holding [ov] (getMethod ov m pl)
      callWith pos f first (backTo pos (starEach (e :: es) X.env)) (backToKw pos (keywordEach [] X.env))) := by rfl) : PE X (.Call (.Attribute o m apos) (e :: es) [] pos) (tMethD C m sp dvs E to ta) := by
  refine ⟨fun pins s σ H Q I h => ?_⟩
  refine PySem.W.methodCall_KW (pl := pl) (thn (he.run pins s σ H _ I h) fun u s1 ⟨x, H1, I1, rx, a, dx, fs, ex, ea, l, q⟩ => ?_) ht
  subst ex
  obtain rfl : u = Value.ref a := rx
  refine getmeth_ok I1 ea c hm l ?_
  refine PySem.W.callWith_K (first := [.ref a]) (h₀ := X.base) I.ok.mod.kin hm.kp (thn (ha.run pos pins s1 σ H1 _ I1 q) fun us s2 ⟨vs, H2, I2, r, q2⟩ => ⟨I2.kIn, ?_⟩) hst hpl
  exact run_fnD (us := .ref a :: us) (vs := .ref a :: vs) F hr hb hd (hx σ) I2 (.cons rfl r) q2
theorem isF_none {K : PySem.W.Frag} {H : Hp} {n : Str} : ∀ {ds : List (Str × D)} {vs : List (Str × V)}, IsF K H ds vs → ds.lookup n = none → vs.lookup n = none
  | [], _, h, _ => by rw [show _ = [] from h]; rfl
  | (k, x) :: ds, _, h, e => by
    obtain ⟨v, r, h1, h2, h3⟩ := h
    rw [h1]
    rw [List.lookup_cons] at e ⊢
    by_cases q : n == k
    · rw [q] at e; cases e
    · rw [Bool.eq_false_iff.mpr q] at e ⊢
      exact isF_none h3 e
/-- o.m(e, ..) -/
theorem ee_meth {pl : Sem Bool} (M : MetD X k C m dds S) (ho : EE X o as (.obj C fs)) (hl : fs.lookup m = none) (ha : EA X (e :: es) as ds) (hS : S (.obj C fs :: (ds ++ dds)) (.ok d)) (hr : Room k X.A)
    (hst : starEach (e :: es) X.env = (false, eval e X.env) :: starEach es X.env := by rfl) (hpl : (backTo pos (starEach es X.env)).any (·.1) = false := by rfl)
    (ht : eval (.Call (.Attribute o m apos) (e :: es) [] pos) X.env = (do
      let ov ← eval o X.env
      standAt apos.atName
      let (f, first) ← holding [ov] (getMethod ov m pl)
      callWith pos f first (backTo pos (starEach (e :: es) X.env)) (backToKw pos (keywordEach [] X.env))) := by rfl) : EE X (.Call (.Attribute o m apos) (e :: es) [] pos) as d := .mk fun σ H0 H hs hf Q q => by
  obtain ⟨f, fd, ps, dvs, dus, hm, F, hb, hd⟩ := M.ex
  refine re_of (pe_methD (pl := pl) (E := WE (wx X)) re_pe M.c hm F hr hb hd.vals (fun σ => passAt wx_takes σ) ra_pa hst hpl ht) ?_
  refine ho.run σ H0 H hs hf _ fun v H1 H' g i => ?_
  obtain ⟨a, dx, gs, h1, h2, h3⟩ := i
  refine ⟨a, dx, gs, h1, g.sub _ _ h2, isF_none h3 hl, ?_⟩
  refine ha.run σ H1 H' g.sub (hf.mono g.frz) _ fun vs H2 H'' g' i' => ?_
  exact ⟨H2, .obj C fs :: (ds ++ dds), .ok d, g'.sub, IsL.cons (Is.mono g'.frz ⟨a, dx, gs, h1, h2, h3⟩) (i'.app (hd.is H2)), hS, fun v _ _ g'' i'' => q v _ _ ((g.trans g').trans g'') i''⟩
theorem ex_meth {pl : Sem Bool} {xn : Exn} (M : MetD X k C m dds S) (ho : EE X o as (.obj C fs)) (hl : fs.lookup m = none) (ha : EA X (e :: es) as ds) (hS : S (.obj C fs :: (ds ++ dds)) (.error xn)) (hr : Room k X.A)
    (hst : starEach (e :: es) X.env = (false, eval e X.env) :: starEach es X.env := by rfl) (hpl : (backTo pos (starEach es X.env)).any (·.1) = false := by rfl)
    (ht : eval (.Call (.Attribute o m apos) (e :: es) [] pos) X.env = (do
      let ov ← eval o X.env
      standAt apos.atName
      let (f, first) ← holding [ov] (getMethod ov m pl)
      callWith pos f first (backTo pos (starEach (e :: es) X.env)) (backToKw pos (keywordEach [] X.env))) := by rfl) : EX X (.Call (.Attribute o m apos) (e :: es) [] pos) as xn := .mk fun σ H0 H hs hf Q q => by
  obtain ⟨f, fd, ps, dvs, dus, hm, F, hb, hd⟩ := M.ex
  refine re_of (pe_methD (pl := pl) (E := WE (wx X)) re_pe M.c hm F hr hb hd.vals (fun σ => passAt wx_takes σ) ra_pa hst hpl ht) ?_
  refine ho.run σ H0 H hs hf _ fun v H1 H' g i => ?_
  obtain ⟨a, dx, gs, h1, h2, h3⟩ := i
  refine ⟨a, dx, gs, h1, g.sub _ _ h2, isF_none h3 hl, ?_⟩
  refine ha.run σ H1 H' g.sub (hf.mono g.frz) _ fun vs H2 H'' g' i' => ?_
  exact ⟨H2, .obj C fs :: (ds ++ dds), .error xn, g'.sub, IsL.cons (Is.mono g'.frz ⟨a, dx, gs, h1, h2, h3⟩) (i'.app (hd.is H2)), hS, fun c dd _ _ g'' i'' => q c dd _ _ ((g.trans g').trans g'') i''⟩
/-- C() where there is no __init__ but object's -/
theorem pe_new00 (N : New0 X.K X.mg x C) (hg : Gl X x) (hdb : (x == ("__debug__" : Str)) = false) : PE X (.Call (.Name x p) [] [] pos) (fun _ H Q => ∀ a dx, H a = none → H dx = none → dx ≠ a → Q (.ref a) (upd (upd H dx (.own a)) a (.ins C dx []))) := by
  refine ⟨fun pins s σ H Q I h => ?_⟩
  refine wpAny_Call_Name_kw (ld_glob I hg N.g ?_ hdb)
  refine PySem.W.callWith_K0 I.kIn N.kp ?_
  have hq := h (s.heap.objs.size + 1) s.heap.objs.size (I.hok.fresh (Nat.le_succ _)) (I.hok.fresh (Nat.le_refl _)) (Nat.ne_of_lt (Nat.lt_succ_self _))
  have I2 := Inv.made (C := C) I
  refine wpAny_call (make_map0 I.kIn N.makes N.init (fun self => PySem.W.Looks.of_pure (PySem.W.oi_bind self)) ?_)
  have hget : ((s.heap.push PySem.W.emptyDict).push (PySem.W.instObj C s.heap.objs.size)).get? (s.heap.objs.size + 1) = some (PySem.W.instObj C s.heap.objs.size) := by heap_get
  have t1 : PySem.W.Looks (model X.prog X.w) ((s.heap.push PySem.W.emptyDict).push (PySem.W.instObj C s.heap.objs.size)) (typeOf (.ref (s.heap.objs.size + 1))) (.ref C) := (PySem.W.Looks.ld hget).andThen .now
  have top : PySem.W.Looks (model X.prog X.w) ((s.heap.push PySem.W.emptyDict).push (PySem.W.instObj C s.heap.objs.size)) (isSubtype (.ref C) (.type "object")) true := PySem.W.looks_mroIn (I2.kIn) N.top
  refine codeAny_call_builtin PySem.W.oi_plain PySem.W.entry_oi (@PySem.W.check_slot (model X.prog X.w) _ _ _ "object.__init__" "object" "__init__" (.ref (s.heap.objs.size + 1)) [] [] _ PySem.W.oi_kind PySem.W.oi_split (t1.andThen top) (PySem.W.oi_args (.ref (s.heap.objs.size + 1))) ?_)
  rw [PySem.W.oi_run]
  exact wpAny_pure (And.intro rfl ⟨V.ref (s.heap.objs.size + 1), _, I2, rfl, hq⟩)
theorem ee_new00 (N : New0 X.K X.mg x C) (hg : Gl X x) (hdb : (x == ("__debug__" : Str)) = false) : EE X (.Call (.Name x p) [] [] pos) as (.obj C []) := .mk fun σ H0 H hs hf Q q =>
  re_of (pe_new00 N hg hdb) fun a dx n1 n2 ne => by
    have m1 : H0 a = none := hs.free n1
    have m2 : H0 dx = none := hs.free n2
    refine q (.ref a) (upd (upd H0 dx (.own a)) a (.ins C dx [])) _ ⟨(Same.new m2).trans (Same.new (by rw [upd_ne (Ne.symm ne)]; exact m1)), (Same.new n2).trans (Same.new (by rw [upd_ne (Ne.symm ne)]; exact n1)), fun b o e => ?_, fun b z => ?_⟩ ⟨a, dx, [], rfl, upd_same, rfl⟩
    · by_cases h1 : b = a
      · rw [h1, upd_same] at e ⊢
        exact e
      · rw [upd_ne h1] at e ⊢
        by_cases h2 : b = dx
        · rw [h2, upd_same] at e ⊢
          exact e
        · rw [upd_ne h2] at e ⊢
          exact hs b o e
    · by_cases h1 : b = a
      · rw [h1]; exact .inr n1
      · rw [upd_ne h1] at z
        by_cases h2 : b = dx
        · rw [h2]; exact .inr n2
        · rw [upd_ne h2] at z
          exact .inl z
theorem e_new0 (B : Gls X gs) (N : New0 X.K X.mg x C) (h : At gs x j) : EE X (.Call (.Name x p) [] [] pos) as (.obj C []) :=
  let ⟨g1, g2, _⟩ := B.at_ _ _ h
  ee_new00 N g1 g2
/-- isinstance(o, M) of an instance -/
theorem ca_isO {M : Addr} {b : Bool} (T : InsE X.K C) (hk : PySem.W.kitOne X.K (.ref C) (.ref M) = some b) : CaD X (.builtin "isinstance") [.obj C fs, .cls M] (.bl b) := .flat call_isi (fun _ => rfl) fun vs H h Q q => by
  obtain ⟨v, w, e, h1, h2⟩ := is2 h
  obtain ⟨a, dx, gs, e1, e2, e3⟩ := h1
  rw [e1, show w = _ from h2] at e
  exact ⟨.ref a, .ref M, _, _, b, e, .own M, .base (.ins e2 T.c T.ha T.hn T.ht T.hm), hk, q⟩
theorem ca_isOT {T' : String} {b : Bool} (T : InsE X.K C) (hk : PySem.W.kitOne X.K (.ref C) (.type T') = some b) (hc : ClsV (.ty T') (.type T')) : CaD X (.builtin "isinstance") [.obj C fs, .ty T'] (.bl b) := .flat call_isi (fun _ => rfl) fun vs H h Q q => by
  obtain ⟨v, w, e, h1, h2⟩ := is2 h
  obtain ⟨a, dx, gs, e1, e2, e3⟩ := h1
  rw [e1, show w = _ from h2] at e
  exact ⟨.ref a, .ty T', _, _, b, e, hc, .base (.ins e2 T.c T.ha T.hn T.ht T.hm), hk, q⟩
end
end Mw
set_option maxHeartbeats 4000000
/-! slices, text * int, methods of texts and lists -/
namespace Mw
open PySem PySem.Spec PyProof.Rows L2
/-! ### slices -/
def ro (X : Cx) (e : Option Expr) : TO := fun σ H Q => ∀ (pins : List (Addr × Obj)) (s : Shared), Inv X pins σ H s → wpAny (model X.prog X.w) X.A (evalPart e X.env) (fun u s' => ∃ o H', Inv X pins σ H' s' ∧ IsPart u o ∧ Q o H') X.xe s
theorem ro_po {X : Cx} {e : Option Expr} : PO X e (ro X e) := ⟨fun pins s σ H Q I h => h pins s I⟩
theorem ro_of {X : Cx} {e : Option Expr} {t : TO} {σ : L2.St} {H : Hp} {Q : Option Int → Hp → Prop} (h : PO X e t) (q : t σ H Q) : ro X e σ H Q := fun pins s I => h.run pins s σ H Q I q
/-- a slice's part -/
structure EO (X : Cx) (o : Option Expr) (as : DE) (i : Option Int) : Prop where
  run : ∀ (σ : L2.St) (H0 H : Hp), Same H0 H → SlF X.K H0 σ as → ∀ Q : Option Int → Hp → Prop, (∀ H0' H', Grow H0 H H0' H' → Q i H') → ro X o σ H Q
section
variable {X : Cx} {as : DE} {e : Expr} {lo hi : Option Expr} {i j : Option Int} {p2 pos : Pos} {z : Str} {ds : List D}
theorem eo_none : EO X none as none := .mk fun σ H0 H hs hf Q q => ro_of po_none (q H0 H (Grow.refl hs))
theorem eo_some {n : Int} (h : EE X e as (.int n)) : EO X (some e) as (some n) := .mk fun σ H0 H hs hf Q q => ro_of (po_some re_pe) (h.run σ H0 H hs hf _ fun v H1 H' g iv => ⟨n, iv, q _ _ g⟩)
theorem ee_slS (he : EE X e as (.str z)) (hl : EO X lo as i) (hu : EO X hi as j) (hz : z.length ≤ sizeLine) : EE X (.Subscript e (.Slice lo hi none p2) pos) as (.str (cutS z i j)) := .mk fun σ H0 H hs hf Q q => by
  refine re_of (pe_slice sl_str re_pe ro_po ro_po) ?_
  refine he.run σ H0 H hs hf _ fun v H1 H' g iv => hl.run σ H1 H' g.sub (hf.mono g.frz) _ fun H2 H'' g' => hu.run σ H2 H'' g'.sub (hf.mono (g.frz.trans g'.frz)) _ fun H3 H3' g'' => ?_
  exact ⟨z, iv, hz, q _ _ _ ((g.trans g').trans g'') rfl⟩
def cutD (ds : List D) (lo hi : Option Int) : List D := (ds.drop (HT.sIx ds.length 0 lo)).take (HT.sIx ds.length ds.length hi - HT.sIx ds.length 0 lo)
theorem IsL.cut {K : PySem.W.Frag} {H : Hp} {vs : List V} (h : IsL K H ds vs) (i j : Option Int) : IsL K H (cutD ds i j) (cutV vs i j) := by
  unfold cutD cutV
  rw [h.len]
  exact (h.drop _).take _
theorem en_slL (he : EE X e as (.lst ds)) (hl : EO X lo as i) (hu : EO X hi as j) : EN X (.Subscript e (.Slice lo hi none p2) pos) as (.lst (cutD ds i j)) := .mk fun σ H0 H hs hf Q q => by
  refine re_of (pe_slice sl_list re_pe ro_po ro_po) ?_
  refine he.run σ H0 H hs hf _ fun v H1 H' g iv => hl.run σ H1 H' g.sub (hf.mono g.frz) _ fun H2 H'' g' => hu.run σ H2 H'' g'.sub (hf.mono (g.frz.trans g'.frz)) _ fun H3 H3' g'' => ?_
  obtain ⟨a, vs, h1, h2, h3⟩ := iv
  have G3 := (g.trans g').trans g''
  refine ⟨a, vs, h1, Same.lst ((g'.frz.trans g''.frz).trans g''.sub) h2, fun p hp => ?_⟩
  exact q p H3 _ (G3.trans (Grow.made g''.sub hp)) (G3.all.free hp) (g''.sub.free hp) ⟨_, upd_same, (h3.mono (g'.frz.trans g''.frz)).cut i j⟩
end
/-! ### text * int -/
def mulS (z : Str) (n : Int) : Str := ⟨(List.replicate n.toNat z.cps).foldl (· ++ ·) #[]⟩
theorem foldl_empty : ∀ n : Nat, (List.replicate n (#[] : Array Nat)).foldl (· ++ ·) #[] = #[]
  | 0 => rfl
  | n + 1 => by
    rw [List.replicate_succ, List.foldl_cons, Array.append_empty]
    exact foldl_empty n
def rMulS : R2 := fun x y H Q => ∃ (z : Str) (n : Int), x = .str z ∧ y = .int n ∧ 0 ≤ n ∧ n < 2 ^ 31 ∧ z.length < 2 ^ 31 ∧ z.length * n.toNat ≤ sizeLine ∧ (mulS z n).length ≤ sizeLine ∧ Q (.str (mulS z n)) H
section
variable {X : Cx}
theorem op_mulS : OpR X (binaryOp .Mult) rMulS := by
  intro pins s σ H x y v u Q I rx ry h
  obtain ⟨z, n, rfl, rfl, h0, h1, h2, h3, h4, q⟩ := h
  obtain ⟨t, rfl⟩ := rx
  obtain ⟨u', rfl⟩ := ry
  refine P.mul_str (by rw [decide_eq_false (by omega), decide_eq_false (by omega)] <;> rfl) (fun a b => ?_) (fun a b => ?_) ?_
  · have hn : 0 < n := by omega
    have : ((2 : Int) ^ 63 - 1) / n ≥ 2 ^ 31 := by
      refine (Int.le_ediv_iff_mul_le hn).mpr ?_
      have : (2 : Int) ^ 31 * n ≤ 2 ^ 31 * (2 ^ 31) := Int.mul_le_mul_of_nonneg_left (by omega) (by decide)
      omega
    omega
  · unfold Builtin.Str.tooLong
    exact decide_eq_false (by omega)
  · by_cases c1 : n < 1
    · rw [if_pos c1]
      have e : mulS z n = Str.empty := by
        unfold mulS
        rw [show n.toNat = 0 by omega]
        rfl
      rw [e] at q
      exact ⟨by decide, .str _, H, I.tok _, ⟨_, rfl⟩, q⟩
    · rw [if_neg c1]
      by_cases c2 : (n == 1 || z.length == 0) = true
      · rw [if_pos c2]
        have e : mulS z n = z := by
          unfold mulS
          rcases Bool.or_eq_true_iff.mp c2 with c | c
          · rw [show n.toNat = 1 by have := eq_of_beq c; omega]
            show Str.mk (#[] ++ z.cps) = z
            rw [Array.empty_append]
          · have hz : z.cps = #[] := Array.eq_empty_of_size_eq_zero (eq_of_beq c)
            rw [hz, foldl_empty, ← hz]
        rw [e] at q
        exact ⟨.str _, H, I, ⟨_, rfl⟩, q⟩
      · rw [if_neg c2]
        exact ⟨h4, .str _, H, I.tok _, ⟨_, rfl⟩, q⟩
theorem od_mulS {z : Str} {n : Int} (h0 : 0 ≤ n) (h1 : n < 2 ^ 31) (h2 : z.length < 2 ^ 31) (h3 : z.length * n.toNat ≤ sizeLine) (h4 : (mulS z n).length ≤ sizeLine) : OpD X (binaryOp .Mult) (.str z) (.int n) (.str (mulS z n)) := .flat op_mulS (fun _ => rfl) fun v w H hx hy Q q => ⟨z, n, hx, hy, h0, h1, h2, h3, h4, q⟩
end
/-! ### methods of builtin things -/
/-- the type that a builtin method is looked up at -/
def tyB : D → Option String
  | .str _ => some "str"
  | .int _ => some "int"
  | .lst _ => some "list"
  | _ => none
theorem tyB_ok {K : PySem.W.Frag} {H : Hp} {T : String} : ∀ {d : D} {v : V}, tyB d = some T → Is K H d v → tyV K T v H
  | .str z, _, e, h => by cases e; rw [show _ = V.str z from h]; rfl
  | .int i, _, e, h => by cases e; rw [show _ = V.int i from h]; rfl
  | .lst ds, _, e, h => by
    cases e
    obtain ⟨a, vs, h1, h2, h3⟩ := h
    rw [h1]
    exact .inl ⟨rfl, vs, h2⟩
def CaM (X : Cx) (id : String) (x : D) (ds : List D) (d : D) : Prop :=
  ∃ r : V → List V → Hp → VK → Prop, MtR X id r ∧ ∀ v vs H0 H, Same H0 H → Is X.K H0 x v → IsL X.K H0 ds vs → ∀ Q : VK, (∀ z H0' H', Grow H0 H H0' H' → Is X.K H0' d z → Q z H') → r v vs H Q
def CaMN (X : Cx) (id : String) (x : D) (ds : List D) (d : D) : Prop :=
  ∃ r : V → List V → Hp → VK → Prop, MtR X id r ∧ ∀ v vs H0 H, Same H0 H → Is X.K H0 x v → IsL X.K H0 ds vs → ∀ Q : VK, (∀ a H0' H', Grow H0 H H0' H' → H a = none → H0' a = none → Own X.K H0' H' a d → Q (.ref a) H') → r v vs H Q
section
variable {X : Cx} {o e : Expr} {es : List Expr} {name : Str} {apos cpos : Pos} {T id : String} {as : DE} {x d : D} {ds : List D}
theorem ee_bm (ho : EE X o as x) (ha : EA X (e :: es) as ds) (hx : tyB x = some T) (pa : PlainAttrs T) (slot : Slot T name id) (hty : typeOf (.builtin id) = pure (.type "method_descriptor")) (hc : CaM X id x ds d)
    (hbase : attributeBase o name X.env (eval o X.env) = eval o X.env := by rfl)
    (hfew : ((backTo cpos (starEach (e :: es) X.env)).all (fun x => !x.1) && (backToKw cpos (keywordEach [] X.env)).all (fun x => x.1.isSome)
      && decide ((e :: es).length + ([] : List Keyword).length + (if ([] : List Keyword).isEmpty then 0 else 1) < 30)) = true := by rfl)
    (hline : (apos.endLine == cpos.line) = true := by rfl) (hs : starEach (e :: es) X.env = (false, eval e X.env) :: starEach es X.env := by rfl) (hplain : (backTo cpos (starEach es X.env)).any (·.1) = false := by rfl) :
    EE X (.Call (.Attribute o name apos) (e :: es) [] cpos) as d := .mk fun σ H0 H hs' hf Q q => by
  obtain ⟨r, hm, hr⟩ := hc
  refine re_of (pe_bm pa slot hty hm re_pe ra_pa hbase hfew hline hs hplain) ?_
  refine ho.run σ H0 H hs' hf _ fun v H1 H' g iv => ⟨tyB_ok hx (iv.mono g.sub), ha.run σ H1 H' g.sub (hf.mono g.frz) _ fun vs H2 H'' g' iv' => ?_⟩
  exact hr v vs H2 H'' g'.sub (iv.mono g'.frz) iv' Q fun z _ _ g'' i'' => q z _ _ ((g.trans g').trans g'') i''
theorem ee_bm0 (ho : EE X o as x) (hx : tyB x = some T) (pa : PlainAttrs T) (slot : Slot T name id) (hty : typeOf (.builtin id) = pure (.type "method_descriptor")) (hc : CaM X id x [] d)
    (hbase : attributeBase o name X.env (eval o X.env) = eval o X.env := by rfl) (hline : (apos.endLine == cpos.line) = true := by rfl) : EE X (.Call (.Attribute o name apos) [] [] cpos) as d := .mk fun σ H0 H hs' hf Q q => by
  obtain ⟨r, hm, hr⟩ := hc
  refine re_of (pe_bm0 pa slot hty hm re_pe hbase hline) ?_
  refine ho.run σ H0 H hs' hf _ fun v H1 H' g iv => ⟨tyB_ok hx (iv.mono g.sub), ?_⟩
  exact hr v [] H1 H' g.sub iv rfl Q fun z _ _ g'' i'' => q z _ _ (g.trans g'') i''
theorem cm_zfill {z : Str} {i : Int} (h : PadOk i = true) : CaM X "str.zfill" (.str z) [.int i] (.str (Txt.zfill z i)) := ⟨_, mt_zfill, fun v vs H0 H hs h1 h2 Q q => by
  obtain ⟨w, e, h3⟩ := is1 h2
  rw [e]
  exact ⟨z, i, h1, by rw [show w = _ from h3], h, q _ _ _ (Grow.refl hs) rfl⟩⟩
end
end Mw
set_option maxHeartbeats 4000000
/-! a def called within an except suite, upon the caught exception: it only looks at it -/
namespace Mw
open PySem PySem.Spec PyProof.Rows L2
/-- names of a def's context, without room -/
structure BodyN (X : Cx) (N L gs : List Str) (sc : Scope) : Prop where
  hN : X.N = N
  hsc : X.env.scope = sc
  nd : N.Nodup
  pre : N.take L.length = L
  loc : L.all (locOk sc) = true
  gl : gs.all (glbOk sc) = true
  fn : ∀ n, X.fn n = true
section
variable {X : Cx} {N L gs : List Str} {sc : Scope} {n : Str} {i : Nat}
theorem BodyN.ndX (B : BodyN X N L gs sc) : X.N.Nodup := by rw [B.hN]; exact B.nd
theorem BodyN.locs (B : BodyN X N L gs sc) (h : At L n i) : X.N[i]? = some n ∧ Loc X.env.scope n ∧ (n == ("__debug__" : Str)) = false ∧ (n == ("__classdict__" : Str)) = false := by
  have q := List.all_eq_true.mp B.loc n h.mem
  unfold locOk at q
  simp only [Bool.and_eq_true, Bool.or_eq_true, Bool.not_eq_true'] at q
  refine ⟨?_, ?_, q.1.2, q.2⟩
  · have e := h.get
    rw [← B.pre] at e
    have hi : i < (N.take L.length).length := (List.getElem?_eq_some_iff.mp e).1
    rw [List.length_take] at hi
    rw [List.getElem?_take_of_lt (by omega)] at e
    rw [B.hN]
    exact e
  · rw [B.hsc]
    rcases q.1.1 with z | z
    · exact .inl (nk_beq z)
    · exact .inr (nk_beq z)
theorem BodyN.gls (B : BodyN X N L gs sc) (h : At gs n i) : Gl X n ∧ (n == ("__debug__" : Str)) = false ∧ n ≠ "__name__" := by
  have q := List.all_eq_true.mp B.gl n h.mem
  unfold glbOk at q
  simp only [Bool.and_eq_true, Bool.not_eq_true'] at q
  refine ⟨?_, q.1.2, by simpa using q.2⟩
  show X.env.scope.names.lookup n = _
  rw [B.hsc]
  exact nk_beq q.1.1
theorem BodyN.nms (B : BodyN X N L gs sc) : Nms X L := ⟨fun n i h => let ⟨a, b, c, d⟩ := B.locs h; ⟨a, loc_vis b, c, d⟩⟩
theorem BodyN.glb (B : BodyN X N L gs sc) : Gls X gs := ⟨fun n i h => B.gls h⟩
theorem Body.names {k : Nat} (B : Body X N L gs k sc) : BodyN X N L gs sc := ⟨B.hN, B.hsc, B.nd, B.pre, B.loc, B.gl, B.fn⟩
theorem BodyN.suite {a : Addr} {pn : List (Addr × Obj)} (B : BodyN X N L gs sc) : BodyN (X.suite a pn) N L gs sc := ⟨B.hN, B.hsc, B.nd, B.pre, B.loc, B.gl, B.fn⟩
theorem h_set {Gs G : Hp} {as as1 : AS} {F : Fin} {d : D} {e : Expr} {p pos : Pos} (B : BodyN X N L gs sc) (h : At L n i) (he : EE X e (hid as) d) (hs : swapsWith e (some (.Name n p)) pos.line X.env = pure false := by rfl) (ha : SetA as i (.fz d) as1) (q : F.nx as1) : S1 X Gs G (.Assign [.Name n p] e pos) as F :=
  let ⟨h1, h2, _, _⟩ := B.locs h
  s1_set i B.ndX h1 h2 he (by rw [ha.eq]; exact q) hs (.inl (B.fn n))
end
/-- isinstance of a pinned exception -/
theorem call_isP {X : Cx} {a D : Addr} {oe : Obj} (C : ExcC X.K D) (hp : (a, oe) ∈ X.pn) (hz : Zc (.ref D) none oe) (hf : ∃ vs, oe.data = .fields vs) : CallR X (.builtin "isinstance") (rIsE X.K D a) := by
  intro pins s σ H xs us Q I r h
  obtain ⟨c, cv, b, rfl, hcv, e, q⟩ := h
  obtain ⟨u0, u1, rfl, rx, rt⟩ := vals2 r
  obtain rfl : u0 = Value.ref a := rx
  obtain rfl := hcv _ rt
  obtain ⟨hget, _⟩ := I.pin (a, oe) (List.mem_append.mpr (.inl hp))
  obtain ⟨vs, hv⟩ := hf
  have J : PySem.W.InstAt s.heap a oe D none := by
    obtain ⟨oc, od, oda, osl⟩ := oe
    obtain ⟨h1, h2⟩ := hz
    dsimp only at h1 h2 hv
    subst h1 h2 hv
    exact ⟨hget, rfl, rfl, trivial⟩
  exact PySem.W.kia_one (PySem.W.handS_kitx_exc C.hg C.hk C.hs C.hd C.ha C.hn C.ht C.hm) I.kIn J e (fun z => nomatch z) fun tk => ⟨.bl b, H, I.kept (t' := tk) fun _ _ z => z, rfl, q⟩
section
variable {X : Cx} {a C : Addr} {oe : Obj} {b : Bool}
theorem ca_isP {M : Addr} (c : ExcC X.K C) (hp : (a, oe) ∈ X.pn) (hz : Zc (.ref C) none oe) (hf : ∃ vs, oe.data = .fields vs) (hk : PySem.W.kitOne X.K (.ref C) (.ref M) = some b) : CaD X (.builtin "isinstance") [.cls a, .cls M] (.bl b) := .flat (call_isP c hp hz hf) (fun _ => rfl) fun vs H h Q q => by
  obtain ⟨v, w, e, h1, h2⟩ := is2 h
  rw [show v = _ from h1, show w = _ from h2] at e
  exact ⟨.ref M, .ref M, b, e, fun u r => r, hk, q⟩
theorem ca_isPT {T : String} (c : ExcC X.K C) (hp : (a, oe) ∈ X.pn) (hz : Zc (.ref C) none oe) (hf : ∃ vs, oe.data = .fields vs) (hk : PySem.W.kitOne X.K (.ref C) (.type T) = some b) : CaD X (.builtin "isinstance") [.cls a, .ty T] (.bl b) := .flat (call_isP c hp hz hf) (fun _ => rfl) fun vs H h Q q => by
  obtain ⟨v, w, e, h1, h2⟩ := is2 h
  rw [show v = _ from h1, show w = _ from h2] at e
  exact ⟨.ty T, .type T, b, e, fun u r => r, hk, q⟩
end
/-! ### the promise -/
/-- a def of one parameter, called upon the caught exception of the class C, of no fields -/
structure HotE (P : Program) (w : World) (K : PySem.W.Frag) (mg : Str → Option Value) (base : Heap) (k : Nat) (x : Str) (S : Addr → D → Prop) : Prop where
  ex : ∃ (f : Addr) (fd : FuncData) (y : Str), mg x = some (.ref f) ∧ PySem.W.keepIn K (.ref f) = true ∧ Binds K fd [y] [] ∧
    ∀ (A : Around) (outer : List Env) (s : Shared) (H : Hp) (args : Args) (C a : Addr) (oe : Obj) (d : D) (Q : VK) (E : XK) (H0 : Hp), Same H0 H → L2H.RoomH k A → L2H.PinOk outer H s (a, oe) → Zc (.ref C) none oe → (∃ vs, oe.data = .fields vs) → S C d →
      Env0 P w K mg base A outer s H → BindsTo s fd args [(y, .ref a)] → (∀ v H0' H', Grow H0 H H0' H' → Is K H0' d v → Q v H') → codeAny (model P w) A (.call (.ref f) args) (CR (L2.CX P w) outer P w H s Q E) s
abbrev HotD (X : Cx) (k : Nat) (x : Str) (S : Addr → D → Prop) : Prop := HotE X.prog X.w X.K X.mg X.base k x S
section
variable {P : Program} {w : World} {K : PySem.W.Frag} {mg : Str → Option Value} {base : Heap}
/-- by its body -/
theorem hot_ok {x y qual : Str} {params : Arguments} {st : Stmt} {kws : List (Str × V)} {f : Addr} {fd : FuncData} {N L gs : List Str} {k : Nat} {S : Addr → D → Prop} (F : FunD K x qual params (defBody st) (defScope st) [] kws f fd) (W : BodyOk N L [y] gs (defScope st)) (g : mg x = some (.ref f)) (bb : Binds K fd [y] [])
    (body : ∀ (X : Cx), X.prog = P → X.w = w → X.K = K → X.mg = mg → X.base = base → BodyN X N L gs (defScope st) → L2H.RoomH k X.A → ∀ (C a : Addr) (oe : Obj), (a, oe) ∈ X.pn → Zc (.ref C) none oe → (∃ vs, oe.data = .fields vs) → ∀ (Gs G : Hp) (d : D), S C d →
      SS X Gs G (defBody st) (startA N [.cls a]) { nx := fun _ => d = .non, rt := fun d' => d' = d }) : HotE P w K mg base (k + 1) x S := by
  obtain ⟨oc, od, dV, kV, doc, pm, an, cdv, ct, osl, rfl, lk, hcd, _, _⟩ := F.ex
  refine ⟨f, _, y, g, F.kp, bb, fun A outer s H args C a oe d Q E H0 hs0 hr hpin hz hf hS e0 hb q => ?_⟩
  have KX : K.In s.heap := e0.mod.kin.keeps fun b o e => (e0.bs b o e).1
  have lim : s.heap.NoLimit := e0.mod.nolimit.keeps fun b o e => (e0.bs b o e).1
  have S0 := W.fs
  have hkind : ∀ z ∈ ([y] : List Str).zip [Value.ref a], (defScope st).names.lookup z.1 = some .local ∨ ((defScope st).names.lookup z.1 = some .cell ∧ ((cellsFrom (s.heap.objs.size + 1) (defScope st).names []).lookup z.1).isSome = true) := fun ⟨n, v⟩ hy => by
    rcases S0.par n (List.of_mem_zip hy).1 with q | q
    · exact .inl q
    · exact .inr ⟨q, PySem.W.cellsFrom_some _ _ _ (.inl q)⟩
  refine codeAny_call_function hr.depth (KX _ _ lk) rfl S0.co S0.gen rfl (PySem.W.codeRec_of KX hcd) (hb _ _ _ _ ?_)
  refine wpAny_newFunctionEnv_cells S0.kind hkind fun env he s1 x => ?_
  subst he
  refine ⟨lim.keeps x.toInCall.keep, codeAny_func ?_⟩
  have I : Inv (L2H.cxH (L2.CX P w) P w K mg base N qual (defScope st) f cdv A outer s H E (a, oe)) [] (L2.start N [.ref a]) H s1 := L2H.inv_startH S0 hpin e0 rfl (.cons rfl .nil) x
  have BX : BodyN (L2H.cxH (L2.CX P w) P w K mg base N qual (defScope st) f cdv A outer s H E (a, oe)) N L gs (defScope st) := ⟨rfl, rfl, S0.nd, W.pre, W.loc, W.gl, fun _ => rfl⟩
  have bd := body _ rfl rfl rfl rfl rfl BX (hr.deeper _) C a oe (List.mem_singleton.mpr rfl) hz hf H0 H d hS
  have st0 : StH K H0 H (L2.start N [.ref a]) H (startA N [.cls a]) H0 := by
    refine ⟨Grow.refl hs0, fun i d e => ?_, fun i d e => ?_, fun i j a d d' e => ?_⟩
    · rcases startA_at e with ⟨d', e1, e2⟩ | e1
      · cases e1
        obtain ⟨v, q1, q2⟩ := (IsL.one (K := K) (H := H0) (d := .cls a) (v := .ref a) rfl).get e2
        exact ⟨v, start_get q1, q2⟩
      · cases e1
    · rcases startA_at e with ⟨d', e1, e2⟩ | e1 <;> cases e1
    · rcases startA_at e with ⟨d', e1, e2⟩ | e1 <;> cases e1
  have run := bd.run _ H H0 st0 { nx := fun _ H' => Q .non H', rt := Q } ⟨fun σ' H' as' H1 _ S' z => by
      have z' : d = .non := z
      subst z'
      exact q .non H1 H' S'.grow rfl, fun v H' d' H1 _ g i z => by
      have z' : d' = d := z
      subst z'
      exact q v H1 H' g i, fun _ _ _ _ _ _ z => z.elim, fun _ _ _ _ _ _ z => z.elim, fun _ _ _ _ _ _ _ _ _ _ z => z.elim⟩
  refine wpAny_mono (run [] s1 I) (fun fl s' hs => ?_) fun e s' hs => hs
  have fin : ∀ {σ' : L2.St} {H' : Hp} {v : V} {u : Value}, Inv (L2H.cxH (L2.CX P w) P w K mg base N qual (defScope st) f cdv A outer s H E (a, oe)) [] σ' H' s' → RelV v u → Q v H' → CE outer P w H s Q u s' :=
    fun {σ' H' v u} J rv q => ⟨v, H', J.os, J.bare, J.base, J.hok, rv, q⟩
  cases fl with
  | ret u =>
    obtain ⟨v, σ', H', J, rv, q⟩ := hs
    exact fin J rv q
  | next =>
    obtain ⟨σ', H', J, q⟩ := hs
    exact fin (v := V.non) (u := Value.none) J rfl q
  | brk =>
    obtain ⟨_, _, _, q⟩ := hs
    exact False.elim q
  | cont =>
    obtain ⟨_, _, _, q⟩ := hs
    exact False.elim q
end
/-- f(e) in the suite -/
theorem e_hot {X : Cx} {gs : List Str} {k : Nat} {x y : Str} {j i : Nat} {S : Addr → D → Prop} {C a : Addr} {oe : Obj} {pn : List (Addr × Obj)} {as : DE} {d : D} {p p1 pos : Pos} {L : List Str} (B : Gls (X.suite a ((a, oe) :: pn)) gs) (Nn : Nms (X.suite a ((a, oe) :: pn)) L) (F : HotD X k x S) (hr : Room k X.A) (h : At gs x j) (hy : At L y i) (ha : as[i]? = some (some (.cls a)))
    (hz : Zc (.ref C) none oe) (hf : ∃ vs, oe.data = .fields vs) (hS : S C d) (he : starEach [.Name y p1] (X.suite a ((a, oe) :: pn)).env = (false, eval (.Name y p1) (X.suite a ((a, oe) :: pn)).env) :: starEach [] (X.suite a ((a, oe) :: pn)).env := by rfl) : EE (X.suite a ((a, oe) :: pn)) (.Call (.Name x p) [.Name y p1] [] pos) as d := .mk fun σ H0 H hs hf' Q q => by
  intro pins s I
  obtain ⟨g1, g2, g3⟩ := B.at_ _ _ h
  obtain ⟨n1, n2, n3, n4⟩ := Nn.at_ _ _ hy
  obtain ⟨f, fd, z, hm, hk, hb, run⟩ := F.ex
  refine wpAny_Call_Name_kw (ld_glob I g1 hm ?_ g2)
  have ea : EA (X.suite a ((a, oe) :: pn)) [.Name y p1] as [.cls a] := ea_cons (ee_name i n1 n2 ha n3 n4) ea_nil he
  refine PySem.W.callWith_K (h₀ := X.base) I.ok.mod.kin hk (thn (ra_pa.run pos pins s σ H (fun vs H' => ∃ H0', Grow H0 H H0' H' ∧ IsL X.K H0' [.cls a] vs) I (ea.run σ H0 H hs hf' _ fun vs H1 H' g i => ⟨H1, g, i⟩)) fun us s1 ⟨vs, H1, I1, r1, H0', g, iv⟩ => ⟨I1.kIn, ?_⟩) he rfl
  obtain ⟨v, rfl, iv1⟩ := is1 iv
  obtain ⟨u, rfl, ru⟩ := vals1 r1
  rw [show v = V.ref a from iv1] at ru
  obtain rfl : u = Value.ref a := ru
  have P1 := I1.pin (a, oe) (List.mem_append_left _ List.mem_cons_self)
  have hpin : L2H.PinOk X.stack H1 s1 (a, oe) := ⟨P1.1, P1.2.1, fun hm => (List.mem_cons.mp (I1.stkSub a hm)).elim P1.2.2.1 P1.2.2.2.1, P1.2.2.2.2⟩
  have hb2 := hb s1 [Value.ref a] I1.kIn rfl
  rw [List.append_nil] at hb2
  refine wpAny_call (codeAny_mono (run _ X.stack s1 H1 ⟨[.ref a], []⟩ C a oe d Q (fun _ _ _ => False) H0' g.sub (L2H.roomH_mark hr _) hpin hz hf hS I1.env0 hb2 fun w H2 H2' g' i' => q w H2 H2' (g.trans g') i') fun r s' hq => ?_)
  cases r with
  | error e => obtain ⟨_, _, _, _, _, _, _, _, _, _, _, _, z⟩ := hq; exact z.elim
  | ok fl =>
    cases fl with
    | ret u => exact I1.after hq
    | next => exact False.elim hq
    | brk => exact False.elim hq
    | cont => exact False.elim hq
end Mw
set_option maxHeartbeats 4000000
/-! x += e; dicts with keys that are ints and texts; list.count, list.index -/
namespace Mw
open PySem PySem.Spec PyProof.Rows L2
section
variable {X : Cx} {N L gs : List Str} {k : Nat} {sc : Scope} {n : Str} {i : Nat} {Gs G : Hp} {as as1 : AS} {F : Fin} {d x y : D} {pos p pos' : Pos} {e : Expr}
/-- an in-place operation on data -/
def IpD (X : Cx) (op : Operator) (x y d : D) : Prop :=
  ∃ ti : TIp, PIp X op ti ∧ ∀ v w H0 H, Same H0 H → Is X.K H0 x v → Is X.K H0 y w → ∀ Q : VK, (∀ z H0' H', Grow H0 H H0' H' → Is X.K H0' d z → Q z H') → ti v w H Q
theorem ip_addI {a b : Int} : IpD X .Add (.int a) (.int b) (.int (a + b)) := ⟨_, ip_add, fun v w H0 H hs h1 h2 Q q => ⟨a, b, h1, h2, q _ _ _ (Grow.refl hs) rfl⟩⟩
theorem ip_subI {a b : Int} : IpD X .Sub (.int a) (.int b) (.int (a - b)) := ⟨_, ip_sub, fun v w H0 H hs h1 h2 Q q => ⟨a, b, h1, h2, q _ _ _ (Grow.refl hs) rfl⟩⟩
/-- x op= e -/
theorem t_aug {op : Operator} (B : Body X N L gs k sc) (h : At L n i) (hx : as[i]? = some (.fz x)) (he : EE X e (hid as) y) (ho : IpD X op x y d) (ha : SetA as i (.fz d) as1) (q : F.nx as1) : S1 X Gs G (.AugAssign (.Name n pos') op e pos) as F := .mk fun σ H H0 S E ok => by
  obtain ⟨a1, a2, _, _⟩ := B.locs h
  obtain ⟨ti, hp, hr⟩ := ho
  obtain ⟨v, e1, iv⟩ := S.fz i x hx
  refine rs_len fun hl => rs_of (ps_aug B.ndX a1 a2 re_pe hp (.inl (B.fn n))) ?_
  refine ⟨v, e1, he.run σ H0 H S.grow.sub S.hid _ fun w H1 H' g iw => hr v w H1 H' g.sub (iv.mono g.frz) iw _ fun z H2 H'' g' iz => ?_⟩
  have gg := g.trans g'
  exact ok.nx _ H'' _ H2 gg.frz ((S.more gg).setF (by rw [hl]; exact (List.getElem?_eq_some_iff.mp a1).1) iz) (by rw [ha.eq]; exact q)
end
/-! ### dicts -/
def kD : Key → D
  | .inl i => .int i
  | .inr z => .str z
theorem kD_is {K : PySem.W.Frag} {H : Hp} {k : Key} {v : V} (h : Is K H (kD k) v) : v = kV k := by
  cases k <;> exact h
def valD (ks : List (Key × D)) (k : Key) : Option D := (ks.find? fun kv => decide (kv.1 = k)).map (·.2)
def putKD (ks : List (Key × D)) (k : Key) (d : D) : List (Key × D) :=
  if (ks.any fun kv => decide (kv.1 = k)) = true then ks.map (fun kv => if kv.1 = k then (kv.1, d) else kv) else ks ++ [(k, d)]
def mergeKD (ks more : List (Key × D)) : List (Key × D) := more.foldl (fun acc kv => putKD acc kv.1 kv.2) ks
section
variable {K : PySem.W.Frag} {H : Hp} {k : Key} {d : D} {v : V}
theorem IsK.any : ∀ {ks : List (Key × D)} {kvs : List (Key × V)}, IsK K H ks kvs → (kvs.any fun kv => decide (kv.1 = k)) = (ks.any fun kv => decide (kv.1 = k))
  | [], _, h => by rw [show _ = [] from h]; rfl
  | (j, x) :: ks, _, h => by
    obtain ⟨w, r, h1, h2, h3⟩ := h
    rw [h1, List.any_cons, List.any_cons, IsK.any h3]
theorem IsK.app : ∀ {ks es : List (Key × D)} {kvs ws : List (Key × V)}, IsK K H ks kvs → IsK K H es ws → IsK K H (ks ++ es) (kvs ++ ws)
  | [], _, _, _, h, g => by rw [show _ = [] from h]; exact g
  | (j, x) :: ks, _, _, _, h, g => by
    obtain ⟨w, r, h1, h2, h3⟩ := h
    rw [h1]
    exact ⟨w, _, rfl, h2, IsK.app h3 g⟩
theorem IsK.over (hd : Is K H d v) : ∀ {ks : List (Key × D)} {kvs : List (Key × V)}, IsK K H ks kvs → IsK K H (ks.map fun kv => if kv.1 = k then (kv.1, d) else kv) (kvs.map fun kv => if kv.1 = k then (kv.1, v) else kv)
  | [], _, h => by rw [show _ = [] from h]; rfl
  | (j, x) :: ks, _, h => by
    obtain ⟨w, r, h1, h2, h3⟩ := h
    rw [h1, List.map_cons, List.map_cons]
    by_cases e : j = k
    · rw [if_pos e, if_pos e]
      exact ⟨v, _, rfl, hd, IsK.over hd h3⟩
    · rw [if_neg e, if_neg e]
      exact ⟨w, _, rfl, h2, IsK.over hd h3⟩
theorem IsK.put {ks : List (Key × D)} {kvs : List (Key × V)} (h : IsK K H ks kvs) (hd : Is K H d v) : IsK K H (putKD ks k d) (putK kvs k v) := by
  unfold putKD putK
  rw [h.any]
  split
  · exact h.over hd
  · exact h.app ⟨v, [], rfl, hd, rfl⟩
theorem IsK.merge : ∀ {more : List (Key × D)} {ms : List (Key × V)} {ks : List (Key × D)} {kvs : List (Key × V)}, IsK K H more ms → IsK K H ks kvs → IsK K H (mergeKD ks more) (mergeK kvs ms)
  | [], _, _, _, h, g => by rw [show _ = [] from h]; exact g
  | (j, x) :: more, _, _, _, h, g => by
    obtain ⟨w, r, h1, h2, h3⟩ := h
    rw [h1]
    show IsK K H (mergeKD (putKD _ j x) more) (mergeK (putK _ j w) r)
    exact IsK.merge h3 (g.put h2)
theorem IsK.val : ∀ {ks : List (Key × D)} {kvs : List (Key × V)}, IsK K H ks kvs → valD ks k = some d → ∃ v, valV kvs k = some v ∧ Is K H d v
  | [], _, h, e => nomatch e
  | (j, x) :: ks, _, h, e => by
    obtain ⟨w, r, h1, h2, h3⟩ := h
    rw [h1]
    by_cases q : j = k
    · rw [valV_pos (p := (j, w)) q]
      have e' : valD ((j, x) :: ks) k = some x := by simp [valD, List.find?_cons, q]
      rw [e'] at e
      cases e
      exact ⟨w, rfl, h2⟩
    · rw [valV_neg (p := (j, w)) q]
      have e' : valD ((j, x) :: ks) k = valD ks k := by simp [valD, List.find?_cons, q]
      rw [e'] at e
      exact IsK.val h3 e
theorem IsK.noval : ∀ {ks : List (Key × D)} {kvs : List (Key × V)}, IsK K H ks kvs → valD ks k = none → valV kvs k = none
  | [], _, h, e => by rw [show _ = [] from h]; rfl
  | (j, x) :: ks, _, h, e => by
    obtain ⟨w, r, h1, h2, h3⟩ := h
    rw [h1]
    by_cases q : j = k
    · have e' : valD ((j, x) :: ks) k = some x := by simp [valD, List.find?_cons, q]
      rw [e'] at e; cases e
    · rw [valV_neg (p := (j, w)) q]
      have e' : valD ((j, x) :: ks) k = valD ks k := by simp [valD, List.find?_cons, q]
      rw [e'] at e
      exact IsK.noval h3 e
theorem IsK.len : ∀ {ks : List (Key × D)} {kvs : List (Key × V)}, IsK K H ks kvs → kvs.length = ks.length
  | [], _, h => by rw [show _ = [] from h]; rfl
  | (j, x) :: ks, _, h => by
    obtain ⟨w, r, h1, h2, h3⟩ := h
    rw [h1, List.length_cons, List.length_cons, h3.len]
end
section
variable {X : Cx} {N L gs : List Str} {kk : Nat} {sc : Scope} {n : Str} {i : Nat} {Gs G : Hp} {as as1 : AS} {F : Fin} {de : DE} {d : D} {k : Key} {ks : List (Key × D)} {pos p pos' : Pos} {e o ie : Expr} {keys : List (Option Expr)} {values : List Expr}
/-- the pairs of a display -/
inductive EPs (X : Cx) (de : DE) : List (Option Expr) → List Expr → List (Key × D) → Prop
  | nil : EPs X de [] [] []
  | cons {ke ve : Expr} {kes : List (Option Expr)} {ves : List Expr} {k : Key} {d : D} {r : List (Key × D)} (hk : EE X ke de (kD k)) (hv : EE X ve de d) (hr : EPs X de kes ves r) : EPs X de (some ke :: kes) (ve :: ves) ((k, d) :: r)
theorem EPs.go {X : Cx} {de : DE} : ∀ {keys : List (Option Expr)} {values : List Expr} {ks : List (Key × D)}, EPs X de keys values ks → ∃ trs : List (TE × TE), PPs X pos keys values trs ∧
    ∀ (σ : L2.St) (H0 H : Hp), Same H0 H → SlF X.K H0 σ de → ∀ Q : List (V × V) → Hp → Prop, (∀ kvs H0' H', Grow H0 H H0' H' → IsK X.K H0' ks kvs → Q (kvs.map fun kv => (kV kv.1, kv.2)) H') → tPairs trs σ H Q
  | _, _, _, .nil => ⟨[], pps_nil, fun σ H0 H hs hf Q q => q [] H0 H (Grow.refl hs) rfl⟩
  | _, _, _, .cons (k := k) (d := d) hk hv hr => by
    obtain ⟨trs, h1, h2⟩ := hr.go
    refine ⟨_, pps_cons re_pe re_pe h1, fun σ H0 H hs hf Q q => ?_⟩
    refine hk.run σ H0 H hs hf _ fun v H1 H' g iv => hv.run σ H1 H' g.sub (hf.mono g.frz) _ fun w H2 H2' g' iw => h2 σ H2 H2' g'.sub (hf.mono (g.frz.trans g'.frz)) _ fun kvs H3 H3' g'' ik => ?_
    have z := q ((k, w) :: kvs) H3 H3' ((g.trans g').trans g'') ⟨w, kvs, rfl, iw.mono g''.frz, ik⟩
    rw [kD_is iv]
    exact z
theorem en_disp (h : EPs X de keys values ks) (hall : keys.all (·.isSome) = true) (hl : keys.length = values.length) (h0 : keys ≠ []) (h15 : keys.length ≤ 15) (hk : ks.length ≤ 15) : EN X (.Dict keys values pos) de (.dct (mergeKD [] ks)) := .mk fun σ H0 H hs hf Q q => by
  obtain ⟨trs, h1, h2⟩ := h.go
  refine re_of (pe_disp h1 hall hl h0 h15) fun p hp => ?_
  refine h2 σ H0 (upd H p (.dK [])) (hs.trans (Same.new hp)) hf _ fun kvs H1 H' g ik => ?_
  have e := g.all p _ upd_same
  refine ⟨e, kvs, rfl, by rw [ik.len]; exact hk, ?_⟩
  have n0 : H0 p = none := hs.free hp
  have hp1 : H1 p = none := by
    cases z : H1 p with
    | none => rfl
    | some u =>
      rcases g.new p (by rw [z]; simp) with w | w
      · exact absurd n0 w
      · rw [upd_same] at w; exact nomatch w
  refine q p H1 _ ⟨g.frz, fun b u eb => ?_, fun b u eb => ?_, fun b z => ?_⟩ hp hp1 ⟨_, upd_same, IsK.merge ik rfl⟩
  · rw [upd_ne (ne_of_none eb hp)]
    exact g.all b u (by rw [upd_ne (ne_of_none eb hp)]; exact eb)
  · rw [upd_ne (ne_of_none eb hp1)]
    exact g.sub b u eb
  · rcases g.new b z with w | w
    · exact .inl w
    · by_cases hb : b = p
      · rw [hb]; exact .inr hp
      · rw [upd_ne hb] at w; exact .inr w
theorem en_dnew : EN X (.Dict [] [] pos) de (.dct []) := .mk fun σ H0 H hs hf Q q =>
  re_of pe_dnewK fun p hp => q p H0 _ (Grow.made hs hp) hp (hs.free hp) ⟨[], upd_same, rfl⟩
/-- o[k] -/
theorem ee_dget (hr : Room kk X.A) (ho : EE X o de (.dct ks)) (hi : EE X ie de (kD k)) (hv : valD ks k = some d) (hn : NoSl ie := by exact fun _ _ => rfl) : EE X (.Subscript o ie pos) de d := .mk fun σ H0 H hs hf Q q => by
  refine re_of (pe_dget (by have := hr.units; omega) re_pe re_pe hn) ?_
  refine ho.run σ H0 H hs hf _ fun v H1 H' g iv => hi.run σ H1 H' g.sub (hf.mono g.frz) _ fun w H2 H2' g' iw => ?_
  obtain ⟨a, kvs, e1, e2, e3⟩ := iv
  obtain ⟨x, hx, ix⟩ := (e3.mono g'.frz).val hv
  exact ⟨a, x, e1, .inl ⟨kvs, k, Same.rd (g'.frz.trans g'.sub) e2, kD_is iw, hx.symm⟩, q x H2 H2' (g.trans g') ix⟩
/-- n[k] = e, the dict owned -/
theorem t_dput (B : Body X N L gs kk sc) (h : At L n i) (ha : as[i]? = some (.ow (.dct ks))) (he : EE X e (hid as) d) (hk : EE X ie (hid as) (kD k)) (hz : ks.length < sizeLine) (hst : SetA as i (.ow (.dct (putKD ks k d))) as1) (q : F.nx as1)
    (hs : swapsWith e (some (.Subscript (.Name n p) ie pos')) pos.line X.env = pure false := by rfl) : S1 X Gs G (.Assign [.Subscript (.Name n p) ie pos'] e pos) as F := .mk fun σ H H0 S E ok => by
  obtain ⟨a1, a2, a3, a4⟩ := B.locs h
  obtain ⟨l, s1, s2, s3, kvs, hu, hi⟩ := S.ow i _ ha
  refine rs_of (ps_dput (by have := B.room.units; omega) (pe_var a1 (loc_vis a2) a3 a4) re_pe re_pe hs) ?_
  refine he.run σ H0 H S.grow.sub S.hid _ fun v H1 H' g iv => ⟨_, s1, ?_⟩
  refine hk.run σ H1 H' g.sub (S.hid.mono g.frz) _ fun w H2 H2' g' iw => ?_
  have gg := g.trans g'
  have e2 := gg.all _ _ hu
  refine ⟨l, _, rfl, .inl ⟨kvs, k, e2, kD_is iw, by rw [hi.len]; exact hz, rfl⟩, ?_⟩
  exact ok.nx σ _ _ H2 gg.frz ((S.more gg).write (d := .dct ks) (d' := .dct (putKD ks k d)) ha s1 ⟨_, upd_same, (hi.mono gg.frz).put (iv.mono g'.frz)⟩) (by rw [hst.eq]; exact q)
end
end Mw
set_option maxHeartbeats 4000000
namespace Mw
open PySem PySem.Spec PyProof.Rows L2
section
variable {X : Cx}
/-- xs.count(k), xs bools -/
def rCountB (K : PySem.W.Frag) : V → List V → Hp → VK → Prop := fun x xs H Q => ∃ (a : Addr) (bs : List Bool) (k : Bool), x = .ref a ∧ xs = [.bl k] ∧ SqL K H a (bs.map V.bl) ∧ Q (.int (bs.count k : Nat)) H
theorem bools_vals {k : Bool} : ∀ {bs : List Bool} {us : List Value}, Vals (bs.map V.bl) us → us.countP (isBoolOf k) = bs.count k ∧ ∀ y ∈ us, ∃ b, y = Value.bool b
  | [], _, r => by cases r; exact ⟨rfl, fun y h => by cases h⟩
  | b :: bs, _, r => by
    rw [List.map_cons] at r
    cases r with
    | cons h t =>
      obtain ⟨h1, h2⟩ := bools_vals (k := k) t
      obtain rfl : _ = Value.bool b := h
      refine ⟨?_, fun y hy => ?_⟩
      · rw [List.countP_cons, List.count_cons, h1]
        rfl
      · rcases List.mem_cons.mp hy with e | e
        · exact ⟨b, e⟩
        · exact h2 y e
theorem mt_countB : MtR X "list.count" (rCountB X.K) := by
  intro pins s σ H x xs v us Q I rx rxs h
  obtain ⟨a, bs, k, rfl, rfl, hs, q⟩ := h
  cases rx
  obtain ⟨u, rfl, ru⟩ := vals1 rxs
  obtain rfl : u = Value.bool k := ru
  obtain ⟨its, r, ⟨⟨cls, dd, data, sl⟩, n, ho, hc, hd, hdt⟩, hz⟩ := I.list hs
  simp only at hc hd hdt
  subst hc hd hdt
  obtain ⟨h1, h2⟩ := bools_vals (k := k) r
  refine call_meets PySem.F.slot_list_count ⟨_, ho, rfl⟩ PySem.F.entry_list_count (PySem.F.args_list_count_2 _ _) (PySem.SeqAt.list_countAt a its.toArray n none sl (.bool k) (isBoolOf k)) ⟨ho, fun y hy => ?_, ?_⟩
  · obtain ⟨b, rfl⟩ := h2 y (by simpa using hy)
    exact PySem.SeqAt.EqAt.bool_bool b k
  · rw [List.toList_toArray, h1]
    exact ⟨.int _, H, I.tok _, ⟨_, rfl⟩, q⟩
theorem isL_bools {K : PySem.W.Frag} {H : Hp} : ∀ {bs : List Bool} {vs : List V}, IsL K H (bs.map D.bl) vs → vs = bs.map V.bl
  | [], _, h => h
  | b :: bs, _, h => by
    obtain ⟨v, r, h1, h2, h3⟩ := h
    rw [h1, show v = V.bl b from h2, isL_bools h3]
    rfl
theorem cm_countB {bs : List Bool} {k : Bool} : CaM X "list.count" (.lst (bs.map D.bl)) [.bl k] (.int (bs.count k : Nat)) := ⟨_, mt_countB, fun v vs H0 H hs h1 h2 Q q => by
  obtain ⟨a, ws, e1, e2, e3⟩ := h1
  obtain ⟨w, e, h3⟩ := is1 h2
  rw [isL_bools e3] at e2
  exact ⟨a, bs, k, e1, by rw [e, show w = _ from h3], Same.lst hs e2, q _ _ _ (Grow.refl hs) rfl⟩⟩
theorem cm_indexB {bs : List Bool} {j : Nat} (hj : bs[j]? = some true) (hn : ∀ m, m < j → bs[m]? = some false) : CaM X "list.index" (.lst (bs.map D.bl)) [.bl true] (.int (j : Nat)) := ⟨_, mt_index, fun v vs H0 H hs h1 h2 Q q => by
  obtain ⟨a, ws, e1, e2, e3⟩ := h1
  obtain ⟨w, e, h3⟩ := is1 h2
  rw [isL_bools e3] at e2
  refine ⟨a, bs.map V.bl, .bl true, j, .bl true, e1, by rw [e, show w = _ from h3], Same.lst hs e2, rfl, ?_, by rw [List.getElem?_map, hj]; rfl, rfl, fun m z hm hz => ?_, q _ _ _ (Grow.refl hs) rfl⟩
  · rw [List.all_map]
    exact List.all_eq_true.mpr fun _ _ => rfl
  · rw [List.getElem?_map, hn m hm] at hz
    cases hz
    rfl⟩
end
end Mw
set_option maxHeartbeats 4000000
/-! methods by name -/
namespace Mw
open PySem PySem.Spec PyProof.Rows L2
section
variable {X : Cx} {gs : List Str} {k : Nat} {C : Addr} {m : Str} {dds : List D} {S : FS} {fs : List (Str × D)} {o e : Expr} {es : List Expr} {as : DE} {ds : List D} {d x : D} {apos cpos pos : Pos} {z : Str} {i : Int} {bs : List Bool}
theorem e_meth {pl : Sem Bool} (ho : EE X o as (.obj C fs)) (M : MetD X k C m dds S) (hl : fs.lookup m = none) (hr : Room k X.A) (ha : EA X (e :: es) as ds) (hS : S (.obj C fs :: (ds ++ dds)) (.ok d))
    (hst : starEach (e :: es) X.env = (false, eval e X.env) :: starEach es X.env := by rfl) (hpl : (backTo pos (starEach es X.env)).any (·.1) = false := by rfl)
    (ht : eval (.Call (.Attribute o m apos) (e :: es) [] pos) X.env = (do
      let ov ← eval o X.env
      standAt apos.atName
      let (f, first) ← holding [ov] (getMethod ov m pl)
      callWith pos f first (backTo pos (starEach (e :: es) X.env)) (backToKw pos (keywordEach [] X.env))) := by rfl) : EE X (.Call (.Attribute o m apos) (e :: es) [] pos) as d := ee_meth (pl := pl) M ho hl ha hS hr hst hpl ht
theorem x_meth {pl : Sem Bool} {xn : Exn} (ho : EE X o as (.obj C fs)) (M : MetD X k C m dds S) (hl : fs.lookup m = none) (hr : Room k X.A) (ha : EA X (e :: es) as ds) (hS : S (.obj C fs :: (ds ++ dds)) (.error xn))
    (hst : starEach (e :: es) X.env = (false, eval e X.env) :: starEach es X.env := by rfl) (hpl : (backTo pos (starEach es X.env)).any (·.1) = false := by rfl)
    (ht : eval (.Call (.Attribute o m apos) (e :: es) [] pos) X.env = (do
      let ov ← eval o X.env
      standAt apos.atName
      let (f, first) ← holding [ov] (getMethod ov m pl)
      callWith pos f first (backTo pos (starEach (e :: es) X.env)) (backToKw pos (keywordEach [] X.env))) := by rfl) : EX X (.Call (.Attribute o m apos) (e :: es) [] pos) as xn := ex_meth (pl := pl) M ho hl ha hS hr hst hpl ht
theorem e_zfill (ho : EE X o as (.str z)) (he : EE X e as (.int i)) (h : PadOk i = true)
    (hbase : attributeBase o "zfill" X.env (eval o X.env) = eval o X.env := by rfl)
    (hfew : ((backTo cpos (starEach [e] X.env)).all (fun x => !x.1) && (backToKw cpos (keywordEach [] X.env)).all (fun x => x.1.isSome)
      && decide ([e].length + ([] : List Keyword).length + (if ([] : List Keyword).isEmpty then 0 else 1) < 30)) = true := by rfl)
    (hline : (apos.endLine == cpos.line) = true := by rfl) (hs : starEach [e] X.env = (false, eval e X.env) :: starEach [] X.env := by rfl) : EE X (.Call (.Attribute o "zfill" apos) [e] [] cpos) as (.str (Txt.zfill z i)) :=
  ee_bm ho (ea_cons he ea_nil hs) rfl PySem.F.plainAttrs_str PySem.F.slot_str_zfill PySem.F.type_str_zfill (cm_zfill h) hbase hfew hline hs rfl
theorem e_countB {b : Bool} (ho : EE X o as (.lst (bs.map D.bl))) (he : EE X e as (.bl b))
    (hbase : attributeBase o "count" X.env (eval o X.env) = eval o X.env := by rfl)
    (hfew : ((backTo cpos (starEach [e] X.env)).all (fun x => !x.1) && (backToKw cpos (keywordEach [] X.env)).all (fun x => x.1.isSome)
      && decide ([e].length + ([] : List Keyword).length + (if ([] : List Keyword).isEmpty then 0 else 1) < 30)) = true := by rfl)
    (hline : (apos.endLine == cpos.line) = true := by rfl) (hs : starEach [e] X.env = (false, eval e X.env) :: starEach [] X.env := by rfl) : EE X (.Call (.Attribute o "count" apos) [e] [] cpos) as (.int (bs.count b : Nat)) :=
  ee_bm ho (ea_cons he ea_nil hs) rfl PySem.F.plainAttrs_list PySem.F.slot_list_count PySem.F.type_list_count cm_countB hbase hfew hline hs rfl
theorem e_indexB {j : Nat} (ho : EE X o as (.lst (bs.map D.bl))) (he : EE X e as (.bl true)) (hj : bs[j]? = some true) (hn : ∀ m, m < j → bs[m]? = some false)
    (hbase : attributeBase o "index" X.env (eval o X.env) = eval o X.env := by rfl)
    (hfew : ((backTo cpos (starEach [e] X.env)).all (fun x => !x.1) && (backToKw cpos (keywordEach [] X.env)).all (fun x => x.1.isSome)
      && decide ([e].length + ([] : List Keyword).length + (if ([] : List Keyword).isEmpty then 0 else 1) < 30)) = true := by rfl)
    (hline : (apos.endLine == cpos.line) = true := by rfl) (hs : starEach [e] X.env = (false, eval e X.env) :: starEach [] X.env := by rfl) : EE X (.Call (.Attribute o "index" apos) [e] [] cpos) as (.int (j : Nat)) :=
  ee_bm ho (ea_cons he ea_nil hs) rfl PySem.F.plainAttrs_list PySem.F.slot_list_index PySem.F.type_list_index (cm_indexB hj hn) hbase hfew hline hs rfl
end
end Mw
set_option maxHeartbeats 4000000
namespace Mw
section
open PySem PySem.SeqAt
theorem dict_declines_str (l : Addr) (es : Array DictEntry) (ep : Nat) (dd : Option Addr) (sl : Array (Option Value)) (b : Str) (u : Tok) :
    Meets (Builtin.«dict.__eq__» ⟨[.ref l, .str b u], []⟩) (fun _ R s => s.heap.get? l = some { cls := .type "dict", dict := dd, data := .dict es ep, slots := sl } ∧ R (.ok (.ret .notImplemented)) s) :=
  .of_wp fun prog w A R s h => by obtain ⟨hp, g, d, tk, os⟩ := s; obtain ⟨hl, h⟩ := h; have f1 := F.sub_str_dict; wp_walk using AutoSeq1.wpAny_loadPart' hl, wpAny_load hl; exact ⟨_, rfl, h⟩
theorem str_declines_dict (b : Str) (u : Tok) (l : Addr) (c : Value) (es : Array DictEntry) (ep : Nat) (dd : Option Addr) (sl : Array (Option Value)) :
    Meets (Builtin.«str.__eq__» ⟨[.str b u, .ref l], []⟩) (fun _ R s => s.heap.get? l = some { cls := c, dict := dd, data := .dict es ep, slots := sl } ∧ R (.ok (.ret .notImplemented)) s) :=
  .of_wp fun prog w A R s h => by obtain ⟨hp, g, d, tk, os⟩ := s; obtain ⟨hl, h⟩ := h; wp_walk using AutoSeq1.wpAny_loadPart' hl, wpAny_load hl; exact ⟨_, rfl, h⟩
theorem rc_dict_str {A : Around} {s : Shared} {l : Addr} {es : Array DictEntry} {ep : Nat} {dd : Option Addr} {sl : Array (Option Value)} (b : Str) (u : Tok) (ho : s.heap.get? l = some { cls := .type "dict", dict := dd, data := .dict es ep, slots := sl }) (hu : A.units < cLine) : RcAt A s (.ref l) (.str b u) false := fun prog w E Q h =>
  rc_eq_decline_or (k := false) ⟨_, ho, rfl⟩ (typeIs_str s b u) (by decide) F.sub_str_dict F.slot_dict_eq F.slot_str_eq_refl
    (fun _ hq => call_meets F.slot_dict_eq ⟨_, ho, rfl⟩ F.entry_dict_eq (F.args_dict_eq_2 _ _) (dict_declines_str l es ep dd sl b u) ⟨ho, hq⟩)
    (fun _ hq => call_meets F.slot_str_eq_refl (typeIs_str s b u) F.entry_str_eq (F.args_str_eq_2 _ _) (str_declines_dict b u l (.type "dict") es ep dd sl) ⟨ho, hq⟩)
    (fun _ hq => wpAny_of_eq (rfl : isSame (.ref l) (.str b u) = pure false) hq) (.inr hu) h
end
section
open PySem PySem.Spec PyProof.Rows L2
theorem op_eq_ds {X : Cx} (hu : X.A.units < cLine) : OpR X (compareOp .Eq) (fun x y H Q => ∃ a kvs z, x = .ref a ∧ Rd H a (.dK kvs) ∧ y = .str z ∧ Q (.bl false) H) := by
  intro pins s σ H x y v u Q I rx ry h
  obtain ⟨a, kvs, z, rfl, hr, rfl, q⟩ := h
  obtain rfl : v = Value.ref a := rx
  obtain ⟨t, rfl⟩ := ry
  obtain ⟨_, _, vs, _, ⟨cls, dd, dt, sl⟩, es, ep, h1, h2, hd, _⟩ := hr.ok I.hok
  obtain ⟨c1, c2, c3⟩ := id h2
  simp only at c1 c2 c3 hd
  subst c1 c2 c3 hd
  exact rc_dict_str z t h1 hu X.prog X.w X.xe (EP X pins σ Q) ⟨.bl false, H, I, rfl, q⟩
theorem oc_eqDS {X : Cx} {k : Nat} {ks : List (Key × D)} {z : Str} (hr : Room k X.A) : OpD X (compareOp .Eq) (.dct ks) (.str z) (.bl false) := .flat (op_eq_ds (by have := hr.units; omega)) (fun _ => rfl) fun v w H h1 h2 Q q => by
  obtain ⟨a, kvs, e1, e2, e3⟩ := h1
  exact ⟨a, kvs, z, e1, e2, h2, q⟩
end
end Mw
set_option maxHeartbeats 4000000
/-! the head: what the top has written, by tests of the text; the law's end -/
namespace Mw
open PySem PySem.Spec PyProof.Rows L2
abbrev Kf := PySem.W.Frag
/-! ### tests -/
abbrev Chk := Kf → Bool
def cGlo (x : Str) : Chk := fun K => (He.Fa.glo x).ok K
def cFree (x : Str) : Chk := fun K => (He.Fa.free x).ok K
def cExc (x : Str) : Chk := fun K => (He.Fa.exc x).ok K
def cExm (x y : Str) (b : Bool) : Chk := fun K => (He.Fa.exm x y b).ok K
def cNo (x f : Str) : Chk := fun K => (He.Fa.noat x f).ok K
def cKit (x y : Str) (b : Bool) : Chk := fun K => decide (PySem.W.kitOne K (.ref (He.ga K x)) (.ref (He.ga K y)) = some b)
def cKitT (x : Str) (T : String) (b : Bool) : Chk := fun K => decide (PySem.W.kitOne K (.ref (He.ga K x)) (.type T) = some b)
def cXf (x : Str) : Chk := fun K => xfB K (He.ga K x)
def cEc (x : Str) : Chk := fun K =>
  He.eqO (PySem.W.findIn K (.ref (He.ga K x)) "__getattribute__") (some (some (.builtin "BaseException.__getattribute__"))) && (He.eqO (PySem.W.findIn K (.ref (He.ga K x)) "__getattr__") (some none) &&
  (decide (PySem.W.subIn K (.ref (He.ga K x)) (.type "BaseException") = some true) && (PySem.W.hasDictIn K (He.ga K x) && (He.eqO (PySem.W.findIn K (.ref (He.ga K x)) "__class__") (some (some (.builtin "object.__class__"))) &&
  (He.eqO (PySem.W.specialIn K (.builtin "object.__class__") "__get__") (some (some (.builtin "getset_descriptor.__get__"))) && (decide (PySem.W.takesIn K (.builtin "object.__class__") = some true) && decide (PySem.W.mroIn K (He.ga K x) (.type "object") = some true)))))))
theorem cEc_ok {K : Kf} {x : Str} (h : cEc x K = true) : ExcC K (He.ga K x) := by
  obtain ⟨h1, h⟩ := Bool.and_eq_true_iff.mp h
  obtain ⟨h2, h⟩ := Bool.and_eq_true_iff.mp h
  obtain ⟨h3, h⟩ := Bool.and_eq_true_iff.mp h
  obtain ⟨h4, h⟩ := Bool.and_eq_true_iff.mp h
  obtain ⟨h5, h⟩ := Bool.and_eq_true_iff.mp h
  obtain ⟨h6, h⟩ := Bool.and_eq_true_iff.mp h
  obtain ⟨h7, h8⟩ := Bool.and_eq_true_iff.mp h
  exact ⟨He.eqO_ok h1, He.eqO_ok h2, of_decide_eq_true h3, h4, He.eqO_ok h5, He.eqO_ok h6, of_decide_eq_true h7, of_decide_eq_true h8⟩
/-- an own exception with an own __init__ -/
def oexB (K : Kf) (C : Addr) : Bool := match K.lookup C with
  | some ⟨.type "type", _, .cls cd, sl⟩ => (match cd.mro, sl.toList with
    | .ref C' :: bm, [_, _, _, _, some (.builtin n), _] => C' == C && n == "ValueError.__new__" && !cd.hasDel && PySem.HandSPX.refsVE bm && cd.hasDict
    | _, _ => false)
  | _ => false
theorem oexB_ok {K : Kf} {C : Addr} (q : oexB K C = true) : ∃ nm q N bs bm sn sub ab col dd k0 k1 k2 k3 k5, K.lookup C = some (excClassObj nm q C N bs bm true sn sub ab col dd k0 k1 k2 k3 k5 "ValueError.__new__") ∧ PySem.HandSPX.refsVE bm = true := by
  unfold oexB at q
  split at q
  · rename_i dd cd sl ho
    split at q
    · rename_i C' bm k0 k1 k2 k3 n k5 hm hs
      simp only [Bool.and_eq_true, beq_iff_eq, Bool.not_eq_true'] at q
      obtain ⟨⟨⟨⟨rfl, rfl⟩, hdel⟩, ht⟩, hd⟩ := q
      obtain ⟨nm, bs, mro, ns, qn, hd', sn, sub, ab, col, del⟩ := cd
      dsimp only at hm hdel hd
      subst hm hdel hd
      have hsl : sl = #[k0, k1, k2, k3, some (.builtin "ValueError.__new__"), k5] := by
        obtain ⟨l⟩ := sl
        simp only at hs
        rw [hs]
      subst hsl
      exact ⟨nm, qn, ns, bs, bm, sn, sub, ab, col, dd, k0, k1, k2, k3, k5, ho, ht⟩
    · cases q
  · cases q
def cOex (x : Str) : Chk := fun K => oexB K (He.ga K x) && (He.eqO (PySem.W.findIn K (.ref (He.ga K x)) "__setattr__") (some (some (.builtin "object.__setattr__"))) &&
  (decide (PySem.W.subIn K (.ref (He.ga K x)) (.type "BaseException") = some true) && (decide (PySem.W.typeIn K (.ref (He.ga K x)) = some (.type "type")) && PySem.W.keepIn K (.ref (He.ga K x)))))
theorem cOex_ok {K : Kf} {x : Str} (h : cOex x K = true) : OexC K (He.ga K x) := by
  obtain ⟨h1, h⟩ := Bool.and_eq_true_iff.mp h
  obtain ⟨h2, h⟩ := Bool.and_eq_true_iff.mp h
  obtain ⟨h3, h⟩ := Bool.and_eq_true_iff.mp h
  obtain ⟨h4, h5⟩ := Bool.and_eq_true_iff.mp h
  exact ⟨oexB_ok h1, He.eqO_ok h2, of_decide_eq_true h3, of_decide_eq_true h4, h5⟩
/-- C's __init__ is a def of the text -/
def cIni (x : Str) : Chk := fun K => He.eqO (PySem.W.findIn K (.ref (He.ga K x)) "__init__") (some (some (.ref (He.ma K (He.ga K x) "__init__")))) && decide (PySem.W.typeIn K (.ref (He.ma K (He.ga K x) "__init__")) = some (.type "function"))
/-- B.__init__ is ValueError's -/
def cBase (x : Str) : Chk := fun K => PySem.W.readsIn K (He.ga K x) (.type "type") && (He.eqO (PySem.W.specialIn K (.ref (He.ga K x)) "__getattribute__") (some (some (.builtin "type.__getattribute__"))) &&
  (match PySem.W.findCls K (.ref (He.ga K x)) (.type "type") "__init__" with
  | some (.val (.builtin n)) => decide (n = "ValueError.__init__")
  | _ => false))
theorem cBase_ok {K : Kf} {mg : Str → Option Value} {x : Str} (g : mg x = some (.ref (He.ga K x))) (h : cBase x K = true) : BaseI K mg x (He.ga K x) := by
  obtain ⟨h1, h⟩ := Bool.and_eq_true_iff.mp h
  obtain ⟨h2, h3⟩ := Bool.and_eq_true_iff.mp h
  refine ⟨g, _, ⟨h1, He.eqO_ok h2⟩, ?_⟩
  split at h3
  · rename_i n e
    rw [e, of_decide_eq_true h3]
  · cases h3
/-! ### the Hook -/
def obsM (cs : List Chk) (fn : List He.DefD) (K : Kf) : He.AlD := ((cs.all fun f => f K) && fn.all fun d => d.ok K, fn.map fun d => He.fnW K d.at_)
def SaysM (cs : List Chk) (fn : List He.DefD) (K : Kf) : Prop := obsM cs fn K = He.valD fn
def obsMG (n : Nat) (cs : List Chk) (fn : List He.DefD) (g : Addr → Option Obj) : He.AlD := obsM cs fn (He.frG g (PySem.cStatics :: He.asD g n))
def hookM (n : Nat) (cs : List Chk) (fn : List He.DefD) : PySem.W.Hook where
  α := He.AlD
  obs := fun s => obsMG n cs fn s.heap.get?
  val := fun _ => He.valD fn
  says := fun _ h => ∃ K : Kf, K.In h ∧ SaysM cs fn K
  of := fun _ _ e => ⟨_, He.frG_in, e⟩
  keeps := fun _ _ _ ⟨K, hK, c⟩ k => ⟨K, PySem.W.Frag.In.keeps hK k, c⟩
theorem obsMG_eq {n : Nat} {cs : List Chk} {fn : List He.DefD} {g : Addr → Option Obj} {s : Shared} (h : ∀ a, g a = s.heap.get? a) : obsMG n cs fn g = (hookM n cs fn).obs s := by
  have e : g = s.heap.get? := funext h
  rw [e] <;> rfl
section
variable {cs : List Chk} {fn : List He.DefD} {K : Kf}
theorem SaysM.chk (c : SaysM cs fn K) (i : Nat) {f : Chk} (h : cs[i]? = some f := by rfl) : f K = true := by
  have c1 := (Bool.and_eq_true_iff.mp (show ((cs.all fun f => f K) && fn.all fun d => d.ok K) = true from congrArg (fun z : He.AlD => z.1) c)).1
  exact List.all_eq_true.mp c1 f (List.mem_of_getElem? h)
theorem SaysM.def_ (c : SaysM cs fn K) (i : Nat) {d : He.DefD} (h : fn[i]? = some d := by rfl) : ∃ fd, FunD K d.name d.qual d.params d.body d.scope (d.dvs K) (d.kws K) (He.fAd K d.at_) fd := by
  have c2 := (Bool.and_eq_true_iff.mp (show ((cs.all fun f => f K) && fn.all fun d => d.ok K) = true from congrArg (fun z : He.AlD => z.1) c)).2
  have e : fn.map (fun d => He.fnW K d.at_) = fn.map He.DefD.val := congrArg (fun z : He.AlD => z.2) c
  have e2 : (fn.map fun d => He.fnW K d.at_)[i]? = (fn.map He.DefD.val)[i]? := by rw [e]
  rw [List.getElem?_map, List.getElem?_map, h] at e2
  exact He.DefD.funD (Option.some.inj e2) (List.all_eq_true.mp c2 d (List.mem_of_getElem? h))
end
/-! ### defs' promises -/
section
variable {P : Program} {w : World} {K : Kf} {mg : Str → Option Value} {base : Heap}
theorem fn_okF {x qual : Str} {params : Arguments} {st : Stmt} {dvs : List V} {kws : List (Str × V)} {f : Addr} {fd : FuncData} {N L ps gs : List Str} {k : Nat} {S : FS} (F : FunD K x qual params (defBody st) (defScope st) dvs kws f fd) (C : BodyOk N L ps gs (defScope st)) (len : ∀ ds r, S ds r → ds.length = ps.length)
    (body : ∀ X : Cx, X.prog = P → X.w = w → X.K = K → X.mg = mg → X.base = base → Body X N L gs k (defScope st) → ∀ (Gs G : Hp) (ds : List D) (r : Except Exn D), S ds r → SS X Gs G (defBody st) (startA N ds) { nx := fun _ => r = .ok .non, rt := fun d => r = .ok d, ex := fun x _ => r = .error x }) :
    FnOk P w K mg base (L2.CX P w) (k + 1) f fd ps (spOf K S) := by
  refine F.ok C.fs (fun vs H Q E h => ?_) (fun cdv A outer s H vs Q E hr h => ?_)
  · obtain ⟨H0, ds, r, _, h1, h2, _⟩ := h
    rw [h1.len]
    exact len ds r h2
  · obtain ⟨H0, ds, r, hs, hi, hS, post⟩ := h
    refine ⟨_, rss_pss, ?_⟩
    have BX : Body (cxOf (L2.CX P w) P w K mg base N qual (defScope st) f cdv A outer s H E) N L gs k (defScope st) := ⟨rfl, rfl, C.fs.nd, C.pre, C.loc, C.gl, C.fs.kind, C.fs.nofree, fun _ => rfl, hr, rfl, passes_of rfl, rfl, rfl⟩
    refine (body _ rfl rfl rfl rfl rfl BX H0 H ds r hS).run _ H H0 ⟨Grow.refl hs, fun i d e => ?_, fun i d e => ?_, fun i j a d d' e => ?_⟩ _ ⟨fun σ' H' as' H1 _ S' z => ?_, fun v H' d H1 _ g i z => ?_, fun _ _ _ _ _ _ z => z.elim, fun _ _ _ _ _ _ z => z.elim, fun c dd σ' H' x as' H1 _ S' i z => ?_⟩
    · rcases startA_at e with ⟨d', e1, e2⟩ | e1
      · cases e1
        obtain ⟨v, q1, q2⟩ := hi.get e2
        exact ⟨v, start_get q1, q2⟩
      · cases e1
    · rcases startA_at e with ⟨d', e1, e2⟩ | e1 <;> cases e1
    · rcases startA_at e with ⟨d', e1, e2⟩ | e1 <;> cases e1
    · have z' : r = .ok .non := z
      subst z'
      exact post .non H1 H' S'.grow rfl
    · have z' : r = .ok d := z
      subst z'
      exact post v H1 H' g i
    · have z' : r = .error x := z
      subst z'
      exact wx_of (takes_of (E := E) rfl rfl rfl rfl) (post c dd H1 H' S'.grow i)
theorem fn_okJ {x qual : Str} {params : Arguments} {st : Stmt} {dvs : List V} {kws : List (Str × V)} {f C : Addr} {fd : FuncData} {N L ps gs fs : List Str} {k : Nat} (F : FunD K x qual params (defBody st) (defScope st) dvs kws f fd) (W : BodyOk N L ps gs (defScope st)) (len : ps.length = fs.length + 1)
    (body : ∀ X : Cx, X.prog = P → X.w = w → X.K = K → X.mg = mg → X.base = base → Body X N L gs k (defScope st) → ∀ (a : Addr) (ys : List V) (H : Hp) (Q : VK), ys.length = fs.length → H a = some (exo a C none) →
      (∀ (dx : Addr) (H' : Hp), H dx = none → dx ≠ a → H' a = some (exo a C (some dx)) → H' dx = some (exd dx (putF fs ys)) → (∀ b, b ≠ a → b ≠ dx → H' b = H b) → Q .non H') →
      rss X (defBody st) { nx := fun _ H' => Q .non H', rt := Q } (L2.start N (.ref a :: ys)) H) : FnOk P w K mg base (L2.CX P w) (k + 1) f fd ps (spInit C fs) := by
  refine F.ok W.fs (fun vs H Q E h => ?_) (fun cdv A outer s H vs Q E hr h => ?_)
  · obtain ⟨a, ys, rfl, h1, _⟩ := h
    rw [List.length_cons, h1, len]
  · obtain ⟨a, ys, rfl, h1, h2, h3⟩ := h
    have BX : Body (cxOf (L2.CX P w) P w K mg base N qual (defScope st) f cdv A outer s H E) N L gs k (defScope st) := ⟨rfl, rfl, W.fs.nd, W.pre, W.loc, W.gl, W.fs.kind, W.fs.nofree, fun _ => rfl, hr, rfl, passes_of rfl, rfl, rfl⟩
    exact ⟨_, rss_pss, body _ rfl rfl rfl rfl rfl BX a ys H Q h1 h2 h3⟩
/-- a def without defaults, to its callers -/
theorem fnE_of {x : Str} {f : Addr} {fd : FuncData} {ps : List Str} {k : Nat} {S : FS} (h : FnOk P w K mg base (L2.CX P w) k f fd ps (spOf K S)) (g : mg x = some (.ref f)) (kp : PySem.W.keepIn K (.ref f) = true) (b : Binds K fd ps []) : FnE P w K mg base k x [] S :=
  ⟨f, fd, ps, [], [], h, g, kp, b, .nil⟩
theorem isL_v {K : Kf} {H : Hp} : ∀ {ds : List D} {vs : List V}, IsL K H ds vs → IsL K H ds vs := fun h => h
/-- .. with its defaults filled up -/
theorem fnE_dfl {x : Str} {f : Addr} {fd : FuncData} {ps : List Str} {k : Nat} {S : FS} {dds : List D} {dvs : List V} (h : FnOk P w K mg base (L2.CX P w) k f fd ps (spOf K S)) (g : mg x = some (.ref f)) (kp : PySem.W.keepIn K (.ref f) = true) (b : ∃ ds, Vals dvs ds ∧ Binds K fd ps ds) (hd : ∀ H, IsL K H dds dvs) : FnE P w K mg base k x dds S := by
  obtain ⟨ds, h1, h2⟩ := b
  exact ⟨f, fd, ps, dvs, ds, h, g, kp, h2, ⟨h1, hd⟩⟩
/-- .. all written -/
theorem fnE_all {x : Str} {f : Addr} {fd : FuncData} {ps : List Str} {k : Nat} {S : FS} (h : FnOk P w K mg base (L2.CX P w) k f fd ps (spOf K S)) (g : mg x = some (.ref f)) (kp : PySem.W.keepIn K (.ref f) = true) (b : ∃ ds, Vals [] ds ∧ Binds K fd ps ds) : FnE P w K mg base k x [] S := by
  obtain ⟨ds, h1, h2⟩ := b
  cases h1
  exact fnE_of h g kp h2
/-- a class with an own __init__, to its callers -/
theorem mkE_of {x : Str} {fd : FuncData} {ps fs : List Str} {k : Nat} (oc : cOex x K = true) (ic : cIni x K = true) (g : mg x = some (.ref (He.ga K x))) (nn : fs ≠ []) (h : FnOk P w K mg base (L2.CX P w) k (He.ma K (He.ga K x) "__init__") fd ps (spInit (He.ga K x) fs)) (b : Binds K fd ps []) : MkE P w K mg base k x (He.ga K x) fs := by
  obtain ⟨h1, h2⟩ := Bool.and_eq_true_iff.mp ic
  exact ⟨cOex_ok oc, nn, ⟨_, fd, ps, He.eqO_ok h1, of_decide_eq_true h2, h, b⟩, g⟩
theorem excE_of {x : Str} (c : cExc x K = true) (g : mg x = some (.ref (He.ga K x))) : ExcE K mg x (He.ga K x) := by
  obtain ⟨h1, h2, h3, h4⟩ := He.exc_ok c
  exact ⟨g, h1, h2, h3, h4⟩
end
/-- the law's end -/
theorem walk_M {l : PySem.W.OpenLaw} {n k : Nat} {q : Program} {loose : List Str} {XP : (Str → Option Value) → Heap → Prop} {YP : World → Heap → Prop} {d : DefRec} {x : Str} {S : FS}
    (hn : l.most = some n) (hn2 : n ≤ sizeLine) (hdf : d.params.defaults = []) (hr : Room k callerA)
    (F : ∀ (w : World) (mg : Str → Option Value) (fa : Addr) (h : Heap), YP w h → h.Ns mainGlobals mg → mg d.name = some (.ref fa) →
      ∃ (K : Kf) (fd : FuncData), K.In h ∧ (∀ (s : Shared) (u : Value), BindsTo s fd ⟨[u], []⟩ [(x, u)]) ∧ ∀ base : Heap, K.In base → base.Ns mainGlobals mg → FnOk l.prog w K mg base (L2.CX l.prog w) k fa fd [x] (spOf K S))
    (hS : ∀ ns : List Int, ns.length ≤ n → (∀ i ∈ ns, Builtin.Int.intBits i ≤ 1048576) → S [.lst (ns.map D.int)] (.ok (.bl true))) :
    PySem.W.WalkO q loose XP YP l.row.toRowW d [] (fun f vs => PySem.call f vs) := by
  refine Att.attach_callB hn hdf fun w s₀ s₁ mg mb fa o pm cd doc a vs ns G Y ho hd hcd hmg hobj hints hlen hbits hg => ?_
  obtain ⟨K, fd, KX, hb, hF⟩ := F w mg fa _ Y G.T.g hmg
  refine law_call KX G.T.g G.T.b G.T.builtins G.T.nolimit hg hobj hints (Nat.le_trans hlen hn2) hr hF hb (fun H _ h => ?_) fun H e s' z => by obtain ⟨_, _, _, _, _, _, _, _, _, _, _, _, z⟩ := z; exact z
  exact ⟨H, [.lst (ns.map D.int)], .ok (.bl true), Same.refl H, ⟨.ref a, [], rfl, ⟨a, ns.map V.int, rfl, h, IsL.map_int⟩, rfl⟩, hS ns hlen hbits, fun v _ _ _ i => i⟩
/-! ### objects, constants -/
def cCls (x : Str) : Chk := fun K => (He.Fa.cls x).ok K
def cMeth (x m : Str) : Chk := fun K => (He.Fa.meth x m).ok K
def cInt (x : Str) (i : Int) : Chk := fun K => (He.Fa.int x i).ok K
def cStr (x z : Str) : Chk := fun K => (He.Fa.str x z).ok K
def cNew0 (x : Str) : Chk := fun K => PySem.W.makesIn K (He.ga K x) && (He.eqO (PySem.W.findIn K (.ref (He.ga K x)) "__init__") (some (some (.builtin "object.__init__"))) && (PySem.W.keepIn K (.ref (He.ga K x)) && decide (PySem.W.mroIn K (He.ga K x) (.type "object") = some true)))
theorem cNew0_ok {K : Kf} {mg : Str → Option Value} {x : Str} (g : mg x = some (.ref (He.ga K x))) (h : cNew0 x K = true) : New0 K mg x (He.ga K x) := by
  obtain ⟨h1, h⟩ := Bool.and_eq_true_iff.mp h
  obtain ⟨h2, h⟩ := Bool.and_eq_true_iff.mp h
  obtain ⟨h3, h4⟩ := Bool.and_eq_true_iff.mp h
  exact ⟨h1, He.eqO_ok h2, h3, of_decide_eq_true h4, g⟩
def cIns (x : Str) : Chk := fun K => He.eqO (PySem.W.findIn K (.ref (He.ga K x)) "__class__") (some (some (.builtin "object.__class__"))) && (He.eqO (PySem.W.specialIn K (.builtin "object.__class__") "__get__") (some (some (.builtin "getset_descriptor.__get__"))) &&
  (decide (PySem.W.takesIn K (.builtin "object.__class__") = some true) && decide (PySem.W.mroIn K (He.ga K x) (.type "object") = some true)))
theorem cIns_ok {K : Kf} {x : Str} (c : cCls x K = true) (h : cIns x K = true) : InsE K (He.ga K x) := by
  obtain ⟨h1, h⟩ := Bool.and_eq_true_iff.mp h
  obtain ⟨h2, h⟩ := Bool.and_eq_true_iff.mp h
  obtain ⟨h3, h4⟩ := Bool.and_eq_true_iff.mp h
  exact ⟨He.cls_ok c, He.eqO_ok h1, He.eqO_ok h2, of_decide_eq_true h3, of_decide_eq_true h4⟩
theorem cst_int {K : Kf} {h : Heap} {mg : Str → Option Value} {x : Str} {i : Int} (X : K.In h) (G : h.Ns mainGlobals mg) (c : cInt x i K = true) : CstE K mg x (.int i) := by
  obtain ⟨t, e⟩ := He.int_ok X G c
  exact ⟨_, .int i, e, ⟨t, rfl⟩, fun _ => rfl⟩
theorem cst_str {K : Kf} {h : Heap} {mg : Str → Option Value} {x z : Str} (X : K.In h) (G : h.Ns mainGlobals mg) (c : cStr x z K = true) : CstE K mg x (.str z) := by
  obtain ⟨t, e⟩ := He.str_ok X G c
  exact ⟨_, .str z, e, ⟨t, rfl⟩, fun _ => rfl⟩
theorem metE_of {P : Program} {w : World} {K : Kf} {mg : Str → Option Value} {base : Heap} {x m : Str} {fd : FuncData} {ps : List Str} {k : Nat} {S : FS} (c : cCls x K = true) (cm : cMeth x m K = true) (h : FnOk P w K mg base (L2.CX P w) k (He.ma K (He.ga K x) m) fd ps (spOf K S)) (b : Binds K fd ps []) : MetE P w K mg base k (He.ga K x) m [] S :=
  ⟨He.cls_ok c, _, fd, ps, [], [], He.meth_ok cm, h, b, .nil⟩
end Mw
set_option maxHeartbeats 4000000
namespace Mw
open PySem PySem.Spec PyProof.Rows L2
local macro_rules | `(tactic| nest_cls) => `(tactic| (repeat (first | (with_reducible exact Mw.At.here) | (with_reducible apply Mw.At.there))))
local macro_rules | `(tactic| ktu_offL) => `(tactic| (repeat (first | (with_reducible exact Mw.SetA.here) | (with_reducible apply Mw.SetA.there))))
local macro_rules | `(tactic| k_allIn) => `(tactic| (with_reducible first | apply Mw.ca_isI | apply Mw.ca_isB | apply Mw.ca_isS | apply Mw.ca_isT | apply Mw.ca_isL | apply Mw.ca_isDc | apply Mw.ca_lenS | apply Mw.ca_lenT | apply Mw.ca_lenL | exact Mw.ca_intI | exact Mw.ca_intB | apply Mw.ca_intS | apply Mw.ca_strI))
local macro_rules | `(tactic| lcg_sub) => `(tactic| (with_reducible first
  | exact Mw.od_addI | exact Mw.od_subI | exact Mw.oc_eqI | exact Mw.oc_neI | exact Mw.oc_lt | exact Mw.oc_le | exact Mw.oc_gt | exact Mw.oc_ge | exact Mw.oc_isN | exact Mw.oc_notN | exact Mw.oc_isB | exact Mw.oc_notB | exact Mw.oc_eqS | exact Mw.oc_neS
  | apply Mw.od_mod | apply Mw.od_fdiv | apply Mw.od_mul | apply Mw.od_pow | apply Mw.od_addS
  | apply Mw.od_catL | apply Mw.od_mulS
  | apply Mw.oc_inT | apply Mw.oc_inL | apply Mw.oc_ninT | apply Mw.oc_ninL | exact Mw.oc_inS | exact Mw.oc_ninS
  | (apply Mw.oc_eqD; (with_reducible first | assumption | exact Mw.Body.room (by assumption) | exact L2.Room.mono (Mw.Body.room (by assumption)) (by with_unfolding_all decide))) | (apply Mw.oc_neD; (with_reducible first | assumption | exact Mw.Body.room (by assumption) | exact L2.Room.mono (Mw.Body.room (by assumption)) (by with_unfolding_all decide)))))
local macro_rules | `(tactic| k_clsL) => `(tactic| (with_reducible first | exact boot_int | exact boot_bool | exact boot_str | exact boot_tuple | exact boot_list | exact boot_dict))
local macro_rules | `(tactic| lcg_off) => `(tactic| (first
  | with_reducible exact Mw.ee_int | with_reducible exact Mw.ee_str
  | (with_reducible apply Mw.e_name; (with_reducible assumption); nest_cls; with_unfolding_all rfl)
  | (with_reducible apply Mw.e_nameB; (with_reducible assumption); (repeat (first | (with_reducible exact Mw.AtB.here) | (with_reducible apply Mw.AtB.there))); with_unfolding_all rfl)
  | with_reducible apply Mw.ee_bin
  | with_reducible apply Mw.ee_cmp
  | with_reducible apply Mw.ee_chain
  | (with_reducible apply Mw.e_call; (with_reducible assumption); (with_reducible assumption); nest_cls; (with_reducible first | assumption | exact Mw.Body.room (by assumption) | exact L2.Room.mono (Mw.Body.room (by assumption)) (by with_unfolding_all decide)))
  | with_reducible exact Mw.ee_bl | with_reducible exact Mw.ee_non
  | (with_reducible apply Mw.e_isi; (with_reducible assumption); nest_cls; (with_reducible assumption))
  | (with_reducible apply Mw.e_ty; (with_reducible assumption); nest_cls; (with_reducible assumption); k_clsL)
  | (with_reducible apply Mw.e_abs; (with_reducible assumption); nest_cls; (with_reducible assumption))
  | (with_reducible apply Mw.e_len; (with_reducible assumption); nest_cls; (with_reducible assumption))
  | (with_reducible apply Mw.e_divmod; (with_reducible assumption); nest_cls; (with_reducible assumption))
  | (with_reducible apply Mw.e_int; (with_reducible assumption); nest_cls; (with_reducible assumption))
  | (with_reducible apply Mw.e_strc; (with_reducible assumption); nest_cls; (with_reducible assumption))
  | (with_reducible apply Mw.e_cls; (with_reducible assumption); nest_cls; (with_reducible assumption))
  | (with_reducible apply Mw.e_cst; (with_reducible assumption); (with_reducible assumption); nest_cls)
  | with_reducible apply Mw.ee_neg
  | with_reducible apply Mw.ee_not
  | with_reducible apply Mw.ee_one
  | (with_reducible apply Mw.ee_and) | (with_reducible apply Mw.ee_or)
  | with_reducible apply Mw.ee_tup
  | (with_reducible apply Mw.EN.ee; with_reducible apply Mw.en_lst)
  | (with_reducible apply Mw.EN.ee; with_reducible exact Mw.en_dnew)
  | with_reducible apply Mw.ee_slS
  | with_reducible apply Mw.ee_sub
  | (with_reducible apply Mw.e_new0; (with_reducible assumption); (with_reducible assumption); nest_cls)
  | with_reducible apply Mw.e_zfill
  | with_reducible apply Mw.e_meth
  | (with_reducible apply Mw.e_mk; (with_reducible assumption); (with_reducible assumption); nest_cls; (with_reducible first | assumption | exact Mw.Body.room (by assumption) | exact L2.Room.mono (Mw.Body.room (by assumption)) (by with_unfolding_all decide)))
  | with_reducible apply Mw.e_xv
  | with_reducible apply Mw.ee_joined | with_reducible apply Mw.ee_fmt))
local macro_rules | `(tactic| k_memK) => `(tactic| (first
  | (with_reducible change Mw.EE _ _ _ _; lcg_off)
  | (with_reducible change Mw.EA _ _ _ _; (first | with_reducible exact Mw.ea_nil | with_reducible apply Mw.ea_cons))
  | (with_reducible change Mw.OpD _ _ _ _ _; lcg_sub)
  | (with_reducible change Mw.CaD _ _ _ _; k_allIn)
  | (with_reducible change Mw.ET _ _ _ _; (first | with_reducible apply Mw.et_cmp | with_reducible apply Mw.et_chain | with_reducible apply Mw.et_not | (with_reducible apply Mw.EW.et; with_reducible first | apply Mw.ew_and | apply Mw.ew_or) | with_reducible apply Mw.et_val))
  | (with_reducible change Mw.EW _ _ _ _; (with_reducible first | apply Mw.ew_and1 | apply Mw.ew_or1 | apply Mw.ew_and | apply Mw.ew_or))
  | (with_reducible change Mw.EN _ _ _ _; (with_reducible apply Mw.en_lst))
  | (with_reducible change Mw.ETs _ _ _ _; (with_reducible first | exact Mw.ets_nil | apply Mw.ets_one))
  | (with_reducible change (PySem.starEach _ _ = _); with_unfolding_all rfl)
  | (with_reducible change (PySem.behindInMarks _ _ = _); with_unfolding_all rfl)
  | (with_reducible change (PySem.lastMarks _ _ = _); with_unfolding_all rfl)
  | (with_reducible change (List.any _ _ = _); with_unfolding_all rfl)
  | (with_reducible change (PySem.swapsWith _ _ _ _ = _); with_unfolding_all rfl)
  | (with_reducible change (PySem.swapsWithSole _ _ _ _ = _); with_unfolding_all rfl)
  | (with_reducible change (PySem.swappedStores _ _ _ = _); with_unfolding_all rfl)
  | (with_reducible change Mw.SubD _ _ _ _ _; (with_reducible first | apply Mw.sub_T | apply Mw.sub_L))
  | (with_reducible change Mw.FmD _ _; (with_reducible first | (apply Mw.FmD.int; assumption) | apply Mw.FmD.int | apply Mw.FmD.str))
  | (with_reducible change Mw.EJ _ _ _ _ _; (with_reducible first | exact Mw.EJ.nil | apply Mw.EJ.cons))
  | (with_reducible change (L2.atI _ _ = _); with_unfolding_all rfl)
  | (with_reducible change (PySem.attributeBase _ _ _ _ = _); with_unfolding_all rfl)
  | (with_reducible change Mw.EO _ _ _ _; (with_reducible first | exact Mw.eo_none | apply Mw.eo_some))
  | (with_reducible change Mw.MetE _ _ _ _ _ _ _ _ _ _; with_reducible assumption)
  | (with_reducible change L2.Room _ _; (with_reducible first | assumption | exact Mw.Body.room (by assumption) | exact L2.Room.mono (Mw.Body.room (by assumption)) (by with_unfolding_all decide)))
  | (with_reducible change (List.lookup _ _ = none); with_unfolding_all rfl)
  | (with_reducible change (PySem.eval _ _ = _); with_unfolding_all rfl)
  | (with_reducible change (BEq.beq _ _ = true); with_unfolding_all rfl)
  | (with_reducible change ((_ && _) = true); with_unfolding_all rfl)
  | (with_reducible change Mw.IpD _ _ _ _ _; (with_reducible first | exact Mw.ip_addI | exact Mw.ip_subI))
  | (with_reducible change Mw.XvC _ _; with_reducible assumption)
  | (with_reducible change Mw.NoAt _ _ _; with_reducible assumption)
  | (with_reducible change (List.lookup _ _ = some _); with_unfolding_all rfl)
  | (with_reducible change (List.length _ = List.length _); with_unfolding_all rfl)
  | (with_reducible change (List.length _ ≤ 1000); exact Nat.le_of_ble_eq_true (by with_unfolding_all rfl))
  | (with_reducible change (Mw.isThing _ = true); (first | with_reducible assumption | with_unfolding_all rfl))
  | (with_reducible change (L2.PlainIx _); with_unfolding_all exact fun _ _ => rfl)
  | (with_reducible change (_ ≤ sizeLine); exact Mw.len_le (by with_unfolding_all rfl))
  | (with_reducible change (∀ _, PySem.isTrue _ _ _ = _); with_unfolding_all (intro _; rfl))
  | (with_reducible change (_ = true → Mw.EE _ _ _ _); intro _)
  | (with_reducible change (_ = false → Mw.EE _ _ _ _); intro _)
  | (with_reducible change (_ = true → Mw.EW _ _ _ _); intro _)
  | (with_reducible change (_ = false → Mw.EW _ _ _ _); intro _)
  | (with_reducible change (Mw.SetA _ _ _ _); ktu_offL)))
local macro_rules | `(tactic| ktu_offI) => `(tactic| ((conv => (arg 4; whnf)); have _nm := Mw.Body.nms (by assumption); have _gl := Mw.Body.glb (by assumption); simp only [Mw.startA, List.map_cons, List.map_nil, List.length_cons, List.length_nil, List.cons_append, List.nil_append, List.replicate_succ, List.replicate_zero, Nat.reduceAdd, Nat.reduceSub]))
local macro_rules | `(tactic| k_subL) => `(tactic| (first
  | with_reducible apply Mw.ss_one
  | with_reducible apply Mw.ss_cons
  | with_reducible apply Mw.ss_nil
  | with_reducible apply Mw.s1_ret
  | with_reducible apply Mw.s1_retN
  | with_reducible apply Mw.s1_pass
  | (with_reducible apply Mw.t_set; (with_reducible assumption); nest_cls)
  | (with_reducible apply Mw.h_set; (with_reducible assumption); nest_cls)
  | (with_reducible apply Mw.t_two; (with_reducible assumption); nest_cls; nest_cls)
  | (with_reducible apply Mw.t_raise; (with_reducible assumption); (with_reducible assumption); nest_cls)))
local macro_rules | `(tactic| ktu_off1L) => `(tactic| (repeat k_memK))
local macro_rules | `(tactic| k_places) => `(tactic| (repeat (first | k_subL | k_memK)))
local macro_rules | `(tactic| l_intsW) => `(tactic| (first
  | (with_reducible apply Mw.x_call; (with_reducible assumption); (with_reducible assumption); nest_cls; (with_reducible first | assumption | exact Mw.Body.room (by assumption) | exact L2.Room.mono (Mw.Body.room (by assumption)) (by with_unfolding_all decide)))))
def topS (i : Nat) : Stmt := PySem.Challenge.pw_measurewise_k25_rounding.main.body.getD i (.Pass ⟨0, 0, 0, 0⟩)
abbrev s_BadText___init__ : Stmt := inClass (topS 8) 0
abbrev N_BadText___init__ : List Str := ["self", "at"]
abbrev L_BadText___init__ : List Str := ["self", "at"]
abbrev G_BadText___init__ : List Str := ["MeasureError"]
theorem bk_BadText___init__ : BodyOk N_BadText___init__ L_BadText___init__ ["self", "at"] G_BadText___init__ (defScope s_BadText___init__) := ⟨⟨rfl, rfl, rfl, by decide +kernel, rfl, by decide +kernel, by decide +kernel⟩, rfl, by decide +kernel, by decide +kernel⟩
abbrev s_NoName___init__ : Stmt := inClass (topS 9) 0
abbrev N_NoName___init__ : List Str := ["self", "row", "name"]
abbrev L_NoName___init__ : List Str := ["self", "row", "name"]
abbrev G_NoName___init__ : List Str := ["MeasureError"]
theorem bk_NoName___init__ : BodyOk N_NoName___init__ L_NoName___init__ ["self", "row", "name"] G_NoName___init__ (defScope s_NoName___init__) := ⟨⟨rfl, rfl, rfl, by decide +kernel, rfl, by decide +kernel, by decide +kernel⟩, rfl, by decide +kernel, by decide +kernel⟩
abbrev s_Twice___init__ : Stmt := inClass (topS 10) 0
abbrev N_Twice___init__ : List Str := ["self", "row", "name"]
abbrev L_Twice___init__ : List Str := ["self", "row", "name"]
abbrev G_Twice___init__ : List Str := ["MeasureError"]
theorem bk_Twice___init__ : BodyOk N_Twice___init__ L_Twice___init__ ["self", "row", "name"] G_Twice___init__ (defScope s_Twice___init__) := ⟨⟨rfl, rfl, rfl, by decide +kernel, rfl, by decide +kernel, by decide +kernel⟩, rfl, by decide +kernel, by decide +kernel⟩
abbrev s_BadCount___init__ : Stmt := inClass (topS 11) 0
abbrev N_BadCount___init__ : List Str := ["self", "row", "name"]
abbrev L_BadCount___init__ : List Str := ["self", "row", "name"]
abbrev G_BadCount___init__ : List Str := ["MeasureError"]
theorem bk_BadCount___init__ : BodyOk N_BadCount___init__ L_BadCount___init__ ["self", "row", "name"] G_BadCount___init__ (defScope s_BadCount___init__) := ⟨⟨rfl, rfl, rfl, by decide +kernel, rfl, by decide +kernel, by decide +kernel⟩, rfl, by decide +kernel, by decide +kernel⟩
abbrev s_Steep___init__ : Stmt := inClass (topS 12) 0
abbrev N_Steep___init__ : List Str := ["self", "row"]
abbrev L_Steep___init__ : List Str := ["self", "row"]
abbrev G_Steep___init__ : List Str := ["MeasureError"]
theorem bk_Steep___init__ : BodyOk N_Steep___init__ L_Steep___init__ ["self", "row"] G_Steep___init__ (defScope s_Steep___init__) := ⟨⟨rfl, rfl, rfl, by decide +kernel, rfl, by decide +kernel, by decide +kernel⟩, rfl, by decide +kernel, by decide +kernel⟩
abbrev s_Clash___init__ : Stmt := inClass (topS 13) 0
abbrev N_Clash___init__ : List Str := ["self", "row", "parts", "modulus"]
abbrev L_Clash___init__ : List Str := ["self", "row", "parts", "modulus"]
abbrev G_Clash___init__ : List Str := ["MeasureError"]
theorem bk_Clash___init__ : BodyOk N_Clash___init__ L_Clash___init__ ["self", "row", "parts", "modulus"] G_Clash___init__ (defScope s_Clash___init__) := ⟨⟨rfl, rfl, rfl, by decide +kernel, rfl, by decide +kernel, by decide +kernel⟩, rfl, by decide +kernel, by decide +kernel⟩
abbrev s_Unlike___init__ : Stmt := inClass (topS 14) 0
abbrev N_Unlike___init__ : List Str := ["self", "one", "other"]
abbrev L_Unlike___init__ : List Str := ["self", "one", "other"]
abbrev G_Unlike___init__ : List Str := ["MeasureError"]
theorem bk_Unlike___init__ : BodyOk N_Unlike___init__ L_Unlike___init__ ["self", "one", "other"] G_Unlike___init__ (defScope s_Unlike___init__) := ⟨⟨rfl, rfl, rfl, by decide +kernel, rfl, by decide +kernel, by decide +kernel⟩, rfl, by decide +kernel, by decide +kernel⟩
abbrev s_is_whole : Stmt := topS 16
abbrev N_is_whole : List Str := ["thing"]
abbrev L_is_whole : List Str := ["thing"]
abbrev G_is_whole : List Str := ["isinstance", "int", "bool"]
theorem bk_is_whole : BodyOk N_is_whole L_is_whole ["thing"] G_is_whole (defScope s_is_whole) := ⟨⟨rfl, rfl, rfl, by decide +kernel, rfl, by decide +kernel, by decide +kernel⟩, rfl, by decide +kernel, by decide +kernel⟩
abbrev s_need_whole : Stmt := topS 17
abbrev N_need_whole : List Str := ["thing", "least", "most"]
abbrev L_need_whole : List Str := ["thing", "least", "most"]
abbrev G_need_whole : List Str := ["is_whole", "BadNumber"]
theorem bk_need_whole : BodyOk N_need_whole L_need_whole ["thing", "least", "most"] G_need_whole (defScope s_need_whole) := ⟨⟨rfl, rfl, rfl, by decide +kernel, rfl, by decide +kernel, by decide +kernel⟩, rfl, by decide +kernel, by decide +kernel⟩
abbrev s_common : Stmt := topS 19
abbrev N_common : List Str := ["one", "other", "whole", "rest"]
abbrev L_common : List Str := ["one", "other", "whole", "rest"]
abbrev G_common : List Str := ["divmod"]
theorem bk_common : BodyOk N_common L_common ["one", "other"] G_common (defScope s_common) := ⟨⟨rfl, rfl, rfl, by decide +kernel, rfl, by decide +kernel, by decide +kernel⟩, rfl, by decide +kernel, by decide +kernel⟩
abbrev s_is_fraction : Stmt := topS 20
abbrev N_is_fraction : List Str := ["thing"]
abbrev L_is_fraction : List Str := ["thing"]
abbrev G_is_fraction : List Str := ["isinstance", "tuple", "len", "is_whole", "common", "abs"]
theorem bk_is_fraction : BodyOk N_is_fraction L_is_fraction ["thing"] G_is_fraction (defScope s_is_fraction) := ⟨⟨rfl, rfl, rfl, by decide +kernel, rfl, by decide +kernel, by decide +kernel⟩, rfl, by decide +kernel, by decide +kernel⟩
abbrev s_Rounding_settled : Stmt := inClass (topS 23) 0
abbrev N_Rounding_settled : List Str := ["self", "above", "below"]
abbrev L_Rounding_settled : List Str := ["self", "above", "below"]
abbrev G_Rounding_settled : List Str := []
theorem bk_Rounding_settled : BodyOk N_Rounding_settled L_Rounding_settled ["self", "above", "below"] G_Rounding_settled (defScope s_Rounding_settled) := ⟨⟨rfl, rfl, rfl, by decide +kernel, rfl, by decide +kernel, by decide +kernel⟩, rfl, by decide +kernel, by decide +kernel⟩
abbrev s_Rounding_shown : Stmt := inClass (topS 23) 1
abbrev N_Rounding_shown : List Str := ["self", "amount", "figures", "whole", "text"]
abbrev L_Rounding_shown : List Str := ["self", "amount", "figures", "whole", "text"]
abbrev G_Rounding_shown : List Str := ["is_fraction", "BadNumber", "need_whole", "MOST_FIGURES", "abs", "int", "str"]
theorem bk_Rounding_shown : BodyOk N_Rounding_shown L_Rounding_shown ["self", "amount", "figures"] G_Rounding_shown (defScope s_Rounding_shown) := ⟨⟨rfl, rfl, rfl, by decide +kernel, rfl, by decide +kernel, by decide +kernel⟩, rfl, by decide +kernel, by decide +kernel⟩
abbrev s_Up_settled : Stmt := inClass (topS 25) 0
abbrev N_Up_settled : List Str := ["self", "above", "below"]
abbrev L_Up_settled : List Str := ["self", "above", "below"]
abbrev G_Up_settled : List Str := []
theorem bk_Up_settled : BodyOk N_Up_settled L_Up_settled ["self", "above", "below"] G_Up_settled (defScope s_Up_settled) := ⟨⟨rfl, rfl, rfl, by decide +kernel, rfl, by decide +kernel, by decide +kernel⟩, rfl, by decide +kernel, by decide +kernel⟩
abbrev s_Away_settled : Stmt := inClass (topS 26) 0
abbrev N_Away_settled : List Str := ["self", "above", "below"]
abbrev L_Away_settled : List Str := ["self", "above", "below"]
abbrev G_Away_settled : List Str := []
theorem bk_Away_settled : BodyOk N_Away_settled L_Away_settled ["self", "above", "below"] G_Away_settled (defScope s_Away_settled) := ⟨⟨rfl, rfl, rfl, by decide +kernel, rfl, by decide +kernel, by decide +kernel⟩, rfl, by decide +kernel, by decide +kernel⟩
abbrev s_Even_settled : Stmt := inClass (topS 27) 0
abbrev N_Even_settled : List Str := ["self", "above", "below", "whole", "rest"]
abbrev L_Even_settled : List Str := ["self", "above", "below", "whole", "rest"]
abbrev G_Even_settled : List Str := ["divmod"]
theorem bk_Even_settled : BodyOk N_Even_settled L_Even_settled ["self", "above", "below"] G_Even_settled (defScope s_Even_settled) := ⟨⟨rfl, rfl, rfl, by decide +kernel, rfl, by decide +kernel, by decide +kernel⟩, rfl, by decide +kernel, by decide +kernel⟩
abbrev s_way_of : Stmt := topS 28
abbrev N_way_of : List Str := ["word"]
abbrev L_way_of : List Str := ["word"]
abbrev G_way_of : List Str := ["Down", "Up", "Away", "Even", "BadName"]
theorem bk_way_of : BodyOk N_way_of L_way_of ["word"] G_way_of (defScope s_way_of) := ⟨⟨rfl, rfl, rfl, by decide +kernel, rfl, by decide +kernel, by decide +kernel⟩, rfl, by decide +kernel, by decide +kernel⟩
abbrev s__law_mixed : Stmt := topS 30
abbrev N__law_mixed : List Str := ["_law_number_here", "_law_k"]
abbrev L__law_mixed : List Str := ["_law_number_here", "_law_k"]
abbrev G__law_mixed : List Str := []
theorem bk__law_mixed : BodyOk N__law_mixed L__law_mixed ["_law_number_here", "_law_k"] G__law_mixed (defScope s__law_mixed) := ⟨⟨rfl, rfl, rfl, by decide +kernel, rfl, by decide +kernel, by decide +kernel⟩, rfl, by decide +kernel, by decide +kernel⟩
abbrev s__law_number : Stmt := topS 31
abbrev N__law_number : List Str := ["_law_script", "_law_k"]
abbrev L__law_number : List Str := ["_law_script", "_law_k"]
abbrev G__law_number : List Str := ["_law_mixed", "len"]
theorem bk__law_number : BodyOk N__law_number L__law_number ["_law_script", "_law_k"] G__law_number (defScope s__law_number) := ⟨⟨rfl, rfl, rfl, by decide +kernel, rfl, by decide +kernel, by decide +kernel⟩, rfl, by decide +kernel, by decide +kernel⟩
abbrev s__law_common : Stmt := topS 32
abbrev N__law_common : List Str := ["_law_one", "_law_other", "_law_rest"]
abbrev L__law_common : List Str := ["_law_one", "_law_other", "_law_rest"]
abbrev G__law_common : List Str := []
theorem bk__law_common : BodyOk N__law_common L__law_common ["_law_one", "_law_other"] G__law_common (defScope s__law_common) := ⟨⟨rfl, rfl, rfl, by decide +kernel, rfl, by decide +kernel, by decide +kernel⟩, rfl, by decide +kernel, by decide +kernel⟩
abbrev s__law_class : Stmt := topS 33
abbrev N__law_class : List Str := ["_law_e", "_law_found", "_law_others"]
abbrev L__law_class : List Str := ["_law_e", "_law_found", "_law_others"]
abbrev G__law_class : List Str := ["isinstance", "BadName", "BadNumber", "BadCount", "BadRate", "BadText", "Clash", "BadUnit", "BadTable", "NoName", "NoRow", "Steep", "Twice", "Unlike", "ValueError"]
theorem bk__law_class : BodyOk N__law_class L__law_class ["_law_e"] G__law_class (defScope s__law_class) := ⟨⟨rfl, rfl, rfl, by decide +kernel, rfl, by decide +kernel, by decide +kernel⟩, rfl, by decide +kernel, by decide +kernel⟩
abbrev s__law_shown : Stmt := topS 34
abbrev N__law_shown : List Str := ["_law_way_here", "_law_amount_here", "_law_figures", "_law_e"]
abbrev L__law_shown : List Str := ["_law_way_here", "_law_amount_here", "_law_figures", "_law_e"]
abbrev G__law_shown : List Str := ["MeasureError", "_law_class"]
theorem bk__law_shown : BodyOk N__law_shown L__law_shown ["_law_way_here", "_law_amount_here", "_law_figures"] G__law_shown (defScope s__law_shown) := ⟨⟨rfl, rfl, rfl, by decide +kernel, rfl, by decide +kernel, by decide +kernel⟩, rfl, by decide +kernel, by decide +kernel⟩
abbrev s__law_way : Stmt := topS 35
abbrev N__law_way : List Str := ["_law_word", "_law_e"]
abbrev L__law_way : List Str := ["_law_word", "_law_e"]
abbrev G__law_way : List Str := ["way_of", "MeasureError", "_law_class"]
theorem bk__law_way : BodyOk N__law_way L__law_way ["_law_word"] G__law_way (defScope s__law_way) := ⟨⟨rfl, rfl, rfl, by decide +kernel, rfl, by decide +kernel, by decide +kernel⟩, rfl, by decide +kernel, by decide +kernel⟩
abbrev s__law_settled : Stmt := topS 36
abbrev N__law_settled : List Str := ["_law_word", "_law_above", "_law_below", "_law_whole", "_law_left", "_law_more"]
abbrev L__law_settled : List Str := ["_law_word", "_law_above", "_law_below", "_law_whole", "_law_left", "_law_more"]
abbrev G__law_settled : List Str := ["int"]
theorem bk__law_settled : BodyOk N__law_settled L__law_settled ["_law_word", "_law_above", "_law_below"] G__law_settled (defScope s__law_settled) := ⟨⟨rfl, rfl, rfl, by decide +kernel, rfl, by decide +kernel, by decide +kernel⟩, rfl, by decide +kernel, by decide +kernel⟩
abbrev s__law_due : Stmt := topS 37
abbrev N__law_due : List Str := ["_law_word", "_law_amount_here", "_law_figures", "_law_sized", "_law_turn", "_law_whole", "_law_text", "_law_rest"]
abbrev L__law_due : List Str := ["_law_word", "_law_amount_here", "_law_figures", "_law_sized", "_law_turn", "_law_whole", "_law_text", "_law_rest"]
abbrev G__law_due : List Str := ["abs", "range", "_law_settled", "len", "str", "int"]
theorem bk__law_due : BodyOk N__law_due L__law_due ["_law_word", "_law_amount_here", "_law_figures"] G__law_due (defScope s__law_due) := ⟨⟨rfl, rfl, rfl, by decide +kernel, rfl, by decide +kernel, by decide +kernel⟩, rfl, by decide +kernel, by decide +kernel⟩
abbrev s__law_amount : Stmt := topS 38
abbrev N__law_amount : List Str := ["_law_number_here", "_law_way_here", "_law_more", "_law_above", "_law_below", "_law_shared"]
abbrev L__law_amount : List Str := ["_law_number_here", "_law_way_here", "_law_more", "_law_above", "_law_below", "_law_shared"]
abbrev G__law_amount : List Str := ["_law_common"]
theorem bk__law_amount : BodyOk N__law_amount L__law_amount ["_law_number_here"] G__law_amount (defScope s__law_amount) := ⟨⟨rfl, rfl, rfl, by decide +kernel, rfl, by decide +kernel, by decide +kernel⟩, rfl, by decide +kernel, by decide +kernel⟩
abbrev s__law_right : Stmt := topS 39
abbrev N__law_right : List Str := ["_law_way_here", "_law_word", "_law_amount_here", "_law_figures", "_law_found", "_law_told"]
abbrev L__law_right : List Str := ["_law_way_here", "_law_word", "_law_amount_here", "_law_figures", "_law_found", "_law_told"]
abbrev G__law_right : List Str := ["_law_shown", "isinstance", "str", "_law_due", "abs", "int", "bool", "_law_settled"]
theorem bk__law_right : BodyOk N__law_right L__law_right ["_law_way_here", "_law_word", "_law_amount_here", "_law_figures"] G__law_right (defScope s__law_right) := ⟨⟨rfl, rfl, rfl, by decide +kernel, rfl, by decide +kernel, by decide +kernel⟩, rfl, by decide +kernel, by decide +kernel⟩
abbrev s__law_made : Stmt := topS 40
abbrev N__law_made : List Str := ["_law_word"]
abbrev L__law_made : List Str := ["_law_word"]
abbrev G__law_made : List Str := ["Down", "Rounding", "Up", "Away", "Even"]
theorem bk__law_made : BodyOk N__law_made L__law_made ["_law_word"] G__law_made (defScope s__law_made) := ⟨⟨rfl, rfl, rfl, by decide +kernel, rfl, by decide +kernel, by decide +kernel⟩, rfl, by decide +kernel, by decide +kernel⟩
abbrev s_law : Stmt := topS 41
abbrev N_law : List Str := ["_law_script", "_law_words", "_law_k", "_law_number_here", "_law_amount_here", "_law_figures", "_law_word", "_law_way_here", "_law_things", "_law_wrong", "_law_count"]
abbrev L_law : List Str := ["_law_script", "_law_words", "_law_k", "_law_number_here", "_law_amount_here", "_law_figures", "_law_word", "_law_way_here", "_law_things", "_law_wrong", "_law_count"]
abbrev G_law : List Str := ["range", "_law_number", "_law_amount", "_law_mixed", "int", "_law_made", "_law_way", "isinstance", "Rounding", "_law_right", "_law_shown"]
theorem bk_law : BodyOk N_law L_law ["_law_script"] G_law (defScope s_law) := ⟨⟨rfl, rfl, rfl, by decide +kernel, rfl, by decide +kernel, by decide +kernel⟩, rfl, by decide +kernel, by decide +kernel⟩
section
/-! ### figures -/
/-- the j lowest figures of n, as signs -/
def fw (n : Nat) : Nat → List Nat
  | 0 => []
  | j + 1 => (48 + n / 10 ^ j % 10) :: fw n j
theorem fw_len (n : Nat) : ∀ j, (fw n j).length = j
  | 0 => rfl
  | j + 1 => by show (fw n j).length + 1 = j + 1; rw [fw_len n j]
theorem fw_low (n : Nat) : ∀ j, fw n (j + 1) = fw (n / 10) j ++ [48 + n % 10]
  | 0 => by show [48 + n / 10 ^ 0 % 10] = _; rw [Nat.pow_zero, Nat.div_one]; rfl
  | j + 1 => by
    show (48 + n / 10 ^ (j + 1) % 10) :: fw n (j + 1) = (48 + n / 10 / 10 ^ j % 10) :: (fw (n / 10) j ++ [48 + n % 10])
    rw [fw_low n j, Nat.div_div_eq_div_mul, Nat.pow_succ, Nat.mul_comm 10]
theorem fw_pad {n j : Nat} (h : n < 10 ^ j) : ∀ k, fw n (j + k) = List.replicate k 48 ++ fw n j
  | 0 => rfl
  | k + 1 => by
    show (48 + n / 10 ^ (j + k) % 10) :: fw n (j + k) = _
    rw [fw_pad h k, List.replicate_succ, Nat.div_eq_of_lt (Nat.lt_of_lt_of_le h (Nat.pow_le_pow_right (by decide) (by omega)))]
    rfl
/-- the figures of a number, as Python writes it -/
def tD (n : Nat) : List Nat := (Nat.toDigits 10 n).map Char.toNat
theorem digit_nat : ∀ d : Nat, d < 10 → (Nat.digitChar d).toNat = 48 + d := by decide
theorem tD_step (n : Nat) : tD n = if n < 10 then [48 + n] else tD (n / 10) ++ [48 + n % 10] := by
  unfold tD
  rw [Nat.toDigits_eq_if (by decide)]
  by_cases h : n < 10
  · rw [if_pos h, if_pos h, List.map_cons, List.map_nil, digit_nat n h]
  · rw [if_neg h, if_neg h, List.map_append, List.map_cons, List.map_nil, digit_nat _ (Nat.mod_lt _ (by decide))]
theorem tD_fw (n : Nat) : tD n = fw n (tD n).length ∧ n < 10 ^ (tD n).length ∧ 1 ≤ (tD n).length ∧ (n ≠ 0 → 10 ^ ((tD n).length - 1) ≤ n) := by
  induction n using Nat.strongRecOn with
  | ind n ih =>
    by_cases h : n < 10
    · have e : tD n = [48 + n] := by rw [tD_step, if_pos h]
      rw [e]
      refine ⟨?_, h, Nat.le_refl _, fun z => by show 1 ≤ n; omega⟩
      show _ = [48 + n / 10 ^ 0 % 10]
      rw [Nat.pow_zero, Nat.div_one, Nat.mod_eq_of_lt h]
    · have e : tD n = tD (n / 10) ++ [48 + n % 10] := by rw [tD_step, if_neg h]
      obtain ⟨h1, h2, h3, h4⟩ := ih (n / 10) (by omega)
      have hl : (tD n).length = (tD (n / 10)).length + 1 := by rw [e, List.length_append]; rfl
      generalize hL : (tD (n / 10)).length = L at *
      have hl' : (tD (n / 10) ++ [48 + n % 10]).length = L + 1 := by rw [List.length_append, hL]; rfl
      rw [e, hl']
      refine ⟨?_, ?_, by omega, fun _ => ?_⟩
      · rw [fw_low, ← h1]
      · rw [Nat.pow_succ]; omega
      · have := h4 (by omega)
        have e2 : 10 ^ (L + 1 - 1) = 10 ^ (L - 1) * 10 := by rw [← Nat.pow_succ]; congr 1; omega
        rw [e2]; omega
theorem text_nat (n : Nat) : ((toString (n : Int) : String) : Str).cps.toList = tD n := by
  rw [signs_ofString]
  show (Nat.repr n).toList.map _ = _
  rw [Nat.repr_eq_ofList_toDigits, String.toList_ofList]
  rfl
theorem text_eq (n : Nat) : ((toString (n : Int) : String) : Str) = ⟨(tD n).toArray⟩ := by
  rw [← text_nat]
/-- n written with at least m figures -/
def dgt (n m : Nat) : Str := ⟨(fw n (max m (tD n).length)).toArray⟩
theorem dgt_len (n m : Nat) : (dgt n m).length = max m (tD n).length := by
  show (fw n (max m (tD n).length)).toArray.size = _
  rw [List.size_toArray, fw_len]
theorem tD_head (n : Nat) : ∃ c r, tD n = c :: r ∧ 48 ≤ c := by
  obtain ⟨h1, _, h3, _⟩ := tD_fw n
  obtain ⟨L, hL⟩ : ∃ L, (tD n).length = L + 1 := ⟨(tD n).length - 1, by omega⟩
  rw [hL] at h1
  exact ⟨_, _, h1, Nat.le_add_right _ _⟩
theorem zfill_dgt (n m : Nat) : Txt.zfill (toString (n : Int) : String) (m : Int) = dgt n m := by
  obtain ⟨h1, h2, h3, _⟩ := tD_fw n
  rw [text_eq]
  unfold Txt.zfill dgt
  have hlen : (Str.mk (tD n).toArray).length = (tD n).length := List.size_toArray
  rw [hlen]
  by_cases h : (m : Int) ≤ ((tD n).length : Nat)
  · rw [if_pos h, show max m (tD n).length = (tD n).length by omega, ← h1]
  · rw [if_neg h]
    have hm : m = (tD n).length + (m - (tD n).length) := by omega
    obtain ⟨c, r, hc, h48⟩ := tD_head n
    have hz : zfilled ⟨(tD n).toArray⟩ ((m : Int).toNat - (tD n).length) = Builtin.Str.padded ⟨(tD n).toArray⟩ ((m : Int).toNat - (tD n).length) 0 48 := by
      unfold zfilled
      have e0 : (Str.mk (tD n).toArray).cps[0]? = some c := by show (tD n).toArray[0]? = some c; rw [hc]; rfl
      rw [e0]
      split
      · rename_i z; cases z; omega
      · rename_i z; cases z; omega
      · rfl
    rw [hz, show max m (tD n).length = (tD n).length + (m - (tD n).length) by omega, fw_pad h2, ← h1]
    unfold Builtin.Str.padded
    congr 1
    rw [Int.toNat_natCast]
    apply Array.ext'
    simp
/-! ### rounding -/
def settledV (w : Nat) (a b : Int) : Int :=
  if w = 0 then a / b else if w = 1 then (a + b - 1) / b else if w = 2 then (2 * a + b) / (2 * b) else if 2 * (a % b) > b ∨ (2 * (a % b) = b ∧ a / b % 2 = 1) then a / b + 1 else a / b
/-- what is to be put to the floor -/
def moreV (w : Nat) (a b : Int) : Bool :=
  if w = 0 then false else if w = 1 then decide (0 < a % b) else if w = 2 then decide (b ≤ 2 * (a % b)) else if 2 * (a % b) = b then decide (a / b % 2 = 1) else decide (b < 2 * (a % b))
theorem div_put (a b q r k : Int) (hb : 0 < b) (h : a = b * q + r) (h0 : k * b ≤ r) (h1 : r < (k + 1) * b) : a / b = q + k := by
  have e : a = (r - k * b) + b * (q + k) := by rw [h, Int.mul_add, Int.mul_comm k b]; omega
  rw [e, Int.add_mul_ediv_left _ _ (by omega), Int.ediv_eq_zero_of_lt (by omega) (by rw [Int.add_mul] at h1; omega)]
  omega
theorem settled_more (w : Nat) (a b : Int) (hb : 0 < b) : settledV w a b = a / b + (if moreV w a b = true then 1 else 0) := by
  have e := (Int.mul_ediv_add_emod a b).symm
  have r0 := Int.emod_nonneg a (show b ≠ 0 by omega)
  have r1 := Int.emod_lt_of_pos a hb
  unfold settledV moreV
  by_cases h0 : w = 0
  · rw [if_pos h0, if_pos h0, if_neg Bool.false_ne_true]; omega
  rw [if_neg h0, if_neg h0]
  by_cases h1 : w = 1
  · rw [if_pos h1, if_pos h1]
    by_cases h : 0 < a % b
    · rw [decide_eq_true h, if_pos rfl]
      exact div_put _ b (a / b) (a % b + b - 1) 1 hb (by omega) (by omega) (by omega)
    · rw [decide_eq_false h, if_neg Bool.false_ne_true]
      exact div_put _ b (a / b) (a % b + b - 1) 0 hb (by omega) (by omega) (by omega)
  rw [if_neg h1, if_neg h1]
  by_cases h2 : w = 2
  · rw [if_pos h2, if_pos h2]
    have e2 : 2 * a + b = 2 * b * (a / b) + (2 * (a % b) + b) := by
      have : 2 * b * (a / b) = 2 * (b * (a / b)) := Int.mul_assoc _ _ _
      omega
    by_cases h : b ≤ 2 * (a % b)
    · rw [decide_eq_true h, if_pos rfl]
      exact div_put _ (2 * b) (a / b) _ 1 (by omega) e2 (by omega) (by omega)
    · rw [decide_eq_false h, if_neg Bool.false_ne_true]
      exact div_put _ (2 * b) (a / b) _ 0 (by omega) e2 (by omega) (by omega)
  rw [if_neg h2, if_neg h2]
  by_cases h3 : 2 * (a % b) = b
  · rw [if_pos h3]
    by_cases h4 : a / b % 2 = 1
    · rw [if_pos (.inr ⟨h3, h4⟩), decide_eq_true h4, if_pos rfl]
    · rw [if_neg (by omega), decide_eq_false h4, if_neg Bool.false_ne_true]; omega
  · rw [if_neg h3]
    by_cases h4 : b < 2 * (a % b)
    · rw [if_pos (.inl h4), decide_eq_true h4, if_pos rfl]
    · rw [if_neg (by omega), decide_eq_false h4, if_neg Bool.false_ne_true]; omega
theorem settled_nn (w : Nat) (a b : Int) (ha : 0 ≤ a) (hb : 0 < b) : 0 ≤ settledV w a b := by
  rw [settled_more w a b hb]
  have := Int.ediv_nonneg ha (show 0 ≤ b by omega)
  split <;> omega
theorem settled_le (w : Nat) (a b : Int) (ha : 0 ≤ a) (hb : 0 < b) : settledV w a b ≤ a + 1 := by
  rw [settled_more w a b hb]
  have : a / b ≤ a := Int.ediv_le_self b ha
  split <;> omega
/-- with a point ahead of the last f figures -/
def pnt (t : Str) (f : Int) : Str := if 0 < f then cutS t none (some (-f)) ++ "." ++ cutS t (some (-f)) none else t
def shV (w : Nat) (a b f : Int) : Str :=
  let n := settledV w ((a.natAbs : Int) * 10 ^ f.toNat) b
  (if a < 0 ∧ 0 < n then ("-" : Str) else Str.empty) ++ pnt (dgt n.toNat (f.toNat + 1)) f
theorem cut_eq (t : Str) (f : Int) (h0 : 0 < f) (h1 : f ≤ t.length) : cutS t none (some (-f)) = cutS t none (some (t.length - f)) ∧ cutS t (some (-f)) none = cutS t (some (t.length - f)) none := by
  have e : ∀ d, HT.sIx t.length d (some (-f)) = HT.sIx t.length d (some (t.length - f)) := fun d => by
    show (if -f < 0 then (-f + (t.length : Int)).toNat else _) = (if (t.length : Int) - f < 0 then _ else min ((t.length : Int) - f).toNat t.length)
    rw [if_pos (by omega), if_neg (by omega)]
    omega
  unfold cutS
  rw [e, e]
  exact ⟨rfl, rfl⟩
end
local macro_rules | `(tactic| nest_cls) => `(tactic| (repeat (first | (with_reducible exact Mw.At.here) | (with_reducible apply Mw.At.there))))
local macro_rules | `(tactic| ktu_offL) => `(tactic| (repeat (first | (with_reducible exact Mw.SetA.here) | (with_reducible apply Mw.SetA.there))))
local macro_rules | `(tactic| k_allIn) => `(tactic| (with_reducible first | apply Mw.ca_isI | apply Mw.ca_isB | apply Mw.ca_isS | apply Mw.ca_isT | apply Mw.ca_isL | apply Mw.ca_isDc | apply Mw.ca_lenS | apply Mw.ca_lenT | apply Mw.ca_lenL | exact Mw.ca_intI | exact Mw.ca_intB | apply Mw.ca_intS | apply Mw.ca_strI))
local macro_rules | `(tactic| lcg_sub) => `(tactic| (with_reducible first
  | exact Mw.od_addI | exact Mw.od_subI | exact Mw.oc_eqI | exact Mw.oc_neI | exact Mw.oc_lt | exact Mw.oc_le | exact Mw.oc_gt | exact Mw.oc_ge | exact Mw.oc_isN | exact Mw.oc_notN | exact Mw.oc_isB | exact Mw.oc_notB | exact Mw.oc_eqS | exact Mw.oc_neS
  | apply Mw.od_mod | apply Mw.od_fdiv | apply Mw.od_mul | apply Mw.od_pow | apply Mw.od_addS
  | apply Mw.od_catL | apply Mw.od_mulS
  | apply Mw.oc_inT | apply Mw.oc_inL | apply Mw.oc_ninT | apply Mw.oc_ninL | exact Mw.oc_inS | exact Mw.oc_ninS
  | (apply Mw.oc_eqD; (with_reducible first | assumption | exact Mw.Body.room (by assumption) | exact L2.Room.mono (Mw.Body.room (by assumption)) (by with_unfolding_all decide))) | (apply Mw.oc_neD; (with_reducible first | assumption | exact Mw.Body.room (by assumption) | exact L2.Room.mono (Mw.Body.room (by assumption)) (by with_unfolding_all decide)))))
local macro_rules | `(tactic| k_clsL) => `(tactic| (with_reducible first | exact boot_int | exact boot_bool | exact boot_str | exact boot_tuple | exact boot_list | exact boot_dict))
local macro_rules | `(tactic| lcg_off) => `(tactic| (first
  | with_reducible exact Mw.ee_int | with_reducible exact Mw.ee_str
  | (with_reducible apply Mw.e_name; (with_reducible assumption); nest_cls; with_unfolding_all rfl)
  | (with_reducible apply Mw.e_nameB; (with_reducible assumption); (repeat (first | (with_reducible exact Mw.AtB.here) | (with_reducible apply Mw.AtB.there))); with_unfolding_all rfl)
  | with_reducible apply Mw.ee_bin
  | with_reducible apply Mw.ee_cmp
  | with_reducible apply Mw.ee_chain
  | (with_reducible apply Mw.e_call; (with_reducible assumption); (with_reducible assumption); nest_cls; (with_reducible first | assumption | exact Mw.Body.room (by assumption) | exact L2.Room.mono (Mw.Body.room (by assumption)) (by with_unfolding_all decide)))
  | with_reducible exact Mw.ee_bl | with_reducible exact Mw.ee_non
  | (with_reducible apply Mw.e_isi; (with_reducible assumption); nest_cls; (with_reducible assumption))
  | (with_reducible apply Mw.e_ty; (with_reducible assumption); nest_cls; (with_reducible assumption); k_clsL)
  | (with_reducible apply Mw.e_abs; (with_reducible assumption); nest_cls; (with_reducible assumption))
  | (with_reducible apply Mw.e_len; (with_reducible assumption); nest_cls; (with_reducible assumption))
  | (with_reducible apply Mw.e_divmod; (with_reducible assumption); nest_cls; (with_reducible assumption))
  | (with_reducible apply Mw.e_int; (with_reducible assumption); nest_cls; (with_reducible assumption))
  | (with_reducible apply Mw.e_strc; (with_reducible assumption); nest_cls; (with_reducible assumption))
  | (with_reducible apply Mw.e_cls; (with_reducible assumption); nest_cls; (with_reducible assumption))
  | (with_reducible apply Mw.e_cst; (with_reducible assumption); (with_reducible assumption); nest_cls)
  | with_reducible apply Mw.ee_neg
  | with_reducible apply Mw.ee_not
  | with_reducible apply Mw.ee_one
  | (with_reducible apply Mw.ee_and) | (with_reducible apply Mw.ee_or)
  | with_reducible apply Mw.ee_tup
  | (with_reducible apply Mw.EN.ee; with_reducible apply Mw.en_lst)
  | with_reducible apply Mw.ee_slS
  | with_reducible apply Mw.ee_sub
  | (with_reducible apply Mw.e_new0; (with_reducible assumption); (with_reducible assumption); nest_cls)
  | with_reducible apply Mw.e_zfill
  | with_reducible apply Mw.e_meth
  | (with_reducible apply Mw.e_mk; (with_reducible assumption); (with_reducible assumption); nest_cls; (with_reducible first | assumption | exact Mw.Body.room (by assumption) | exact L2.Room.mono (Mw.Body.room (by assumption)) (by with_unfolding_all decide)))
  | with_reducible apply Mw.e_xv
  | with_reducible apply Mw.ee_joined | with_reducible apply Mw.ee_fmt))
local macro_rules | `(tactic| k_memK) => `(tactic| (first
  | (with_reducible change Mw.EE _ _ _ _; lcg_off)
  | (with_reducible change Mw.EA _ _ _ _; (first | with_reducible exact Mw.ea_nil | with_reducible apply Mw.ea_cons))
  | (with_reducible change Mw.OpD _ _ _ _ _; lcg_sub)
  | (with_reducible change Mw.CaD _ _ _ _; k_allIn)
  | (with_reducible change Mw.ET _ _ _ _; (first | with_reducible apply Mw.et_cmp | with_reducible apply Mw.et_chain | with_reducible apply Mw.et_not | (with_reducible apply Mw.EW.et; with_reducible first | apply Mw.ew_and | apply Mw.ew_or) | with_reducible apply Mw.et_val))
  | (with_reducible change Mw.EW _ _ _ _; (with_reducible first | apply Mw.ew_and1 | apply Mw.ew_or1 | apply Mw.ew_and | apply Mw.ew_or))
  | (with_reducible change Mw.EN _ _ _ _; (with_reducible apply Mw.en_lst))
  | (with_reducible change Mw.ETs _ _ _ _; (with_reducible first | exact Mw.ets_nil | apply Mw.ets_one))
  | (with_reducible change (PySem.starEach _ _ = _); with_unfolding_all rfl)
  | (with_reducible change (PySem.behindInMarks _ _ = _); with_unfolding_all rfl)
  | (with_reducible change (PySem.lastMarks _ _ = _); with_unfolding_all rfl)
  | (with_reducible change (List.any _ _ = _); with_unfolding_all rfl)
  | (with_reducible change (PySem.swapsWith _ _ _ _ = _); with_unfolding_all rfl)
  | (with_reducible change (PySem.swapsWithSole _ _ _ _ = _); with_unfolding_all rfl)
  | (with_reducible change (PySem.swappedStores _ _ _ = _); with_unfolding_all rfl)
  | (with_reducible change Mw.SubD _ _ _ _ _; (with_reducible first | apply Mw.sub_T | apply Mw.sub_L))
  | (with_reducible change Mw.FmD _ _; (with_reducible first | (apply Mw.FmD.int; assumption) | apply Mw.FmD.int | apply Mw.FmD.str))
  | (with_reducible change Mw.EJ _ _ _ _ _; (with_reducible first | exact Mw.EJ.nil | apply Mw.EJ.cons))
  | (with_reducible change (L2.atI _ _ = _); with_unfolding_all rfl)
  | (with_reducible change (PySem.attributeBase _ _ _ _ = _); with_unfolding_all rfl)
  | (with_reducible change Mw.EO _ _ _ _; (with_reducible first | exact Mw.eo_none | apply Mw.eo_some))
  | (with_reducible change Mw.MetE _ _ _ _ _ _ _ _ _ _; with_reducible assumption)
  | (with_reducible change L2.Room _ _; (with_reducible first | assumption | exact Mw.Body.room (by assumption) | exact L2.Room.mono (Mw.Body.room (by assumption)) (by with_unfolding_all decide)))
  | (with_reducible change (List.lookup _ _ = none); with_unfolding_all rfl)
  | (with_reducible change (PySem.eval _ _ = _); with_unfolding_all rfl)
  | (with_reducible change (BEq.beq _ _ = true); with_unfolding_all rfl)
  | (with_reducible change ((_ && _) = true); with_unfolding_all rfl)
  | (with_reducible change Mw.IpD _ _ _ _ _; (with_reducible first | exact Mw.ip_addI | exact Mw.ip_subI))
  | (with_reducible change Mw.XvC _ _; with_reducible assumption)
  | (with_reducible change Mw.NoAt _ _ _; with_reducible assumption)
  | (with_reducible change (List.lookup _ _ = some _); with_unfolding_all rfl)
  | (with_reducible change (List.length _ = List.length _); with_unfolding_all rfl)
  | (with_reducible change (List.length _ ≤ 1000); exact Nat.le_of_ble_eq_true (by with_unfolding_all rfl))
  | (with_reducible change (Mw.isThing _ = true); (first | with_reducible assumption | with_unfolding_all rfl))
  | (with_reducible change (L2.PlainIx _); with_unfolding_all exact fun _ _ => rfl)
  | (with_reducible change (_ ≤ sizeLine); exact Mw.len_le (by with_unfolding_all rfl))
  | (with_reducible change (∀ _, PySem.isTrue _ _ _ = _); with_unfolding_all (intro _; rfl))
  | (with_reducible change (_ = true → Mw.EE _ _ _ _); intro _)
  | (with_reducible change (_ = false → Mw.EE _ _ _ _); intro _)
  | (with_reducible change (_ = true → Mw.EW _ _ _ _); intro _)
  | (with_reducible change (_ = false → Mw.EW _ _ _ _); intro _)
  | (with_reducible change (Mw.SetA _ _ _ _); ktu_offL)))
local macro_rules | `(tactic| ktu_offI) => `(tactic| ((conv => (arg 4; whnf)); have _nm := Mw.Body.nms (by assumption); have _gl := Mw.Body.glb (by assumption); simp only [Mw.startA, List.map_cons, List.map_nil, List.length_cons, List.length_nil, List.cons_append, List.nil_append, List.replicate_succ, List.replicate_zero, Nat.reduceAdd, Nat.reduceSub]))
local macro_rules | `(tactic| k_subL) => `(tactic| (first
  | with_reducible apply Mw.ss_one
  | with_reducible apply Mw.ss_cons
  | with_reducible apply Mw.ss_nil
  | with_reducible apply Mw.s1_ret
  | with_reducible apply Mw.s1_retN
  | with_reducible apply Mw.s1_pass
  | (with_reducible apply Mw.t_set; (with_reducible assumption); nest_cls)
  | (with_reducible apply Mw.t_two; (with_reducible assumption); nest_cls; nest_cls)
  | (with_reducible apply Mw.t_raise; (with_reducible assumption); (with_reducible assumption); nest_cls)))
local macro_rules | `(tactic| ktu_off1L) => `(tactic| (repeat k_memK))
local macro_rules | `(tactic| k_places) => `(tactic| (repeat (first | k_subL | k_memK)))
local macro_rules | `(tactic| l_intsW) => `(tactic| (first
  | (with_reducible apply Mw.x_call; (with_reducible assumption); (with_reducible assumption); nest_cls; (with_reducible first | assumption | exact Mw.Body.room (by assumption) | exact L2.Room.mono (Mw.Body.room (by assumption)) (by with_unfolding_all decide)))))
/-! ### what the defs do: numbers, fractions -/
section
variable {X : Cx} {Gs G : Hp} {ds : List D} {r : Except Exn D} {C : Addr}
abbrev finOf (r : Except Exn D) : Fin := { nx := fun _ => r = .ok .non, rt := fun d => r = .ok d, ex := fun x _ => r = .error x }
def isWhole : D → Bool
  | .int _ => true
  | _ => false
theorem isWhole_int {d : D} (h : isWhole d = true) : ∃ i, d = .int i := by
  cases d <;> first | exact ⟨_, rfl⟩ | cases h
def S_is_whole : FS := fun ds r => ∃ d, ds = [d] ∧ isThing d = true ∧ r = .ok (.bl (isWhole d))
/-- a whole number between the bounds -/
def needOk (d : D) (lo : Int) (m : Option Int) : Bool :=
  match d with
  | .int i => decide (lo ≤ i) && (match m with | none => true | some hi => decide (i ≤ hi))
  | _ => false
def optD : Option Int → D
  | none => .non
  | some i => .int i
def S_need_whole (C : Addr) : FS := fun ds r => ∃ d lo m, ds = [d, .int lo, optD m] ∧ isThing d = true ∧ r = if needOk d lo m = true then .ok d else .error ⟨C, []⟩
/-- of natural numbers, for the greatest common divisor -/
def S_common : FS := fun ds r => ∃ a b : Nat, ds = [.int a, .int b] ∧ b < 2 ^ 8000 ∧ r = .ok (.int (Nat.gcd a b : Nat))
/-- a number of less than 2 ^ n in size -/
abbrev Sm (n : Nat) (i : Int) : Prop := i.natAbs < 2 ^ n
theorem sm_div {i : Int} (h : 0 < i) (hs : Sm 8000 i) : CDivW i i := wide_div h hs (by decide) (by decide)
theorem cdivW_of {i j : Int} (h : 0 < j) (hs : Sm 8000 j) : CDivW i j := wide_div h hs (by decide) (by decide)
theorem cmulW_of {i j : Int} {n m : Nat} (hi : Sm n i) (hj : Sm m j) (h0 : 0 < n) (h1 : 0 < m) (h : n + m ≤ 1000000) : CMulW i j := wide_mul hi hj h0 h1 h
theorem Sm.mul {i j : Int} {n m : Nat} (hi : Sm n i) (hj : Sm m j) : Sm (n + m) (i * j) := wide_lt hi hj
theorem Sm.mono {i : Int} {n m : Nat} (h : Sm n i) (hm : n ≤ m) : Sm m i := Nat.lt_of_lt_of_le h (Nat.pow_le_pow_right (by decide) hm)
theorem Sm.add {i j : Int} {n : Nat} (hi : Sm n i) (hj : Sm n j) : Sm (n + 1) (i + j) := by
  unfold Sm at *
  rw [Nat.pow_succ]
  omega
theorem Sm.neg {i : Int} {n : Nat} (hi : Sm n i) : Sm n (-i) := by
  unfold Sm at *
  omega
theorem abs_if (i : Int) : (if i < 0 then -i else i) = (i.natAbs : Int) := by split <;> omega
/-- the fraction of a over b, told shortest -/
def fracD (a b : Int) : D := .tup [.int (a / (Nat.gcd a.natAbs b.natAbs : Nat)), .int (b / (Nat.gcd a.natAbs b.natAbs : Nat))]
def S_fraction (C : Addr) : FS := fun ds r => ∃ x y, ds = [x, y] ∧ isThing x = true ∧ isThing y = true ∧ (∀ b, y = .int b → Sm 8000 b) ∧
  ((∃ a b, x = .int a ∧ y = .int b ∧ 0 < b ∧ r = .ok (fracD a b)) ∨ ((isWhole x = false ∨ needOk y 1 none = false) ∧ r = .error ⟨C, []⟩))
/-- two parts that are things -/
def pairOk (d : D) : Prop := ∀ x y, d = .tup [x, y] → isThing x = true ∧ isThing y = true ∧ ∀ b, y = .int b → Sm 8000 b
def isFrac : D → Bool
  | .tup [.int a, .int b] => decide (0 < b) && decide (Nat.gcd a.natAbs b.natAbs = 1)
  | _ => false
def S_is_fraction : FS := fun ds r => ∃ d, ds = [d] ∧ isThing d = true ∧ pairOk d ∧ r = .ok (.bl (isFrac d))
theorem isFrac_tup {l : List D} (h : l.length ≠ 2) : isFrac (.tup l) = false := by
  match l, h with
  | [], _ => rfl
  | [x], _ => cases x <;> rfl
  | [_, _], h => exact absurd rfl h
  | x :: y :: _ :: _, _ => cases x <;> first | rfl | (cases y <;> rfl)
end
section
/-- a fraction with parts of less than 2 ^ n -/
def Fr2 (n : Nat) (d : D) (a b : Int) : Prop := d = .tup [.int a, .int b] ∧ 0 < b ∧ Sm n a ∧ Sm n b
def S_sum_of : FS := fun ds r => ∃ a b c d, ds = [.tup [.int a, .int b], .tup [.int c, .int d]] ∧ 0 < b ∧ 0 < d ∧ Sm 3000 a ∧ Sm 3000 b ∧ Sm 3000 c ∧ Sm 3000 d ∧ r = .ok (fracD (a * d + c * b) (b * d))
def S_product_of : FS := fun ds r => ∃ a b c d, ds = [.tup [.int a, .int b], .tup [.int c, .int d]] ∧ 0 < b ∧ 0 < d ∧ Sm 3000 a ∧ Sm 3000 b ∧ Sm 3000 c ∧ Sm 3000 d ∧ r = .ok (fracD (a * c) (b * d))
def S_is_less : FS := fun ds r => ∃ a b c d, ds = [.tup [.int a, .int b], .tup [.int c, .int d]] ∧ Sm 3000 a ∧ Sm 3000 b ∧ Sm 3000 c ∧ Sm 3000 d ∧ r = .ok (.bl (decide (a * d < c * b)))
/-- one over a / b -/
def overD (a b : Int) : Int × Int := if a < 0 then (0 - b, 0 - a) else (b, a)
def S_turned_over : FS := fun ds r => ∃ a b, ds = [.tup [.int a, .int b]] ∧ r = .ok (.tup [.int (overD a b).1, .int (overD a b).2])
/-- a power's two parts -/
def powP (a b e : Int) : Int × Int := if e < 0 then overD a b else (a, b)
def powD (a b e : Int) : D := .tup [.int ((powP a b e).1 ^ e.natAbs), .int ((powP a b e).2 ^ e.natAbs)]
def S_power_of (C : Addr) : FS := fun ds r => ∃ a b y, ds = [.tup [.int a, .int b], y] ∧ isThing y = true ∧
  ((∃ e n, y = .int e ∧ (e < 0 → a ≠ 0) ∧ 0 < n ∧ Sm n a ∧ Sm n b ∧ (e.natAbs + 1) * n ≤ 900000 ∧ r = .ok (powD a b e)) ∨ ((isWhole y = false ∨ (∃ e, y = .int e ∧ e < 0 ∧ a = 0)) ∧ r = .error ⟨C, []⟩))
theorem Sm.pow {i : Int} {n : Nat} (h : Sm n i) : ∀ k : Nat, Sm (k * n + 1) (i ^ k)
  | 0 => by show (i ^ 0).natAbs < 2 ^ (0 * n + 1); simp
  | k + 1 => by
    have ih := Sm.pow h k
    have q := Sm.mul ih h
    rw [Int.pow_succ]
    exact q.mono (by rw [Nat.succ_mul]; omega)
end
theorem cdivW_lit {i j : Int} (h : 0 < j) (hs : j.natAbs < 2 ^ 32) : CDivW i j := cdivW_of h (Sm.mono (n := 32) hs (by decide))
section
variable {X : Cx} {Gs G : Hp} {ds : List D} {r : Except Exn D} {C : Addr}
theorem b_is_whole (B : Body X N_is_whole L_is_whole G_is_whole 1 (defScope s_is_whole)) (m1 : X.mg "isinstance" = none) (m2 : X.mg "int" = none) (m3 : X.mg "bool" = none) (h : S_is_whole ds r) :
    SS X Gs G (defBody s_is_whole) (startA N_is_whole ds) (finOf r) := by
  obtain ⟨d, rfl, hd, rfl⟩ := h
  ktu_offI
  k_places
  change (Except.ok _ : Except Exn D) = Except.ok _
  cases d <;> rfl
end
section
variable {X : Cx} {Gs G : Hp} {ds : List D} {r : Except Exn D} {C : Addr}
theorem b_need_whole (B : Body X N_need_whole L_need_whole G_need_whole 3 (defScope s_need_whole)) (F1 : FnD X 2 "is_whole" [] S_is_whole) (E1 : ExcOk X "BadNumber" C) (h : S_need_whole C ds r) :
    SS X Gs G (defBody s_need_whole) (startA N_need_whole ds) (finOf r) := by
  obtain ⟨d, lo, m, rfl, hd, rfl⟩ := h
  ktu_offI
  k_subL
  cases hw : isWhole d with
  | false =>
    have hn : needOk d lo m = false := by cases d <;> first | rfl | cases hw
    rw [hn, if_neg Bool.false_ne_true]
    refine s1_ifT (EW.et (ew_orT (et_is (k := !isWhole d) ?_ (by rw [hw]; rfl)))) ?_
    · ktu_off1L
      exact ⟨d, rfl, hd, rfl⟩
      ktu_off1L
    · k_places
      rfl
  | true =>
    obtain ⟨i, rfl⟩ := isWhole_int hw
    by_cases h1 : lo ≤ i
    · refine s1_ifF (EW.et (ew_is (k := !isWhole (.int i) || decide (i < lo)) ?_ (by simp [hw]; omega))) ?_
      · ktu_off1L
        exact ⟨_, rfl, rfl, rfl⟩
        ktu_off1L
      k_places
      cases m with
      | none =>
        refine s1_ifF (EW.et (ew_andF (et_is (k := !isNon (optD none)) ?_ rfl))) ?_
        · ktu_off1L
        k_places
        change (if needOk _ _ _ = true then _ else _) = _
        rw [if_pos (by show (decide (lo ≤ i) && true) = true; rw [decide_eq_true h1] <;> rfl)]
      | some hi =>
        by_cases h2 : i ≤ hi
        · refine s1_ifF (EW.et (ew_andT (et_is (k := !isNon (optD (some hi))) ?_ rfl) (ew_is (k := decide (hi < i)) ?_ (by simp; omega)))) ?_
          · ktu_off1L
          · show EW X _ (vis [.fz (.int i), .fz (.int lo), .fz (.int hi)]) _
            ktu_off1L
          k_places
          change (if needOk _ _ _ = true then _ else _) = _
          rw [if_pos (by show (decide (lo ≤ i) && decide (i ≤ hi)) = true; rw [decide_eq_true h1, decide_eq_true h2] <;> rfl)]
        · refine s1_ifT (EW.et (ew_andT (et_is (k := !isNon (optD (some hi))) ?_ rfl) (ew_is (k := decide (hi < i)) ?_ (by simp; omega)))) ?_
          · ktu_off1L
          · show EW X _ (vis [.fz (.int i), .fz (.int lo), .fz (.int hi)]) _
            ktu_off1L
          k_places
          change (if needOk _ _ _ = true then _ else _) = _
          rw [if_neg (by show ¬ (decide (lo ≤ i) && decide (i ≤ hi)) = true; simp; omega)]
    · refine s1_ifT (EW.et (ew_is (k := !isWhole (.int i) || decide (i < lo)) ?_ (by simp; omega))) ?_
      · ktu_off1L
        exact ⟨_, rfl, rfl, rfl⟩
        ktu_off1L
      k_places
      change (if needOk _ _ _ = true then _ else _) = _
      rw [if_neg (by cases m <;> simp [needOk] <;> omega)]
end
section
variable {X : Cx} {Gs G : Hp} {ds : List D} {r : Except Exn D} {C : Addr}
theorem b_common (B : Body X N_common L_common G_common 1 (defScope s_common)) (m1 : X.mg "divmod" = none) (h : S_common ds r) :
    SS X Gs G (defBody s_common) (startA N_common ds) (finOf r) := by
  obtain ⟨a, b, rfl, hb, rfl⟩ := h
  ktu_offI
  k_subL
  refine s1_while (fun m as' => ∃ (x y : Nat) (s3 s4 : Sl), as' = [.fz (.int x), .fz (.int y), s3, s4] ∧ y < 2 ^ 8000 ∧ m = y ∧ Nat.gcd x y = Nat.gcd a b) b ⟨a, b, _, _, rfl, hb, rfl, rfl⟩ B.pown ?_
  rintro m as' ⟨x, y, s3, s4, rfl, hy, rfl, hg⟩
  refine ⟨!decide ((m : Int) = 0), by ktu_off1L, fun hn => ?_, fun hn => ?_⟩
  · have hy0 : m ≠ 0 := by simpa using hn
    k_places
    · exact ⟨by omega, PyProof.noPylong_of_log2 (PySem.Flt.log2_lt_of (k := 9000) (by decide) (Nat.lt_of_lt_of_le (by simpa using hy) (Nat.pow_le_pow_right (by decide) (by decide))))⟩
    k_places
    refine ⟨x % m, Nat.mod_lt _ (by omega), m, x % m, _, _, rfl, Nat.lt_trans (Nat.mod_lt _ (by omega)) hy, rfl, ?_⟩
    rw [← hg, Nat.gcd_comm m, ← Nat.gcd_rec, Nat.gcd_comm]
  · have hy0 : m = 0 := by simpa using hn
    subst hy0
    k_places
    change (Except.ok _ : Except Exn D) = Except.ok _
    rw [← hg, Nat.gcd_zero_right]
end
section
variable {X : Cx} {Gs G : Hp} {ds : List D} {r : Except Exn D} {C : Addr}
theorem b_is_fraction (B : Body X N_is_fraction L_is_fraction G_is_fraction 3 (defScope s_is_fraction)) (F1 : FnD X 2 "is_whole" [] S_is_whole) (F3 : FnD X 2 "common" [] S_common) (m1 : X.mg "abs" = none) (m2 : X.mg "isinstance" = none) (m3 : X.mg "tuple" = none) (m4 : X.mg "len" = none) (h : S_is_fraction ds r) :
    SS X Gs G (defBody s_is_fraction) (startA N_is_fraction ds) (finOf r) := by
  obtain ⟨d, rfl, hd, hp, rfl⟩ := h
  ktu_offI
  k_subL
  cases ht : isTyT d with
  | false =>
    refine s1_ifT (EW.et (ew_orT (et_is (k := !isTyT d) ?_ (by rw [ht]; rfl)))) ?_
    · ktu_off1L
    · k_places
      change (Except.ok _ : Except Exn D) = Except.ok _
      cases d <;> first | rfl | cases ht
  | true =>
    obtain ⟨l, rfl⟩ : ∃ l, d = .tup l := by cases d <;> first | exact ⟨_, rfl⟩ | cases ht
    by_cases hl : l.length = 2
    · obtain ⟨x, y, rfl⟩ : ∃ x y, l = [x, y] := by
        match l, hl with
        | [x, y], _ => exact ⟨x, y, rfl⟩
      obtain ⟨hx, hy, hs⟩ := hp x y rfl
      refine s1_if (EW.et (ew_is (k := !isTyT (.tup [x, y]) || (!decide ((([x, y].length : Nat) : Int) = 2) || (!isWhole x || !isWhole y))) ?_ rfl)) (fun hb => ?_) fun hb => ?_
      · ktu_off1L
        exact ⟨x, rfl, hx, rfl⟩
        ktu_off1L
        exact ⟨y, rfl, hy, rfl⟩
        ktu_off1L
      · have hb' : (!isWhole x || !isWhole y) = true := hb
        k_places
        change (Except.ok _ : Except Exn D) = Except.ok _
        cases x <;> first | rfl | (cases y <;> first | rfl | cases hb')
      · have hb' : (!isWhole x || !isWhole y) = false := hb
        rw [Bool.or_eq_false_iff] at hb'
        obtain ⟨a, rfl⟩ := isWhole_int (by simpa using hb'.1)
        obtain ⟨b, rfl⟩ := isWhole_int (by simpa using hb'.2)
        have hs := hs b rfl
        k_subL
        k_subL
        refine s1_ret (d := .bl (decide (0 < b) && decide (Nat.gcd a.natAbs b.natAbs = 1))) ?_ ?_
        rotate_left
        · rfl
        by_cases hb0 : 0 < b
        · rw [decide_eq_true hb0, Bool.true_and]
          refine ee_andT (ee_is (d := .bl (decide (0 < b))) ?_ (by rw [decide_eq_true hb0])) (ee_is (d := .bl (decide (((Nat.gcd a.natAbs b.natAbs : Nat) : Int) = 1))) ?_ ?_)
          · ktu_off1L
          · ktu_off1L
            rw [abs_if]
            exact ⟨a.natAbs, b.natAbs, by rw [show ((b.natAbs : Nat) : Int) = b by omega]; rfl, hs, rfl⟩
            ktu_off1L
          · congr 1
            exact dec_iff (by omega)
        · rw [decide_eq_false hb0, Bool.false_and]
          refine ee_andF (ee_is (d := .bl (decide (0 < b))) ?_ (by rw [decide_eq_false hb0]))
          ktu_off1L
    · refine s1_ifT (EW.et (ew_orF (et_is (k := !isTyT (.tup l)) ?_ rfl) (ew_orT (et_is (k := !decide (((l.length : Nat) : Int) = 2)) ?_ ?_)))) ?_
      · ktu_off1L
      · ktu_off1L
      · rw [decide_eq_false (by omega)] <;> rfl
      · k_places
        change (Except.ok _ : Except Exn D) = Except.ok _
        rw [isFrac_tup hl]
end
section
variable {X : Cx} {Gs G : Hp} {ds : List D} {r : Except Exn D} {C : Addr}
def S_settled (w : Nat) : FS := fun ds r => ∃ (C : Addr) (fs : List (Str × D)) (a b : Int), ds = [.obj C fs, .int a, .int b] ∧ 0 < b ∧ 0 ≤ a ∧ Sm 1000 a ∧ Sm 1000 b ∧ r = .ok (.int (settledV w a b))
theorem sm_two {i : Int} (h : Sm 1000 i) : CMulW 2 i := cmulW_of (n := 2) (m := 1000) (by decide) h (by decide) (by decide) (by decide)
theorem b_Rounding_settled (B : Body X N_Rounding_settled L_Rounding_settled G_Rounding_settled 1 (defScope s_Rounding_settled)) (h : S_settled 0 ds r) :
    SS X Gs G (defBody s_Rounding_settled) (startA N_Rounding_settled ds) (finOf r) := by
  obtain ⟨C, fs, a, b, rfl, hb, ha, sa, sb, rfl⟩ := h
  ktu_offI
  k_places
  · exact cdivW_of hb (sb.mono (by decide))
  k_places
  rfl
theorem b_Up_settled (B : Body X N_Up_settled L_Up_settled G_Up_settled 1 (defScope s_Up_settled)) (h : S_settled 1 ds r) :
    SS X Gs G (defBody s_Up_settled) (startA N_Up_settled ds) (finOf r) := by
  obtain ⟨C, fs, a, b, rfl, hb, ha, sa, sb, rfl⟩ := h
  ktu_offI
  k_places
  · exact cdivW_of hb (sb.mono (by decide))
  k_places
  rfl
theorem b_Away_settled (B : Body X N_Away_settled L_Away_settled G_Away_settled 1 (defScope s_Away_settled)) (h : S_settled 2 ds r) :
    SS X Gs G (defBody s_Away_settled) (startA N_Away_settled ds) (finOf r) := by
  obtain ⟨C, fs, a, b, rfl, hb, ha, sa, sb, rfl⟩ := h
  ktu_offI
  k_places
  · exact sm_two sa
  k_places
  · exact sm_two sb
  k_places
  · exact cdivW_of (by omega) ((Sm.mul (n := 2) (m := 1000) (by decide) sb).mono (by decide))
  k_places
  rfl
theorem b_Even_settled (B : Body X N_Even_settled L_Even_settled G_Even_settled 1 (defScope s_Even_settled)) (m1 : X.mg "divmod" = none) (h : S_settled 3 ds r) :
    SS X Gs G (defBody s_Even_settled) (startA N_Even_settled ds) (finOf r) := by
  obtain ⟨C, fs, a, b, rfl, hb, ha, sa, sb, rfl⟩ := h
  have sr : Sm 1000 (a % b) := by
    have r0 := Int.emod_nonneg a (show b ≠ 0 by omega)
    have r1 := Int.emod_lt_of_pos a hb
    unfold Sm at *
    omega
  ktu_offI
  k_places
  · exact ⟨hb, PyProof.noPylong_of_log2 (PySem.Flt.log2_lt_of (k := 9000) (by decide) (sb.mono (by decide)))⟩
  k_places
  refine s1_if (b := decide (b < 2 * (a % b)) || (decide (2 * (a % b) = b) && decide (a / b % 2 = 1))) ?_ (fun hh => ?_) fun hh => ?_
  · refine EW.et ?_
    ktu_off1L
    · exact sm_two sr
    ktu_off1L
    · exact sm_two sr
    ktu_off1L
    · decide
    ktu_off1L
  · k_subL
    refine t_aug B (by nest_cls) rfl (by ktu_off1L) ip_addI (by ktu_offL) ?_
    k_places
    change (Except.ok _ : Except Exn D) = Except.ok _
    unfold settledV
    rw [if_neg (by decide), if_neg (by decide), if_neg (by decide), if_pos (by simpa using hh)]
  · k_places
    change (Except.ok _ : Except Exn D) = Except.ok _
    unfold settledV
    rw [if_neg (by decide), if_neg (by decide), if_neg (by decide), if_neg (by simpa using hh)]
/-- the ways: their classes, their words -/
structure Ways where
  c : Nat → Addr
def wayOf (i : Nat) : Nat := if i = 4 then 0 else i
def tenT : Str → Option Int := PySem.intText?
theorem int_tens : ∀ f : Nat, f < 41 → PySem.intText? (("1" : Str) ++ mulS "0" (f : Int)) = some ((10 ^ f : Nat) : Int) := by decide +kernel
theorem len_tens : ∀ f : Nat, f < 41 → (mulS "0" (f : Int)).length = f ∧ (("1" : Str) ++ mulS "0" (f : Int)).length ≤ 640 := by decide +kernel
end
local macro_rules | `(tactic| nest_cls) => `(tactic| (repeat (first | (with_reducible exact Mw.At.here) | (with_reducible apply Mw.At.there))))
local macro_rules | `(tactic| ktu_offL) => `(tactic| (repeat (first | (with_reducible exact Mw.SetA.here) | (with_reducible apply Mw.SetA.there))))
local macro_rules | `(tactic| k_allIn) => `(tactic| (with_reducible first | apply Mw.ca_isI | apply Mw.ca_isB | apply Mw.ca_isS | apply Mw.ca_isT | apply Mw.ca_isL | apply Mw.ca_isDc | apply Mw.ca_lenS | apply Mw.ca_lenT | apply Mw.ca_lenL | exact Mw.ca_intI | exact Mw.ca_intB | apply Mw.ca_intS | apply Mw.ca_strI))
local macro_rules | `(tactic| lcg_sub) => `(tactic| (with_reducible first
  | exact Mw.od_addI | exact Mw.od_subI | exact Mw.oc_eqI | exact Mw.oc_neI | exact Mw.oc_lt | exact Mw.oc_le | exact Mw.oc_gt | exact Mw.oc_ge | exact Mw.oc_isN | exact Mw.oc_notN | exact Mw.oc_isB | exact Mw.oc_notB | exact Mw.oc_eqS | exact Mw.oc_neS
  | apply Mw.od_mod | apply Mw.od_fdiv | apply Mw.od_mul | apply Mw.od_pow | apply Mw.od_addS
  | apply Mw.od_catL | apply Mw.od_mulS
  | apply Mw.oc_inT | apply Mw.oc_inL | apply Mw.oc_ninT | apply Mw.oc_ninL | exact Mw.oc_inS | exact Mw.oc_ninS
  | (apply Mw.oc_eqD; (with_reducible first | assumption | exact Mw.Body.room (by assumption) | exact L2.Room.mono (Mw.Body.room (by assumption)) (by with_unfolding_all decide))) | (apply Mw.oc_neD; (with_reducible first | assumption | exact Mw.Body.room (by assumption) | exact L2.Room.mono (Mw.Body.room (by assumption)) (by with_unfolding_all decide)))))
local macro_rules | `(tactic| k_clsL) => `(tactic| (with_reducible first | exact boot_int | exact boot_bool | exact boot_str | exact boot_tuple | exact boot_list | exact boot_dict))
local macro_rules | `(tactic| lcg_off) => `(tactic| (first
  | with_reducible exact Mw.ee_int | with_reducible exact Mw.ee_str
  | (with_reducible apply Mw.e_name; (with_reducible assumption); nest_cls; with_unfolding_all rfl)
  | (with_reducible apply Mw.e_nameB; (with_reducible assumption); (repeat (first | (with_reducible exact Mw.AtB.here) | (with_reducible apply Mw.AtB.there))); with_unfolding_all rfl)
  | with_reducible apply Mw.ee_bin
  | with_reducible apply Mw.ee_cmp
  | with_reducible apply Mw.ee_chain
  | (with_reducible apply Mw.e_call; (with_reducible assumption); (with_reducible assumption); nest_cls; (with_reducible first | assumption | exact Mw.Body.room (by assumption) | exact L2.Room.mono (Mw.Body.room (by assumption)) (by with_unfolding_all decide)))
  | with_reducible exact Mw.ee_bl | with_reducible exact Mw.ee_non
  | (with_reducible apply Mw.e_isi; (with_reducible assumption); nest_cls; (with_reducible assumption))
  | (with_reducible apply Mw.e_ty; (with_reducible assumption); nest_cls; (with_reducible assumption); k_clsL)
  | (with_reducible apply Mw.e_abs; (with_reducible assumption); nest_cls; (with_reducible assumption))
  | (with_reducible apply Mw.e_len; (with_reducible assumption); nest_cls; (with_reducible assumption))
  | (with_reducible apply Mw.e_divmod; (with_reducible assumption); nest_cls; (with_reducible assumption))
  | (with_reducible apply Mw.e_int; (with_reducible assumption); nest_cls; (with_reducible assumption))
  | (with_reducible apply Mw.e_strc; (with_reducible assumption); nest_cls; (with_reducible assumption))
  | (with_reducible apply Mw.e_cls; (with_reducible assumption); nest_cls; (with_reducible assumption))
  | (with_reducible apply Mw.e_cst; (with_reducible assumption); (with_reducible assumption); nest_cls)
  | with_reducible apply Mw.ee_neg
  | with_reducible apply Mw.ee_not
  | with_reducible apply Mw.ee_one
  | (with_reducible apply Mw.ee_and) | (with_reducible apply Mw.ee_or)
  | with_reducible apply Mw.ee_tup
  | (with_reducible apply Mw.EN.ee; with_reducible apply Mw.en_lst)
  | with_reducible apply Mw.ee_slS
  | with_reducible apply Mw.ee_sub
  | (with_reducible apply Mw.e_new0; (with_reducible assumption); (with_reducible assumption); nest_cls)
  | with_reducible apply Mw.e_zfill
  | with_reducible apply Mw.e_meth
  | (with_reducible apply Mw.e_mk; (with_reducible assumption); (with_reducible assumption); nest_cls; (with_reducible first | assumption | exact Mw.Body.room (by assumption) | exact L2.Room.mono (Mw.Body.room (by assumption)) (by with_unfolding_all decide)))
  | with_reducible apply Mw.e_xv
  | with_reducible apply Mw.ee_joined | with_reducible apply Mw.ee_fmt))
local macro_rules | `(tactic| k_memK) => `(tactic| (first
  | (with_reducible change Mw.EE _ _ _ _; lcg_off)
  | (with_reducible change Mw.EA _ _ _ _; (first | with_reducible exact Mw.ea_nil | with_reducible apply Mw.ea_cons))
  | (with_reducible change Mw.OpD _ _ _ _ _; lcg_sub)
  | (with_reducible change Mw.CaD _ _ _ _; k_allIn)
  | (with_reducible change Mw.ET _ _ _ _; (first | with_reducible apply Mw.et_cmp | with_reducible apply Mw.et_chain | with_reducible apply Mw.et_not | (with_reducible apply Mw.EW.et; with_reducible first | apply Mw.ew_and | apply Mw.ew_or) | with_reducible apply Mw.et_val))
  | (with_reducible change Mw.EW _ _ _ _; (with_reducible first | apply Mw.ew_and1 | apply Mw.ew_or1 | apply Mw.ew_and | apply Mw.ew_or))
  | (with_reducible change Mw.EN _ _ _ _; (with_reducible apply Mw.en_lst))
  | (with_reducible change Mw.ETs _ _ _ _; (with_reducible first | exact Mw.ets_nil | apply Mw.ets_one))
  | (with_reducible change (PySem.starEach _ _ = _); with_unfolding_all rfl)
  | (with_reducible change (PySem.behindInMarks _ _ = _); with_unfolding_all rfl)
  | (with_reducible change (PySem.lastMarks _ _ = _); with_unfolding_all rfl)
  | (with_reducible change (List.any _ _ = _); with_unfolding_all rfl)
  | (with_reducible change (PySem.swapsWith _ _ _ _ = _); with_unfolding_all rfl)
  | (with_reducible change (PySem.swapsWithSole _ _ _ _ = _); with_unfolding_all rfl)
  | (with_reducible change (PySem.swappedStores _ _ _ = _); with_unfolding_all rfl)
  | (with_reducible change Mw.SubD _ _ _ _ _; (with_reducible first | apply Mw.sub_T | apply Mw.sub_L))
  | (with_reducible change Mw.FmD _ _; (with_reducible first | (apply Mw.FmD.int; assumption) | apply Mw.FmD.int | apply Mw.FmD.str))
  | (with_reducible change Mw.EJ _ _ _ _ _; (with_reducible first | exact Mw.EJ.nil | apply Mw.EJ.cons))
  | (with_reducible change (L2.atI _ _ = _); with_unfolding_all rfl)
  | (with_reducible change (PySem.attributeBase _ _ _ _ = _); with_unfolding_all rfl)
  | (with_reducible change Mw.EO _ _ _ _; (with_reducible first | exact Mw.eo_none | apply Mw.eo_some))
  | (with_reducible change Mw.MetE _ _ _ _ _ _ _ _ _ _; with_reducible assumption)
  | (with_reducible change L2.Room _ _; (with_reducible first | assumption | exact Mw.Body.room (by assumption) | exact L2.Room.mono (Mw.Body.room (by assumption)) (by with_unfolding_all decide)))
  | (with_reducible change (List.lookup _ _ = none); with_unfolding_all rfl)
  | (with_reducible change (PySem.eval _ _ = _); with_unfolding_all rfl)
  | (with_reducible change (BEq.beq _ _ = true); with_unfolding_all rfl)
  | (with_reducible change ((_ && _) = true); with_unfolding_all rfl)
  | (with_reducible change Mw.IpD _ _ _ _ _; (with_reducible first | exact Mw.ip_addI | exact Mw.ip_subI))
  | (with_reducible change Mw.XvC _ _; with_reducible assumption)
  | (with_reducible change Mw.NoAt _ _ _; with_reducible assumption)
  | (with_reducible change (List.lookup _ _ = some _); with_unfolding_all rfl)
  | (with_reducible change (List.length _ = List.length _); with_unfolding_all rfl)
  | (with_reducible change (List.length _ ≤ 1000); exact Nat.le_of_ble_eq_true (by with_unfolding_all rfl))
  | (with_reducible change (Mw.isThing _ = true); (first | with_reducible assumption | with_unfolding_all rfl))
  | (with_reducible change (L2.PlainIx _); with_unfolding_all exact fun _ _ => rfl)
  | (with_reducible change (_ ≤ sizeLine); exact Mw.len_le (by with_unfolding_all rfl))
  | (with_reducible change (∀ _, PySem.isTrue _ _ _ = _); with_unfolding_all (intro _; rfl))
  | (with_reducible change (_ = true → Mw.EE _ _ _ _); intro _)
  | (with_reducible change (_ = false → Mw.EE _ _ _ _); intro _)
  | (with_reducible change (_ = true → Mw.EW _ _ _ _); intro _)
  | (with_reducible change (_ = false → Mw.EW _ _ _ _); intro _)
  | (with_reducible change (Mw.SetA _ _ _ _); ktu_offL)))
local macro_rules | `(tactic| ktu_offI) => `(tactic| ((conv => (arg 4; whnf)); have _nm := Mw.Body.nms (by assumption); have _gl := Mw.Body.glb (by assumption); simp only [Mw.startA, List.map_cons, List.map_nil, List.length_cons, List.length_nil, List.cons_append, List.nil_append, List.replicate_succ, List.replicate_zero, Nat.reduceAdd, Nat.reduceSub]))
local macro_rules | `(tactic| k_subL) => `(tactic| (first
  | with_reducible apply Mw.ss_one
  | with_reducible apply Mw.ss_cons
  | with_reducible apply Mw.ss_nil
  | with_reducible apply Mw.s1_ret
  | with_reducible apply Mw.s1_retN
  | with_reducible apply Mw.s1_pass
  | (with_reducible apply Mw.t_set; (with_reducible assumption); nest_cls)
  | (with_reducible apply Mw.t_two; (with_reducible assumption); nest_cls; nest_cls)
  | (with_reducible apply Mw.t_raise; (with_reducible assumption); (with_reducible assumption); nest_cls)))
local macro_rules | `(tactic| ktu_off1L) => `(tactic| (repeat k_memK))
local macro_rules | `(tactic| k_places) => `(tactic| (repeat (first | k_subL | k_memK)))
local macro_rules | `(tactic| l_intsW) => `(tactic| (first
  | (with_reducible apply Mw.x_call; (with_reducible assumption); (with_reducible assumption); nest_cls; (with_reducible first | assumption | exact Mw.Body.room (by assumption) | exact L2.Room.mono (Mw.Body.room (by assumption)) (by with_unfolding_all decide)))))
section
variable {X : Cx} {Gs G : Hp} {ds : List D} {r : Except Exn D} {C : Addr}
def S_rshown (cl : Nat → Addr) (CN : Addr) : FS := fun ds r => ∃ (i : Nat) (x y : D), i < 5 ∧ ds = [.obj (cl i) [], x, y] ∧ isThing x = true ∧ isThing y = true ∧ pairOk x ∧
  ((∃ a b f : Int, x = .tup [.int a, .int b] ∧ y = .int f ∧ isFrac x = true ∧ 0 ≤ f ∧ f ≤ 40 ∧ Sm 200 a ∧ Sm 200 b ∧ r = .ok (.str (shV (wayOf i) a b f))) ∨ ((isFrac x = false ∨ needOk y 0 (some 40) = false) ∧ r = .error ⟨CN, []⟩))
theorem str_empty_app (z : Str) : Str.empty ++ z = z := by
  show Str.mk (#[] ++ z.cps) = z
  rw [Array.empty_append]
theorem tens_sm {f : Int} (h0 : 0 ≤ f) (h1 : f ≤ 40) : Sm 160 (10 ^ f.toNat : Int) ∧ (0 : Int) < 10 ^ f.toNat := by
  have key : ∀ n : Nat, n < 41 → ((10 : Int) ^ n).natAbs < 2 ^ 160 ∧ (0 : Int) < 10 ^ n := by decide +kernel
  exact key f.toNat (by omega)
theorem settled_sm {w : Nat} {a b : Int} (ha : 0 ≤ a) (hb : 0 < b) (sa : Sm 400 a) : Sm 401 (settledV w a b) := by
  have h1 := settled_nn w a b ha hb
  have h2 := settled_le w a b ha hb
  unfold Sm at *
  rw [Nat.pow_succ]
  have : 0 < 2 ^ 400 := Nat.two_pow_pos 400
  omega
theorem tD_small {n : Nat} (h : n < 2 ^ 401) : (tD n).length ≤ 200 := by
  obtain ⟨_, _, h3, h4⟩ := tD_fw n
  by_cases hz : n = 0
  · subst hz; decide
  · have q := h4 hz
    refine Nat.le_of_not_lt fun hl => ?_
    have : 10 ^ 200 ≤ 10 ^ ((tD n).length - 1) := Nat.pow_le_pow_right (by decide) (by omega)
    have : (2 : Nat) ^ 401 < 10 ^ 200 := by decide +kernel
    omega
theorem b_Rounding_shown {cl : Nat → Addr} (B : Body X N_Rounding_shown L_Rounding_shown G_Rounding_shown 5 (defScope s_Rounding_shown)) (F1 : FnD X 4 "is_fraction" [] S_is_fraction) (F2 : FnD X 4 "need_whole" [] (S_need_whole C)) (E1 : ExcOk X "BadNumber" C) (K1 : CstD X "MOST_FIGURES" (.int 40))
    (MS : ∀ i, i < 5 → MetD X 2 (cl i) "settled" [] (S_settled (wayOf i))) (m1 : X.mg "abs" = none) (m2 : X.mg "int" = none) (m3 : X.mg "str" = none) (h : S_rshown cl C ds r) :
    SS X Gs G (defBody s_Rounding_shown) (startA N_Rounding_shown ds) (finOf r) := by
  obtain ⟨i, x, y, hi, rfl, hx, hy, hp, h⟩ := h
  have M := MS i hi
  ktu_offI
  k_subL
  rcases h with ⟨a, b, f, rfl, rfl, hf, hf0, hf1, sa, sb, rfl⟩ | ⟨hbad, rfl⟩
  · have hb : 0 < b := by
      have z : (decide (0 < b) && decide (Nat.gcd a.natAbs b.natAbs = 1)) = true := hf
      simpa using (Bool.and_eq_true_iff.mp z).1
    have hn : needOk (.int f) 0 (some 40) = true := by
      show (decide (0 ≤ f) && decide (f ≤ 40)) = true
      rw [decide_eq_true hf0, decide_eq_true hf1] <;> rfl
    obtain ⟨tn, rfl⟩ : ∃ n : Nat, f = n := ⟨f.toNat, by omega⟩
    have l41 := len_tens tn (by omega)
    obtain ⟨st, pt⟩ := tens_sm (f := (tn : Int)) hf0 hf1
    have ep : ((10 ^ tn : Nat) : Int) = 10 ^ (tn : Int).toNat := by rw [Int.toNat_natCast, Int.natCast_pow]; rfl
    have sA : Sm 400 ((a.natAbs : Int) * 10 ^ (tn : Int).toNat) := (Sm.mul (n := 200) (m := 160) (by unfold Sm at *; simpa using sa) st).mono (by decide)
    have pA : 0 ≤ (a.natAbs : Int) * 10 ^ (tn : Int).toNat := Int.mul_nonneg (by omega) (by omega)
    have sN := settled_sm (w := wayOf i) pA hb sA
    have pN := settled_nn (wayOf i) _ b pA hb
    refine s1_ifF (et_is (k := !isFrac (.tup [.int a, .int b])) ?_ (by rw [hf] <;> rfl)) ?_
    · ktu_off1L
      exact ⟨_, rfl, hx, hp, rfl⟩
      ktu_off1L
    k_subL
    k_subL
    apply s1_expr
    · ktu_off1L
      exact ⟨.int tn, 0, some 40, rfl, rfl, by rw [hn, if_pos rfl]⟩
      ktu_off1L
    · ktu_off1L
    k_subL
    refine t_set (as1 := [.fz (.obj (cl i) []), .fz (.tup [.int a, .int b]), .fz (.int tn), .fz (.int (settledV (wayOf i) ((a.natAbs : Int) * 10 ^ (tn : Int).toNat) b)), .un]) B (by nest_cls) ?_ (by ktu_off1L) (by ktu_offL) ?_
    · ktu_off1L
      · exact hf0
      · omega
      · decide
      · rw [show ("0" : Str).length = 1 by decide +kernel]; exact Nat.le_trans (show 1 * (tn : Int).toNat ≤ 1000 by omega) (by decide)
      · rw [l41.1]; exact Nat.le_trans (show tn ≤ 1000 by omega) (by decide)
      ktu_off1L
      · rw [l41.1, show ("1" : Str).length = 1 by decide +kernel]; exact Nat.le_trans (show 1 + tn ≤ 1000 by omega) (by decide)
      ktu_off1L
      · exact int_tens tn (by omega)
      · exact l41.2
      ktu_off1L
      · rw [abs_if, ep]
        exact cmulW_of (n := 200) (m := 160) (by unfold Sm at *; simpa using sa) st (by decide) (by decide) (by decide)
      ktu_off1L
      · rw [abs_if, ep]
        exact ⟨_, _, _, _, rfl, hb, pA, sA.mono (by decide), sb.mono (by decide), rfl⟩
      ktu_off1L
    generalize hN : settledV (wayOf i) ((a.natAbs : Int) * 10 ^ (tn : Int).toNat) b = N at sN pN
    obtain ⟨n, rfl⟩ : ∃ n : Nat, N = n := ⟨N.toNat, by omega⟩
    have ln : ((n : Nat) : Int).natAbs.log2 < 1920 := Nat.lt_of_lt_of_le (PySem.Flt.log2_lt_of (by decide) sN) (by decide)
    have ez : Txt.zfill (toString (n : Int) : String) ((tn : Int) + 1) = dgt n (tn + 1) := zfill_dgt n (tn + 1)
    have dl : (dgt n (tn + 1)).length ≤ 200 := by
      rw [dgt_len]
      have := tD_small (n := n) (by unfold Sm at sN; simpa using sN)
      omega
    have dl2 : tn < (dgt n (tn + 1)).length := by rw [dgt_len]; omega
    have z : ∀ n : Nat, n ≤ 1000 → n ≤ sizeLine := fun n h => Nat.le_trans h (by decide)
    k_subL
    refine t_set (as1 := [.fz (.obj (cl i) []), .fz (.tup [.int a, .int b]), .fz (.int tn), .fz (.int n), .fz (.str (dgt n (tn + 1)))]) B (by nest_cls) ?_ (by ktu_off1L) (by ktu_offL) ?_
    · rw [← ez]
      ktu_off1L
      · exact ln
      ktu_off1L
      · have key : ∀ m : Nat, m < 41 → PadOk ((m : Int) + 1) = true := by decide +kernel
        exact key tn (by omega)
      ktu_off1L
    have fin : ∀ (t : Str), t.length ≤ 500 → pnt (dgt n (tn + 1)) tn = t → SS X Gs G ((defBody s_Rounding_shown).drop 5) [.fz (.obj (cl i) []), .fz (.tup [.int a, .int b]), .fz (.int tn), .fz (.int n), .fz (.str t)] (finOf (Except.ok (D.str (shV (wayOf i) a b tn)))) := by
      intro t hl ht
      have es : shV (wayOf i) a b tn = (if a < 0 ∧ (0 : Int) < n then ("-" : Str) else Str.empty) ++ t := by
        unfold shV
        rw [hN, ← ht]
        rfl
      (conv => (arg 4; whnf))
      k_subL
      refine s1_if (b := decide (a < 0) && decide ((0 : Int) < n)) ?_ (fun hh => ?_) fun hh => ?_
      · refine EW.et ?_
        ktu_off1L
      · k_places
        · rw [show ("-" : Str).length = 1 by decide +kernel]; exact z _ (by omega)
        k_places
        change (Except.ok _ : Except Exn D) = Except.ok _
        rw [es, if_pos (by simpa using hh)]
      · k_places
        change (Except.ok _ : Except Exn D) = Except.ok _
        rw [es, if_neg (by simpa using hh), str_empty_app]
    k_subL
    refine s1_if (b := decide ((0 : Int) < tn)) (by ktu_off1L) (fun hh => ?_) fun hh => ?_
    · have h0 : (0 : Int) < tn := by simpa using hh
      have c1 := cutS_length (dgt n (tn + 1)) none (some (-(tn : Int)))
      have c2 := cutS_length (dgt n (tn + 1)) (some (-(tn : Int))) none
      have e1 : ((".") : Str).length = 1 := by decide +kernel
      k_subL
      refine t_set (as1 := [.fz (.obj (cl i) []), .fz (.tup [.int a, .int b]), .fz (.int tn), .fz (.int n), .fz (.str (cutS (dgt n (tn + 1)) none (some (-(tn : Int))) ++ "." ++ cutS (dgt n (tn + 1)) (some (-(tn : Int))) none))]) B (by nest_cls) ?_ (by ktu_off1L) (by ktu_offL) ?_
      · ktu_off1L
        · exact z _ (by omega)
        ktu_off1L
        · exact z _ (by omega)
        ktu_off1L
        · exact z _ (by omega)
        ktu_off1L
        · exact z _ (by rw [Str.length_append]; omega)
        ktu_off1L
      exact fin _ (by rw [Str.length_append, Str.length_append]; omega) (by unfold pnt; rw [if_pos h0])
    · have h0 : ¬ (0 : Int) < tn := by simpa using hh
      k_subL
      exact fin _ (by omega) (by unfold pnt; rw [if_neg h0])
  · cases hw : isFrac x with
    | false =>
      refine s1_ifT (et_is (k := !isFrac x) ?_ (by rw [hw] <;> rfl)) ?_
      · ktu_off1L
        exact ⟨_, rfl, hx, hp, rfl⟩
        ktu_off1L
      · k_places
        rfl
    | true =>
      have hn : needOk y 0 (some 40) = false := hbad.resolve_left (by rw [hw]; decide)
      refine s1_ifF (et_is (k := !isFrac x) ?_ (by rw [hw] <;> rfl)) ?_
      · ktu_off1L
        exact ⟨_, rfl, hx, hp, rfl⟩
        ktu_off1L
      k_subL
      k_subL
      apply s1_exprX
      · l_intsW; ktu_off1L
        exact ⟨y, 0, some 40, rfl, hy, by rw [hn, if_neg Bool.false_ne_true]⟩
        ktu_off1L
      · ktu_off1L
      · rfl
end
local macro_rules | `(tactic| nest_cls) => `(tactic| (repeat (first | (with_reducible exact Mw.At.here) | (with_reducible apply Mw.At.there))))
local macro_rules | `(tactic| ktu_offL) => `(tactic| (repeat (first | (with_reducible exact Mw.SetA.here) | (with_reducible apply Mw.SetA.there))))
local macro_rules | `(tactic| k_allIn) => `(tactic| (with_reducible first | apply Mw.ca_isI | apply Mw.ca_isB | apply Mw.ca_isS | apply Mw.ca_isT | apply Mw.ca_isL | apply Mw.ca_isDc | apply Mw.ca_lenS | apply Mw.ca_lenT | apply Mw.ca_lenL | exact Mw.ca_intI | exact Mw.ca_intB | apply Mw.ca_intS | apply Mw.ca_strI))
local macro_rules | `(tactic| lcg_sub) => `(tactic| (with_reducible first
  | exact Mw.od_addI | exact Mw.od_subI | exact Mw.oc_eqI | exact Mw.oc_neI | exact Mw.oc_lt | exact Mw.oc_le | exact Mw.oc_gt | exact Mw.oc_ge | exact Mw.oc_isN | exact Mw.oc_notN | exact Mw.oc_isB | exact Mw.oc_notB | exact Mw.oc_eqS | exact Mw.oc_neS
  | apply Mw.od_mod | apply Mw.od_fdiv | apply Mw.od_mul | apply Mw.od_pow | apply Mw.od_addS
  | apply Mw.od_catL | apply Mw.od_mulS
  | apply Mw.oc_inT | apply Mw.oc_inL | apply Mw.oc_ninT | apply Mw.oc_ninL | exact Mw.oc_inS | exact Mw.oc_ninS
  | (apply Mw.oc_eqD; (with_reducible first | assumption | exact Mw.Body.room (by assumption) | exact L2.Room.mono (Mw.Body.room (by assumption)) (by with_unfolding_all decide))) | (apply Mw.oc_neD; (with_reducible first | assumption | exact Mw.Body.room (by assumption) | exact L2.Room.mono (Mw.Body.room (by assumption)) (by with_unfolding_all decide)))))
local macro_rules | `(tactic| k_clsL) => `(tactic| (with_reducible first | exact boot_int | exact boot_bool | exact boot_str | exact boot_tuple | exact boot_list | exact boot_dict))
local macro_rules | `(tactic| lcg_off) => `(tactic| (first
  | with_reducible exact Mw.ee_int | with_reducible exact Mw.ee_str
  | (with_reducible apply Mw.e_name; (with_reducible assumption); nest_cls; with_unfolding_all rfl)
  | (with_reducible apply Mw.e_nameB; (with_reducible assumption); (repeat (first | (with_reducible exact Mw.AtB.here) | (with_reducible apply Mw.AtB.there))); with_unfolding_all rfl)
  | with_reducible apply Mw.ee_bin
  | with_reducible apply Mw.ee_cmp
  | with_reducible apply Mw.ee_chain
  | (with_reducible apply Mw.e_call; (with_reducible assumption); (with_reducible assumption); nest_cls; (with_reducible first | assumption | exact Mw.Body.room (by assumption) | exact L2.Room.mono (Mw.Body.room (by assumption)) (by with_unfolding_all decide)))
  | with_reducible exact Mw.ee_bl | with_reducible exact Mw.ee_non
  | (with_reducible apply Mw.e_isi; (with_reducible assumption); nest_cls; (with_reducible assumption))
  | (with_reducible apply Mw.e_ty; (with_reducible assumption); nest_cls; (with_reducible assumption); k_clsL)
  | (with_reducible apply Mw.e_abs; (with_reducible assumption); nest_cls; (with_reducible assumption))
  | (with_reducible apply Mw.e_len; (with_reducible assumption); nest_cls; (with_reducible assumption))
  | (with_reducible apply Mw.e_divmod; (with_reducible assumption); nest_cls; (with_reducible assumption))
  | (with_reducible apply Mw.e_int; (with_reducible assumption); nest_cls; (with_reducible assumption))
  | (with_reducible apply Mw.e_strc; (with_reducible assumption); nest_cls; (with_reducible assumption))
  | (with_reducible apply Mw.e_cls; (with_reducible assumption); nest_cls; (with_reducible assumption))
  | (with_reducible apply Mw.e_cst; (with_reducible assumption); (with_reducible assumption); nest_cls)
  | with_reducible apply Mw.ee_neg
  | with_reducible apply Mw.ee_not
  | with_reducible apply Mw.ee_one
  | (with_reducible apply Mw.ee_and) | (with_reducible apply Mw.ee_or)
  | with_reducible apply Mw.ee_tup
  | (with_reducible apply Mw.EN.ee; with_reducible apply Mw.en_lst)
  | with_reducible apply Mw.ee_slS
  | with_reducible apply Mw.ee_sub
  | (with_reducible apply Mw.e_new0; (with_reducible assumption); (with_reducible assumption); nest_cls)
  | with_reducible apply Mw.e_zfill
  | with_reducible apply Mw.e_meth
  | (with_reducible apply Mw.e_mk; (with_reducible assumption); (with_reducible assumption); nest_cls; (with_reducible first | assumption | exact Mw.Body.room (by assumption) | exact L2.Room.mono (Mw.Body.room (by assumption)) (by with_unfolding_all decide)))
  | with_reducible apply Mw.e_xv
  | with_reducible apply Mw.ee_joined | with_reducible apply Mw.ee_fmt))
local macro_rules | `(tactic| k_memK) => `(tactic| (first
  | (with_reducible change Mw.EE _ _ _ _; lcg_off)
  | (with_reducible change Mw.EA _ _ _ _; (first | with_reducible exact Mw.ea_nil | with_reducible apply Mw.ea_cons))
  | (with_reducible change Mw.OpD _ _ _ _ _; lcg_sub)
  | (with_reducible change Mw.CaD _ _ _ _; k_allIn)
  | (with_reducible change Mw.ET _ _ _ _; (first | with_reducible apply Mw.et_cmp | with_reducible apply Mw.et_chain | with_reducible apply Mw.et_not | (with_reducible apply Mw.EW.et; with_reducible first | apply Mw.ew_and | apply Mw.ew_or) | with_reducible apply Mw.et_val))
  | (with_reducible change Mw.EW _ _ _ _; (with_reducible first | apply Mw.ew_and1 | apply Mw.ew_or1 | apply Mw.ew_and | apply Mw.ew_or))
  | (with_reducible change Mw.EN _ _ _ _; (with_reducible apply Mw.en_lst))
  | (with_reducible change Mw.ETs _ _ _ _; (with_reducible first | exact Mw.ets_nil | apply Mw.ets_one))
  | (with_reducible change (PySem.starEach _ _ = _); with_unfolding_all rfl)
  | (with_reducible change (PySem.behindInMarks _ _ = _); with_unfolding_all rfl)
  | (with_reducible change (PySem.lastMarks _ _ = _); with_unfolding_all rfl)
  | (with_reducible change (List.any _ _ = _); with_unfolding_all rfl)
  | (with_reducible change (PySem.swapsWith _ _ _ _ = _); with_unfolding_all rfl)
  | (with_reducible change (PySem.swapsWithSole _ _ _ _ = _); with_unfolding_all rfl)
  | (with_reducible change (PySem.swappedStores _ _ _ = _); with_unfolding_all rfl)
  | (with_reducible change Mw.SubD _ _ _ _ _; (with_reducible first | apply Mw.sub_T | apply Mw.sub_L))
  | (with_reducible change Mw.FmD _ _; (with_reducible first | (apply Mw.FmD.int; assumption) | apply Mw.FmD.int | apply Mw.FmD.str))
  | (with_reducible change Mw.EJ _ _ _ _ _; (with_reducible first | exact Mw.EJ.nil | apply Mw.EJ.cons))
  | (with_reducible change (L2.atI _ _ = _); with_unfolding_all rfl)
  | (with_reducible change (PySem.attributeBase _ _ _ _ = _); with_unfolding_all rfl)
  | (with_reducible change Mw.EO _ _ _ _; (with_reducible first | exact Mw.eo_none | apply Mw.eo_some))
  | (with_reducible change Mw.MetE _ _ _ _ _ _ _ _ _ _; with_reducible assumption)
  | (with_reducible change L2.Room _ _; (with_reducible first | assumption | exact Mw.Body.room (by assumption) | exact L2.Room.mono (Mw.Body.room (by assumption)) (by with_unfolding_all decide)))
  | (with_reducible change (List.lookup _ _ = none); with_unfolding_all rfl)
  | (with_reducible change (PySem.eval _ _ = _); with_unfolding_all rfl)
  | (with_reducible change (BEq.beq _ _ = true); with_unfolding_all rfl)
  | (with_reducible change ((_ && _) = true); with_unfolding_all rfl)
  | (with_reducible change Mw.IpD _ _ _ _ _; (with_reducible first | exact Mw.ip_addI | exact Mw.ip_subI))
  | (with_reducible change Mw.XvC _ _; with_reducible assumption)
  | (with_reducible change Mw.NoAt _ _ _; with_reducible assumption)
  | (with_reducible change (List.lookup _ _ = some _); with_unfolding_all rfl)
  | (with_reducible change (List.length _ = List.length _); with_unfolding_all rfl)
  | (with_reducible change (List.length _ ≤ 1000); exact Nat.le_of_ble_eq_true (by with_unfolding_all rfl))
  | (with_reducible change (Mw.isThing _ = true); (first | with_reducible assumption | with_unfolding_all rfl))
  | (with_reducible change (L2.PlainIx _); with_unfolding_all exact fun _ _ => rfl)
  | (with_reducible change (_ ≤ sizeLine); exact Mw.len_le (by with_unfolding_all rfl))
  | (with_reducible change (∀ _, PySem.isTrue _ _ _ = _); with_unfolding_all (intro _; rfl))
  | (with_reducible change (_ = true → Mw.EE _ _ _ _); intro _)
  | (with_reducible change (_ = false → Mw.EE _ _ _ _); intro _)
  | (with_reducible change (_ = true → Mw.EW _ _ _ _); intro _)
  | (with_reducible change (_ = false → Mw.EW _ _ _ _); intro _)
  | (with_reducible change (Mw.SetA _ _ _ _); ktu_offL)))
local macro_rules | `(tactic| ktu_offI) => `(tactic| ((conv => (arg 4; whnf)); have _nm := Mw.Body.nms (by assumption); have _gl := Mw.Body.glb (by assumption); simp only [Mw.startA, List.map_cons, List.map_nil, List.length_cons, List.length_nil, List.cons_append, List.nil_append, List.replicate_succ, List.replicate_zero, Nat.reduceAdd, Nat.reduceSub]))
local macro_rules | `(tactic| k_subL) => `(tactic| (first
  | with_reducible apply Mw.ss_one
  | with_reducible apply Mw.ss_cons
  | with_reducible apply Mw.ss_nil
  | with_reducible apply Mw.s1_ret
  | with_reducible apply Mw.s1_retN
  | with_reducible apply Mw.s1_pass
  | (with_reducible apply Mw.t_set; (with_reducible assumption); nest_cls)
  | (with_reducible apply Mw.h_set; (with_reducible assumption); nest_cls)
  | (with_reducible apply Mw.t_two; (with_reducible assumption); nest_cls; nest_cls)
  | (with_reducible apply Mw.t_raise; (with_reducible assumption); (with_reducible assumption); nest_cls)))
local macro_rules | `(tactic| ktu_off1L) => `(tactic| (repeat k_memK))
local macro_rules | `(tactic| k_places) => `(tactic| (repeat (first | k_subL | k_memK)))
local macro_rules | `(tactic| l_intsW) => `(tactic| (first
  | (with_reducible apply Mw.x_call; (with_reducible assumption); (with_reducible assumption); nest_cls; (with_reducible first | assumption | exact Mw.Body.room (by assumption) | exact L2.Room.mono (Mw.Body.room (by assumption)) (by with_unfolding_all decide)))))
section
variable {X : Cx} {Gs G : Hp} {ds : List D} {r : Except Exn D} {C : Addr}
/-- a word's look: a text and whether it is this one -/
def eqW (x : D) (z : Str) : Bool := match x with
  | .str y => decide (y = z)
  | _ => false
def wordOk (x : D) : Prop := pyOk x = true ∨ ∃ ks, x = .dct ks
theorem oc_eqW {k : Nat} {x : D} {z : Str} (hr : Room k X.A) (hx : wordOk x) (hz : PyData.strOk z = true) : OpD X (compareOp .Eq) x (.str z) (.bl (eqW x z)) := by
  rcases hx with hx | ⟨ks, rfl⟩
  · have hp : pyOk (.str z) = true := by
      show (PyData.strOk z && decide _) = true
      rw [hz] <;> rfl
    cases x with
    | str y => exact oc_eqS
    | non => exact oc_eqD hr hx hp
    | bl b => exact oc_eqD hr hx hp
    | int i => exact oc_eqD hr hx hp
    | tup l => exact oc_eqD hr hx hp
    | lst l => exact oc_eqD hr hx hp
    | _ => cases hx
  · exact oc_eqDS hr
def wordS (w : Nat) : Str := if w = 0 then "down" else if w = 1 then "up" else if w = 2 then "away" else "even"
/-- the way of a word -/
def wayW (x : D) : Option Nat := if eqW x "down" = true then some 0 else if eqW x "up" = true then some 1 else if eqW x "away" = true then some 2 else if eqW x "even" = true then some 3 else none
def S_way_of (cl : Nat → Addr) (CM : Addr) : FS := fun ds r => ∃ x, ds = [x] ∧ wordOk x ∧ r = match wayW x with | some w => .ok (.obj (cl w) []) | none => .error ⟨CM, []⟩
theorem b_way_of {cl : Nat → Addr} (B : Body X N_way_of L_way_of G_way_of 1 (defScope s_way_of)) (E1 : ExcOk X "BadName" C) (N0 : New0 X.K X.mg "Down" (cl 0)) (N1 : New0 X.K X.mg "Up" (cl 1)) (N2 : New0 X.K X.mg "Away" (cl 2)) (N3 : New0 X.K X.mg "Even" (cl 3)) (h : S_way_of cl C ds r) :
    SS X Gs G (defBody s_way_of) (startA N_way_of ds) (finOf r) := by
  obtain ⟨x, rfl, hx, rfl⟩ := h
  ktu_offI
  k_subL
  refine s1_if (b := eqW x "down") (et_cmp (by ktu_off1L) (by ktu_off1L) (oc_eqW B.room hx (by decide +kernel)) (by ktu_off1L)) (fun h0 => ?_) fun h0 => ?_
  · k_places
    change _ = _
    unfold wayW
    rw [if_pos h0]
  k_subL
  k_subL
  refine s1_if (b := eqW x "up") (et_cmp (by ktu_off1L) (by ktu_off1L) (oc_eqW B.room hx (by decide +kernel)) (by ktu_off1L)) (fun h1 => ?_) fun h1 => ?_
  · k_places
    change _ = _
    unfold wayW
    rw [if_neg (by rw [h0]; decide), if_pos h1]
  k_subL
  k_subL
  refine s1_if (b := eqW x "away") (et_cmp (by ktu_off1L) (by ktu_off1L) (oc_eqW B.room hx (by decide +kernel)) (by ktu_off1L)) (fun h2 => ?_) fun h2 => ?_
  · k_places
    change _ = _
    unfold wayW
    rw [if_neg (by rw [h0]; decide), if_neg (by rw [h1]; decide), if_pos h2]
  k_subL
  k_subL
  refine s1_if (b := eqW x "even") (et_cmp (by ktu_off1L) (by ktu_off1L) (oc_eqW B.room hx (by decide +kernel)) (by ktu_off1L)) (fun h3 => ?_) fun h3 => ?_
  · k_places
    change _ = _
    unfold wayW
    rw [if_neg (by rw [h0]; decide), if_neg (by rw [h1]; decide), if_neg (by rw [h2]; decide), if_pos h3]
  k_places
  change _ = _
  unfold wayW
  rw [if_neg (by rw [h0]; decide), if_neg (by rw [h1]; decide), if_neg (by rw [h2]; decide), if_neg (by rw [h3]; decide)]
end
section
variable {X : Cx} {Gs G : Hp} {ds : List D} {r : Except Exn D} {C : Addr}
/-- what a caught class is asked about: the names ahead are BadName, BadNumber -/
structure LcE (K : PySem.W.Frag) (A : Nat → Addr) (C : Addr) (b1 b2 : Bool) : Prop where
  ec : ExcC K C
  k0 : PySem.W.kitOne K (.ref C) (.ref (A 0)) = some b1
  k1 : PySem.W.kitOne K (.ref C) (.ref (A 1)) = some b2
  ks : ∀ i, 2 ≤ i → i < 13 → PySem.W.kitOne K (.ref C) (.ref (A i)) = some false
  kv : PySem.W.kitOne K (.ref C) (.type "ValueError") = some true
def S_class (K : PySem.W.Frag) (A : Nat → Addr) : Addr → D → Prop := fun C d => ∃ b1 b2, LcE K A C b1 b2 ∧ ((b1 = true ∧ b2 = false ∧ d = .str "name") ∨ (b1 = false ∧ b2 = true ∧ d = .str "number"))
theorem b_law_class {A : Nat → Addr} {a : Addr} {oe : Obj} {d : D} (B : BodyN X N__law_class L__law_class G__law_class (defScope s__law_class)) (m1 : X.mg "isinstance" = none) (m2 : X.mg "ValueError" = none)
    (h0 : X.mg "BadName" = some (.ref (A 0))) (h1 : X.mg "BadNumber" = some (.ref (A 1))) (h2 : X.mg "BadCount" = some (.ref (A 2))) (h3 : X.mg "BadRate" = some (.ref (A 3))) (h4 : X.mg "BadText" = some (.ref (A 4))) (h5 : X.mg "Clash" = some (.ref (A 5))) (h6 : X.mg "BadUnit" = some (.ref (A 6))) (h7 : X.mg "BadTable" = some (.ref (A 7))) (h8 : X.mg "NoName" = some (.ref (A 8))) (h9 : X.mg "NoRow" = some (.ref (A 9))) (h10 : X.mg "Steep" = some (.ref (A 10))) (h11 : X.mg "Twice" = some (.ref (A 11))) (h12 : X.mg "Unlike" = some (.ref (A 12)))
    (hp : (a, oe) ∈ X.pn) (hz : Zc (.ref C) none oe) (hf : ∃ vs, oe.data = .fields vs) (h : S_class X.K A C d) :
    SS X Gs G (defBody s__law_class) (startA N__law_class [.cls a]) { nx := fun _ => d = .non, rt := fun d' => d' = d } := by
  obtain ⟨b1, b2, L, hd⟩ := h
  (conv => (arg 4; whnf))
  have _nm := B.nms
  have _gl := B.glb
  simp only [startA, List.map_cons, List.map_nil, List.length_cons, List.length_nil, List.cons_append, List.nil_append, List.replicate_succ, List.replicate_zero, Nat.reduceAdd, Nat.reduceSub]
  k_places
  · exact ca_isP L.ec hp hz hf L.k0
  k_places
  · exact ca_isP L.ec hp hz hf L.k1
  k_places
  · exact ca_isP L.ec hp hz hf (L.ks 2 (by decide) (by decide))
  k_places
  · exact ca_isP L.ec hp hz hf (L.ks 3 (by decide) (by decide))
  k_places
  · exact ca_isP L.ec hp hz hf (L.ks 4 (by decide) (by decide))
  k_places
  · exact ca_isP L.ec hp hz hf (L.ks 5 (by decide) (by decide))
  k_places
  · exact ca_isP L.ec hp hz hf (L.ks 6 (by decide) (by decide))
  k_places
  · exact ca_isP L.ec hp hz hf (L.ks 7 (by decide) (by decide))
  k_places
  · exact ca_isP L.ec hp hz hf (L.ks 8 (by decide) (by decide))
  k_places
  · exact ca_isP L.ec hp hz hf (L.ks 9 (by decide) (by decide))
  k_places
  · exact ca_isP L.ec hp hz hf (L.ks 10 (by decide) (by decide))
  k_places
  · exact ca_isP L.ec hp hz hf (L.ks 11 (by decide) (by decide))
  k_places
  · exact ca_isP L.ec hp hz hf (L.ks 12 (by decide) (by decide))
  k_places
  refine s1_ifF (EW.et (ew_is (k := !decide ((([b1, b2].count true : Nat) : Int) = 1) || (false || !true)) ?_ ?_)) ?_
  · refine ew_or (et_cmp (e_countB (bs := [b1, b2]) ?_ ?_) ?_ oc_neI ?_) fun _ => ew_or (k := false) (et_is (k := inD (.bl true) (([.bl false, .bl false, .bl false, .bl false] ++ [.bl false, .bl false, .bl false, .bl false]) ++ [.bl false, .bl false, .bl false])) ?_ ?_) fun _ => ew_or1 (et_not (et_val ?_))
    · ktu_off1L
    · ktu_off1L
    · ktu_off1L
    · ktu_off1L
    · ktu_off1L
      all_goals rfl
    · rfl
    · ktu_off1L
      · exact e_ty (by assumption) (by nest_cls) (by assumption) boot_ValueError
      · exact ca_isPT L.ec hp hz hf L.kv
      ktu_off1L
  · rcases hd with ⟨rfl, rfl, _⟩ | ⟨rfl, rfl, _⟩ <;> rfl
  k_subL
  k_subL
  rcases hd with ⟨rfl, rfl, rfl⟩ | ⟨rfl, rfl, rfl⟩
  · refine s1_ret (d := .str "name") ?_ rfl
    refine ee_sub (EN.ee (en_lst (ds := [.str "name", .str "number"]) ?_ ?_)) (e_indexB (bs := [true, false]) (j := 0) ?_ ?_ rfl (fun m hm => absurd hm (Nat.not_lt_zero m))) (sub_L rfl)
    · ktu_off1L
    · ktu_off1L
    · ktu_off1L
    · ktu_off1L
  · refine s1_ret (d := .str "number") ?_ rfl
    refine ee_sub (EN.ee (en_lst (ds := [.str "name", .str "number"]) ?_ ?_)) (e_indexB (bs := [false, true]) (j := 1) ?_ ?_ rfl (fun m hm => by (obtain rfl : m = 0 := by omega); rfl)) (sub_L rfl)
    · ktu_off1L
    · ktu_off1L
    · ktu_off1L
    · ktu_off1L
end
section
variable {X : Cx} {Gs G : Hp} {ds : List D} {r : Except Exn D} {C : Addr}
def S_lshown (cl : Nat → Addr) : FS := fun ds r => ∃ (i : Nat) (x y : D), i < 5 ∧ ds = [.obj (cl i) [], x, y] ∧ isThing x = true ∧ isThing y = true ∧ pairOk x ∧
  ((∃ a b f : Int, x = .tup [.int a, .int b] ∧ y = .int f ∧ isFrac x = true ∧ 0 ≤ f ∧ f ≤ 40 ∧ Sm 200 a ∧ Sm 200 b ∧ r = .ok (.str (shV (wayOf i) a b f))) ∨ ((isFrac x = false ∨ needOk y 0 (some 40) = false) ∧ r = .ok (.lst [.str "number"])))
theorem b_law_shown {cl : Nat → Addr} {A : Nat → Addr} {M : Addr} (B : Body X N__law_shown L__law_shown G__law_shown 7 (defScope s__law_shown)) (MS : ∀ i, i < 5 → MetD X 6 (cl i) "shown" [] (S_rshown cl C)) (Hc : HotD X 2 "_law_class" (S_class X.K A)) (hM : X.mg "MeasureError" = some (.ref M)) (cat : CatE X.K C M true) (L : LcE X.K A C false true) (h : S_lshown cl ds r) :
    SS X Gs G (defBody s__law_shown) (startA N__law_shown ds) (finOf r) := by
  obtain ⟨i, x, y, hi, rfl, hx, hy, hp, h⟩ := h
  have MSi := MS i hi
  ktu_offI
  k_subL
  refine t_try (fun xn as' => xn = ⟨C, []⟩ ∧ as' = [.fz (.obj (cl i) []), .fz x, .fz y, .un] ∧ r = .ok (.lst [.str "number"])) B (by nest_cls) (nk_beq (by decide +kernel)) (by nest_cls) hM (fun pn xe B' => ?_) ?_
  · have _nm' := B'.nms
    have _gl' := B'.glb
    have M1 : MetD (X.tr pn xe) 6 (cl i) "shown" [] (S_rshown cl C) := MSi
    k_subL
    rcases h with ⟨a, b, f, rfl, rfl, hf, hf0, hf1, sa, sb, rfl⟩ | ⟨hbad, rfl⟩
    · refine s1_ret (d := .str (shV (wayOf i) a b f)) ?_ rfl
      ktu_off1L
      · exact ⟨i, _, _, hi, rfl, hx, hy, hp, .inl ⟨a, b, f, rfl, rfl, hf, hf0, hf1, sa, sb, rfl⟩⟩
      ktu_off1L
    · refine s1_retX (xn := ⟨C, []⟩) (x_meth (fs := []) (ds := [x, y]) ?_ M1 rfl ?_ ?_ ?_) ⟨rfl, rfl, rfl⟩
      · ktu_off1L
      · ktu_off1L
      · ktu_off1L
      · exact ⟨i, x, y, hi, rfl, hx, hy, hp, .inr ⟨hbad, rfl⟩⟩
  · rintro xn as' ⟨rfl, rfl, rfl⟩
    refine ⟨true, cat, (fun z => nomatch z), fun _ a oe dd pn hz hf h0 _ => ?_⟩
    obtain rfl := h0 rfl
    have _nm' : Nms (X.suite a ((a, oe) :: pn)) L__law_shown := Nms.suite (by assumption)
    have _gl' : Gls (X.suite a ((a, oe) :: pn)) G__law_shown := Gls.suite (by assumption)
    show SS _ Gs G _ [.fz (.obj (cl i) []), .fz x, .fz y, .fz (.cls a)] _
    k_subL
    refine s1_ret (d := .lst [.str "number"]) (EN.ee (en_lst (ea_cons (e_hot (i := 3) _gl' _nm' Hc (B.room.mono (by decide)) (by nest_cls) (by nest_cls) rfl hz hf ⟨false, true, L, .inr ⟨rfl, rfl, rfl⟩⟩) ea_nil) ?_)) rfl
    ktu_off1L
def S_lway (cl : Nat → Addr) : FS := fun ds r => ∃ x, ds = [x] ∧ wordOk x ∧ r = match wayW x with | some w => .ok (.obj (cl w) []) | none => .ok (.str "name")
theorem b_law_way {cl : Nat → Addr} {A : Nat → Addr} {M : Addr} (B : Body X N__law_way L__law_way G__law_way 3 (defScope s__law_way)) (F1 : FnD X 2 "way_of" [] (S_way_of cl C)) (Hc : HotD X 2 "_law_class" (S_class X.K A)) (hM : X.mg "MeasureError" = some (.ref M)) (cat : CatE X.K C M true) (L : LcE X.K A C true false) (h : S_lway cl ds r) :
    SS X Gs G (defBody s__law_way) (startA N__law_way ds) (finOf r) := by
  obtain ⟨x, rfl, hx, rfl⟩ := h
  ktu_offI
  k_subL
  refine t_try (fun xn as' => xn = ⟨C, []⟩ ∧ as' = [.fz x, .un] ∧ wayW x = none) B (by nest_cls) (nk_beq (by decide +kernel)) (by nest_cls) hM (fun pn xe B' => ?_) ?_
  · have _nm' := B'.nms
    have _gl' := B'.glb
    have F1' : FnD (X.tr pn xe) 2 "way_of" [] (S_way_of cl C) := F1
    k_subL
    cases hw : wayW x with
    | some w =>
      refine s1_ret (d := .obj (cl w) []) ?_ rfl
      ktu_off1L
      · exact ⟨x, rfl, hx, by rw [hw]⟩
      ktu_off1L
    | none =>
      refine s1_retX (xn := ⟨C, []⟩) ?_ ⟨rfl, rfl, rfl⟩
      l_intsW; ktu_off1L
      · exact ⟨x, rfl, hx, by rw [hw]⟩
      ktu_off1L
  · rintro xn as' ⟨rfl, rfl, hw⟩
    refine ⟨true, cat, (fun z => nomatch z), fun _ a oe dd pn hz hf h0 _ => ?_⟩
    obtain rfl := h0 rfl
    have _nm' : Nms (X.suite a ((a, oe) :: pn)) L__law_way := Nms.suite (by assumption)
    have _gl' : Gls (X.suite a ((a, oe) :: pn)) G__law_way := Gls.suite (by assumption)
    show SS _ Gs G _ [.fz x, .fz (.cls a)] _
    k_subL
    refine s1_ret (d := .str "name") (e_hot (i := 1) _gl' _nm' Hc (B.room.mono (by decide)) (by nest_cls) (by nest_cls) rfl hz hf ⟨true, false, L, .inl ⟨rfl, rfl, rfl⟩⟩) ?_
    show (match wayW x with | some w => _ | none => _) = _
    rw [hw]
end
local macro_rules | `(tactic| nest_cls) => `(tactic| (repeat (first | (with_reducible exact Mw.At.here) | (with_reducible apply Mw.At.there))))
local macro_rules | `(tactic| ktu_offL) => `(tactic| (repeat (first | (with_reducible exact Mw.SetA.here) | (with_reducible apply Mw.SetA.there))))
local macro_rules | `(tactic| k_allIn) => `(tactic| (with_reducible first | apply Mw.ca_isI | apply Mw.ca_isB | apply Mw.ca_isS | apply Mw.ca_isT | apply Mw.ca_isL | apply Mw.ca_isDc | apply Mw.ca_lenS | apply Mw.ca_lenT | apply Mw.ca_lenL | exact Mw.ca_intI | exact Mw.ca_intB | apply Mw.ca_intS | apply Mw.ca_strI))
local macro_rules | `(tactic| lcg_sub) => `(tactic| (with_reducible first
  | exact Mw.od_addI | exact Mw.od_subI | exact Mw.oc_eqI | exact Mw.oc_neI | exact Mw.oc_lt | exact Mw.oc_le | exact Mw.oc_gt | exact Mw.oc_ge | exact Mw.oc_isN | exact Mw.oc_notN | exact Mw.oc_isB | exact Mw.oc_notB | exact Mw.oc_eqS | exact Mw.oc_neS
  | apply Mw.od_mod | apply Mw.od_fdiv | apply Mw.od_mul | apply Mw.od_pow | apply Mw.od_addS
  | apply Mw.od_catL | apply Mw.od_mulS
  | apply Mw.oc_inT | apply Mw.oc_inL | apply Mw.oc_ninT | apply Mw.oc_ninL | exact Mw.oc_inS | exact Mw.oc_ninS
  | (apply Mw.oc_eqD; (with_reducible first | assumption | exact Mw.Body.room (by assumption) | exact L2.Room.mono (Mw.Body.room (by assumption)) (by with_unfolding_all decide))) | (apply Mw.oc_neD; (with_reducible first | assumption | exact Mw.Body.room (by assumption) | exact L2.Room.mono (Mw.Body.room (by assumption)) (by with_unfolding_all decide)))))
local macro_rules | `(tactic| k_clsL) => `(tactic| (with_reducible first | exact boot_int | exact boot_bool | exact boot_str | exact boot_tuple | exact boot_list | exact boot_dict))
local macro_rules | `(tactic| lcg_off) => `(tactic| (first
  | with_reducible exact Mw.ee_int | with_reducible exact Mw.ee_str
  | (with_reducible apply Mw.e_name; (with_reducible assumption); nest_cls; with_unfolding_all rfl)
  | (with_reducible apply Mw.e_nameB; (with_reducible assumption); (repeat (first | (with_reducible exact Mw.AtB.here) | (with_reducible apply Mw.AtB.there))); with_unfolding_all rfl)
  | with_reducible apply Mw.ee_bin
  | with_reducible apply Mw.ee_cmp
  | with_reducible apply Mw.ee_chain
  | (with_reducible apply Mw.e_call; (with_reducible assumption); (with_reducible assumption); nest_cls; (with_reducible first | assumption | exact Mw.Body.room (by assumption) | exact L2.Room.mono (Mw.Body.room (by assumption)) (by with_unfolding_all decide)))
  | with_reducible exact Mw.ee_bl | with_reducible exact Mw.ee_non
  | (with_reducible apply Mw.e_isi; (with_reducible assumption); nest_cls; (with_reducible assumption))
  | (with_reducible apply Mw.e_ty; (with_reducible assumption); nest_cls; (with_reducible assumption); k_clsL)
  | (with_reducible apply Mw.e_abs; (with_reducible assumption); nest_cls; (with_reducible assumption))
  | (with_reducible apply Mw.e_len; (with_reducible assumption); nest_cls; (with_reducible assumption))
  | (with_reducible apply Mw.e_divmod; (with_reducible assumption); nest_cls; (with_reducible assumption))
  | (with_reducible apply Mw.e_int; (with_reducible assumption); nest_cls; (with_reducible assumption))
  | (with_reducible apply Mw.e_strc; (with_reducible assumption); nest_cls; (with_reducible assumption))
  | (with_reducible apply Mw.e_cls; (with_reducible assumption); nest_cls; (with_reducible assumption))
  | (with_reducible apply Mw.e_cst; (with_reducible assumption); (with_reducible assumption); nest_cls)
  | with_reducible apply Mw.ee_neg
  | with_reducible apply Mw.ee_not
  | with_reducible apply Mw.ee_one
  | (with_reducible apply Mw.ee_and) | (with_reducible apply Mw.ee_or)
  | with_reducible apply Mw.ee_tup
  | (with_reducible apply Mw.EN.ee; with_reducible apply Mw.en_lst)
  | with_reducible apply Mw.ee_slS
  | with_reducible apply Mw.ee_sub
  | (with_reducible apply Mw.e_new0; (with_reducible assumption); (with_reducible assumption); nest_cls)
  | with_reducible apply Mw.e_zfill
  | with_reducible apply Mw.e_meth
  | (with_reducible apply Mw.e_mk; (with_reducible assumption); (with_reducible assumption); nest_cls; (with_reducible first | assumption | exact Mw.Body.room (by assumption) | exact L2.Room.mono (Mw.Body.room (by assumption)) (by with_unfolding_all decide)))
  | with_reducible apply Mw.e_xv
  | with_reducible apply Mw.ee_joined | with_reducible apply Mw.ee_fmt))
local macro_rules | `(tactic| k_memK) => `(tactic| (first
  | (with_reducible change Mw.EE _ _ _ _; lcg_off)
  | (with_reducible change Mw.EA _ _ _ _; (first | with_reducible exact Mw.ea_nil | with_reducible apply Mw.ea_cons))
  | (with_reducible change Mw.OpD _ _ _ _ _; lcg_sub)
  | (with_reducible change Mw.CaD _ _ _ _; k_allIn)
  | (with_reducible change Mw.ET _ _ _ _; (first | with_reducible apply Mw.et_cmp | with_reducible apply Mw.et_chain | with_reducible apply Mw.et_not | (with_reducible apply Mw.EW.et; with_reducible first | apply Mw.ew_and | apply Mw.ew_or) | with_reducible apply Mw.et_val))
  | (with_reducible change Mw.EW _ _ _ _; (with_reducible first | apply Mw.ew_and1 | apply Mw.ew_or1 | apply Mw.ew_and | apply Mw.ew_or))
  | (with_reducible change Mw.EN _ _ _ _; (with_reducible apply Mw.en_lst))
  | (with_reducible change Mw.ETs _ _ _ _; (with_reducible first | exact Mw.ets_nil | apply Mw.ets_one))
  | (with_reducible change (PySem.starEach _ _ = _); with_unfolding_all rfl)
  | (with_reducible change (PySem.behindInMarks _ _ = _); with_unfolding_all rfl)
  | (with_reducible change (PySem.lastMarks _ _ = _); with_unfolding_all rfl)
  | (with_reducible change (List.any _ _ = _); with_unfolding_all rfl)
  | (with_reducible change (PySem.swapsWith _ _ _ _ = _); with_unfolding_all rfl)
  | (with_reducible change (PySem.swapsWithSole _ _ _ _ = _); with_unfolding_all rfl)
  | (with_reducible change (PySem.swappedStores _ _ _ = _); with_unfolding_all rfl)
  | (with_reducible change Mw.SubD _ _ _ _ _; (with_reducible first | apply Mw.sub_T | apply Mw.sub_L))
  | (with_reducible change Mw.FmD _ _; (with_reducible first | (apply Mw.FmD.int; assumption) | apply Mw.FmD.int | apply Mw.FmD.str))
  | (with_reducible change Mw.EJ _ _ _ _ _; (with_reducible first | exact Mw.EJ.nil | apply Mw.EJ.cons))
  | (with_reducible change (L2.atI _ _ = _); with_unfolding_all rfl)
  | (with_reducible change (PySem.attributeBase _ _ _ _ = _); with_unfolding_all rfl)
  | (with_reducible change Mw.EO _ _ _ _; (with_reducible first | exact Mw.eo_none | apply Mw.eo_some))
  | (with_reducible change Mw.MetE _ _ _ _ _ _ _ _ _ _; with_reducible assumption)
  | (with_reducible change L2.Room _ _; (with_reducible first | assumption | exact Mw.Body.room (by assumption) | exact L2.Room.mono (Mw.Body.room (by assumption)) (by with_unfolding_all decide)))
  | (with_reducible change (List.lookup _ _ = none); with_unfolding_all rfl)
  | (with_reducible change (PySem.eval _ _ = _); with_unfolding_all rfl)
  | (with_reducible change (BEq.beq _ _ = true); with_unfolding_all rfl)
  | (with_reducible change ((_ && _) = true); with_unfolding_all rfl)
  | (with_reducible change Mw.IpD _ _ _ _ _; (with_reducible first | exact Mw.ip_addI | exact Mw.ip_subI))
  | (with_reducible change Mw.XvC _ _; with_reducible assumption)
  | (with_reducible change Mw.NoAt _ _ _; with_reducible assumption)
  | (with_reducible change (List.lookup _ _ = some _); with_unfolding_all rfl)
  | (with_reducible change (List.length _ = List.length _); with_unfolding_all rfl)
  | (with_reducible change (List.length _ ≤ 1000); exact Nat.le_of_ble_eq_true (by with_unfolding_all rfl))
  | (with_reducible change (Mw.isThing _ = true); (first | with_reducible assumption | with_unfolding_all rfl))
  | (with_reducible change (L2.PlainIx _); with_unfolding_all exact fun _ _ => rfl)
  | (with_reducible change (_ ≤ sizeLine); exact Mw.len_le (by with_unfolding_all rfl))
  | (with_reducible change (∀ _, PySem.isTrue _ _ _ = _); with_unfolding_all (intro _; rfl))
  | (with_reducible change (_ = true → Mw.EE _ _ _ _); intro _)
  | (with_reducible change (_ = false → Mw.EE _ _ _ _); intro _)
  | (with_reducible change (_ = true → Mw.EW _ _ _ _); intro _)
  | (with_reducible change (_ = false → Mw.EW _ _ _ _); intro _)
  | (with_reducible change (Mw.SetA _ _ _ _); ktu_offL)))
local macro_rules | `(tactic| ktu_offI) => `(tactic| ((conv => (arg 4; whnf)); have _nm := Mw.Body.nms (by assumption); have _gl := Mw.Body.glb (by assumption); simp only [Mw.startA, List.map_cons, List.map_nil, List.length_cons, List.length_nil, List.cons_append, List.nil_append, List.replicate_succ, List.replicate_zero, Nat.reduceAdd, Nat.reduceSub]))
local macro_rules | `(tactic| k_subL) => `(tactic| (first
  | with_reducible apply Mw.ss_one
  | with_reducible apply Mw.ss_cons
  | with_reducible apply Mw.ss_nil
  | with_reducible apply Mw.s1_ret
  | with_reducible apply Mw.s1_retN
  | with_reducible apply Mw.s1_pass
  | (with_reducible apply Mw.t_set; (with_reducible assumption); nest_cls)
  | (with_reducible apply Mw.h_set; (with_reducible assumption); nest_cls)
  | (with_reducible apply Mw.t_two; (with_reducible assumption); nest_cls; nest_cls)
  | (with_reducible apply Mw.t_raise; (with_reducible assumption); (with_reducible assumption); nest_cls)))
local macro_rules | `(tactic| ktu_off1L) => `(tactic| (repeat k_memK))
local macro_rules | `(tactic| k_places) => `(tactic| (repeat (first | k_subL | k_memK)))
local macro_rules | `(tactic| l_intsW) => `(tactic| (first
  | (with_reducible apply Mw.x_call; (with_reducible assumption); (with_reducible assumption); nest_cls; (with_reducible first | assumption | exact Mw.Body.room (by assumption) | exact L2.Room.mono (Mw.Body.room (by assumption)) (by with_unfolding_all decide)))))
section
variable {X : Cx} {Gs G : Hp} {ds : List D} {r : Except Exn D} {C : Addr}
def S_lsettled : FS := fun ds r => ∃ (w : Nat) (a b : Int), w < 4 ∧ ds = [.str (wordS w), .int a, .int b] ∧ 0 < b ∧ 0 ≤ a ∧ Sm 1000 a ∧ Sm 1000 b ∧ r = .ok (.int (settledV w a b))
abbrev mD (x y z : D) : List (Key × D) := [(.inr "down", x), (.inr "up", y), (.inr "away", z)]
abbrev mE (x y z v : D) : List (Key × D) := [(.inr "down", x), (.inr "up", y), (.inr "away", z), (.inr "even", v)]
theorem m_merge (x y z : D) : mergeKD [] (mD x y z) = mD x y z := by kernel_rfl
theorem m_put0 (x y z v : D) : putKD (mD x y z) (.inr "even") v = mE x y z v := by kernel_rfl
theorem m_put1 (x y z u v : D) : putKD (mE x y z u) (.inr "even") v = mE x y z v := by kernel_rfl
theorem m_val0 (x y z v : D) : valD (mE x y z v) (.inr (wordS 0)) = some x := by kernel_rfl
theorem m_val1 (x y z v : D) : valD (mE x y z v) (.inr (wordS 1)) = some y := by kernel_rfl
theorem m_val2 (x y z v : D) : valD (mE x y z v) (.inr (wordS 2)) = some z := by kernel_rfl
theorem m_val3 (x y z v : D) : valD (mE x y z v) (.inr (wordS 3)) = some v := by kernel_rfl
theorem b_law_settled (B : Body X N__law_settled L__law_settled G__law_settled 1 (defScope s__law_settled)) (m1 : X.mg "int" = none) (h : S_lsettled ds r) :
    SS X Gs G (defBody s__law_settled) (startA N__law_settled ds) (finOf r) := by
  obtain ⟨w, a, b, hw, rfl, hb, ha, sa, sb, rfl⟩ := h
  have el : a - a / b * b = a % b := by rw [Int.emod_def, Int.mul_comm]
  have sr : Sm 1000 (a % b) := by
    have r0 := Int.emod_nonneg a (show b ≠ 0 by omega)
    have r1 := Int.emod_lt_of_pos a hb
    unfold Sm at *
    omega
  have sq : Sm 1000 (a / b) := by
    have h1 := Int.ediv_nonneg ha (show 0 ≤ b by omega)
    have h2 : a / b ≤ a := Int.ediv_le_self b ha
    unfold Sm at *
    omega
  ktu_offI
  k_subL
  refine t_set (as1 := [.fz (.str (wordS w)), .fz (.int a), .fz (.int b), .fz (.int (a / b)), .un, .un]) B (by nest_cls) ?_ (by ktu_off1L) (by ktu_offL) ?_
  · ktu_off1L
    exact cdivW_of hb (sb.mono (by decide))
  k_subL
  refine t_set (as1 := [.fz (.str (wordS w)), .fz (.int a), .fz (.int b), .fz (.int (a / b)), .fz (.int (a % b)), .un]) B (by nest_cls) (ee_is (d := .int (a - a / b * b)) ?_ (by rw [el])) (by ktu_off1L) (by ktu_offL) ?_
  · ktu_off1L
    · exact cmulW_of sq sb (by decide) (by decide) (by decide)
    ktu_off1L
  k_subL
  refine t_setN (as1 := [.fz (.str (wordS w)), .fz (.int a), .fz (.int b), .fz (.int (a / b)), .fz (.int (a % b)), .ow (.dct (mergeKD [] (mD (.bl false) (.bl (decide (0 < a % b))) (.bl (decide (b ≤ 2 * (a % b)))))))]) B (by nest_cls) (en_disp (ks := (mD (.bl false) (.bl (decide (0 < a % b))) (.bl (decide (b ≤ 2 * (a % b)))))) (.cons (k := .inr "down") ?_ ?_ (.cons (k := .inr "up") ?_ ?_ (.cons (k := .inr "away") ?_ ?_ .nil))) rfl rfl (by intro z; cases z) (by decide) (by exact Nat.le_of_ble_eq_true (by rfl))) (by ktu_off1L) (by ktu_offL) ?_
  · change EE _ _ _ (.str "down"); ktu_off1L
  · ktu_off1L
  · change EE _ _ _ (.str "up"); ktu_off1L
  · ktu_off1L
  · change EE _ _ _ (.str "away"); ktu_off1L
  · ktu_off1L
    · exact sm_two sr
    ktu_off1L
  rw [m_merge]
  k_subL
  have fin : ∀ v : Bool, v = moreV 3 a b → SS X Gs G ((defBody s__law_settled).drop 5) [.fz (.str (wordS w)), .fz (.int a), .fz (.int b), .fz (.int (a / b)), .fz (.int (a % b)), .ow (.dct (mE (.bl false) (.bl (decide (0 < a % b))) (.bl (decide (b ≤ 2 * (a % b)))) (.bl v)))] (finOf (Except.ok (D.int (settledV w a b)))) := by
    intro v hv
    (conv => (arg 4; whnf))
    k_subL
    refine s1_ret (d := .int (a / b + (if moreV w a b = true then 1 else 0))) ?_ (by show Except.ok _ = Except.ok _; rw [settled_more w a b hb])
    have hg : valD (mE (.bl false) (.bl (decide (0 < a % b))) (.bl (decide (b ≤ 2 * (a % b)))) (.bl v)) (.inr (wordS w)) = some (.bl (moreV w a b)) := by
      have hw' : w = 0 ∨ w = 1 ∨ w = 2 ∨ w = 3 := by omega
      rcases hw' with rfl | rfl | rfl | rfl
      · exact m_val0 _ _ _ _
      · exact m_val1 _ _ _ _
      · exact m_val2 _ _ _ _
      · rw [hv]
        exact m_val3 _ _ _ _
    refine ee_bin ?_ (e_int (by assumption) (by nest_cls) m1 (ee_dget (k := .inr (wordS w)) (ks := mE (.bl false) (.bl (decide (0 < a % b))) (.bl (decide (b ≤ 2 * (a % b)))) (.bl v)) (B.room) ?_ ?_ hg) ca_intB) od_addI
    · ktu_off1L
    · ktu_off1L
    · change EE _ _ _ (.str (wordS w)); ktu_off1L
  refine t_dput (k := .inr "even") (as1 := [.fz (.str (wordS w)), .fz (.int a), .fz (.int b), .fz (.int (a / b)), .fz (.int (a % b)), .ow (.dct (mE (.bl false) (.bl (decide (0 < a % b))) (.bl (decide (b ≤ 2 * (a % b)))) (.bl (decide (b < 2 * (a % b))))))]) B (by nest_cls) rfl (d := .bl (decide (b < 2 * (a % b)))) ?_ ?_ ?_ (by rw [m_put0]; ktu_offL) ?_
  · ktu_off1L
    · exact sm_two sr
    ktu_off1L
  · change EE _ _ _ (.str "even"); ktu_off1L
  · exact Nat.lt_of_lt_of_le (show 3 < 1000 by decide) (by decide)
  k_subL
  refine s1_if (b := decide (2 * (a % b) = b)) ?_ (fun hh => ?_) fun hh => ?_
  · ktu_off1L
    · exact sm_two sr
    ktu_off1L
  · have h0 : 2 * (a % b) = b := by simpa using hh
    k_subL
    have s2 : Sm 1000 (a / b / 2) := by
      have h1 := Int.ediv_nonneg ha (show 0 ≤ b by omega)
      unfold Sm at *
      omega
    refine t_dput (k := .inr "even") (as1 := [.fz (.str (wordS w)), .fz (.int a), .fz (.int b), .fz (.int (a / b)), .fz (.int (a % b)), .ow (.dct (mE (.bl false) (.bl (decide (0 < a % b))) (.bl (decide (b ≤ 2 * (a % b)))) (.bl (decide (a / b - a / b / 2 * 2 = 1)))))]) B (by nest_cls) rfl (d := .bl (decide (a / b - a / b / 2 * 2 = 1))) ?_ ?_ ?_ (by rw [m_put1]; ktu_offL) ?_
    · ktu_off1L
      · exact cdivW_lit (by decide) (by decide)
      ktu_off1L
      · exact cmulW_of (n := 1000) (m := 2) s2 (by decide) (by decide) (by decide) (by decide)
      ktu_off1L
    · change EE _ _ _ (.str "even"); ktu_off1L
    · exact Nat.lt_of_lt_of_le (show 4 < 1000 by decide) (by decide)
    refine fin _ ?_
    unfold moreV
    rw [if_neg (by decide), if_neg (by decide), if_neg (by decide), if_pos h0]
    exact dec_iff (by omega)
  · have h0 : ¬ 2 * (a % b) = b := by simpa using hh
    k_subL
    refine fin _ ?_
    unfold moreV
    rw [if_neg (by decide), if_neg (by decide), if_neg (by decide), if_neg h0]
end
section
variable {X : Cx} {Gs G : Hp} {ds : List D} {r : Except Exn D} {C : Addr}
def S_ldue : FS := fun ds r => ∃ (w : Nat) (a b f : Int), w < 4 ∧ ds = [.str (wordS w), .tup [.int a, .int b], .int f] ∧ 0 < b ∧ 0 ≤ f ∧ f ≤ 40 ∧ Sm 200 a ∧ Sm 200 b ∧ r = .ok (.str (shV w a b f))
theorem digit_text {d : Nat} (h : d < 10) : ((toString ((d : Nat) : Int) : String) : Str) = ⟨#[48 + d]⟩ := by
  rw [text_eq, tD_step, if_pos h]
theorem dig_cons (n j : Nat) : ((toString (((n / 10 ^ j % 10 : Nat)) : Int) : String) : Str) ++ (⟨(fw n j).toArray⟩ : Str) = ⟨(fw n (j + 1)).toArray⟩ := by
  rw [digit_text (Nat.mod_lt _ (by decide))]
  show Str.mk (#[48 + n / 10 ^ j % 10] ++ (fw n j).toArray) = Str.mk ((48 + n / 10 ^ j % 10) :: fw n j).toArray
  simp
theorem b_law_due (B : Body X N__law_due L__law_due G__law_due 3 (defScope s__law_due)) (F1 : FnD X 2 "_law_settled" [] S_lsettled) (m1 : X.mg "abs" = none) (m2 : X.mg "range" = none) (m3 : X.mg "str" = none) (m4 : X.mg "len" = none) (m5 : X.mg "int" = none) (h : S_ldue ds r) :
    SS X Gs G (defBody s__law_due) (startA N__law_due ds) (finOf r) := by
  obtain ⟨w, a, b, f, hw, rfl, hb, hf0, hf1, sa, sb, rfl⟩ := h
  obtain ⟨tn, rfl⟩ : ∃ n : Nat, f = n := ⟨f.toNat, by omega⟩
  have sa' : Sm 200 (a.natAbs : Int) := by unfold Sm at *; simpa using sa
  ktu_offI
  k_subL
  refine t_set (as1 := [.fz (.str (wordS w)), .fz (.tup [.int a, .int b]), .fz (.int tn), .fz (.int a.natAbs), .un, .un, .un, .un]) B (by nest_cls) (ee_is (d := .int (if a < 0 then -a else a)) ?_ (by rw [abs_if])) (by ktu_off1L) (by ktu_offL) ?_
  · ktu_off1L
  k_subL
  refine t_forR (z := (tn : Int)) B (by nest_cls) (by nest_cls) (by assumption) (by ktu_off1L) (by omega) (fun t as' => ∃ s, as' = [.fz (.str (wordS w)), .fz (.tup [.int a, .int b]), .fz (.int tn), .fz (.int ((a.natAbs : Int) * 10 ^ t)), s, .un, .un, .un]) ⟨.un, by rw [Int.pow_zero, Int.mul_one]⟩ ?_ ?_
  · rintro t as' ht ⟨s, rfl⟩
    refine ⟨_, by ktu_offL, ?_⟩
    obtain ⟨st, _⟩ := tens_sm (f := (t : Int)) (by omega) (by omega)
    rw [Int.toNat_natCast] at st
    k_places
    · exact cmulW_of (n := 400) (m := 8) ((sa'.mul st).mono (by decide)) (by decide) (by decide) (by decide) (by decide)
    k_places
    exact ⟨_, by rw [Int.pow_succ, Int.mul_assoc]⟩
  rintro as' ⟨s, rfl⟩
  obtain ⟨st, pt⟩ := tens_sm (f := (tn : Int)) hf0 hf1
  rw [Int.toNat_natCast] at st pt ⊢
  have sA : Sm 400 ((a.natAbs : Int) * 10 ^ tn) := (sa'.mul st).mono (by decide)
  have pA : 0 ≤ (a.natAbs : Int) * 10 ^ tn := Int.mul_nonneg (by omega) (by omega)
  have sN := settled_sm (w := w) pA hb sA
  have pN := settled_nn w _ b pA hb
  have es : shV w a b tn = (if a < 0 ∧ 0 < settledV w ((a.natAbs : Int) * 10 ^ tn) b then ("-" : Str) else Str.empty) ++ pnt (dgt (settledV w ((a.natAbs : Int) * 10 ^ tn) b).toNat (tn + 1)) tn := rfl
  rw [es]
  k_subL
  refine t_set (as1 := [.fz (.str (wordS w)), .fz (.tup [.int a, .int b]), .fz (.int tn), .fz (.int ((a.natAbs : Int) * 10 ^ tn)), s, .fz (.int (settledV w ((a.natAbs : Int) * 10 ^ tn) b)), .un, .un]) B (by nest_cls) ?_ (by ktu_off1L) (by ktu_offL) ?_
  · ktu_off1L
    · exact ⟨w, _, _, hw, rfl, hb, pA, sA.mono (by decide), sb.mono (by decide), rfl⟩
    ktu_off1L
  generalize settledV w ((a.natAbs : Int) * 10 ^ tn) b = N at sN pN
  obtain ⟨n, rfl⟩ : ∃ n : Nat, N = n := ⟨N.toNat, by omega⟩
  have hn : n < 2 ^ 401 := by unfold Sm at sN; simpa using sN
  obtain ⟨q1, q2, q3, q4⟩ := tD_fw n
  have ql := tD_small hn
  k_subL
  refine t_set (as1 := [.fz (.str (wordS w)), .fz (.tup [.int a, .int b]), .fz (.int tn), .fz (.int ((a.natAbs : Int) * 10 ^ tn)), s, .fz (.int n), .fz (.str ⟨(fw n 0).toArray⟩), .un]) B (by nest_cls) (ee_is (d := .str "") (d' := .str ⟨(fw n 0).toArray⟩) ?_ rfl) (by ktu_off1L) (by ktu_offL) ?_
  · ktu_off1L
  k_subL
  refine t_set (as1 := [.fz (.str (wordS w)), .fz (.tup [.int a, .int b]), .fz (.int tn), .fz (.int ((a.natAbs : Int) * 10 ^ tn)), s, .fz (.int n), .fz (.str ⟨(fw n 0).toArray⟩), .fz (.int (n / 10 ^ 0 : Nat))]) B (by nest_cls) (ee_is (d := .int n) (d' := .int (n / 10 ^ 0 : Nat)) ?_ (by rw [Nat.pow_zero, Nat.div_one])) (by ktu_off1L) (by ktu_offL) ?_
  · ktu_off1L
  k_subL
  have z : ∀ n : Nat, n ≤ 1000 → n ≤ sizeLine := fun n h => Nat.le_trans h (by decide)
  have fl : ∀ j, (Str.mk (fw n j).toArray).length = j := fun j => by show (fw n j).toArray.size = j; rw [List.size_toArray, fw_len]
  refine s1_while (fun m as' => ∃ j, as' = [.fz (.str (wordS w)), .fz (.tup [.int a, .int b]), .fz (.int tn), .fz (.int ((a.natAbs : Int) * 10 ^ tn)), s, .fz (.int n), .fz (.str ⟨(fw n j).toArray⟩), .fz (.int (n / 10 ^ j : Nat))] ∧ j ≤ max (tn + 1) (tD n).length ∧ m = max (tn + 1) (tD n).length - j) (max (tn + 1) (tD n).length) ⟨0, rfl, Nat.zero_le _, rfl⟩ B.pown ?_
  rintro m as' ⟨j, rfl, hj, rfl⟩
  refine ⟨decide ((0 : Int) < (n / 10 ^ j : Nat)) || decide (((Str.mk (fw n j).toArray).length : Int) < (tn : Int) + 1), ?_, fun hc => ?_, fun hc => ?_⟩
  · refine EW.et ?_
    ktu_off1L
    · exact z _ (by rw [fl]; omega)
    ktu_off1L
  · have hlt : j < max (tn + 1) (tD n).length := by
      rcases Bool.or_eq_true_iff.mp hc with c | c
      · have c1 : (0 : Int) < (n / 10 ^ j : Nat) := of_decide_eq_true c
        have c2 : 10 ^ j ≤ n := Nat.le_of_not_lt fun q => by rw [Nat.div_eq_of_lt q] at c1; omega
        have : j < (tD n).length := (Nat.pow_lt_pow_iff_right (show 1 < 10 by decide)).mp (Nat.lt_of_le_of_lt c2 q2)
        omega
      · have c1 := of_decide_eq_true c
        rw [fl] at c1
        omega
    have ed : (((n / 10 ^ j : Nat) : Int) % 10) = ((n / 10 ^ j % 10 : Nat) : Int) := by omega
    have ed2 : (((n / 10 ^ j : Nat) : Int) / 10) = ((n / 10 ^ (j + 1) : Nat) : Int) := by
      rw [Nat.pow_succ, ← Nat.div_div_eq_div_mul]
      omega
    k_subL
    refine t_set (as1 := [.fz (.str (wordS w)), .fz (.tup [.int a, .int b]), .fz (.int tn), .fz (.int ((a.natAbs : Int) * 10 ^ tn)), s, .fz (.int n), .fz (.str ⟨(fw n (j + 1)).toArray⟩), .fz (.int (n / 10 ^ j : Nat))]) B (by nest_cls) (ee_is (d := .str (((toString ((((n / 10 ^ j : Nat) : Int) % 10)) : String) : Str) ++ (⟨(fw n j).toArray⟩ : Str))) ?_ (by rw [ed, dig_cons])) (by ktu_off1L) (by ktu_offL) ?_
    · ktu_off1L
      · decide
      ktu_off1L
      · rw [ed]
        exact Nat.lt_of_lt_of_le (PySem.Flt.log2_lt_of (k := 10) (by decide) (by have := Nat.mod_lt (n / 10 ^ j) (show 0 < 10 by decide); show n / 10 ^ j % 10 < _; omega)) (by decide)
      ktu_off1L
      · rw [ed, digit_text (Nat.mod_lt _ (by decide)), fl]
        exact z _ (by show 1 + j ≤ 1000; omega)
      ktu_off1L
    k_subL
    refine t_set (as1 := [.fz (.str (wordS w)), .fz (.tup [.int a, .int b]), .fz (.int tn), .fz (.int ((a.natAbs : Int) * 10 ^ tn)), s, .fz (.int n), .fz (.str ⟨(fw n (j + 1)).toArray⟩), .fz (.int (n / 10 ^ (j + 1) : Nat))]) B (by nest_cls) (ee_is (d := .int (((n / 10 ^ j : Nat) : Int) / 10)) ?_ (by rw [ed2])) (by ktu_off1L) (by ktu_offL) ?_
    · ktu_off1L
      · exact cdivW_lit (by decide) (by decide)
      ktu_off1L
    exact ⟨max (tn + 1) (tD n).length - (j + 1), by omega, j + 1, rfl, by omega, rfl⟩
  · have ej : j = max (tn + 1) (tD n).length := by
      obtain ⟨c1, c2⟩ := Bool.or_eq_false_iff.mp hc
      have c1 : ¬ (0 : Int) < (n / 10 ^ j : Nat) := of_decide_eq_false c1
      have c2 := of_decide_eq_false c2
      rw [fl] at c2
      have c3 : n < 10 ^ j := Nat.lt_of_not_le fun q => c1 (by have := Nat.div_pos q (Nat.pow_pos (show 0 < 10 by decide)); omega)
      have c4 : (tD n).length ≤ max j 1 := by
        by_cases hz : n = 0
        · subst hz
          exact Nat.le_trans (by decide) (Nat.le_max_right _ _)
        · have : (tD n).length - 1 < j := (Nat.pow_lt_pow_iff_right (show 1 < 10 by decide)).mp (Nat.lt_of_le_of_lt (q4 hz) c3)
          omega
      omega
    subst ej
    have dl : (dgt n (tn + 1)).length = max (tn + 1) (tD n).length := dgt_len n (tn + 1)
    have en : ((n : Nat) : Int).toNat = n := Int.toNat_natCast n
    rw [en]
    show SS X Gs G _ [.fz (.str (wordS w)), .fz (.tup [.int a, .int b]), .fz (.int tn), .fz (.int ((a.natAbs : Int) * 10 ^ tn)), s, .fz (.int n), .fz (.str (dgt n (tn + 1))), .fz (.int (n / 10 ^ (max (tn + 1) (tD n).length) : Nat))] _
    have fin : ∀ (t : Str), t.length ≤ 500 → pnt (dgt n (tn + 1)) tn = t → SS X Gs G ((defBody s__law_due).drop 7) [.fz (.str (wordS w)), .fz (.tup [.int a, .int b]), .fz (.int tn), .fz (.int ((a.natAbs : Int) * 10 ^ tn)), s, .fz (.int n), .fz (.str t), .fz (.int (n / 10 ^ (max (tn + 1) (tD n).length) : Nat))] (finOf (Except.ok (D.str ((if a < 0 ∧ (0 : Int) < n then ("-" : Str) else Str.empty) ++ pnt (dgt n (tn + 1)) tn)))) := by
      intro t hl ht
      rw [ht]
      (conv => (arg 4; whnf))
      k_subL
      refine s1_ret (d := .str ((if a < 0 ∧ (0 : Int) < n then ("-" : Str) else Str.empty) ++ t)) ?_ rfl
      refine ee_bin (x := .str (if a < 0 ∧ (0 : Int) < n then ("-" : Str) else Str.empty)) (y := .str t) (ee_sub (x := .lst [.str "", .str "-"]) (y := .int (if (decide (a < 0) && decide ((0 : Int) < n)) = true then 1 else 0)) ?_ ?_ (sub_L ?_)) ?_ (od_addS ?_)
      · ktu_off1L
      · ktu_off1L
      · by_cases c : a < 0 ∧ (0 : Int) < n
        · rw [if_pos c, if_pos (by simpa using c)]; rfl
        · rw [if_neg c, if_neg (by simpa using c)]; rfl
      · ktu_off1L
      · have : (if a < 0 ∧ (0 : Int) < n then ("-" : Str) else Str.empty).length ≤ 1 := by split <;> decide +kernel
        exact z _ (by omega)
    k_subL
    refine s1_if (b := decide ((0 : Int) < tn)) (by ktu_off1L) (fun hh => ?_) fun hh => ?_
    · have h0 : (0 : Int) < tn := by simpa using hh
      have c1 := cutS_length (dgt n (tn + 1)) none (some ((dgt n (tn + 1)).length - (tn : Int)))
      have c2 := cutS_length (dgt n (tn + 1)) (some ((dgt n (tn + 1)).length - (tn : Int))) none
      obtain ⟨k1, k2⟩ := cut_eq (dgt n (tn + 1)) tn h0 (by rw [dl]; omega)
      have e1 : ((".") : Str).length = 1 := by decide +kernel
      k_subL
      refine t_set (as1 := [.fz (.str (wordS w)), .fz (.tup [.int a, .int b]), .fz (.int tn), .fz (.int ((a.natAbs : Int) * 10 ^ tn)), s, .fz (.int n), .fz (.str (cutS (dgt n (tn + 1)) none (some ((dgt n (tn + 1)).length - (tn : Int))) ++ "." ++ cutS (dgt n (tn + 1)) (some ((dgt n (tn + 1)).length - (tn : Int))) none)), .fz (.int (n / 10 ^ (max (tn + 1) (tD n).length) : Nat))]) B (by nest_cls) ?_ (by ktu_off1L) (by ktu_offL) ?_
      · ktu_off1L
        · exact z _ (by omega)
        ktu_off1L
        · exact z _ (by omega)
        ktu_off1L
        · exact z _ (by omega)
        ktu_off1L
        · exact z _ (by omega)
        ktu_off1L
        · exact z _ (by omega)
        ktu_off1L
        · exact z _ (by rw [Str.length_append]; omega)
        ktu_off1L
      exact fin _ (by rw [Str.length_append, Str.length_append]; omega) (by unfold pnt; rw [if_pos h0, k1, k2])
    · have h0 : ¬ (0 : Int) < tn := by simpa using hh
      k_subL
      exact fin _ (by omega) (by unfold pnt; rw [if_neg h0])
end
local macro_rules | `(tactic| nest_cls) => `(tactic| (repeat (first | (with_reducible exact Mw.At.here) | (with_reducible apply Mw.At.there))))
local macro_rules | `(tactic| ktu_offL) => `(tactic| (repeat (first | (with_reducible exact Mw.SetA.here) | (with_reducible apply Mw.SetA.there))))
local macro_rules | `(tactic| k_allIn) => `(tactic| (with_reducible first | apply Mw.ca_isI | apply Mw.ca_isB | apply Mw.ca_isS | apply Mw.ca_isT | apply Mw.ca_isL | apply Mw.ca_isDc | apply Mw.ca_lenS | apply Mw.ca_lenT | apply Mw.ca_lenL | exact Mw.ca_intI | exact Mw.ca_intB | apply Mw.ca_intS | apply Mw.ca_strI))
local macro_rules | `(tactic| lcg_sub) => `(tactic| (with_reducible first
  | exact Mw.od_addI | exact Mw.od_subI | exact Mw.oc_eqI | exact Mw.oc_neI | exact Mw.oc_lt | exact Mw.oc_le | exact Mw.oc_gt | exact Mw.oc_ge | exact Mw.oc_isN | exact Mw.oc_notN | exact Mw.oc_isB | exact Mw.oc_notB | exact Mw.oc_eqS | exact Mw.oc_neS
  | apply Mw.od_mod | apply Mw.od_fdiv | apply Mw.od_mul | apply Mw.od_pow | apply Mw.od_addS
  | apply Mw.od_catL | apply Mw.od_mulS
  | apply Mw.oc_inT | apply Mw.oc_inL | apply Mw.oc_ninT | apply Mw.oc_ninL | exact Mw.oc_inS | exact Mw.oc_ninS
  | (apply Mw.oc_eqD; (with_reducible first | assumption | exact Mw.Body.room (by assumption) | exact L2.Room.mono (Mw.Body.room (by assumption)) (by with_unfolding_all decide))) | (apply Mw.oc_neD; (with_reducible first | assumption | exact Mw.Body.room (by assumption) | exact L2.Room.mono (Mw.Body.room (by assumption)) (by with_unfolding_all decide)))))
local macro_rules | `(tactic| k_clsL) => `(tactic| (with_reducible first | exact boot_int | exact boot_bool | exact boot_str | exact boot_tuple | exact boot_list | exact boot_dict))
local macro_rules | `(tactic| lcg_off) => `(tactic| (first
  | with_reducible exact Mw.ee_int | with_reducible exact Mw.ee_str
  | (with_reducible apply Mw.e_name; (with_reducible assumption); nest_cls; with_unfolding_all rfl)
  | (with_reducible apply Mw.e_nameB; (with_reducible assumption); (repeat (first | (with_reducible exact Mw.AtB.here) | (with_reducible apply Mw.AtB.there))); with_unfolding_all rfl)
  | with_reducible apply Mw.ee_bin
  | with_reducible apply Mw.ee_cmp
  | with_reducible apply Mw.ee_chain
  | (with_reducible apply Mw.e_call; (with_reducible assumption); (with_reducible assumption); nest_cls; (with_reducible first | assumption | exact Mw.Body.room (by assumption) | exact L2.Room.mono (Mw.Body.room (by assumption)) (by with_unfolding_all decide)))
  | with_reducible exact Mw.ee_bl | with_reducible exact Mw.ee_non
  | (with_reducible apply Mw.e_isi; (with_reducible assumption); nest_cls; (with_reducible assumption))
  | (with_reducible apply Mw.e_ty; (with_reducible assumption); nest_cls; (with_reducible assumption); k_clsL)
  | (with_reducible apply Mw.e_abs; (with_reducible assumption); nest_cls; (with_reducible assumption))
  | (with_reducible apply Mw.e_len; (with_reducible assumption); nest_cls; (with_reducible assumption))
  | (with_reducible apply Mw.e_divmod; (with_reducible assumption); nest_cls; (with_reducible assumption))
  | (with_reducible apply Mw.e_int; (with_reducible assumption); nest_cls; (with_reducible assumption))
  | (with_reducible apply Mw.e_strc; (with_reducible assumption); nest_cls; (with_reducible assumption))
  | (with_reducible apply Mw.e_cls; (with_reducible assumption); nest_cls; (with_reducible assumption))
  | (with_reducible apply Mw.e_cst; (with_reducible assumption); (with_reducible assumption); nest_cls)
  | with_reducible apply Mw.ee_neg
  | with_reducible apply Mw.ee_not
  | with_reducible apply Mw.ee_one
  | (with_reducible apply Mw.ee_and) | (with_reducible apply Mw.ee_or)
  | with_reducible apply Mw.ee_tup
  | (with_reducible apply Mw.EN.ee; with_reducible apply Mw.en_lst)
  | with_reducible apply Mw.ee_slS
  | with_reducible apply Mw.ee_sub
  | (with_reducible apply Mw.e_new0; (with_reducible assumption); (with_reducible assumption); nest_cls)
  | with_reducible apply Mw.e_zfill
  | with_reducible apply Mw.e_meth
  | (with_reducible apply Mw.e_mk; (with_reducible assumption); (with_reducible assumption); nest_cls; (with_reducible first | assumption | exact Mw.Body.room (by assumption) | exact L2.Room.mono (Mw.Body.room (by assumption)) (by with_unfolding_all decide)))
  | with_reducible apply Mw.e_xv
  | with_reducible apply Mw.ee_joined | with_reducible apply Mw.ee_fmt))
local macro_rules | `(tactic| k_memK) => `(tactic| (first
  | (with_reducible change Mw.EE _ _ _ _; lcg_off)
  | (with_reducible change Mw.EA _ _ _ _; (first | with_reducible exact Mw.ea_nil | with_reducible apply Mw.ea_cons))
  | (with_reducible change Mw.OpD _ _ _ _ _; lcg_sub)
  | (with_reducible change Mw.CaD _ _ _ _; k_allIn)
  | (with_reducible change Mw.ET _ _ _ _; (first | with_reducible apply Mw.et_cmp | with_reducible apply Mw.et_chain | with_reducible apply Mw.et_not | (with_reducible apply Mw.EW.et; with_reducible first | apply Mw.ew_and | apply Mw.ew_or) | with_reducible apply Mw.et_val))
  | (with_reducible change Mw.EW _ _ _ _; (with_reducible first | apply Mw.ew_and1 | apply Mw.ew_or1 | apply Mw.ew_and | apply Mw.ew_or))
  | (with_reducible change Mw.EN _ _ _ _; (with_reducible apply Mw.en_lst))
  | (with_reducible change Mw.ETs _ _ _ _; (with_reducible first | exact Mw.ets_nil | apply Mw.ets_one))
  | (with_reducible change (PySem.starEach _ _ = _); with_unfolding_all rfl)
  | (with_reducible change (PySem.behindInMarks _ _ = _); with_unfolding_all rfl)
  | (with_reducible change (PySem.lastMarks _ _ = _); with_unfolding_all rfl)
  | (with_reducible change (List.any _ _ = _); with_unfolding_all rfl)
  | (with_reducible change (PySem.swapsWith _ _ _ _ = _); with_unfolding_all rfl)
  | (with_reducible change (PySem.swapsWithSole _ _ _ _ = _); with_unfolding_all rfl)
  | (with_reducible change (PySem.swappedStores _ _ _ = _); with_unfolding_all rfl)
  | (with_reducible change Mw.SubD _ _ _ _ _; (with_reducible first | apply Mw.sub_T | apply Mw.sub_L))
  | (with_reducible change Mw.FmD _ _; (with_reducible first | (apply Mw.FmD.int; assumption) | apply Mw.FmD.int | apply Mw.FmD.str))
  | (with_reducible change Mw.EJ _ _ _ _ _; (with_reducible first | exact Mw.EJ.nil | apply Mw.EJ.cons))
  | (with_reducible change (L2.atI _ _ = _); with_unfolding_all rfl)
  | (with_reducible change (PySem.attributeBase _ _ _ _ = _); with_unfolding_all rfl)
  | (with_reducible change Mw.EO _ _ _ _; (with_reducible first | exact Mw.eo_none | apply Mw.eo_some))
  | (with_reducible change Mw.MetE _ _ _ _ _ _ _ _ _ _; with_reducible assumption)
  | (with_reducible change L2.Room _ _; (with_reducible first | assumption | exact Mw.Body.room (by assumption) | exact L2.Room.mono (Mw.Body.room (by assumption)) (by with_unfolding_all decide)))
  | (with_reducible change (List.lookup _ _ = none); with_unfolding_all rfl)
  | (with_reducible change (PySem.eval _ _ = _); with_unfolding_all rfl)
  | (with_reducible change (BEq.beq _ _ = true); with_unfolding_all rfl)
  | (with_reducible change ((_ && _) = true); with_unfolding_all rfl)
  | (with_reducible change Mw.IpD _ _ _ _ _; (with_reducible first | exact Mw.ip_addI | exact Mw.ip_subI))
  | (with_reducible change Mw.XvC _ _; with_reducible assumption)
  | (with_reducible change Mw.NoAt _ _ _; with_reducible assumption)
  | (with_reducible change (List.lookup _ _ = some _); with_unfolding_all rfl)
  | (with_reducible change (List.length _ = List.length _); with_unfolding_all rfl)
  | (with_reducible change (List.length _ ≤ 1000); exact Nat.le_of_ble_eq_true (by with_unfolding_all rfl))
  | (with_reducible change (Mw.isThing _ = true); (first | with_reducible assumption | with_unfolding_all rfl))
  | (with_reducible change (L2.PlainIx _); with_unfolding_all exact fun _ _ => rfl)
  | (with_reducible change (_ ≤ sizeLine); exact Mw.len_le (by with_unfolding_all rfl))
  | (with_reducible change (∀ _, PySem.isTrue _ _ _ = _); with_unfolding_all (intro _; rfl))
  | (with_reducible change (_ = true → Mw.EE _ _ _ _); intro _)
  | (with_reducible change (_ = false → Mw.EE _ _ _ _); intro _)
  | (with_reducible change (_ = true → Mw.EW _ _ _ _); intro _)
  | (with_reducible change (_ = false → Mw.EW _ _ _ _); intro _)
  | (with_reducible change (Mw.SetA _ _ _ _); ktu_offL)))
local macro_rules | `(tactic| ktu_offI) => `(tactic| ((conv => (arg 4; whnf)); have _nm := Mw.Body.nms (by assumption); have _gl := Mw.Body.glb (by assumption); simp only [Mw.startA, List.map_cons, List.map_nil, List.length_cons, List.length_nil, List.cons_append, List.nil_append, List.replicate_succ, List.replicate_zero, Nat.reduceAdd, Nat.reduceSub]))
local macro_rules | `(tactic| k_subL) => `(tactic| (first
  | with_reducible apply Mw.ss_one
  | with_reducible apply Mw.ss_cons
  | with_reducible apply Mw.ss_nil
  | with_reducible apply Mw.s1_ret
  | with_reducible apply Mw.s1_retN
  | with_reducible apply Mw.s1_pass
  | (with_reducible apply Mw.t_set; (with_reducible assumption); nest_cls)
  | (with_reducible apply Mw.h_set; (with_reducible assumption); nest_cls)
  | (with_reducible apply Mw.t_two; (with_reducible assumption); nest_cls; nest_cls)
  | (with_reducible apply Mw.t_raise; (with_reducible assumption); (with_reducible assumption); nest_cls)))
local macro_rules | `(tactic| ktu_off1L) => `(tactic| (repeat k_memK))
local macro_rules | `(tactic| k_places) => `(tactic| (repeat (first | k_subL | k_memK)))
local macro_rules | `(tactic| l_intsW) => `(tactic| (first
  | (with_reducible apply Mw.x_call; (with_reducible assumption); (with_reducible assumption); nest_cls; (with_reducible first | assumption | exact Mw.Body.room (by assumption) | exact L2.Room.mono (Mw.Body.room (by assumption)) (by with_unfolding_all decide)))))
section
theorem atI_pick {l : List D} {i : Int} {d : D} (h0 : 0 ≤ i) (h1 : i < l.length) (h : l.getD i.toNat .non = d) : atI l i = some d := by
  rw [show i = ((i.toNat : Nat) : Int) by omega]
  refine atI_nat ?_
  have hl : i.toNat < l.length := by omega
  rw [List.getElem?_eq_getElem hl, ← h, List.getD_eq_getElem?_getD, List.getElem?_eq_getElem hl]
  rfl
theorem getD_ints {l : List Int} {i : Nat} {e : Int} (h : i < l.length) : (l.map D.int).getD i .non = .int (l.getD i e) := by
  rw [List.getD_eq_getElem?_getD, List.getD_eq_getElem?_getD, List.getElem?_map, List.getElem?_eq_getElem h]
  rfl
theorem getD_all {α : Type} {P : α → Prop} {l : List α} {d : α} (h : ∀ x ∈ l, P x) (h0 : P d) (i : Nat) : P (l.getD i d) := by
  rw [List.getD_eq_getElem?_getD]
  cases e : l[i]? with
  | none => exact h0
  | some x => exact h x (List.mem_of_getElem? e)
theorem eqD_refl {d : D} (h : pyOk d = true) : eqD d d = true := PySem.SeqAt.eqv_refl (toPy d) (canLay_plain (pyOk.plain h))
theorem frac_parts {a b : Int} (hb : 0 < b) : ∃ p q : Int, fracD a b = .tup [.int p, .int q] ∧ 0 < q ∧ Nat.gcd p.natAbs q.natAbs = 1 ∧ p * b = a * q ∧ p.natAbs ≤ a.natAbs ∧ q.natAbs ≤ b.natAbs := by
  have hg : 0 < Nat.gcd a.natAbs b.natAbs := Nat.gcd_pos_of_pos_right _ (by omega)
  have d1 : ((Nat.gcd a.natAbs b.natAbs : Nat) : Int) ∣ a := Int.ofNat_dvd_left.mpr (Nat.gcd_dvd_left _ _)
  have d2 : ((Nat.gcd a.natAbs b.natAbs : Nat) : Int) ∣ b := Int.ofNat_dvd_left.mpr (Nat.gcd_dvd_right _ _)
  have ee : fracD a b = .tup [.int (a / (Nat.gcd a.natAbs b.natAbs : Nat)), .int (b / (Nat.gcd a.natAbs b.natAbs : Nat))] := rfl
  refine ⟨_, _, ee, ?_⟩
  have e1 := Int.mul_ediv_cancel' d1
  have e2 := Int.mul_ediv_cancel' d2
  generalize hG : Nat.gcd a.natAbs b.natAbs = g at *
  generalize hp : a / (g : Int) = p at *
  generalize hq : b / (g : Int) = q at *
  have n1 : a.natAbs = g * p.natAbs := by rw [← e1, Int.natAbs_mul] <;> rfl
  have n2 : b.natAbs = g * q.natAbs := by rw [← e2, Int.natAbs_mul] <;> rfl
  refine ⟨?_, ?_, ?_, ?_, ?_⟩
  · rcases Int.lt_trichotomy q 0 with h | h | h
    · have := Int.mul_neg_of_pos_of_neg (show (0 : Int) < g by omega) h
      omega
    · rw [h, Int.mul_zero] at e2; omega
    · exact h
  · have h := hG
    rw [n1, n2, Nat.gcd_mul_left] at h
    exact Nat.eq_of_mul_eq_mul_left hg (by rw [h, Nat.mul_one])
  · rw [← e1, ← e2, Int.mul_comm p, Int.mul_assoc, Int.mul_assoc, Int.mul_comm q p]
  · rw [n1]; exact Nat.le_mul_of_pos_left _ hg
  · rw [n2]; exact Nat.le_mul_of_pos_left _ hg
theorem frac_one (a : Int) : fracD a 1 = .tup [.int a, .int 1] := by
  have e : Nat.gcd a.natAbs (1 : Int).natAbs = 1 := Nat.gcd_one_right _
  unfold fracD
  rw [e]
  simp
theorem pick_in {l : List D} {i : Int} (h0 : 0 ≤ i) (h1 : i < l.length) : ∃ d, atI l i = some d ∧ d ∈ l := by
  obtain ⟨j, rfl⟩ : ∃ j : Nat, i = j := ⟨i.toNat, by omega⟩
  have hl : j < l.length := by omega
  exact ⟨l[j], atI_nat (List.getElem?_eq_getElem hl), List.getElem_mem hl⟩
end
section
/-- the laws' own mixing of numbers -/
def mixV (n k : Int) : Int := (n % 2147483647 + 7919 * k * k + 31 * k) * 48271 % 2147483647 * (69621 + 2 * k) % 2147483629
theorem mixV_nn (n k : Int) : 0 ≤ mixV n k := Int.emod_nonneg _ (by decide)
theorem mixV_lt (n k : Int) : mixV n k < 2147483629 := Int.emod_lt_of_pos _ (by decide)
def numV (ns : List Int) (k : Int) : Int := if ns = [] then mixV 17 k else mixV (ns.getD (k % ns.length).toNat 0) k
theorem numV_nn (ns : List Int) (k : Int) : 0 ≤ numV ns k := by
  unfold numV
  split <;> exact mixV_nn _ _
theorem numV_lt (ns : List Int) (k : Int) : numV ns k < 2147483629 := by
  unfold numV
  split <;> exact mixV_lt _ _
def S_mixed : FS := fun ds r => ∃ n k : Int, ds = [.int n, .int k] ∧ 0 ≤ k ∧ k < 1048576 ∧ r = .ok (.int (mixV n k))
def S_number : FS := fun ds r => ∃ (ns : List Int) (k : Int), ds = [.lst (ns.map D.int), .int k] ∧ 0 ≤ k ∧ k < 1048576 ∧ r = .ok (.int (numV ns k))
theorem plains_ints : ∀ ns : List Int, plains (ns.map D.int) = true
  | [] => rfl
  | n :: ns => by show (plain (.int n) && plains (ns.map D.int)) = true; rw [plains_ints ns] <;> rfl
theorem depth_ints : ∀ ns : List Int, PyData.depthAll (toPys (ns.map D.int)) = 0
  | [] => rfl
  | n :: ns => by
    show max (PyData.depth (.int n)) (PyData.depthAll (toPys (ns.map D.int))) = 0
    rw [depth_ints ns] <;> rfl
theorem pyOk_ints (ns : List Int) : pyOk (.lst (ns.map D.int)) = true := by
  show (plains (ns.map D.int) && decide (PyData.depthAll (toPys (ns.map D.int)) + 1 ≤ 64)) = true
  rw [plains_ints, depth_ints] <;> rfl
theorem eqD_nil (ns : List Int) : eqD (.lst (ns.map D.int)) (.lst []) = decide (ns = []) := by
  cases ns with
  | nil => rfl
  | cons n ns => rfl
theorem sm31 {i : Int} (h : 0 ≤ i) (h2 : i < 4294967296) : Sm 32 i := by
  unfold Sm
  omega
end
section
variable {X : Cx} {Gs G : Hp} {ds : List D} {r : Except Exn D} {C : Addr}
theorem b_law_mixed (B : Body X N__law_mixed L__law_mixed G__law_mixed 1 (defScope s__law_mixed)) (h : S_mixed ds r) :
    SS X Gs G (defBody s__law_mixed) (startA N__law_mixed ds) (finOf r) := by
  obtain ⟨n, k, rfl, hk0, hk1, rfl⟩ := h
  have k1 : Sm 32 k := sm31 hk0 (by omega)
  have c1 : CMulW 7919 k := cmulW_of (n := 32) (m := 32) (by decide) k1 (by decide) (by decide) (by decide)
  have c2 : CMulW (7919 * k) k := cmulW_of (n := 64) (m := 32) (Sm.mul (n := 32) (m := 32) (by decide) k1) k1 (by decide) (by decide) (by decide)
  have c3 : CMulW 31 k := cmulW_of (n := 32) (m := 32) (by decide) k1 (by decide) (by decide) (by decide)
  have c4 : CMulW (n % 2147483647 + 7919 * k * k + 31 * k) 48271 := by
    have a1 : 0 ≤ n % 2147483647 := Int.emod_nonneg _ (by decide)
    have a2 : n % 2147483647 < 2147483647 := Int.emod_lt_of_pos _ (by decide)
    have s1 : Sm 96 (n % 2147483647) := (sm31 a1 (by omega)).mono (by decide)
    have s2 : Sm 96 (7919 * k * k) := Sm.mul (n := 64) (m := 32) (Sm.mul (n := 32) (m := 32) (by decide) k1) k1
    have s3 : Sm 97 (31 * k) := (Sm.mul (n := 32) (m := 32) (by decide) k1).mono (by decide)
    exact cmulW_of (n := 98) (m := 32) ((s1.add s2).add s3) (by decide) (by decide) (by decide) (by decide)
  have c5 : CMulW 2 k := cmulW_of (n := 32) (m := 32) (by decide) k1 (by decide) (by decide) (by decide)
  have c6 : CMulW ((n % 2147483647 + 7919 * k * k + 31 * k) * 48271 % 2147483647) (69621 + 2 * k) := by
    refine cmulW_of (n := 32) (m := 64) (sm31 (Int.emod_nonneg _ (by decide)) (Int.lt_trans (Int.emod_lt_of_pos _ (by decide)) (by decide))) ?_ (by decide) (by decide) (by decide)
    unfold Sm
    omega
  ktu_offI
  iterate 20 (first | (k_places; first | assumption | decide) | skip)
  k_places
  rfl
end
section
variable {X : Cx} {Gs G : Hp} {ds : List D} {r : Except Exn D} {C : Addr}
theorem b_law_number (B : Body X N__law_number L__law_number G__law_number 3 (defScope s__law_number)) (F1 : FnD X 2 "_law_mixed" [] S_mixed) (m1 : X.mg "len" = none) (h : S_number ds r) :
    SS X Gs G (defBody s__law_number) (startA N__law_number ds) (finOf r) := by
  obtain ⟨ns, k, rfl, hk0, hk1, rfl⟩ := h
  ktu_offI
  k_subL
  refine s1_if (b := decide (ns = [])) (et_is (k := eqD (.lst (ns.map D.int)) (.lst [])) ?_ (eqD_nil ns)) (fun hb => ?_) fun hb => ?_
  · ktu_off1L
    · exact pyOk_ints ns
    · rfl
    ktu_off1L
  · have h0 : ns = [] := by simpa using hb
    k_places
    exact ⟨17, k, rfl, hk0, hk1, rfl⟩
    k_places
    change (Except.ok _ : Except Exn D) = Except.ok _
    rw [numV, if_pos h0]
  · have h0 : ¬ ns = [] := by simpa using hb
    have hp : 0 < (ns.map D.int).length := by
      rw [List.length_map]
      exact List.length_pos_iff.mpr h0
    have hr0 : 0 ≤ k % ((ns.map D.int).length : Nat) := Int.emod_nonneg _ (by omega)
    have hr1 : k % ((ns.map D.int).length : Nat) < ((ns.map D.int).length : Nat) := Int.emod_lt_of_pos _ (by omega)
    have hat : atI (ns.map D.int) (k % ((ns.map D.int).length : Nat)) = some (D.int (ns.getD (k % ((ns.map D.int).length : Nat)).toNat 0)) := by
      rw [show k % ((ns.map D.int).length : Nat) = (((k % ((ns.map D.int).length : Nat)).toNat : Nat) : Int) by omega]
      refine atI_nat ?_
      rw [List.getElem?_map, List.getD_eq_getElem?_getD]
      have hl : (k % ((ns.map D.int).length : Nat)).toNat < ns.length := by rw [List.length_map] at *; omega
      rw [show (((k % ((ns.map D.int).length : Nat)).toNat : Nat) : Int).toNat = (k % ((ns.map D.int).length : Nat)).toNat by omega]
      rw [List.getElem?_eq_getElem hl]
      rfl
    k_places
    · omega
    k_places
    · exact hat
    k_places
    exact ⟨_, k, rfl, hk0, hk1, rfl⟩
    k_places
    change (Except.ok _ : Except Exn D) = Except.ok _
    rw [numV, if_neg h0, List.length_map]
end
section
variable {X : Cx} {Gs G : Hp} {ds : List D} {r : Except Exn D} {C : Addr}
def S_law_common : FS := fun ds r => ∃ a b : Nat, ds = [.int a, .int b] ∧ a < 2 ^ 8000 ∧ b < 2 ^ 8000 ∧ r = .ok (.int (Nat.gcd a b : Nat))
theorem b_law_common (B : Body X N__law_common L__law_common G__law_common 1 (defScope s__law_common)) (h : S_law_common ds r) :
    SS X Gs G (defBody s__law_common) (startA N__law_common ds) (finOf r) := by
  obtain ⟨a, b, rfl, ha, hb, rfl⟩ := h
  ktu_offI
  k_subL
  refine s1_while (fun m as' => ∃ (x y : Nat) (s3 : Sl), as' = [.fz (.int x), .fz (.int y), s3] ∧ x < 2 ^ 8000 ∧ y < 2 ^ 8000 ∧ m = y ∧ Nat.gcd x y = Nat.gcd a b) b ⟨a, b, _, rfl, ha, hb, rfl, rfl⟩ B.pown ?_
  rintro m as' ⟨x, y, s3, rfl, hx, hy, rfl, hg⟩
  refine ⟨decide ((0 : Int) < m), by ktu_off1L, fun hn => ?_, fun hn => ?_⟩
  · have hy0 : 0 < m := by simpa using hn
    k_places
    · exact cdivW_of (by omega) hy
    k_places
    · refine cmulW_of (n := 8000) (m := 8000) ?_ hy (by decide) (by decide) (by decide)
      exact Nat.lt_of_le_of_lt (show ((x : Int) / (m : Int)).natAbs ≤ x by rw [← Int.natCast_ediv]; exact Nat.div_le_self x m) hx
    k_places
    have e : (x : Int) - (x : Int) / (m : Int) * (m : Int) = ((x % m : Nat) : Int) := by
      rw [Int.natCast_emod, Int.emod_def, Int.mul_comm]
    rw [e]
    refine ⟨x % m, Nat.mod_lt _ (by omega), m, x % m, _, rfl, hy, Nat.lt_trans (Nat.mod_lt _ (by omega)) hy, rfl, ?_⟩
    rw [← hg, Nat.gcd_comm m, ← Nat.gcd_rec, Nat.gcd_comm]
  · have hy0 : m = 0 := by
      have : ¬ 0 < m := by simpa using hn
      omega
    subst hy0
    k_places
    change (Except.ok _ : Except Exn D) = Except.ok _
    rw [← hg, Nat.gcd_zero_right]
end
section
variable {X : Cx} {Gs G : Hp} {ds : List D} {r : Except Exn D} {C : Addr}
def aL (n : Int) : List Int := [n / 4 % 10 ^ (6 : Int).toNat, n / 4 % 10 ^ (6 : Int).toNat, n / 4 * 48271 ^ (5 : Int).toNat % 10 ^ (40 : Int).toNat, 2 * (n / 4 % 1000) + 1]
def bL1 (n : Int) : List Int := [1 + n / 4 / 7 % 40, 1 + n / 4 / 11 % 10 ^ (9 : Int).toNat, 1 + n / 4 / 13 % 40]
def bX (n : Int) : Int := [2, 20, 200, 8].getD (n / 4 / 1000 % 4).toNat 1
def aV (n : Int) : Int := (aL n).getD (n % 4).toNat 0
def bV (n : Int) : Int := (bL1 n ++ [bX n]).getD (n % 4).toNat 1
def sgA (n : Int) : Int := if n / 17 % 3 = 1 then -aV n else aV n
theorem aV_ok (n : Int) : 0 ≤ aV n ∧ Sm 134 (aV n) := by
  unfold aV
  refine getD_all (P := fun x => 0 ≤ x ∧ Sm 134 x) ?_ (by decide) _
  intro x hx
  unfold aL at hx
  simp only [List.mem_cons, List.not_mem_nil, or_false] at hx
  have e1 : (10 : Int) ^ (6 : Int).toNat = 1000000 := by decide
  have e2 : (0 : Int) < 10 ^ (40 : Int).toNat ∧ ((10 : Int) ^ (40 : Int).toNat).natAbs < 2 ^ 133 := by decide +kernel
  have h1 := Int.emod_nonneg (n / 4) (show (1000000 : Int) ≠ 0 by decide)
  have h2 := Int.emod_lt_of_pos (n / 4) (show (0 : Int) < 1000000 by decide)
  have h3 := Int.emod_nonneg (n / 4) (show (1000 : Int) ≠ 0 by decide)
  have h4 := Int.emod_lt_of_pos (n / 4) (show (0 : Int) < 1000 by decide)
  rw [e1] at hx
  rcases hx with rfl | rfl | rfl | rfl
  · exact ⟨h1, by unfold Sm; omega⟩
  · exact ⟨h1, by unfold Sm; omega⟩
  · have h5 := Int.emod_nonneg (n / 4 * 48271 ^ (5 : Int).toNat) (show (10 : Int) ^ (40 : Int).toNat ≠ 0 by omega)
    have h6 := Int.emod_lt_of_pos (n / 4 * 48271 ^ (5 : Int).toNat) e2.1
    refine ⟨h5, ?_⟩
    unfold Sm
    have : (2 : Nat) ^ 133 < 2 ^ 134 := by decide
    omega
  · exact ⟨by omega, by unfold Sm; omega⟩
theorem bX_ok (n : Int) : 0 < bX n ∧ Sm 32 (bX n) := by
  unfold bX
  refine getD_all (P := fun x => 0 < x ∧ Sm 32 x) ?_ (by decide) _
  intro x hx
  simp only [List.mem_cons, List.not_mem_nil, or_false] at hx
  rcases hx with rfl | rfl | rfl | rfl <;> decide
theorem bV_ok (n : Int) : 0 < bV n ∧ Sm 32 (bV n) := by
  unfold bV
  refine getD_all (P := fun x => 0 < x ∧ Sm 32 x) ?_ (by decide) _
  intro x hx
  have hb := bX_ok n
  unfold bL1 at hx
  simp only [List.cons_append, List.nil_append, List.mem_cons, List.not_mem_nil, or_false] at hx
  have e1 : (10 : Int) ^ (9 : Int).toNat = 1000000000 := by decide
  rw [e1] at hx
  have h1 := Int.emod_nonneg (n / 4 / 7) (show (40 : Int) ≠ 0 by decide)
  have h2 := Int.emod_lt_of_pos (n / 4 / 7) (show (0 : Int) < 40 by decide)
  have h3 := Int.emod_nonneg (n / 4 / 11) (show (1000000000 : Int) ≠ 0 by decide)
  have h4 := Int.emod_lt_of_pos (n / 4 / 11) (show (0 : Int) < 1000000000 by decide)
  have h5 := Int.emod_nonneg (n / 4 / 13) (show (40 : Int) ≠ 0 by decide)
  have h6 := Int.emod_lt_of_pos (n / 4 / 13) (show (0 : Int) < 40 by decide)
  rcases hx with rfl | rfl | rfl | rfl
  · exact ⟨by omega, by unfold Sm; omega⟩
  · exact ⟨by omega, by unfold Sm; omega⟩
  · exact ⟨by omega, by unfold Sm; omega⟩
  · exact hb
def S_lamount : FS := fun ds r => ∃ n : Int, ds = [.int n] ∧ 0 ≤ n ∧ Sm 32 n ∧ r = .ok (fracD (sgA n) (bV n))
theorem b_law_amount (B : Body X N__law_amount L__law_amount G__law_amount 3 (defScope s__law_amount)) (F1 : FnD X 2 "_law_common" [] S_law_common) (h : S_lamount ds r) :
    SS X Gs G (defBody s__law_amount) (startA N__law_amount ds) (finOf r) := by
  obtain ⟨n, rfl, hn0, hn, rfl⟩ := h
  obtain ⟨a0, a1⟩ := aV_ok n
  obtain ⟨b0, b1⟩ := bV_ok n
  have s4 : Sm 32 (n / 4) := by unfold Sm at *; omega
  have s5 : Sm 80 (48271 ^ (5 : Int).toNat : Int) := by decide +kernel
  have s3 : Sm 32 (n / 4 % 1000) := by
    have h3 := Int.emod_nonneg (n / 4) (show (1000 : Int) ≠ 0 by decide)
    have h4 := Int.emod_lt_of_pos (n / 4) (show (0 : Int) < 1000 by decide)
    unfold Sm; omega
  have m0 := Int.emod_nonneg n (show (4 : Int) ≠ 0 by decide)
  have m1 := Int.emod_lt_of_pos n (show (0 : Int) < 4 by decide)
  ktu_offI
  k_subL
  k_places
  · decide
  k_places
  · exact cdivW_lit (by decide) (by decide)
  ktu_off1L
  k_subL
  refine t_set (as1 := [.fz (.int n), .fz (.int (n % 4)), .fz (.int (n / 4)), .fz (.int (aV n)), .un, .un]) B (by nest_cls) ?_ (by ktu_off1L) (by ktu_offL) ?_
  · ktu_off1L
    · exact ⟨by decide, by decide, by decide⟩
    ktu_off1L
    · decide
    ktu_off1L
    · exact ⟨by decide, by decide, by decide⟩
    ktu_off1L
    · decide
    ktu_off1L
    · exact ⟨by decide, by decide, by decide⟩
    ktu_off1L
    · exact cmulW_of s4 s5 (by decide) (by decide) (by decide)
    ktu_off1L
    · exact ⟨by decide, by decide, by decide⟩
    ktu_off1L
    · decide +kernel
    ktu_off1L
    · decide
    ktu_off1L
    · exact cmulW_of (n := 2) (m := 32) (by decide) s3 (by decide) (by decide) (by decide)
    ktu_off1L
    · exact atI_pick (i := n % 4) m0 m1 (getD_ints (l := aL n) (by show (n % 4).toNat < 4; omega))
    ktu_off1L
  k_subL
  refine t_set (as1 := [.fz (.int n), .fz (.int (n % 4)), .fz (.int (n / 4)), .fz (.int (aV n)), .fz (.lst ((bL1 n).map D.int)), .un]) B (by nest_cls) ?_ (by ktu_off1L) (by ktu_offL) ?_
  · show EE X _ _ (.lst [.int (1 + n / 4 / 7 % 40), .int (1 + n / 4 / 11 % 10 ^ (9 : Int).toNat), .int (1 + n / 4 / 13 % 40)])
    ktu_off1L
    · exact cdivW_lit (by decide) (by decide)
    ktu_off1L
    · decide
    ktu_off1L
    · exact cdivW_lit (by decide) (by decide)
    ktu_off1L
    · exact ⟨by decide, by decide, by decide⟩
    ktu_off1L
    · decide
    ktu_off1L
    · exact cdivW_lit (by decide) (by decide)
    ktu_off1L
    · decide
    ktu_off1L
  k_subL
  have x0 := Int.emod_nonneg (n / 4 / 1000) (show (4 : Int) ≠ 0 by decide)
  have x1 := Int.emod_lt_of_pos (n / 4 / 1000) (show (0 : Int) < 4 by decide)
  refine t_set (as1 := [.fz (.int n), .fz (.int (n % 4)), .fz (.int (n / 4)), .fz (.int (aV n)), .fz (.int (bV n)), .un]) B (by nest_cls) ?_ (by ktu_off1L) (by ktu_offL) ?_
  · refine ee_sub (x := .lst ((bL1 n).map D.int ++ [.int (bX n)])) (y := .int (n % 4)) (ee_bin (x := .lst ((bL1 n).map D.int)) (y := .lst [.int (bX n)]) ?_ (EN.ee (en_lst (ds := [.int (bX n)]) (ea_cons (ee_sub (x := .lst ([2, 20, 200, 8].map D.int)) (y := .int (n / 4 / 1000 % 4)) ?_ ?_ (sub_L ?_)) ea_nil) ?_)) (od_catL ?_)) ?_ (sub_L ?_)
    · ktu_off1L
    · show EE X _ _ (.lst [.int 2, .int 20, .int 200, .int 8])
      ktu_off1L
    · ktu_off1L
      · exact cdivW_lit (by decide) (by decide)
      ktu_off1L
      · decide
      ktu_off1L
    · exact atI_pick x0 x1 (getD_ints (l := [2, 20, 200, 8]) (by show (n / 4 / 1000 % 4).toNat < 4; omega))
    · ktu_off1L
    · exact Nat.le_trans (show 3 + 1 ≤ 1000 by decide) (by decide)
    · ktu_off1L
    · have e : (bL1 n).map D.int ++ [D.int (bX n)] = (bL1 n ++ [bX n]).map D.int := by rw [List.map_append]; rfl
      rw [e]
      exact atI_pick (i := n % 4) m0 m1 (getD_ints (l := bL1 n ++ [bX n]) (by show (n % 4).toNat < 4; omega))
  k_subL
  refine t_set (as1 := [.fz (.int n), .fz (.int (n % 4)), .fz (.int (n / 4)), .fz (.int (aV n)), .fz (.int (bV n)), .fz (.int (Nat.gcd (aV n).natAbs (bV n).natAbs : Nat))]) B (by nest_cls) ?_ (by ktu_off1L) (by ktu_offL) ?_
  · ktu_off1L
    · exact ⟨(aV n).natAbs, (bV n).natAbs, by rw [show (((aV n).natAbs : Nat) : Int) = aV n by omega, show (((bV n).natAbs : Nat) : Int) = bV n by omega]; rfl, a1.mono (by decide), b1.mono (by decide), rfl⟩
    ktu_off1L
  have gp : 0 < Nat.gcd (aV n).natAbs (bV n).natAbs := Nat.gcd_pos_of_pos_right _ (by omega)
  have gs : Sm 32 ((Nat.gcd (aV n).natAbs (bV n).natAbs : Nat) : Int) := Nat.lt_of_le_of_lt (Nat.gcd_le_right _ (by omega)) b1
  have eg : Nat.gcd (sgA n).natAbs (bV n).natAbs = Nat.gcd (aV n).natAbs (bV n).natAbs := by
    unfold sgA
    split
    · rw [Int.natAbs_neg]
    · rfl
  have ef : fracD (sgA n) (bV n) = .tup [.int (sgA n / (Nat.gcd (aV n).natAbs (bV n).natAbs : Nat)), .int (bV n / (Nat.gcd (aV n).natAbs (bV n).natAbs : Nat))] := by
    unfold fracD
    rw [eg]
  rw [ef]
  k_subL
  refine s1_if (b := decide (n / 17 % 3 = 1)) ?_ (fun hh => ?_) fun hh => ?_
  · ktu_off1L
    · exact cdivW_lit (by decide) (by decide)
    ktu_off1L
    · decide
    ktu_off1L
  · have e : sgA n = -aV n := if_pos (by simpa using hh)
    rw [e]
    k_places
    · exact cdivW_of (by omega) (gs.mono (by decide))
    k_places
    · exact cdivW_of (by omega) (gs.mono (by decide))
    k_places
    rfl
  · have e : sgA n = aV n := if_neg (by simpa using hh)
    rw [e]
    k_places
    · exact cdivW_of (by omega) (gs.mono (by decide))
    k_places
    · exact cdivW_of (by omega) (gs.mono (by decide))
    k_places
    rfl
end
section
variable {X : Cx} {Gs G : Hp} {ds : List D} {r : Except Exn D} {C : Addr}
def madeO (cl : Nat → Addr) (w : Nat) : List D := if w = 0 then [.obj (cl 0) [], .obj (cl 4) []] else [.obj (cl w) []]
def S_lmade (cl : Nat → Addr) : FS := fun ds r => ∃ w, w < 4 ∧ ds = [.str (wordS w)] ∧ r = .ok (.lst (madeO cl w))
theorem b_law_made {cl : Nat → Addr} (B : Body X N__law_made L__law_made G__law_made 1 (defScope s__law_made)) (N0 : New0 X.K X.mg "Down" (cl 0)) (N1 : New0 X.K X.mg "Up" (cl 1)) (N2 : New0 X.K X.mg "Away" (cl 2)) (N3 : New0 X.K X.mg "Even" (cl 3)) (N4 : New0 X.K X.mg "Rounding" (cl 4)) (h : S_lmade cl ds r) :
    SS X Gs G (defBody s__law_made) (startA N__law_made ds) (finOf r) := by
  obtain ⟨w, hw, rfl, rfl⟩ := h
  ktu_offI
  have hw' : w = 0 ∨ w = 1 ∨ w = 2 ∨ w = 3 := by omega
  k_subL
  rcases hw' with rfl | rfl | rfl | rfl
  · refine s1_ifT (et_is (k := decide (wordS 0 = "down")) (by ktu_off1L) (by decide +kernel)) ?_
    k_places
    rfl
  · refine s1_ifF (et_is (k := decide (wordS 1 = "down")) (by ktu_off1L) (by decide +kernel)) ?_
    k_subL
    k_subL
    refine s1_ifT (et_is (k := decide (wordS 1 = "up")) (by ktu_off1L) (by decide +kernel)) ?_
    k_places
    rfl
  · refine s1_ifF (et_is (k := decide (wordS 2 = "down")) (by ktu_off1L) (by decide +kernel)) ?_
    k_subL
    k_subL
    refine s1_ifF (et_is (k := decide (wordS 2 = "up")) (by ktu_off1L) (by decide +kernel)) ?_
    k_subL
    k_subL
    refine s1_ifT (et_is (k := decide (wordS 2 = "away")) (by ktu_off1L) (by decide +kernel)) ?_
    k_places
    rfl
  · refine s1_ifF (et_is (k := decide (wordS 3 = "down")) (by ktu_off1L) (by decide +kernel)) ?_
    k_subL
    k_subL
    refine s1_ifF (et_is (k := decide (wordS 3 = "up")) (by ktu_off1L) (by decide +kernel)) ?_
    k_subL
    k_subL
    refine s1_ifF (et_is (k := decide (wordS 3 = "away")) (by ktu_off1L) (by decide +kernel)) ?_
    k_places
    rfl
def S_lright (cl : Nat → Addr) : FS := fun ds r => ∃ (i w : Nat) (a b f : Int), i < 5 ∧ w < 4 ∧ wayOf i = w ∧ ds = [.obj (cl i) [], .str (wordS w), .tup [.int a, .int b], .int f] ∧ isFrac (.tup [.int a, .int b]) = true ∧ 0 ≤ f ∧ f ≤ 40 ∧ Sm 150 a ∧ Sm 150 b ∧ r = .ok (.bl true)
theorem b_law_right {cl : Nat → Addr} (B : Body X N__law_right L__law_right G__law_right 9 (defScope s__law_right)) (F1 : FnD X 8 "_law_shown" [] (S_lshown cl)) (F2 : FnD X 4 "_law_due" [] S_ldue) (F3 : FnD X 2 "_law_settled" [] S_lsettled) (MS : ∀ i, i < 5 → MetD X 6 (cl i) "shown" [] (S_rshown cl C)) (MT : ∀ i, i < 5 → MetD X 2 (cl i) "settled" [] (S_settled (wayOf i)))
    (m1 : X.mg "isinstance" = none) (m2 : X.mg "str" = none) (m3 : X.mg "int" = none) (m4 : X.mg "bool" = none) (m5 : X.mg "abs" = none) (h : S_lright cl ds r) :
    SS X Gs G (defBody s__law_right) (startA N__law_right ds) (finOf r) := by
  obtain ⟨i, w, a, b, f, hi, hw, rfl, rfl, hf, hf0, hf1, sa, sb, rfl⟩ := h
  have M1 := MS i hi
  have M2 := MT i hi
  have hb : 0 < b := by
    have z : (decide (0 < b) && decide (Nat.gcd a.natAbs b.natAbs = 1)) = true := hf
    simpa using (Bool.and_eq_true_iff.mp z).1
  have sa2 : Sm 200 a := sa.mono (by decide)
  have sb2 : Sm 200 b := sb.mono (by decide)
  have po : pairOk (.tup [.int a, .int b]) := fun x y h => by cases h; exact ⟨rfl, rfl, fun b' hb' => by cases hb'; exact sb.mono (by decide)⟩
  have sA : Sm 1000 (a.natAbs : Int) := by unfold Sm at *; have := sa; simp only [Int.natAbs_natCast]; exact Nat.lt_trans this (by decide +kernel)
  have ab := abs_if a
  ktu_offI
  k_places
  · exact ⟨i, _, _, hi, rfl, rfl, rfl, po, .inl ⟨a, b, f, rfl, rfl, hf, hf0, hf1, sa2, sb2, rfl⟩⟩
  k_places
  refine s1_ifF (EW.et (ew_is (k := !isTyS (.str (shV (wayOf i) a b f)) || !decide (shV (wayOf i) a b f = shV (wayOf i) a b f)) ?_ (by rw [decide_eq_true rfl] <;> rfl))) ?_
  · ktu_off1L
    · exact ⟨wayOf i, a, b, f, hw, rfl, hb, hf0, hf1, sa2, sb2, rfl⟩
    ktu_off1L
  k_subL
  k_subL
  refine s1_ifF (et_is (k := !decide (shV (wayOf i) a b f = shV (wayOf i) a b f)) ?_ (by rw [decide_eq_true rfl] <;> rfl)) ?_
  · ktu_off1L
    · exact ⟨i, _, _, hi, rfl, rfl, rfl, po, .inl ⟨a, b, f, rfl, rfl, hf, hf0, hf1, sa2, sb2, rfl⟩⟩
    ktu_off1L
  k_subL
  k_subL
  refine t_set (as1 := [.fz (.obj (cl i) []), .fz (.str (wordS (wayOf i))), .fz (.tup [.int a, .int b]), .fz (.int f), .fz (.str (shV (wayOf i) a b f)), .fz (.int (settledV (wayOf i) (a.natAbs : Int) b))]) B (by nest_cls) ?_ (by ktu_off1L) (by ktu_offL) ?_
  · ktu_off1L
    · rw [ab]
      exact ⟨_, _, _, _, rfl, hb, by omega, sA, sb.mono (by decide), rfl⟩
    ktu_off1L
  k_subL
  refine s1_ifF (EW.et (ew_is (k := !isTyI (.int (settledV (wayOf i) (a.natAbs : Int) b)) || isTyB (.int (settledV (wayOf i) (a.natAbs : Int) b))) ?_ rfl)) ?_
  · ktu_off1L
  k_subL
  k_subL
  refine s1_ret (d := .bl (decide (settledV (wayOf i) (a.natAbs : Int) b = settledV (wayOf i) (a.natAbs : Int) b))) ?_ (by rw [decide_eq_true rfl])
  ktu_off1L
  · rw [ab]
    exact ⟨wayOf i, _, _, hw, rfl, hb, by omega, sA, sb.mono (by decide), rfl⟩
  ktu_off1L
end
section
variable {X : Cx} {Gs G : Hp} {ds : List D} {r : Except Exn D} {C : Addr}
abbrev thingsL : List D := [.str "", .str "Down", .str "half", .non, .bl true, .int 5, .lst [.str "down"], .tup [.str "up"], .dct [], .str "evenly"]
theorem things_ok : ∀ d ∈ thingsL, wordOk d ∧ wayW d = none := by
  intro d hd
  simp only [List.mem_cons, List.not_mem_nil, or_false] at hd
  rcases hd with rfl | rfl | rfl | rfl | rfl | rfl | rfl | rfl | rfl | rfl
  · exact ⟨.inl (by decide +kernel), by decide +kernel⟩
  · exact ⟨.inl (by decide +kernel), by decide +kernel⟩
  · exact ⟨.inl (by decide +kernel), by decide +kernel⟩
  · exact ⟨.inl (by decide +kernel), by decide +kernel⟩
  · exact ⟨.inl (by decide +kernel), by decide +kernel⟩
  · exact ⟨.inl (by decide +kernel), by decide +kernel⟩
  · exact ⟨.inl (by decide +kernel), by decide +kernel⟩
  · exact ⟨.inl (by decide +kernel), by decide +kernel⟩
  · exact ⟨.inr ⟨_, rfl⟩, by decide +kernel⟩
  · exact ⟨.inl (by decide +kernel), by decide +kernel⟩
abbrev wrongL : List D := [.non, .int 3, .tup [.int 2, .int 4], .tup [.int 1, .int 0], .tup [.int 1, .int (-2)], .tup [.bl true, .int 1], .lst [.int 1, .int 2], .str "1:2", .tup [.int 1]]
theorem wrong_ok : ∀ d ∈ wrongL, isThing d = true ∧ pairOk d ∧ isFrac d = false := by
  intro d hd
  simp only [List.mem_cons, List.not_mem_nil, or_false] at hd
  rcases hd with rfl | rfl | rfl | rfl | rfl | rfl | rfl | rfl | rfl <;>
    refine ⟨rfl, fun x y h => ?_, by first | rfl | decide⟩ <;> cases h <;> refine ⟨rfl, rfl, fun b hb => ?_⟩ <;> cases hb <;> exact Sm.mono (n := 8) (by decide) (by decide)
abbrev countL : List D := [.int (-1), .int 41, .bl true, .non, .str "2", .int (10 ^ (20 : Int).toNat)]
theorem count_ok : ∀ d ∈ countL, isThing d = true ∧ needOk d 0 (some 40) = false := by
  intro d hd
  simp only [List.mem_cons, List.not_mem_nil, or_false] at hd
  rcases hd with rfl | rfl | rfl | rfl | rfl | rfl <;> exact ⟨rfl, by first | rfl | decide⟩
abbrev wordsL : List D := [.str "down", .str "up", .str "away", .str "even"]
theorem words_at {i : Int} (h0 : 0 ≤ i) (h1 : i < 4) : ∃ w, w < 4 ∧ atI wordsL i = some (.str (wordS w)) ∧ wayW (.str (wordS w)) = some w := by
  obtain ⟨j, rfl⟩ : ∃ j : Nat, i = j := ⟨i.toNat, by omega⟩
  have hj : j = 0 ∨ j = 1 ∨ j = 2 ∨ j = 3 := by omega
  rcases hj with rfl | rfl | rfl | rfl
  · exact ⟨0, by decide, rfl, by decide +kernel⟩
  · exact ⟨1, by decide, rfl, by decide +kernel⟩
  · exact ⟨2, by decide, rfl, by decide +kernel⟩
  · exact ⟨3, by decide, rfl, by decide +kernel⟩
theorem word_ok (w : Nat) : wordOk (.str (wordS w)) := by
  refine .inl ?_
  have h : w = 0 ∨ w = 1 ∨ w = 2 ∨ (w ≠ 0 ∧ w ≠ 1 ∧ w ≠ 2) := by omega
  rcases h with rfl | rfl | rfl | ⟨h1, h2, h3⟩
  · decide +kernel
  · decide +kernel
  · decide +kernel
  · have e : wordS w = "even" := by unfold wordS; rw [if_neg h1, if_neg h2, if_neg h3]
    rw [e]
    decide +kernel
theorem made_objs {cl : Nat → Addr} {w : Nat} (hw : w < 4) : ∀ (j : Nat) (d : D), (madeO cl w ++ [.obj (cl w) []])[j]? = some d → ∃ i, i < 5 ∧ wayOf i = w ∧ d = .obj (cl i) [] := by
  intro j d hd
  have hm := List.mem_of_getElem? hd
  unfold madeO at hm
  split at hm
  · rename_i h0
    subst h0
    simp only [List.cons_append, List.nil_append, List.mem_cons, List.not_mem_nil, or_false] at hm
    rcases hm with rfl | rfl | rfl
    · exact ⟨0, by decide, rfl, rfl⟩
    · exact ⟨4, by decide, rfl, rfl⟩
    · exact ⟨0, by decide, rfl, rfl⟩
  · simp only [List.cons_append, List.nil_append, List.mem_cons, List.not_mem_nil, or_false] at hm
    have hwy : wayOf w = w := by unfold wayOf; rw [if_neg (by omega)]
    rcases hm with rfl | rfl
    · exact ⟨w, by omega, hwy, rfl⟩
    · exact ⟨w, by omega, hwy, rfl⟩
def S_law : FS := fun ds r => ∃ ns : List Int, ds = [.lst (ns.map D.int)] ∧ r = .ok (.bl true)
theorem num_sm (ns : List Int) (k : Int) : Sm 32 (numV ns k) := by
  have h1 := numV_nn ns k
  have h2 := numV_lt ns k
  unfold Sm
  omega
theorem mix_sm (n k : Int) : Sm 32 (mixV n k) := by
  have h1 := mixV_nn n k
  have h2 := mixV_lt n k
  unfold Sm
  omega
theorem figs_ok (n : Int) (b : Bool) : ∃ f : Int, atI [D.int (n / 3 % 5), D.int (n / 3 % 41)] (if b = true then 1 else 0) = some (.int f) ∧ 0 ≤ f ∧ f ≤ 40 := by
  have h1 := Int.emod_nonneg (n / 3) (show (5 : Int) ≠ 0 by decide)
  have h2 := Int.emod_lt_of_pos (n / 3) (show (0 : Int) < 5 by decide)
  have h3 := Int.emod_nonneg (n / 3) (show (41 : Int) ≠ 0 by decide)
  have h4 := Int.emod_lt_of_pos (n / 3) (show (0 : Int) < 41 by decide)
  cases b with
  | true => exact ⟨n / 3 % 41, rfl, by omega, by omega⟩
  | false => exact ⟨n / 3 % 5, rfl, by omega, by omega⟩
theorem b_law {cl : Nat → Addr} (B : Body X N_law L_law G_law 11 (defScope s_law)) (F1 : FnD X 4 "_law_number" [] S_number) (F2 : FnD X 4 "_law_amount" [] S_lamount) (F3 : FnD X 2 "_law_mixed" [] S_mixed) (F4 : FnD X 2 "_law_made" [] (S_lmade cl)) (F5 : FnD X 4 "_law_way" [] (S_lway cl)) (F6 : FnD X 10 "_law_right" [] (S_lright cl)) (F7 : FnD X 8 "_law_shown" [] (S_lshown cl))
    (hR : X.mg "Rounding" = some (.ref (cl 4))) (TI : ∀ i, i < 5 → InsE X.K (cl i)) (KI : ∀ i, i < 5 → PySem.W.kitOne X.K (.ref (cl i)) (.ref (cl 4)) = some true) (m1 : X.mg "range" = none) (m2 : X.mg "int" = none) (m3 : X.mg "isinstance" = none) (h : S_law ds r) :
    SS X Gs G (defBody s_law) (startA N_law ds) (finOf r) := by
  obtain ⟨ns, rfl, rfl⟩ := h
  have c2 : CPow 10 20 := ⟨by decide, by decide, by decide⟩
  ktu_offI
  k_places
  refine t_forR (z := 6) B (by nest_cls) (by nest_cls) (by assumption) (by ktu_off1L) (by decide) (fun t as' => ∃ s2 s3 s4 s5 s6 s7 s8 s9 s10, as' = [.fz (.lst (ns.map D.int)), .fz (.lst wordsL), s2, s3, s4, s5, s6, s7, s8, s9, s10]) ⟨_, _, _, _, _, _, _, _, _, rfl⟩ ?_ ?_
  · rintro t as' ht ⟨s2, s3, s4, s5, s6, s7, s8, s9, s10, rfl⟩
    refine ⟨_, by ktu_offL, ?_⟩
    obtain ⟨f, hf, hf0, hf1⟩ := figs_ok (numV ns t) (decide (numV ns t % 3 = 1))
    obtain ⟨w, hw, hwa, hww⟩ := words_at (i := numV ns t / 123 % 4) (Int.emod_nonneg _ (by decide)) (Int.emod_lt_of_pos _ (by decide))
    obtain ⟨b1, b2⟩ := bV_ok (mixV (numV ns t) 1)
    obtain ⟨a0, a1⟩ := aV_ok (mixV (numV ns t) 1)
    obtain ⟨p, q, hd, hq, hg, _, sp, sq⟩ := frac_parts (a := sgA (mixV (numV ns t) 1)) b1
    have sgs : (sgA (mixV (numV ns t) 1)).natAbs = (aV (mixV (numV ns t) 1)).natAbs := by
      unfold sgA
      split
      · rw [Int.natAbs_neg]
      · rfl
    have hfr : isFrac (.tup [.int p, .int q]) = true := by
      show (decide (0 < q) && decide (Nat.gcd p.natAbs q.natAbs = 1)) = true
      rw [decide_eq_true hq, decide_eq_true hg] <;> rfl
    have sp' : Sm 150 p := Nat.lt_of_le_of_lt sp (by rw [sgs]; exact Nat.lt_trans a1 (by decide))
    have sq' : Sm 150 q := Nat.lt_of_le_of_lt sq (Nat.lt_trans b2 (by decide))
    k_places
    · exact ⟨ns, t, rfl, by omega, by omega, rfl⟩
    k_places
    · exact ⟨numV ns t, 1, rfl, by decide, by decide, rfl⟩
    k_places
    · exact ⟨_, rfl, mixV_nn _ _, mix_sm _ _, congrArg Except.ok hd.symm⟩
    k_places
    · exact cdivW_lit (by decide) (by decide)
    k_places
    · decide
    k_places
    · exact cdivW_lit (by decide) (by decide)
    k_places
    · decide
    k_places
    · decide
    k_places
    · exact hf
    k_places
    · exact cdivW_lit (by decide) (by decide)
    k_places
    · decide
    k_places
    · exact hwa
    ktu_off1L
    k_subL
    refine t_for B (fun d => [(7, d)]) (iw_list (ds := madeO cl w ++ [.obj (cl w) []]) ?_) (fun j as' => ∃ s7 s8 s9 s10, as' = [.fz (.lst (ns.map D.int)), .fz (.lst wordsL), .fz (.int t), .fz (.int (numV ns t)), .fz (.tup [.int p, .int q]), .fz (.int f), .fz (.str (wordS w)), s7, s8, s9, s10]) ⟨_, _, _, _, rfl⟩ (fun j d hj => tg_name B (by nest_cls)) ?_ ?_
    · refine ee_bin (x := .lst (madeO cl w)) (y := .lst [.obj (cl w) []]) ?_ ?_ (od_catL ?_)
      · ktu_off1L
        · exact ⟨w, hw, rfl, rfl⟩
        ktu_off1L
      · ktu_off1L
        · exact ⟨_, rfl, word_ok w, by rw [hww]⟩
        ktu_off1L
      · have : (madeO cl w).length ≤ 2 := by unfold madeO; split <;> simp
        exact Nat.le_trans (show (madeO cl w).length + 1 ≤ 1000 by omega) (by decide)
    · rintro j d as' hj ⟨s7, s8, s9, s10, rfl⟩
      obtain ⟨i, hi, hwi, rfl⟩ := made_objs hw j d hj
      show SS X Gs G _ [.fz (.lst (ns.map D.int)), .fz (.lst wordsL), .fz (.int t), .fz (.int (numV ns t)), .fz (.tup [.int p, .int q]), .fz (.int f), .fz (.str (wordS w)), .fz (.obj (cl i) []), s8, s9, s10] _
      k_subL
      refine s1_ifF (EW.et (ew_is (k := !true || !true) ?_ rfl)) ?_
      · ktu_off1L
        · exact ca_isO (TI i hi) (KI i hi)
        ktu_off1L
        · exact ⟨i, w, p, q, f, hi, hw, hwi, rfl, hfr, hf0, hf1, sp', sq', rfl⟩
        ktu_off1L
      k_subL
      exact ⟨_, _, _, _, rfl⟩
    · rintro as' ⟨s7, s8, s9, s10, rfl⟩
      exact ⟨_, _, _, _, _, _, _, _, _, rfl⟩
  · rintro as' ⟨s2, s3, s4, s5, s6, s7, s8, s9, s10, rfl⟩
    obtain ⟨d1, h1, k1⟩ := pick_in (l := thingsL) (i := numV ns 6 % 10) (Int.emod_nonneg _ (by decide)) (show numV ns 6 % 10 < 10 from Int.emod_lt_of_pos _ (by decide))
    obtain ⟨t1, t2⟩ := things_ok d1 k1
    obtain ⟨d2, h2, k2⟩ := pick_in (l := wrongL) (i := numV ns 6 / 10 % 9) (Int.emod_nonneg _ (by decide)) (show numV ns 6 / 10 % 9 < 9 from Int.emod_lt_of_pos _ (by decide))
    obtain ⟨w1, w2, w3⟩ := wrong_ok d2 k2
    obtain ⟨d3, h3, k3⟩ := pick_in (l := countL) (i := numV ns 6 / 90 % 6) (Int.emod_nonneg _ (by decide)) (show numV ns 6 / 90 % 6 < 6 from Int.emod_lt_of_pos _ (by decide))
    obtain ⟨c3, c4⟩ := count_ok d3 k3
    obtain ⟨d4, h4, k4⟩ := pick_in (l := ([.int 2, d3] : List D)) (i := numV ns 6 / 7 % 2) (Int.emod_nonneg _ (by decide)) (show numV ns 6 / 7 % 2 < 2 from Int.emod_lt_of_pos _ (by decide))
    have t4 : isThing d4 = true := by
      simp only [List.mem_cons, List.not_mem_nil, or_false] at k4
      rcases k4 with rfl | rfl
      · rfl
      · exact c3
    obtain ⟨w, hw, hwa, hww⟩ := words_at (i := numV ns 6 / 540 % 4) (Int.emod_nonneg _ (by decide)) (Int.emod_lt_of_pos _ (by decide))
    k_places
    · exact ⟨ns, 6, rfl, by decide, by decide, rfl⟩
    k_places
    refine s1_ifF (et_is (k := !decide (("name" : Str) = "name")) ?_ (by rw [decide_eq_true rfl] <;> rfl)) ?_
    · ktu_off1L
      · decide
      ktu_off1L
      · exact h1
      ktu_off1L
      · exact ⟨d1, rfl, t1, by rw [t2]⟩
      ktu_off1L
    k_places
    · exact cdivW_lit (by decide) (by decide)
    k_places
    · decide
    k_places
    · exact h2
    k_places
    · exact c2
    k_places
    · exact cdivW_lit (by decide) (by decide)
    k_places
    · decide
    k_places
    · exact h3
    k_places
    · exact cdivW_lit (by decide) (by decide)
    k_places
    · decide
    k_places
    · exact hwa
    k_places
    · exact ⟨_, rfl, word_ok w, by rw [hww]⟩
    k_places
    refine s1_ifF (et_is (k := !eqD (.lst [.str "number"]) (.lst [.str "number"])) ?_ (by rw [eqD_refl (by decide +kernel)] <;> rfl)) ?_
    · ktu_off1L
      · exact cdivW_lit (by decide) (by decide)
      ktu_off1L
      · decide
      ktu_off1L
      · exact h4
      ktu_off1L
      · exact ⟨w, d2, d4, by omega, rfl, w1, t4, w2, .inr ⟨.inl w3, rfl⟩⟩
      ktu_off1L
      · decide +kernel
      · decide +kernel
      ktu_off1L
    k_subL
    k_subL
    refine s1_ret (d := .bl (eqD (.lst [.str "number"]) (.lst [.str "number"]))) ?_ (by rw [eqD_refl (by decide +kernel)])
    ktu_off1L
    · exact ⟨w, .tup [.int 1, .int 3], d3, by omega, rfl, rfl, c3, fun x y h => by cases h; exact ⟨rfl, rfl, fun b hb => by cases hb; exact Sm.mono (n := 8) (by decide) (by decide)⟩, .inr ⟨.inr c4, rfl⟩⟩
    ktu_off1L
    · decide +kernel
    · decide +kernel
    ktu_off1L
end
/-! ### the head -/
abbrev R_ : PySem.W.OpenRow := PySem.W.OpenLaw.row PySem.Challenge.rw_measurewise_k25_rounding
def nm0 : List PySem.Str := ["MeasureError", "BadNumber", "BadName", "BadUnit", "BadRate", "BadTable", "NoRow", "BadText", "NoName", "Twice", "BadCount", "Steep", "Clash", "Unlike", "is_whole", "need_whole", "common", "is_fraction", "MOST_FIGURES", "Rounding", "Down", "Up", "Away", "Even", "way_of", "_law_mixed", "_law_number", "_law_common", "_law_class", "_law_shown"]
def nm1 : List PySem.Str := ["_law_way", "_law_settled", "_law_due", "_law_amount", "_law_right", "_law_made"]
def names_ : List PySem.Str := nm0 ++ nm1
def d_is_whole : He.DefD := ⟨("is_whole", none), "is_whole", "is_whole", defArgs s_is_whole, defBody s_is_whole, defScope s_is_whole, [], []⟩
def d_need_whole : He.DefD := ⟨("need_whole", none), "need_whole", "need_whole", defArgs s_need_whole, defBody s_need_whole, defScope s_need_whole, [.non], []⟩
def d_common : He.DefD := ⟨("common", none), "common", "common", defArgs s_common, defBody s_common, defScope s_common, [], []⟩
def d_is_fraction : He.DefD := ⟨("is_fraction", none), "is_fraction", "is_fraction", defArgs s_is_fraction, defBody s_is_fraction, defScope s_is_fraction, [], []⟩
def d_way_of : He.DefD := ⟨("way_of", none), "way_of", "way_of", defArgs s_way_of, defBody s_way_of, defScope s_way_of, [], []⟩
def d__law_mixed : He.DefD := ⟨("_law_mixed", none), "_law_mixed", "_law_mixed", defArgs s__law_mixed, defBody s__law_mixed, defScope s__law_mixed, [], []⟩
def d__law_number : He.DefD := ⟨("_law_number", none), "_law_number", "_law_number", defArgs s__law_number, defBody s__law_number, defScope s__law_number, [], []⟩
def d__law_common : He.DefD := ⟨("_law_common", none), "_law_common", "_law_common", defArgs s__law_common, defBody s__law_common, defScope s__law_common, [], []⟩
def d__law_shown : He.DefD := ⟨("_law_shown", none), "_law_shown", "_law_shown", defArgs s__law_shown, defBody s__law_shown, defScope s__law_shown, [], []⟩
def d__law_way : He.DefD := ⟨("_law_way", none), "_law_way", "_law_way", defArgs s__law_way, defBody s__law_way, defScope s__law_way, [], []⟩
def d__law_settled : He.DefD := ⟨("_law_settled", none), "_law_settled", "_law_settled", defArgs s__law_settled, defBody s__law_settled, defScope s__law_settled, [], []⟩
def d__law_due : He.DefD := ⟨("_law_due", none), "_law_due", "_law_due", defArgs s__law_due, defBody s__law_due, defScope s__law_due, [], []⟩
def d__law_amount : He.DefD := ⟨("_law_amount", none), "_law_amount", "_law_amount", defArgs s__law_amount, defBody s__law_amount, defScope s__law_amount, [], []⟩
def d__law_right : He.DefD := ⟨("_law_right", none), "_law_right", "_law_right", defArgs s__law_right, defBody s__law_right, defScope s__law_right, [], []⟩
def d__law_made : He.DefD := ⟨("_law_made", none), "_law_made", "_law_made", defArgs s__law_made, defBody s__law_made, defScope s__law_made, [], []⟩
def d_law : He.DefD := ⟨("law", none), "law", "law", defArgs s_law, defBody s_law, defScope s_law, [], []⟩
def dt_Down : He.DefD := ⟨("Down", some "settled"), "settled", "Rounding.settled", defArgs s_Rounding_settled, defBody s_Rounding_settled, defScope s_Rounding_settled, [], []⟩
def ds_Down : He.DefD := ⟨("Down", some "shown"), "shown", "Rounding.shown", defArgs s_Rounding_shown, defBody s_Rounding_shown, defScope s_Rounding_shown, [], []⟩
def dt_Up : He.DefD := ⟨("Up", some "settled"), "settled", "Up.settled", defArgs s_Up_settled, defBody s_Up_settled, defScope s_Up_settled, [], []⟩
def ds_Up : He.DefD := ⟨("Up", some "shown"), "shown", "Rounding.shown", defArgs s_Rounding_shown, defBody s_Rounding_shown, defScope s_Rounding_shown, [], []⟩
def dt_Away : He.DefD := ⟨("Away", some "settled"), "settled", "Away.settled", defArgs s_Away_settled, defBody s_Away_settled, defScope s_Away_settled, [], []⟩
def ds_Away : He.DefD := ⟨("Away", some "shown"), "shown", "Rounding.shown", defArgs s_Rounding_shown, defBody s_Rounding_shown, defScope s_Rounding_shown, [], []⟩
def dt_Even : He.DefD := ⟨("Even", some "settled"), "settled", "Even.settled", defArgs s_Even_settled, defBody s_Even_settled, defScope s_Even_settled, [], []⟩
def ds_Even : He.DefD := ⟨("Even", some "shown"), "shown", "Rounding.shown", defArgs s_Rounding_shown, defBody s_Rounding_shown, defScope s_Rounding_shown, [], []⟩
def dt_Rounding : He.DefD := ⟨("Rounding", some "settled"), "settled", "Rounding.settled", defArgs s_Rounding_settled, defBody s_Rounding_settled, defScope s_Rounding_settled, [], []⟩
def ds_Rounding : He.DefD := ⟨("Rounding", some "shown"), "shown", "Rounding.shown", defArgs s_Rounding_shown, defBody s_Rounding_shown, defScope s_Rounding_shown, [], []⟩
def _law_class_d : He.DefD := ⟨("_law_class", none), "_law_class", "_law_class", defArgs s__law_class, defBody s__law_class, defScope s__law_class, [], []⟩
def fn_ : List He.DefD := [d_is_whole, d_need_whole, d_common, d_is_fraction, d_way_of, d__law_mixed, d__law_number, d__law_common, d__law_shown, d__law_way, d__law_settled, d__law_due, d__law_amount, d__law_right, d__law_made, d_law, dt_Down, ds_Down, dt_Up, ds_Up, dt_Away, ds_Away, dt_Even, ds_Even, dt_Rounding, ds_Rounding, _law_class_d]
def cs0 : List Chk := [cFree "ValueError", cFree "abs", cFree "bool", cFree "divmod", cFree "int", cFree "isinstance", cFree "len", cFree "range", cFree "str", cFree "tuple", cGlo "MeasureError", cGlo "BadNumber", cGlo "BadName", cGlo "BadUnit", cGlo "BadRate", cGlo "BadTable", cGlo "NoRow", cGlo "BadText", cGlo "NoName", cGlo "Twice"]
def cs1 : List Chk := [cGlo "BadCount", cGlo "Steep", cGlo "Clash", cGlo "Unlike", cGlo "is_whole", cGlo "need_whole", cGlo "common", cGlo "is_fraction", cGlo "Rounding", cGlo "Down", cGlo "Up", cGlo "Away", cGlo "Even", cGlo "way_of", cGlo "_law_mixed", cGlo "_law_number", cGlo "_law_common", cGlo "_law_class", cGlo "_law_shown", cGlo "_law_way"]
def cs2 : List Chk := [cGlo "_law_settled", cGlo "_law_due", cGlo "_law_amount", cGlo "_law_right", cGlo "_law_made", cGlo "law", cExc "BadNumber", cExc "BadName", cInt "MOST_FIGURES" 40, cExm "BadNumber" "MeasureError" true, cExm "BadName" "MeasureError" true, cEc "BadNumber", cKit "BadNumber" "BadName" false, cKit "BadNumber" "BadNumber" true, cKit "BadNumber" "BadCount" false, cKit "BadNumber" "BadRate" false, cKit "BadNumber" "BadText" false, cKit "BadNumber" "Clash" false, cKit "BadNumber" "BadUnit" false, cKit "BadNumber" "BadTable" false]
def cs3 : List Chk := [cKit "BadNumber" "NoName" false, cKit "BadNumber" "NoRow" false, cKit "BadNumber" "Steep" false, cKit "BadNumber" "Twice" false, cKit "BadNumber" "Unlike" false, cKitT "BadNumber" "ValueError" true, cEc "BadName", cKit "BadName" "BadName" true, cKit "BadName" "BadNumber" false, cKit "BadName" "BadCount" false, cKit "BadName" "BadRate" false, cKit "BadName" "BadText" false, cKit "BadName" "Clash" false, cKit "BadName" "BadUnit" false, cKit "BadName" "BadTable" false, cKit "BadName" "NoName" false, cKit "BadName" "NoRow" false, cKit "BadName" "Steep" false, cKit "BadName" "Twice" false, cKit "BadName" "Unlike" false]
def cs4 : List Chk := [cKitT "BadName" "ValueError" true, cCls "Down", cMeth "Down" "settled", cMeth "Down" "shown", cNew0 "Down", cIns "Down", cKit "Down" "Rounding" true, cCls "Up", cMeth "Up" "settled", cMeth "Up" "shown", cNew0 "Up", cIns "Up", cKit "Up" "Rounding" true, cCls "Away", cMeth "Away" "settled", cMeth "Away" "shown", cNew0 "Away", cIns "Away", cKit "Away" "Rounding" true, cCls "Even"]
def cs5 : List Chk := [cMeth "Even" "settled", cMeth "Even" "shown", cNew0 "Even", cIns "Even", cKit "Even" "Rounding" true, cCls "Rounding", cMeth "Rounding" "settled", cMeth "Rounding" "shown", cNew0 "Rounding", cIns "Rounding", cKit "Rounding" "Rounding" true]
def cs_ : List Chk := cs0 ++ cs1 ++ cs2 ++ cs3 ++ cs4 ++ cs5
abbrev hk_ : PySem.W.Hook := hookM 4 cs_ fn_
def ob_ (s : PySem.W.SharedT) : He.AlD := obsMG 4 cs_ fn_ (HandSHeadRun.getT s)
theorem ob_eq (s : PySem.W.SharedT) : ob_ s = hk_.obs s.abs := obsMG_eq (HandSHeadRun.getT_eq s)
section
set_option maxHeartbeats 0
theorem run_ (w : World) : HandSHeadRun.RunEq R_ (PySem.W.view R_.prog [41]) hk_ ob_ 12000 names_ w := by
  intro os
  kernel_rfl
end
theorem law_wish (ns : List Int) (_ : ns.length ≤ 63) (_ : ∀ i ∈ ns, Builtin.Int.intBits i ≤ 1048576) : S_law [.lst (ns.map D.int)] (.ok (.bl true)) := ⟨ns, rfl, rfl⟩
def clK (K : Kf) : Nat → Addr
  | 0 => He.ga K "Down"
  | 1 => He.ga K "Up"
  | 2 => He.ga K "Away"
  | 3 => He.ga K "Even"
  | _ => He.ga K "Rounding"
def aK (K : Kf) : Nat → Addr
  | 0 => He.ga K "BadName"
  | 1 => He.ga K "BadNumber"
  | 2 => He.ga K "BadCount"
  | 3 => He.ga K "BadRate"
  | 4 => He.ga K "BadText"
  | 5 => He.ga K "Clash"
  | 6 => He.ga K "BadUnit"
  | 7 => He.ga K "BadTable"
  | 8 => He.ga K "NoName"
  | 9 => He.ga K "NoRow"
  | 10 => He.ga K "Steep"
  | 11 => He.ga K "Twice"
  | 12 => He.ga K "Unlike"
  | _ => 0
theorem facts_ {P : Program} {w : World} {K : Kf} {h : Heap} {mg : Str → Option Value} {f : Addr} (X : K.In h) (G : h.Ns mainGlobals mg) (hfa : mg ("law" : Str) = some (.ref f)) (c : SaysM cs_ fn_ K) :
    ∃ fd : FuncData, (∀ (s : Shared) (v : Value), BindsTo s fd ⟨[v], []⟩ [("_law_script", v)]) ∧ ∀ base : Heap, K.In base → base.Ns mainGlobals mg → FnOk P w K mg base (L2.CX P w) 12 f fd ["_law_script"] (spOf K S_law) := by
  have m_ValueError : mg "ValueError" = none := He.free_ok X G (c.chk 0 (f := cFree "ValueError") rfl)
  have m_abs : mg "abs" = none := He.free_ok X G (c.chk 1 (f := cFree "abs") rfl)
  have m_bool : mg "bool" = none := He.free_ok X G (c.chk 2 (f := cFree "bool") rfl)
  have m_divmod : mg "divmod" = none := He.free_ok X G (c.chk 3 (f := cFree "divmod") rfl)
  have m_int : mg "int" = none := He.free_ok X G (c.chk 4 (f := cFree "int") rfl)
  have m_isinstance : mg "isinstance" = none := He.free_ok X G (c.chk 5 (f := cFree "isinstance") rfl)
  have m_len : mg "len" = none := He.free_ok X G (c.chk 6 (f := cFree "len") rfl)
  have m_range : mg "range" = none := He.free_ok X G (c.chk 7 (f := cFree "range") rfl)
  have m_str : mg "str" = none := He.free_ok X G (c.chk 8 (f := cFree "str") rfl)
  have m_tuple : mg "tuple" = none := He.free_ok X G (c.chk 9 (f := cFree "tuple") rfl)
  have g_MeasureError : mg "MeasureError" = some (.ref (He.ga K "MeasureError")) := He.glo_ok X G (c.chk 10 (f := cGlo "MeasureError") rfl)
  have g_BadNumber : mg "BadNumber" = some (.ref (He.ga K "BadNumber")) := He.glo_ok X G (c.chk 11 (f := cGlo "BadNumber") rfl)
  have g_BadName : mg "BadName" = some (.ref (He.ga K "BadName")) := He.glo_ok X G (c.chk 12 (f := cGlo "BadName") rfl)
  have g_BadUnit : mg "BadUnit" = some (.ref (He.ga K "BadUnit")) := He.glo_ok X G (c.chk 13 (f := cGlo "BadUnit") rfl)
  have g_BadRate : mg "BadRate" = some (.ref (He.ga K "BadRate")) := He.glo_ok X G (c.chk 14 (f := cGlo "BadRate") rfl)
  have g_BadTable : mg "BadTable" = some (.ref (He.ga K "BadTable")) := He.glo_ok X G (c.chk 15 (f := cGlo "BadTable") rfl)
  have g_NoRow : mg "NoRow" = some (.ref (He.ga K "NoRow")) := He.glo_ok X G (c.chk 16 (f := cGlo "NoRow") rfl)
  have g_BadText : mg "BadText" = some (.ref (He.ga K "BadText")) := He.glo_ok X G (c.chk 17 (f := cGlo "BadText") rfl)
  have g_NoName : mg "NoName" = some (.ref (He.ga K "NoName")) := He.glo_ok X G (c.chk 18 (f := cGlo "NoName") rfl)
  have g_Twice : mg "Twice" = some (.ref (He.ga K "Twice")) := He.glo_ok X G (c.chk 19 (f := cGlo "Twice") rfl)
  have g_BadCount : mg "BadCount" = some (.ref (He.ga K "BadCount")) := He.glo_ok X G (c.chk 20 (f := cGlo "BadCount") rfl)
  have g_Steep : mg "Steep" = some (.ref (He.ga K "Steep")) := He.glo_ok X G (c.chk 21 (f := cGlo "Steep") rfl)
  have g_Clash : mg "Clash" = some (.ref (He.ga K "Clash")) := He.glo_ok X G (c.chk 22 (f := cGlo "Clash") rfl)
  have g_Unlike : mg "Unlike" = some (.ref (He.ga K "Unlike")) := He.glo_ok X G (c.chk 23 (f := cGlo "Unlike") rfl)
  have g_is_whole : mg "is_whole" = some (.ref (He.ga K "is_whole")) := He.glo_ok X G (c.chk 24 (f := cGlo "is_whole") rfl)
  have g_need_whole : mg "need_whole" = some (.ref (He.ga K "need_whole")) := He.glo_ok X G (c.chk 25 (f := cGlo "need_whole") rfl)
  have g_common : mg "common" = some (.ref (He.ga K "common")) := He.glo_ok X G (c.chk 26 (f := cGlo "common") rfl)
  have g_is_fraction : mg "is_fraction" = some (.ref (He.ga K "is_fraction")) := He.glo_ok X G (c.chk 27 (f := cGlo "is_fraction") rfl)
  have g_Rounding : mg "Rounding" = some (.ref (He.ga K "Rounding")) := He.glo_ok X G (c.chk 28 (f := cGlo "Rounding") rfl)
  have g_Down : mg "Down" = some (.ref (He.ga K "Down")) := He.glo_ok X G (c.chk 29 (f := cGlo "Down") rfl)
  have g_Up : mg "Up" = some (.ref (He.ga K "Up")) := He.glo_ok X G (c.chk 30 (f := cGlo "Up") rfl)
  have g_Away : mg "Away" = some (.ref (He.ga K "Away")) := He.glo_ok X G (c.chk 31 (f := cGlo "Away") rfl)
  have g_Even : mg "Even" = some (.ref (He.ga K "Even")) := He.glo_ok X G (c.chk 32 (f := cGlo "Even") rfl)
  have g_way_of : mg "way_of" = some (.ref (He.ga K "way_of")) := He.glo_ok X G (c.chk 33 (f := cGlo "way_of") rfl)
  have g__law_mixed : mg "_law_mixed" = some (.ref (He.ga K "_law_mixed")) := He.glo_ok X G (c.chk 34 (f := cGlo "_law_mixed") rfl)
  have g__law_number : mg "_law_number" = some (.ref (He.ga K "_law_number")) := He.glo_ok X G (c.chk 35 (f := cGlo "_law_number") rfl)
  have g__law_common : mg "_law_common" = some (.ref (He.ga K "_law_common")) := He.glo_ok X G (c.chk 36 (f := cGlo "_law_common") rfl)
  have g__law_class : mg "_law_class" = some (.ref (He.ga K "_law_class")) := He.glo_ok X G (c.chk 37 (f := cGlo "_law_class") rfl)
  have g__law_shown : mg "_law_shown" = some (.ref (He.ga K "_law_shown")) := He.glo_ok X G (c.chk 38 (f := cGlo "_law_shown") rfl)
  have g__law_way : mg "_law_way" = some (.ref (He.ga K "_law_way")) := He.glo_ok X G (c.chk 39 (f := cGlo "_law_way") rfl)
  have g__law_settled : mg "_law_settled" = some (.ref (He.ga K "_law_settled")) := He.glo_ok X G (c.chk 40 (f := cGlo "_law_settled") rfl)
  have g__law_due : mg "_law_due" = some (.ref (He.ga K "_law_due")) := He.glo_ok X G (c.chk 41 (f := cGlo "_law_due") rfl)
  have g__law_amount : mg "_law_amount" = some (.ref (He.ga K "_law_amount")) := He.glo_ok X G (c.chk 42 (f := cGlo "_law_amount") rfl)
  have g__law_right : mg "_law_right" = some (.ref (He.ga K "_law_right")) := He.glo_ok X G (c.chk 43 (f := cGlo "_law_right") rfl)
  have g__law_made : mg "_law_made" = some (.ref (He.ga K "_law_made")) := He.glo_ok X G (c.chk 44 (f := cGlo "_law_made") rfl)
  have g_law : mg "law" = some (.ref (He.ga K "law")) := He.glo_ok X G (c.chk 45 (f := cGlo "law") rfl)
  have ex_BadNumber : ExcE K mg "BadNumber" (He.ga K "BadNumber") := excE_of (c.chk 46 (f := cExc "BadNumber") rfl) g_BadNumber
  have ex_BadName : ExcE K mg "BadName" (He.ga K "BadName") := excE_of (c.chk 47 (f := cExc "BadName") rfl) g_BadName
  have k_most : CstE K mg "MOST_FIGURES" (.int 40) := cst_int X G (c.chk 48 (f := cInt "MOST_FIGURES" 40) rfl)
  have cat1 : CatE K (He.ga K "BadNumber") (He.ga K "MeasureError") true := ⟨He.exm_ok (c.chk 49 (f := cExm "BadNumber" "MeasureError" true) rfl)⟩
  have cat2 : CatE K (He.ga K "BadName") (He.ga K "MeasureError") true := ⟨He.exm_ok (c.chk 50 (f := cExm "BadName" "MeasureError" true) rfl)⟩
  have lc1 : LcE K (aK K) (He.ga K "BadNumber") false true := ⟨cEc_ok (c.chk 51 (f := cEc "BadNumber") rfl), of_decide_eq_true (c.chk 52 (f := cKit "BadNumber" "BadName" false) rfl), of_decide_eq_true (c.chk 53 (f := cKit "BadNumber" "BadNumber" true) rfl), fun i h2 h13 => by
    match i, h2, h13 with
    | 2, _, _ => exact of_decide_eq_true (c.chk 54 (f := cKit "BadNumber" "BadCount" false) rfl)
    | 3, _, _ => exact of_decide_eq_true (c.chk 55 (f := cKit "BadNumber" "BadRate" false) rfl)
    | 4, _, _ => exact of_decide_eq_true (c.chk 56 (f := cKit "BadNumber" "BadText" false) rfl)
    | 5, _, _ => exact of_decide_eq_true (c.chk 57 (f := cKit "BadNumber" "Clash" false) rfl)
    | 6, _, _ => exact of_decide_eq_true (c.chk 58 (f := cKit "BadNumber" "BadUnit" false) rfl)
    | 7, _, _ => exact of_decide_eq_true (c.chk 59 (f := cKit "BadNumber" "BadTable" false) rfl)
    | 8, _, _ => exact of_decide_eq_true (c.chk 60 (f := cKit "BadNumber" "NoName" false) rfl)
    | 9, _, _ => exact of_decide_eq_true (c.chk 61 (f := cKit "BadNumber" "NoRow" false) rfl)
    | 10, _, _ => exact of_decide_eq_true (c.chk 62 (f := cKit "BadNumber" "Steep" false) rfl)
    | 11, _, _ => exact of_decide_eq_true (c.chk 63 (f := cKit "BadNumber" "Twice" false) rfl)
    | 12, _, _ => exact of_decide_eq_true (c.chk 64 (f := cKit "BadNumber" "Unlike" false) rfl), of_decide_eq_true (c.chk 65 (f := cKitT "BadNumber" "ValueError" true) rfl)⟩
  have lc2 : LcE K (aK K) (He.ga K "BadName") true false := ⟨cEc_ok (c.chk 66 (f := cEc "BadName") rfl), of_decide_eq_true (c.chk 67 (f := cKit "BadName" "BadName" true) rfl), of_decide_eq_true (c.chk 68 (f := cKit "BadName" "BadNumber" false) rfl), fun i h2 h13 => by
    match i, h2, h13 with
    | 2, _, _ => exact of_decide_eq_true (c.chk 69 (f := cKit "BadName" "BadCount" false) rfl)
    | 3, _, _ => exact of_decide_eq_true (c.chk 70 (f := cKit "BadName" "BadRate" false) rfl)
    | 4, _, _ => exact of_decide_eq_true (c.chk 71 (f := cKit "BadName" "BadText" false) rfl)
    | 5, _, _ => exact of_decide_eq_true (c.chk 72 (f := cKit "BadName" "Clash" false) rfl)
    | 6, _, _ => exact of_decide_eq_true (c.chk 73 (f := cKit "BadName" "BadUnit" false) rfl)
    | 7, _, _ => exact of_decide_eq_true (c.chk 74 (f := cKit "BadName" "BadTable" false) rfl)
    | 8, _, _ => exact of_decide_eq_true (c.chk 75 (f := cKit "BadName" "NoName" false) rfl)
    | 9, _, _ => exact of_decide_eq_true (c.chk 76 (f := cKit "BadName" "NoRow" false) rfl)
    | 10, _, _ => exact of_decide_eq_true (c.chk 77 (f := cKit "BadName" "Steep" false) rfl)
    | 11, _, _ => exact of_decide_eq_true (c.chk 78 (f := cKit "BadName" "Twice" false) rfl)
    | 12, _, _ => exact of_decide_eq_true (c.chk 79 (f := cKit "BadName" "Unlike" false) rfl), of_decide_eq_true (c.chk 80 (f := cKitT "BadName" "ValueError" true) rfl)⟩
  have ck_Down : cCls "Down" K = true := (c.chk 81 (f := cCls "Down") rfl)
  have cm_t_Down : cMeth "Down" "settled" K = true := (c.chk 82 (f := cMeth "Down" "settled") rfl)
  have cm_s_Down : cMeth "Down" "shown" K = true := (c.chk 83 (f := cMeth "Down" "shown") rfl)
  have nw_Down : New0 K mg "Down" (He.ga K "Down") := cNew0_ok g_Down (c.chk 84 (f := cNew0 "Down") rfl)
  have in_Down : InsE K (He.ga K "Down") := cIns_ok (c.chk 81 (f := cCls "Down") rfl) (c.chk 85 (f := cIns "Down") rfl)
  have ki_Down : PySem.W.kitOne K (.ref (He.ga K "Down")) (.ref (He.ga K "Rounding")) = some true := of_decide_eq_true (c.chk 86 (f := cKit "Down" "Rounding" true) rfl)
  have ck_Up : cCls "Up" K = true := (c.chk 87 (f := cCls "Up") rfl)
  have cm_t_Up : cMeth "Up" "settled" K = true := (c.chk 88 (f := cMeth "Up" "settled") rfl)
  have cm_s_Up : cMeth "Up" "shown" K = true := (c.chk 89 (f := cMeth "Up" "shown") rfl)
  have nw_Up : New0 K mg "Up" (He.ga K "Up") := cNew0_ok g_Up (c.chk 90 (f := cNew0 "Up") rfl)
  have in_Up : InsE K (He.ga K "Up") := cIns_ok (c.chk 87 (f := cCls "Up") rfl) (c.chk 91 (f := cIns "Up") rfl)
  have ki_Up : PySem.W.kitOne K (.ref (He.ga K "Up")) (.ref (He.ga K "Rounding")) = some true := of_decide_eq_true (c.chk 92 (f := cKit "Up" "Rounding" true) rfl)
  have ck_Away : cCls "Away" K = true := (c.chk 93 (f := cCls "Away") rfl)
  have cm_t_Away : cMeth "Away" "settled" K = true := (c.chk 94 (f := cMeth "Away" "settled") rfl)
  have cm_s_Away : cMeth "Away" "shown" K = true := (c.chk 95 (f := cMeth "Away" "shown") rfl)
  have nw_Away : New0 K mg "Away" (He.ga K "Away") := cNew0_ok g_Away (c.chk 96 (f := cNew0 "Away") rfl)
  have in_Away : InsE K (He.ga K "Away") := cIns_ok (c.chk 93 (f := cCls "Away") rfl) (c.chk 97 (f := cIns "Away") rfl)
  have ki_Away : PySem.W.kitOne K (.ref (He.ga K "Away")) (.ref (He.ga K "Rounding")) = some true := of_decide_eq_true (c.chk 98 (f := cKit "Away" "Rounding" true) rfl)
  have ck_Even : cCls "Even" K = true := (c.chk 99 (f := cCls "Even") rfl)
  have cm_t_Even : cMeth "Even" "settled" K = true := (c.chk 100 (f := cMeth "Even" "settled") rfl)
  have cm_s_Even : cMeth "Even" "shown" K = true := (c.chk 101 (f := cMeth "Even" "shown") rfl)
  have nw_Even : New0 K mg "Even" (He.ga K "Even") := cNew0_ok g_Even (c.chk 102 (f := cNew0 "Even") rfl)
  have in_Even : InsE K (He.ga K "Even") := cIns_ok (c.chk 99 (f := cCls "Even") rfl) (c.chk 103 (f := cIns "Even") rfl)
  have ki_Even : PySem.W.kitOne K (.ref (He.ga K "Even")) (.ref (He.ga K "Rounding")) = some true := of_decide_eq_true (c.chk 104 (f := cKit "Even" "Rounding" true) rfl)
  have ck_Rounding : cCls "Rounding" K = true := (c.chk 105 (f := cCls "Rounding") rfl)
  have cm_t_Rounding : cMeth "Rounding" "settled" K = true := (c.chk 106 (f := cMeth "Rounding" "settled") rfl)
  have cm_s_Rounding : cMeth "Rounding" "shown" K = true := (c.chk 107 (f := cMeth "Rounding" "shown") rfl)
  have nw_Rounding : New0 K mg "Rounding" (He.ga K "Rounding") := cNew0_ok g_Rounding (c.chk 108 (f := cNew0 "Rounding") rfl)
  have in_Rounding : InsE K (He.ga K "Rounding") := cIns_ok (c.chk 105 (f := cCls "Rounding") rfl) (c.chk 109 (f := cIns "Rounding") rfl)
  have ki_Rounding : PySem.W.kitOne K (.ref (He.ga K "Rounding")) (.ref (He.ga K "Rounding")) = some true := of_decide_eq_true (c.chk 110 (f := cKit "Rounding" "Rounding" true) rfl)
  have TI : ∀ i, i < 5 → InsE K (clK K i) := fun i hi => by
    match i, hi with
    | 0, _ => exact in_Down
    | 1, _ => exact in_Up
    | 2, _ => exact in_Away
    | 3, _ => exact in_Even
    | 4, _ => exact in_Rounding
  have KI : ∀ i, i < 5 → PySem.W.kitOne K (.ref (clK K i)) (.ref (clK K 4)) = some true := fun i hi => by
    match i, hi with
    | 0, _ => exact ki_Down
    | 1, _ => exact ki_Up
    | 2, _ => exact ki_Away
    | 3, _ => exact ki_Even
    | 4, _ => exact ki_Rounding
  obtain ⟨fd_is_whole, D_is_whole⟩ := c.def_ 0 (d := d_is_whole) rfl
  obtain ⟨fd_need_whole, D_need_whole⟩ := c.def_ 1 (d := d_need_whole) rfl
  obtain ⟨fd_common, D_common⟩ := c.def_ 2 (d := d_common) rfl
  obtain ⟨fd_is_fraction, D_is_fraction⟩ := c.def_ 3 (d := d_is_fraction) rfl
  obtain ⟨fd_way_of, D_way_of⟩ := c.def_ 4 (d := d_way_of) rfl
  obtain ⟨fd__law_mixed, D__law_mixed⟩ := c.def_ 5 (d := d__law_mixed) rfl
  obtain ⟨fd__law_number, D__law_number⟩ := c.def_ 6 (d := d__law_number) rfl
  obtain ⟨fd__law_common, D__law_common⟩ := c.def_ 7 (d := d__law_common) rfl
  obtain ⟨fd__law_shown, D__law_shown⟩ := c.def_ 8 (d := d__law_shown) rfl
  obtain ⟨fd__law_way, D__law_way⟩ := c.def_ 9 (d := d__law_way) rfl
  obtain ⟨fd__law_settled, D__law_settled⟩ := c.def_ 10 (d := d__law_settled) rfl
  obtain ⟨fd__law_due, D__law_due⟩ := c.def_ 11 (d := d__law_due) rfl
  obtain ⟨fd__law_amount, D__law_amount⟩ := c.def_ 12 (d := d__law_amount) rfl
  obtain ⟨fd__law_right, D__law_right⟩ := c.def_ 13 (d := d__law_right) rfl
  obtain ⟨fd__law_made, D__law_made⟩ := c.def_ 14 (d := d__law_made) rfl
  obtain ⟨fd_law, D_law⟩ := c.def_ 15 (d := d_law) rfl
  obtain ⟨fd_dt_Down, D_dt_Down⟩ := c.def_ 16 (d := dt_Down) rfl
  obtain ⟨fd_ds_Down, D_ds_Down⟩ := c.def_ 17 (d := ds_Down) rfl
  obtain ⟨fd_dt_Up, D_dt_Up⟩ := c.def_ 18 (d := dt_Up) rfl
  obtain ⟨fd_ds_Up, D_ds_Up⟩ := c.def_ 19 (d := ds_Up) rfl
  obtain ⟨fd_dt_Away, D_dt_Away⟩ := c.def_ 20 (d := dt_Away) rfl
  obtain ⟨fd_ds_Away, D_ds_Away⟩ := c.def_ 21 (d := ds_Away) rfl
  obtain ⟨fd_dt_Even, D_dt_Even⟩ := c.def_ 22 (d := dt_Even) rfl
  obtain ⟨fd_ds_Even, D_ds_Even⟩ := c.def_ 23 (d := ds_Even) rfl
  obtain ⟨fd_dt_Rounding, D_dt_Rounding⟩ := c.def_ 24 (d := dt_Rounding) rfl
  obtain ⟨fd_ds_Rounding, D_ds_Rounding⟩ := c.def_ 25 (d := ds_Rounding) rfl
  obtain ⟨fd__law_class_d, D__law_class_d⟩ := c.def_ 26 (d := _law_class_d) rfl
  have e := hfa.symm.trans g_law
  cases e
  refine ⟨fd_law, fun s v => FunD.bindsA (ps := ["_law_script"]) D_law (fun _ _ _ _ _ _ us hl => match us, hl with | [_], _ => rfl) s [v] rfl, fun base _ _ => ?_⟩
  have K_is_whole := fn_okF (P := P) (w := w) (mg := mg) (base := base) (S := S_is_whole) D_is_whole bk_is_whole (fun ds r h => by first | (obtain ⟨_, h, _⟩ := h; rw [h]; rfl) | (obtain ⟨_, _, h, _⟩ := h; rw [h]; rfl) | (obtain ⟨_, _, _, h, _⟩ := h; rw [h]; rfl) | (obtain ⟨_, _, _, _, h, _⟩ := h; rw [h]; rfl) | (obtain ⟨_, _, _, _, _, h, _⟩ := h; rw [h]; rfl) | (obtain ⟨_, _, _, _, _, _, h, _⟩ := h; rw [h]; rfl) | (obtain ⟨_, _, _, _, _, _, _, h, _⟩ := h; rw [h]; rfl) | (obtain ⟨_, _, _, _, _, _, _, _, h, _⟩ := h; rw [h]; rfl)) (fun Y hP hw hK hm hb B Gs G' ds r h => by subst hP hw hK hm hb; apply b_is_whole <;> assumption)
  have E_is_whole := fnE_of K_is_whole g_is_whole D_is_whole.kp (D_is_whole.bindsN fun _ _ _ _ _ _ us hl => match us, hl with | [_], _ => rfl)
  have K_need_whole := fn_okF (P := P) (w := w) (mg := mg) (base := base) (S := (S_need_whole (He.ga K "BadNumber"))) D_need_whole bk_need_whole (fun ds r h => by first | (obtain ⟨_, h, _⟩ := h; rw [h]; rfl) | (obtain ⟨_, _, h, _⟩ := h; rw [h]; rfl) | (obtain ⟨_, _, _, h, _⟩ := h; rw [h]; rfl) | (obtain ⟨_, _, _, _, h, _⟩ := h; rw [h]; rfl) | (obtain ⟨_, _, _, _, _, h, _⟩ := h; rw [h]; rfl) | (obtain ⟨_, _, _, _, _, _, h, _⟩ := h; rw [h]; rfl) | (obtain ⟨_, _, _, _, _, _, _, h, _⟩ := h; rw [h]; rfl) | (obtain ⟨_, _, _, _, _, _, _, _, h, _⟩ := h; rw [h]; rfl)) (fun Y hP hw hK hm hb B Gs G' ds r h => by subst hP hw hK hm hb; apply b_need_whole <;> assumption)
  have E_need_whole_1 := fnE_dfl (dds := [.non]) K_need_whole g_need_whole D_need_whole.kp (D_need_whole.binds1 2 0 (List.cons_ne_nil _ _) rfl fun T kV doc pm an cdv ct us its h1 h2 => match us, h1, its, h2 with | [_, _], _, [_], _ => ⟨_, rfl, rfl⟩) (fun _ => by repeat (first | exact rfl | refine ⟨_, _, rfl, rfl, ?_⟩))
  have E_need_whole := fnE_all K_need_whole g_need_whole D_need_whole.kp (D_need_whole.binds1 3 1 (List.cons_ne_nil _ _) rfl fun T kV doc pm an cdv ct us its h1 h2 => match us, h1, its, h2 with | [_, _, _], _, [_], _ => ⟨_, rfl, rfl⟩)
  have K_common := fn_okF (P := P) (w := w) (mg := mg) (base := base) (S := S_common) D_common bk_common (fun ds r h => by first | (obtain ⟨_, h, _⟩ := h; rw [h]; rfl) | (obtain ⟨_, _, h, _⟩ := h; rw [h]; rfl) | (obtain ⟨_, _, _, h, _⟩ := h; rw [h]; rfl) | (obtain ⟨_, _, _, _, h, _⟩ := h; rw [h]; rfl) | (obtain ⟨_, _, _, _, _, h, _⟩ := h; rw [h]; rfl) | (obtain ⟨_, _, _, _, _, _, h, _⟩ := h; rw [h]; rfl) | (obtain ⟨_, _, _, _, _, _, _, h, _⟩ := h; rw [h]; rfl) | (obtain ⟨_, _, _, _, _, _, _, _, h, _⟩ := h; rw [h]; rfl)) (fun Y hP hw hK hm hb B Gs G' ds r h => by subst hP hw hK hm hb; apply b_common <;> assumption)
  have E_common := fnE_of K_common g_common D_common.kp (D_common.bindsN fun _ _ _ _ _ _ us hl => match us, hl with | [_, _], _ => rfl)
  have K_is_fraction := fn_okF (P := P) (w := w) (mg := mg) (base := base) (S := S_is_fraction) D_is_fraction bk_is_fraction (fun ds r h => by first | (obtain ⟨_, h, _⟩ := h; rw [h]; rfl) | (obtain ⟨_, _, h, _⟩ := h; rw [h]; rfl) | (obtain ⟨_, _, _, h, _⟩ := h; rw [h]; rfl) | (obtain ⟨_, _, _, _, h, _⟩ := h; rw [h]; rfl) | (obtain ⟨_, _, _, _, _, h, _⟩ := h; rw [h]; rfl) | (obtain ⟨_, _, _, _, _, _, h, _⟩ := h; rw [h]; rfl) | (obtain ⟨_, _, _, _, _, _, _, h, _⟩ := h; rw [h]; rfl) | (obtain ⟨_, _, _, _, _, _, _, _, h, _⟩ := h; rw [h]; rfl)) (fun Y hP hw hK hm hb B Gs G' ds r h => by subst hP hw hK hm hb; apply b_is_fraction <;> assumption)
  have E_is_fraction := fnE_of K_is_fraction g_is_fraction D_is_fraction.kp (D_is_fraction.bindsN fun _ _ _ _ _ _ us hl => match us, hl with | [_], _ => rfl)
  have K_t_Down := fn_okF (P := P) (w := w) (mg := mg) (base := base) (S := (S_settled 0)) D_dt_Down bk_Rounding_settled (fun ds r h => by first | (obtain ⟨_, h, _⟩ := h; rw [h]; rfl) | (obtain ⟨_, _, h, _⟩ := h; rw [h]; rfl) | (obtain ⟨_, _, _, h, _⟩ := h; rw [h]; rfl) | (obtain ⟨_, _, _, _, h, _⟩ := h; rw [h]; rfl) | (obtain ⟨_, _, _, _, _, h, _⟩ := h; rw [h]; rfl) | (obtain ⟨_, _, _, _, _, _, h, _⟩ := h; rw [h]; rfl) | (obtain ⟨_, _, _, _, _, _, _, h, _⟩ := h; rw [h]; rfl) | (obtain ⟨_, _, _, _, _, _, _, _, h, _⟩ := h; rw [h]; rfl)) (fun Y hP hw hK hm hb B Gs G' ds r h => by subst hP hw hK hm hb; apply b_Rounding_settled <;> assumption)
  have M_t_Down := metE_of (x := "Down") (m := "settled") ck_Down cm_t_Down K_t_Down (D_dt_Down.bindsN fun _ _ _ _ _ _ us hl => match us, hl with | [_, _, _], _ => rfl)
  have K_t_Up := fn_okF (P := P) (w := w) (mg := mg) (base := base) (S := (S_settled 1)) D_dt_Up bk_Up_settled (fun ds r h => by first | (obtain ⟨_, h, _⟩ := h; rw [h]; rfl) | (obtain ⟨_, _, h, _⟩ := h; rw [h]; rfl) | (obtain ⟨_, _, _, h, _⟩ := h; rw [h]; rfl) | (obtain ⟨_, _, _, _, h, _⟩ := h; rw [h]; rfl) | (obtain ⟨_, _, _, _, _, h, _⟩ := h; rw [h]; rfl) | (obtain ⟨_, _, _, _, _, _, h, _⟩ := h; rw [h]; rfl) | (obtain ⟨_, _, _, _, _, _, _, h, _⟩ := h; rw [h]; rfl) | (obtain ⟨_, _, _, _, _, _, _, _, h, _⟩ := h; rw [h]; rfl)) (fun Y hP hw hK hm hb B Gs G' ds r h => by subst hP hw hK hm hb; apply b_Up_settled <;> assumption)
  have M_t_Up := metE_of (x := "Up") (m := "settled") ck_Up cm_t_Up K_t_Up (D_dt_Up.bindsN fun _ _ _ _ _ _ us hl => match us, hl with | [_, _, _], _ => rfl)
  have K_t_Away := fn_okF (P := P) (w := w) (mg := mg) (base := base) (S := (S_settled 2)) D_dt_Away bk_Away_settled (fun ds r h => by first | (obtain ⟨_, h, _⟩ := h; rw [h]; rfl) | (obtain ⟨_, _, h, _⟩ := h; rw [h]; rfl) | (obtain ⟨_, _, _, h, _⟩ := h; rw [h]; rfl) | (obtain ⟨_, _, _, _, h, _⟩ := h; rw [h]; rfl) | (obtain ⟨_, _, _, _, _, h, _⟩ := h; rw [h]; rfl) | (obtain ⟨_, _, _, _, _, _, h, _⟩ := h; rw [h]; rfl) | (obtain ⟨_, _, _, _, _, _, _, h, _⟩ := h; rw [h]; rfl) | (obtain ⟨_, _, _, _, _, _, _, _, h, _⟩ := h; rw [h]; rfl)) (fun Y hP hw hK hm hb B Gs G' ds r h => by subst hP hw hK hm hb; apply b_Away_settled <;> assumption)
  have M_t_Away := metE_of (x := "Away") (m := "settled") ck_Away cm_t_Away K_t_Away (D_dt_Away.bindsN fun _ _ _ _ _ _ us hl => match us, hl with | [_, _, _], _ => rfl)
  have K_t_Even := fn_okF (P := P) (w := w) (mg := mg) (base := base) (S := (S_settled 3)) D_dt_Even bk_Even_settled (fun ds r h => by first | (obtain ⟨_, h, _⟩ := h; rw [h]; rfl) | (obtain ⟨_, _, h, _⟩ := h; rw [h]; rfl) | (obtain ⟨_, _, _, h, _⟩ := h; rw [h]; rfl) | (obtain ⟨_, _, _, _, h, _⟩ := h; rw [h]; rfl) | (obtain ⟨_, _, _, _, _, h, _⟩ := h; rw [h]; rfl) | (obtain ⟨_, _, _, _, _, _, h, _⟩ := h; rw [h]; rfl) | (obtain ⟨_, _, _, _, _, _, _, h, _⟩ := h; rw [h]; rfl) | (obtain ⟨_, _, _, _, _, _, _, _, h, _⟩ := h; rw [h]; rfl)) (fun Y hP hw hK hm hb B Gs G' ds r h => by subst hP hw hK hm hb; apply b_Even_settled <;> assumption)
  have M_t_Even := metE_of (x := "Even") (m := "settled") ck_Even cm_t_Even K_t_Even (D_dt_Even.bindsN fun _ _ _ _ _ _ us hl => match us, hl with | [_, _, _], _ => rfl)
  have K_t_Rounding := fn_okF (P := P) (w := w) (mg := mg) (base := base) (S := (S_settled 0)) D_dt_Rounding bk_Rounding_settled (fun ds r h => by first | (obtain ⟨_, h, _⟩ := h; rw [h]; rfl) | (obtain ⟨_, _, h, _⟩ := h; rw [h]; rfl) | (obtain ⟨_, _, _, h, _⟩ := h; rw [h]; rfl) | (obtain ⟨_, _, _, _, h, _⟩ := h; rw [h]; rfl) | (obtain ⟨_, _, _, _, _, h, _⟩ := h; rw [h]; rfl) | (obtain ⟨_, _, _, _, _, _, h, _⟩ := h; rw [h]; rfl) | (obtain ⟨_, _, _, _, _, _, _, h, _⟩ := h; rw [h]; rfl) | (obtain ⟨_, _, _, _, _, _, _, _, h, _⟩ := h; rw [h]; rfl)) (fun Y hP hw hK hm hb B Gs G' ds r h => by subst hP hw hK hm hb; apply b_Rounding_settled <;> assumption)
  have M_t_Rounding := metE_of (x := "Rounding") (m := "settled") ck_Rounding cm_t_Rounding K_t_Rounding (D_dt_Rounding.bindsN fun _ _ _ _ _ _ us hl => match us, hl with | [_, _, _], _ => rfl)
  have MT : ∀ i, i < 5 → MetE P w K mg base 2 (clK K i) "settled" [] (S_settled (wayOf i)) := fun i hi => by
    match i, hi with
    | 0, _ => exact M_t_Down
    | 1, _ => exact M_t_Up
    | 2, _ => exact M_t_Away
    | 3, _ => exact M_t_Even
    | 4, _ => exact M_t_Rounding
  have K_s_Down := fn_okF (P := P) (w := w) (mg := mg) (base := base) (S := (S_rshown (clK K) (He.ga K "BadNumber"))) D_ds_Down bk_Rounding_shown (fun ds r h => by first | (obtain ⟨_, h, _⟩ := h; rw [h]; rfl) | (obtain ⟨_, _, h, _⟩ := h; rw [h]; rfl) | (obtain ⟨_, _, _, h, _⟩ := h; rw [h]; rfl) | (obtain ⟨_, _, _, _, h, _⟩ := h; rw [h]; rfl) | (obtain ⟨_, _, _, _, _, h, _⟩ := h; rw [h]; rfl) | (obtain ⟨_, _, _, _, _, _, h, _⟩ := h; rw [h]; rfl) | (obtain ⟨_, _, _, _, _, _, _, h, _⟩ := h; rw [h]; rfl) | (obtain ⟨_, _, _, _, _, _, _, _, h, _⟩ := h; rw [h]; rfl)) (fun Y hP hw hK hm hb B Gs G' ds r h => by subst hP hw hK hm hb; apply b_Rounding_shown <;> assumption)
  have M_s_Down := metE_of (x := "Down") (m := "shown") ck_Down cm_s_Down K_s_Down (D_ds_Down.bindsN fun _ _ _ _ _ _ us hl => match us, hl with | [_, _, _], _ => rfl)
  have K_s_Up := fn_okF (P := P) (w := w) (mg := mg) (base := base) (S := (S_rshown (clK K) (He.ga K "BadNumber"))) D_ds_Up bk_Rounding_shown (fun ds r h => by first | (obtain ⟨_, h, _⟩ := h; rw [h]; rfl) | (obtain ⟨_, _, h, _⟩ := h; rw [h]; rfl) | (obtain ⟨_, _, _, h, _⟩ := h; rw [h]; rfl) | (obtain ⟨_, _, _, _, h, _⟩ := h; rw [h]; rfl) | (obtain ⟨_, _, _, _, _, h, _⟩ := h; rw [h]; rfl) | (obtain ⟨_, _, _, _, _, _, h, _⟩ := h; rw [h]; rfl) | (obtain ⟨_, _, _, _, _, _, _, h, _⟩ := h; rw [h]; rfl) | (obtain ⟨_, _, _, _, _, _, _, _, h, _⟩ := h; rw [h]; rfl)) (fun Y hP hw hK hm hb B Gs G' ds r h => by subst hP hw hK hm hb; apply b_Rounding_shown <;> assumption)
  have M_s_Up := metE_of (x := "Up") (m := "shown") ck_Up cm_s_Up K_s_Up (D_ds_Up.bindsN fun _ _ _ _ _ _ us hl => match us, hl with | [_, _, _], _ => rfl)
  have K_s_Away := fn_okF (P := P) (w := w) (mg := mg) (base := base) (S := (S_rshown (clK K) (He.ga K "BadNumber"))) D_ds_Away bk_Rounding_shown (fun ds r h => by first | (obtain ⟨_, h, _⟩ := h; rw [h]; rfl) | (obtain ⟨_, _, h, _⟩ := h; rw [h]; rfl) | (obtain ⟨_, _, _, h, _⟩ := h; rw [h]; rfl) | (obtain ⟨_, _, _, _, h, _⟩ := h; rw [h]; rfl) | (obtain ⟨_, _, _, _, _, h, _⟩ := h; rw [h]; rfl) | (obtain ⟨_, _, _, _, _, _, h, _⟩ := h; rw [h]; rfl) | (obtain ⟨_, _, _, _, _, _, _, h, _⟩ := h; rw [h]; rfl) | (obtain ⟨_, _, _, _, _, _, _, _, h, _⟩ := h; rw [h]; rfl)) (fun Y hP hw hK hm hb B Gs G' ds r h => by subst hP hw hK hm hb; apply b_Rounding_shown <;> assumption)
  have M_s_Away := metE_of (x := "Away") (m := "shown") ck_Away cm_s_Away K_s_Away (D_ds_Away.bindsN fun _ _ _ _ _ _ us hl => match us, hl with | [_, _, _], _ => rfl)
  have K_s_Even := fn_okF (P := P) (w := w) (mg := mg) (base := base) (S := (S_rshown (clK K) (He.ga K "BadNumber"))) D_ds_Even bk_Rounding_shown (fun ds r h => by first | (obtain ⟨_, h, _⟩ := h; rw [h]; rfl) | (obtain ⟨_, _, h, _⟩ := h; rw [h]; rfl) | (obtain ⟨_, _, _, h, _⟩ := h; rw [h]; rfl) | (obtain ⟨_, _, _, _, h, _⟩ := h; rw [h]; rfl) | (obtain ⟨_, _, _, _, _, h, _⟩ := h; rw [h]; rfl) | (obtain ⟨_, _, _, _, _, _, h, _⟩ := h; rw [h]; rfl) | (obtain ⟨_, _, _, _, _, _, _, h, _⟩ := h; rw [h]; rfl) | (obtain ⟨_, _, _, _, _, _, _, _, h, _⟩ := h; rw [h]; rfl)) (fun Y hP hw hK hm hb B Gs G' ds r h => by subst hP hw hK hm hb; apply b_Rounding_shown <;> assumption)
  have M_s_Even := metE_of (x := "Even") (m := "shown") ck_Even cm_s_Even K_s_Even (D_ds_Even.bindsN fun _ _ _ _ _ _ us hl => match us, hl with | [_, _, _], _ => rfl)
  have K_s_Rounding := fn_okF (P := P) (w := w) (mg := mg) (base := base) (S := (S_rshown (clK K) (He.ga K "BadNumber"))) D_ds_Rounding bk_Rounding_shown (fun ds r h => by first | (obtain ⟨_, h, _⟩ := h; rw [h]; rfl) | (obtain ⟨_, _, h, _⟩ := h; rw [h]; rfl) | (obtain ⟨_, _, _, h, _⟩ := h; rw [h]; rfl) | (obtain ⟨_, _, _, _, h, _⟩ := h; rw [h]; rfl) | (obtain ⟨_, _, _, _, _, h, _⟩ := h; rw [h]; rfl) | (obtain ⟨_, _, _, _, _, _, h, _⟩ := h; rw [h]; rfl) | (obtain ⟨_, _, _, _, _, _, _, h, _⟩ := h; rw [h]; rfl) | (obtain ⟨_, _, _, _, _, _, _, _, h, _⟩ := h; rw [h]; rfl)) (fun Y hP hw hK hm hb B Gs G' ds r h => by subst hP hw hK hm hb; apply b_Rounding_shown <;> assumption)
  have M_s_Rounding := metE_of (x := "Rounding") (m := "shown") ck_Rounding cm_s_Rounding K_s_Rounding (D_ds_Rounding.bindsN fun _ _ _ _ _ _ us hl => match us, hl with | [_, _, _], _ => rfl)
  have MS : ∀ i, i < 5 → MetE P w K mg base 6 (clK K i) "shown" [] (S_rshown (clK K) (He.ga K "BadNumber")) := fun i hi => by
    match i, hi with
    | 0, _ => exact M_s_Down
    | 1, _ => exact M_s_Up
    | 2, _ => exact M_s_Away
    | 3, _ => exact M_s_Even
    | 4, _ => exact M_s_Rounding
  have K_way_of := fn_okF (P := P) (w := w) (mg := mg) (base := base) (S := (S_way_of (clK K) (He.ga K "BadName"))) D_way_of bk_way_of (fun ds r h => by first | (obtain ⟨_, h, _⟩ := h; rw [h]; rfl) | (obtain ⟨_, _, h, _⟩ := h; rw [h]; rfl) | (obtain ⟨_, _, _, h, _⟩ := h; rw [h]; rfl) | (obtain ⟨_, _, _, _, h, _⟩ := h; rw [h]; rfl) | (obtain ⟨_, _, _, _, _, h, _⟩ := h; rw [h]; rfl) | (obtain ⟨_, _, _, _, _, _, h, _⟩ := h; rw [h]; rfl) | (obtain ⟨_, _, _, _, _, _, _, h, _⟩ := h; rw [h]; rfl) | (obtain ⟨_, _, _, _, _, _, _, _, h, _⟩ := h; rw [h]; rfl)) (fun Y hP hw hK hm hb B Gs G' ds r h => by subst hP hw hK hm hb; apply b_way_of (cl := clK _) <;> assumption)
  have E_way_of := fnE_of K_way_of g_way_of D_way_of.kp (D_way_of.bindsN fun _ _ _ _ _ _ us hl => match us, hl with | [_], _ => rfl)
  have Hc : HotE P w K mg base 2 "_law_class" (S_class K (aK K)) := hot_ok (st := s__law_class) (k := 1) D__law_class_d bk__law_class g__law_class (D__law_class_d.bindsN fun _ _ _ _ _ _ us hl => match us, hl with | [_], _ => rfl) (fun Y hP hw hK hm hb B hr C a oe hp hz hf Gs G' d h => by subst hP hw hK hm hb; apply b_law_class (A := aK _) <;> assumption)
  have K__law_mixed := fn_okF (P := P) (w := w) (mg := mg) (base := base) (S := S_mixed) D__law_mixed bk__law_mixed (fun ds r h => by first | (obtain ⟨_, h, _⟩ := h; rw [h]; rfl) | (obtain ⟨_, _, h, _⟩ := h; rw [h]; rfl) | (obtain ⟨_, _, _, h, _⟩ := h; rw [h]; rfl) | (obtain ⟨_, _, _, _, h, _⟩ := h; rw [h]; rfl) | (obtain ⟨_, _, _, _, _, h, _⟩ := h; rw [h]; rfl) | (obtain ⟨_, _, _, _, _, _, h, _⟩ := h; rw [h]; rfl) | (obtain ⟨_, _, _, _, _, _, _, h, _⟩ := h; rw [h]; rfl) | (obtain ⟨_, _, _, _, _, _, _, _, h, _⟩ := h; rw [h]; rfl)) (fun Y hP hw hK hm hb B Gs G' ds r h => by subst hP hw hK hm hb; apply b_law_mixed <;> assumption)
  have E__law_mixed := fnE_of K__law_mixed g__law_mixed D__law_mixed.kp (D__law_mixed.bindsN fun _ _ _ _ _ _ us hl => match us, hl with | [_, _], _ => rfl)
  have K__law_number := fn_okF (P := P) (w := w) (mg := mg) (base := base) (S := S_number) D__law_number bk__law_number (fun ds r h => by first | (obtain ⟨_, h, _⟩ := h; rw [h]; rfl) | (obtain ⟨_, _, h, _⟩ := h; rw [h]; rfl) | (obtain ⟨_, _, _, h, _⟩ := h; rw [h]; rfl) | (obtain ⟨_, _, _, _, h, _⟩ := h; rw [h]; rfl) | (obtain ⟨_, _, _, _, _, h, _⟩ := h; rw [h]; rfl) | (obtain ⟨_, _, _, _, _, _, h, _⟩ := h; rw [h]; rfl) | (obtain ⟨_, _, _, _, _, _, _, h, _⟩ := h; rw [h]; rfl) | (obtain ⟨_, _, _, _, _, _, _, _, h, _⟩ := h; rw [h]; rfl)) (fun Y hP hw hK hm hb B Gs G' ds r h => by subst hP hw hK hm hb; apply b_law_number <;> assumption)
  have E__law_number := fnE_of K__law_number g__law_number D__law_number.kp (D__law_number.bindsN fun _ _ _ _ _ _ us hl => match us, hl with | [_, _], _ => rfl)
  have K__law_common := fn_okF (P := P) (w := w) (mg := mg) (base := base) (S := S_law_common) D__law_common bk__law_common (fun ds r h => by first | (obtain ⟨_, h, _⟩ := h; rw [h]; rfl) | (obtain ⟨_, _, h, _⟩ := h; rw [h]; rfl) | (obtain ⟨_, _, _, h, _⟩ := h; rw [h]; rfl) | (obtain ⟨_, _, _, _, h, _⟩ := h; rw [h]; rfl) | (obtain ⟨_, _, _, _, _, h, _⟩ := h; rw [h]; rfl) | (obtain ⟨_, _, _, _, _, _, h, _⟩ := h; rw [h]; rfl) | (obtain ⟨_, _, _, _, _, _, _, h, _⟩ := h; rw [h]; rfl) | (obtain ⟨_, _, _, _, _, _, _, _, h, _⟩ := h; rw [h]; rfl)) (fun Y hP hw hK hm hb B Gs G' ds r h => by subst hP hw hK hm hb; apply b_law_common <;> assumption)
  have E__law_common := fnE_of K__law_common g__law_common D__law_common.kp (D__law_common.bindsN fun _ _ _ _ _ _ us hl => match us, hl with | [_, _], _ => rfl)
  have K__law_shown := fn_okF (P := P) (w := w) (mg := mg) (base := base) (S := (S_lshown (clK K))) D__law_shown bk__law_shown (fun ds r h => by first | (obtain ⟨_, h, _⟩ := h; rw [h]; rfl) | (obtain ⟨_, _, h, _⟩ := h; rw [h]; rfl) | (obtain ⟨_, _, _, h, _⟩ := h; rw [h]; rfl) | (obtain ⟨_, _, _, _, h, _⟩ := h; rw [h]; rfl) | (obtain ⟨_, _, _, _, _, h, _⟩ := h; rw [h]; rfl) | (obtain ⟨_, _, _, _, _, _, h, _⟩ := h; rw [h]; rfl) | (obtain ⟨_, _, _, _, _, _, _, h, _⟩ := h; rw [h]; rfl) | (obtain ⟨_, _, _, _, _, _, _, _, h, _⟩ := h; rw [h]; rfl)) (fun Y hP hw hK hm hb B Gs G' ds r h => by subst hP hw hK hm hb; apply b_law_shown (cl := clK _) (A := aK _) <;> assumption)
  have E__law_shown := fnE_of K__law_shown g__law_shown D__law_shown.kp (D__law_shown.bindsN fun _ _ _ _ _ _ us hl => match us, hl with | [_, _, _], _ => rfl)
  have K__law_way := fn_okF (P := P) (w := w) (mg := mg) (base := base) (S := (S_lway (clK K))) D__law_way bk__law_way (fun ds r h => by first | (obtain ⟨_, h, _⟩ := h; rw [h]; rfl) | (obtain ⟨_, _, h, _⟩ := h; rw [h]; rfl) | (obtain ⟨_, _, _, h, _⟩ := h; rw [h]; rfl) | (obtain ⟨_, _, _, _, h, _⟩ := h; rw [h]; rfl) | (obtain ⟨_, _, _, _, _, h, _⟩ := h; rw [h]; rfl) | (obtain ⟨_, _, _, _, _, _, h, _⟩ := h; rw [h]; rfl) | (obtain ⟨_, _, _, _, _, _, _, h, _⟩ := h; rw [h]; rfl) | (obtain ⟨_, _, _, _, _, _, _, _, h, _⟩ := h; rw [h]; rfl)) (fun Y hP hw hK hm hb B Gs G' ds r h => by subst hP hw hK hm hb; apply b_law_way (cl := clK _) (A := aK _) <;> assumption)
  have E__law_way := fnE_of K__law_way g__law_way D__law_way.kp (D__law_way.bindsN fun _ _ _ _ _ _ us hl => match us, hl with | [_], _ => rfl)
  have K__law_settled := fn_okF (P := P) (w := w) (mg := mg) (base := base) (S := S_lsettled) D__law_settled bk__law_settled (fun ds r h => by first | (obtain ⟨_, h, _⟩ := h; rw [h]; rfl) | (obtain ⟨_, _, h, _⟩ := h; rw [h]; rfl) | (obtain ⟨_, _, _, h, _⟩ := h; rw [h]; rfl) | (obtain ⟨_, _, _, _, h, _⟩ := h; rw [h]; rfl) | (obtain ⟨_, _, _, _, _, h, _⟩ := h; rw [h]; rfl) | (obtain ⟨_, _, _, _, _, _, h, _⟩ := h; rw [h]; rfl) | (obtain ⟨_, _, _, _, _, _, _, h, _⟩ := h; rw [h]; rfl) | (obtain ⟨_, _, _, _, _, _, _, _, h, _⟩ := h; rw [h]; rfl)) (fun Y hP hw hK hm hb B Gs G' ds r h => by subst hP hw hK hm hb; apply b_law_settled <;> assumption)
  have E__law_settled := fnE_of K__law_settled g__law_settled D__law_settled.kp (D__law_settled.bindsN fun _ _ _ _ _ _ us hl => match us, hl with | [_, _, _], _ => rfl)
  have K__law_due := fn_okF (P := P) (w := w) (mg := mg) (base := base) (S := S_ldue) D__law_due bk__law_due (fun ds r h => by first | (obtain ⟨_, h, _⟩ := h; rw [h]; rfl) | (obtain ⟨_, _, h, _⟩ := h; rw [h]; rfl) | (obtain ⟨_, _, _, h, _⟩ := h; rw [h]; rfl) | (obtain ⟨_, _, _, _, h, _⟩ := h; rw [h]; rfl) | (obtain ⟨_, _, _, _, _, h, _⟩ := h; rw [h]; rfl) | (obtain ⟨_, _, _, _, _, _, h, _⟩ := h; rw [h]; rfl) | (obtain ⟨_, _, _, _, _, _, _, h, _⟩ := h; rw [h]; rfl) | (obtain ⟨_, _, _, _, _, _, _, _, h, _⟩ := h; rw [h]; rfl)) (fun Y hP hw hK hm hb B Gs G' ds r h => by subst hP hw hK hm hb; apply b_law_due <;> assumption)
  have E__law_due := fnE_of K__law_due g__law_due D__law_due.kp (D__law_due.bindsN fun _ _ _ _ _ _ us hl => match us, hl with | [_, _, _], _ => rfl)
  have K__law_amount := fn_okF (P := P) (w := w) (mg := mg) (base := base) (S := S_lamount) D__law_amount bk__law_amount (fun ds r h => by first | (obtain ⟨_, h, _⟩ := h; rw [h]; rfl) | (obtain ⟨_, _, h, _⟩ := h; rw [h]; rfl) | (obtain ⟨_, _, _, h, _⟩ := h; rw [h]; rfl) | (obtain ⟨_, _, _, _, h, _⟩ := h; rw [h]; rfl) | (obtain ⟨_, _, _, _, _, h, _⟩ := h; rw [h]; rfl) | (obtain ⟨_, _, _, _, _, _, h, _⟩ := h; rw [h]; rfl) | (obtain ⟨_, _, _, _, _, _, _, h, _⟩ := h; rw [h]; rfl) | (obtain ⟨_, _, _, _, _, _, _, _, h, _⟩ := h; rw [h]; rfl)) (fun Y hP hw hK hm hb B Gs G' ds r h => by subst hP hw hK hm hb; apply b_law_amount <;> assumption)
  have E__law_amount := fnE_of K__law_amount g__law_amount D__law_amount.kp (D__law_amount.bindsN fun _ _ _ _ _ _ us hl => match us, hl with | [_], _ => rfl)
  have K__law_right := fn_okF (P := P) (w := w) (mg := mg) (base := base) (S := (S_lright (clK K))) D__law_right bk__law_right (fun ds r h => by first | (obtain ⟨_, h, _⟩ := h; rw [h]; rfl) | (obtain ⟨_, _, h, _⟩ := h; rw [h]; rfl) | (obtain ⟨_, _, _, h, _⟩ := h; rw [h]; rfl) | (obtain ⟨_, _, _, _, h, _⟩ := h; rw [h]; rfl) | (obtain ⟨_, _, _, _, _, h, _⟩ := h; rw [h]; rfl) | (obtain ⟨_, _, _, _, _, _, h, _⟩ := h; rw [h]; rfl) | (obtain ⟨_, _, _, _, _, _, _, h, _⟩ := h; rw [h]; rfl) | (obtain ⟨_, _, _, _, _, _, _, _, h, _⟩ := h; rw [h]; rfl)) (fun Y hP hw hK hm hb B Gs G' ds r h => by subst hP hw hK hm hb; apply b_law_right (cl := clK _) <;> assumption)
  have E__law_right := fnE_of K__law_right g__law_right D__law_right.kp (D__law_right.bindsN fun _ _ _ _ _ _ us hl => match us, hl with | [_, _, _, _], _ => rfl)
  have K__law_made := fn_okF (P := P) (w := w) (mg := mg) (base := base) (S := (S_lmade (clK K))) D__law_made bk__law_made (fun ds r h => by first | (obtain ⟨_, h, _⟩ := h; rw [h]; rfl) | (obtain ⟨_, _, h, _⟩ := h; rw [h]; rfl) | (obtain ⟨_, _, _, h, _⟩ := h; rw [h]; rfl) | (obtain ⟨_, _, _, _, h, _⟩ := h; rw [h]; rfl) | (obtain ⟨_, _, _, _, _, h, _⟩ := h; rw [h]; rfl) | (obtain ⟨_, _, _, _, _, _, h, _⟩ := h; rw [h]; rfl) | (obtain ⟨_, _, _, _, _, _, _, h, _⟩ := h; rw [h]; rfl) | (obtain ⟨_, _, _, _, _, _, _, _, h, _⟩ := h; rw [h]; rfl)) (fun Y hP hw hK hm hb B Gs G' ds r h => by subst hP hw hK hm hb; apply b_law_made (cl := clK _) <;> assumption)
  have E__law_made := fnE_of K__law_made g__law_made D__law_made.kp (D__law_made.bindsN fun _ _ _ _ _ _ us hl => match us, hl with | [_], _ => rfl)
  have K_law := fn_okF (P := P) (w := w) (mg := mg) (base := base) (S := S_law) D_law bk_law (fun ds r h => by first | (obtain ⟨_, h, _⟩ := h; rw [h]; rfl) | (obtain ⟨_, _, h, _⟩ := h; rw [h]; rfl) | (obtain ⟨_, _, _, h, _⟩ := h; rw [h]; rfl) | (obtain ⟨_, _, _, _, h, _⟩ := h; rw [h]; rfl) | (obtain ⟨_, _, _, _, _, h, _⟩ := h; rw [h]; rfl) | (obtain ⟨_, _, _, _, _, _, h, _⟩ := h; rw [h]; rfl) | (obtain ⟨_, _, _, _, _, _, _, h, _⟩ := h; rw [h]; rfl) | (obtain ⟨_, _, _, _, _, _, _, _, h, _⟩ := h; rw [h]; rfl)) (fun Y hP hw hK hm hb B Gs G' ds r h => by subst hP hw hK hm hb; apply b_law (cl := clK _) <;> assumption)
  exact K_law
end Mw
open PySem PySem.W PySem.Calls PyProof.Rows
set_option maxHeartbeats 0 in
theorem PySem.Challenge.cw_measurewise_k25_rounding_holds : PySem.Challenge.rw_measurewise_k25_rounding.Holds := by
  w_on; o_law
  refine HandSHeadRun.head_any (r := OpenLaw.row PySem.Challenge.rw_measurewise_k25_rounding) (q := view (OpenLaw.row PySem.Challenge.rw_measurewise_k25_rounding).prog [41]) (H := Mw.hk_) (ob := Mw.ob_) (M := 12000) (loose := Mw.names_) (d := HandSHeadRun.topDef (OpenLaw.row PySem.Challenge.rw_measurewise_k25_rounding).prog 41) (kwd := []) Mw.ob_eq
    (by kernel_rfl) (fun s => by kernel_rfl) Mw.run_ (by kernel_rfl) (by kernel_rfl) (by kernel_rfl) (by rfl) (by first | assumption | decide +kernel) (by decide +kernel) ⟨rfl, rfl, rfl, rfl, rfl, by decide +kernel⟩ ?hw ?hc
  case hw => w_witness2
  case hc =>
    refine Mw.walk_M (l := PySem.Challenge.rw_measurewise_k25_rounding) (n := 63) (k := 12) (x := "_law_script") (S := Mw.S_law) rfl (by decide) (by kernel_rfl) ⟨rfl, by decide, by decide⟩ ?F Mw.law_wish
    intro w mg fa h Y G hmg0
    obtain ⟨K, KX, c⟩ := Y
    have hmg : mg ("law" : PySem.Str) = some (.ref fa) := by
      have e : (HandSHeadRun.topDef (OpenLaw.row PySem.Challenge.rw_measurewise_k25_rounding).prog 41).name = ("law" : PySem.Str) := by kernel_rfl
      rw [← e]
      exact hmg0
    obtain ⟨fd, hb, hF⟩ := Mw.facts_ (P := (PySem.Challenge.rw_measurewise_k25_rounding).prog) (w := w) KX G hmg c
    exact ⟨K, fd, KX, hb, hF⟩
#print axioms PySem.Challenge.cw_measurewise_k25_rounding_holds
