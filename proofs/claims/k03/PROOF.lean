import PyProof.Rows.All
import Wide.All
import OpenK.AllK
import Wide.FinOn
import HandS.ForMost
import HandS.ForExc
import HandS.Wide
import HandS.WideBits
import HandS.ExcInit
import HandS.IsInst
import HandS.TryOnly
import HandS.ExcIs
import HandS.Comp
import HandS.FStr
import HandS.Style
import HandS.ExcSuper
import HandS.ExcField
import HandS.ExcBuiltin
import HandS.ClsMeth
import HandS.StrMore
import HandS.Dict
import HandS.HotCalls
import HandS.ExcInitHot
import HandS.Defaults
import PyProof.Rows.CountFlat
import PyProof.EqKinds
import HandS.Iter
import HandS.More
import HandS.ListItems
import HandS.SetFor
import HandS.SetTxt0
import PyProof.Rows.SortStr
import HandS.TupAny
import KE.KStateDown
import HandS.Head0
import HandS.Head1
import HandS.Head2
import HandS.HeadEnd
import HandS.EndBits
import HandS.HeadHook1
import HandS.HeadHook2
import PyProof.ReprRoads
import PyProof.ReprLen
import PySem.Challenge.RW_measurewise_k03_measures
set_option Elab.async false
set_option linter.all false
set_option maxRecDepth 100000
set_option maxHeartbeats 4000000
namespace Mw
open PySem PySem.Spec PyProof.Rows L2
/-! ### data: values without addresses -/
inductive D where
  | non | bl (b : Bool) | int (i : Int) | str (x : Str) | ty (n : String) | cls (a : Addr)
  | tup (xs : List D) | lst (xs : List D) | dct (kvs : List (Key × D)) | obj (C : Addr) (fs : List (Str × D)) | xc (a dd : Addr) (fs : List (Str × D)) | exv (C : Addr) (fs : List (Str × D))
mutual
/-- the value v is the datum d, in the heap H -/
def Is (K : PySem.W.Frag) (H : Hp) : D → V → Prop
  | .non, v => v = .non
  | .bl b, v => v = .bl b
  | .int i, v => v = .int i
  | .str x, v => v = .str x
  | .ty n, v => v = .ty n
  | .cls a, v => v = .ref a
  | .tup ds, v => ∃ a vs, v = .ref a ∧ SqT K H a vs ∧ IsL K H ds vs
  | .lst ds, v => ∃ a vs, v = .ref a ∧ SqL K H a vs ∧ IsL K H ds vs
  | .dct ks, v => ∃ a kvs, v = .ref a ∧ Rd H a (.dK kvs) ∧ IsK K H ks kvs
  | .obj C fs, v => ∃ a dx gs, v = .ref a ∧ H a = some (.ins C dx gs) ∧ IsF K H fs gs
  | .xc a dd fs, v => ∃ gs, v = .ref a ∧ H dd = some (.xd gs) ∧ IsF K H fs gs
  | .exv C fs, v => ∃ a dx gs, v = .ref a ∧ H a = some (exo a C (some dx)) ∧ H dx = some (exd dx gs) ∧ IsF K H fs gs
def IsL (K : PySem.W.Frag) (H : Hp) : List D → List V → Prop
  | [], vs => vs = []
  | d :: ds, vs => ∃ v r, vs = v :: r ∧ Is K H d v ∧ IsL K H ds r
def IsK (K : PySem.W.Frag) (H : Hp) : List (Key × D) → List (Key × V) → Prop
  | [], vs => vs = []
  | (k, d) :: ds, vs => ∃ v r, vs = (k, v) :: r ∧ Is K H d v ∧ IsK K H ds r
def IsF (K : PySem.W.Frag) (H : Hp) : List (Str × D) → List (Str × V) → Prop
  | [], vs => vs = []
  | (k, d) :: ds, vs => ∃ v r, vs = (k, v) :: r ∧ Is K H d v ∧ IsF K H ds r
end
theorem Same.rd {H H' : Hp} {a : Addr} {u : HO} (e : Same H H') (h : Rd H a u) : Rd H' a u := by
  rcases h with h | ⟨o, h⟩
  · exact Or.inl (e a _ h)
  · exact Or.inr ⟨o, e a _ h⟩
theorem Same.tup {K : PySem.W.Frag} {H H' : Hp} {a : Addr} {xs : List V} (e : Same H H') (h : SqT K H a xs) : SqT K H' a xs := by
  rcases h with h | h
  · exact Or.inl (Same.rd e h)
  · exact Or.inr h
theorem Same.lst {K : PySem.W.Frag} {H H' : Hp} {a : Addr} {xs : List V} (e : Same H H') (h : SqL K H a xs) : SqL K H' a xs := by
  rcases h with h | h
  · exact Or.inl (Same.rd e h)
  · exact Or.inr h
section
variable {K : PySem.W.Frag} {H H' : Hp}
mutual
theorem Is.mono (e : Same H H') : ∀ {d : D} {v : V}, Is K H d v → Is K H' d v
  | .non, _, h => h
  | .bl _, _, h => h
  | .int _, _, h => h
  | .str _, _, h => h
  | .ty _, _, h => h
  | .cls _, _, h => h
  | .tup ds, _, h => by
    obtain ⟨a, vs, h1, h2, h3⟩ := h
    exact ⟨a, vs, h1, Same.tup e h2, IsL.mono e h3⟩
  | .lst ds, _, h => by
    obtain ⟨a, vs, h1, h2, h3⟩ := h
    exact ⟨a, vs, h1, Same.lst e h2, IsL.mono e h3⟩
  | .dct ds, _, h => by
    obtain ⟨a, vs, h1, h2, h3⟩ := h
    exact ⟨a, vs, h1, Same.rd e h2, IsK.mono e h3⟩
  | .obj C fs, _, h => by
    obtain ⟨a, dx, vs, h1, h2, h3⟩ := h
    exact ⟨a, dx, vs, h1, e _ _ h2, IsF.mono e h3⟩
  | .xc a dd fs, _, h => by
    obtain ⟨vs, h1, h2, h3⟩ := h
    exact ⟨vs, h1, e _ _ h2, IsF.mono e h3⟩
  | .exv C fs, _, h => by
    obtain ⟨a, dx, vs, h1, h2, h3, h4⟩ := h
    exact ⟨a, dx, vs, h1, e _ _ h2, e _ _ h3, IsF.mono e h4⟩
theorem IsL.mono (e : Same H H') : ∀ {ds : List D} {vs : List V}, IsL K H ds vs → IsL K H' ds vs
  | [], _, h => h
  | d :: ds, _, h => by
    obtain ⟨v, r, h1, h2, h3⟩ := h
    exact ⟨v, r, h1, Is.mono e h2, IsL.mono e h3⟩
theorem IsK.mono (e : Same H H') : ∀ {ds : List (Key × D)} {vs : List (Key × V)}, IsK K H ds vs → IsK K H' ds vs
  | [], _, h => h
  | (k, d) :: ds, _, h => by
    obtain ⟨v, r, h1, h2, h3⟩ := h
    exact ⟨v, r, h1, Is.mono e h2, IsK.mono e h3⟩
theorem IsF.mono (e : Same H H') : ∀ {ds : List (Str × D)} {vs : List (Str × V)}, IsF K H ds vs → IsF K H' ds vs
  | [], _, h => h
  | (k, d) :: ds, _, h => by
    obtain ⟨v, r, h1, h2, h3⟩ := h
    exact ⟨v, r, h1, Is.mono e h2, IsF.mono e h3⟩
end
theorem IsL.len : ∀ {ds : List D} {vs : List V}, IsL K H ds vs → vs.length = ds.length
  | [], _, h => by rw [show _ = [] from h]; rfl
  | d :: ds, _, h => by
    obtain ⟨v, r, h1, h2, h3⟩ := h
    rw [h1, List.length_cons, List.length_cons, IsL.len h3]
theorem IsL.get : ∀ {ds : List D} {vs : List V} {i : Nat} {d : D}, IsL K H ds vs → ds[i]? = some d → ∃ v, vs[i]? = some v ∧ Is K H d v
  | [], _, _, _, _, e => by simp at e
  | d :: ds, _, 0, d', h, e => by
    obtain ⟨v, r, h1, h2, h3⟩ := h
    rw [List.getElem?_cons_zero] at e
    cases e
    exact ⟨v, by rw [h1]; rfl, h2⟩
  | d :: ds, _, i + 1, d', h, e => by
    obtain ⟨v, r, h1, h2, h3⟩ := h
    rw [List.getElem?_cons_succ] at e
    obtain ⟨u, q1, q2⟩ := IsL.get h3 e
    exact ⟨u, by rw [h1, List.getElem?_cons_succ]; exact q1, q2⟩
theorem IsL.app : ∀ {ds es : List D} {vs ws : List V}, IsL K H ds vs → IsL K H es ws → IsL K H (ds ++ es) (vs ++ ws)
  | [], es, vs, ws, h, g => by rw [show vs = [] from h]; exact g
  | d :: ds, es, vs, ws, h, g => by
    obtain ⟨v, r, h1, h2, h3⟩ := h
    exact ⟨v, r ++ ws, by rw [h1]; rfl, h2, IsL.app h3 g⟩
theorem IsL.one {d : D} {v : V} (h : Is K H d v) : IsL K H [d] [v] := ⟨v, [], rfl, h, rfl⟩
theorem IsL.cons {d : D} {v : V} {ds : List D} {vs : List V} (h : Is K H d v) (g : IsL K H ds vs) : IsL K H (d :: ds) (v :: vs) := ⟨v, vs, rfl, h, g⟩
theorem IsL.set : ∀ {ds : List D} {vs : List V} {d : D} {v : V} (i : Nat), IsL K H ds vs → Is K H d v → IsL K H (ds.set i d) (vs.set i v)
  | [], _, _, _, _, h, _ => by rw [show _ = [] from h]; exact rfl
  | d :: ds, _, _, _, 0, h, q => by
    obtain ⟨v, r, h1, h2, h3⟩ := h
    rw [h1]
    exact ⟨_, r, rfl, q, h3⟩
  | d :: ds, _, _, _, i + 1, h, q => by
    obtain ⟨v, r, h1, h2, h3⟩ := h
    rw [h1]
    exact ⟨v, r.set i _, rfl, h2, IsL.set i h3 q⟩
theorem IsL.map_int : ∀ {ns : List Int}, IsL K H (ns.map D.int) (ns.map V.int)
  | [] => rfl
  | n :: ns => ⟨_, _, rfl, rfl, IsL.map_int⟩
theorem IsL.take : ∀ {ds : List D} {vs : List V} (n : Nat), IsL K H ds vs → IsL K H (ds.take n) (vs.take n)
  | [], _, n, h => by rw [show _ = [] from h, List.take_nil, List.take_nil]; exact rfl
  | d :: ds, _, 0, h => by rw [List.take_zero, List.take_zero]; exact rfl
  | d :: ds, _, n + 1, h => by
    obtain ⟨v, r, h1, h2, h3⟩ := h
    rw [h1]
    exact ⟨v, r.take n, rfl, h2, IsL.take n h3⟩
theorem IsL.drop : ∀ {ds : List D} {vs : List V} (n : Nat), IsL K H ds vs → IsL K H (ds.drop n) (vs.drop n)
  | [], _, n, h => by rw [show _ = [] from h, List.drop_nil, List.drop_nil]; exact rfl
  | d :: ds, _, 0, h => h
  | d :: ds, _, n + 1, h => by
    obtain ⟨v, r, h1, h2, h3⟩ := h
    rw [h1]
    exact IsL.drop n h3
end
/-! ### growth of a heap H with a frozen part H0 -/
structure Grow (H0 H H0' H' : Hp) : Prop where
  frz : Same H0 H0'
  all : Same H H'
  sub : Same H0' H'
  new : ∀ a, H0' a ≠ none → H0 a ≠ none ∨ H a = none
theorem Grow.refl {H0 H : Hp} (h : Same H0 H) : Grow H0 H H0 H := ⟨Same.refl _, Same.refl _, h, fun _ x => .inl x⟩
theorem Grow.trans {H0 H H0' H' H0'' H'' : Hp} (g : Grow H0 H H0' H') (g' : Grow H0' H' H0'' H'') : Grow H0 H H0'' H'' :=
  ⟨g.frz.trans g'.frz, g.all.trans g'.all, g'.sub, fun a x => by
    rcases g'.new a x with q | q
    · exact g.new a q
    · exact .inr (g.all.free q)⟩
theorem Same.new {H : Hp} {p : Addr} {o : HO} (h : H p = none) : Same H (upd H p o) := fun a u e => by
  rw [upd_ne (ne_of_none e h)]
  exact e
/-- a new object, frozen at once -/
theorem Grow.laid {H0 H : Hp} {p : Addr} {o : HO} (h : Same H0 H) (hp : H p = none) : Grow H0 H (upd H0 p o) (upd H p o) := by
  have h0 : H0 p = none := h.free hp
  refine ⟨Same.new h0, Same.new hp, fun a u e => ?_, fun a x => ?_⟩
  · by_cases z : a = p
    · rw [z, upd_same] at e ⊢; exact e
    · rw [upd_ne z] at e ⊢; exact h a u e
  · by_cases z : a = p
    · rw [z]; exact .inr hp
    · rw [upd_ne z] at x; exact .inl x
/-- a new object, not frozen -/
theorem Grow.made {H0 H : Hp} {p : Addr} {o : HO} (h : Same H0 H) (hp : H p = none) : Grow H0 H H0 (upd H p o) :=
  ⟨Same.refl _, Same.new hp, h.trans (Same.new hp), fun _ x => .inl x⟩
theorem Grow.start {H0 H H0' H' : Hp} (g : Grow H0 H H0' H') (h : Same H0 H) : Same H0 H' := h.trans g.all
/-! ### the largest readings -/
def re (X : Cx) (e : Expr) : TE := fun σ H Q => ∀ (pins : List (Addr × Obj)) (s : Shared), Inv X pins σ H s → wpAny (model X.prog X.w) X.A (eval e X.env) (EP X pins σ Q) X.xe s
def rt (X : Cx) (e : Expr) : TT := fun σ H Q => ∀ (pins : List (Addr × Obj)) (s : Shared), Inv X pins σ H s → wpAny (model X.prog X.w) X.A (isTrue e X.env (eval e X.env)) (TP X pins σ Q) X.xe s
def ra (X : Cx) (es : List Expr) : TA := fun σ H Q => ∀ (pos : Pos) (pins : List (Addr × Obj)) (s : Shared), Inv X pins σ H s → wpAny (model X.prog X.w) X.A (spliced (backTo pos (starEach es X.env))) (AP X pins σ Q) X.xe s
def rs (X : Cx) (st : Stmt) : TS := fun D σ H => ∀ (pins : List (Addr × Obj)) (s : Shared), Inv X pins σ H s → wpAny (model X.prog X.w) X.A (exec st X.env) (SP X pins D) X.xe s
def rss (X : Cx) (sts : List Stmt) : TS := fun D σ H => ∀ (pins : List (Addr × Obj)) (s : Shared), Inv X pins σ H s → wpAny (model X.prog X.w) X.A (execs sts X.env) (SP X pins D) X.xe s
section
variable {X : Cx} {e : Expr} {es : List Expr} {st : Stmt} {sts : List Stmt} {σ : L2.St} {H : Hp}
theorem re_pe : PE X e (re X e) := ⟨fun pins s σ H Q I h => h pins s I⟩
theorem rt_pt : PT X e (rt X e) := ⟨fun pins s σ H Q I h => h pins s I⟩
theorem ra_pa : PA X es (ra X es) := ⟨fun pos pins s σ H Q I h => h pos pins s I⟩
theorem rs_ps : PS X st (rs X st) := ⟨fun pins s σ H D I h => h pins s I⟩
theorem rss_pss : PSs X sts (rss X sts) := ⟨fun pins s σ H D I h => h pins s I⟩
theorem re_of {t : TE} {Q : VK} (h : PE X e t) (q : t σ H Q) : re X e σ H Q := fun pins s I => h.run pins s σ H Q I q
theorem rt_of {t : TT} {Q : Bool → Hp → Prop} (h : PT X e t) (q : t σ H Q) : rt X e σ H Q := fun pins s I => h.run pins s σ H Q I q
theorem ra_of {t : TA} {Q : List V → Hp → Prop} (h : PA X es t) (q : t σ H Q) : ra X es σ H Q := fun pos pins s I => h.run pos pins s σ H Q I q
theorem rs_of {t : TS} {D : Ends} (h : PS X st t) (q : t D σ H) : rs X st D σ H := fun pins s I => h.run pins s σ H D I q
theorem rss_of {t : TS} {D : Ends} (h : PSs X sts t) (q : t D σ H) : rss X sts D σ H := fun pins s I => h.run pins s σ H D I q
end
/-- the largest wish that X takes -/
def wx (X : Cx) : WX := fun cls d σ H => ∃ W : WX, Takes X W ∧ W cls d σ H
theorem wx_takes {X : Cx} : Takes X (wx X) := fun u s' ⟨a, B, sI, pins, σ, H, cls, d, e, I, nb, up, sky, na, os, ag, W, t, w⟩ =>
  t u s' ⟨a, B, sI, pins, σ, H, cls, d, e, I, nb, up, sky, na, os, ag, w⟩
theorem wx_of {X : Cx} {W : WX} {cls : Value} {d : Option Addr} {σ : L2.St} {H : Hp} (t : Takes X W) (w : W cls d σ H) : wx X cls d σ H := ⟨W, t, w⟩
/-! ### exceptions as data -/
structure Exn where
  cls : Addr
  fs : List (Str × D) := []
def IsX (K : PySem.W.Frag) (H0 H : Hp) (c : Value) (d : Option Addr) (x : Exn) : Prop :=
  c = .ref x.cls ∧ ((x.fs = [] ∧ d = none) ∨ x.fs ≠ [] ∧ ∃ dd gs, d = some dd ∧ H0 dd = some (.xd gs) ∧ IsF K H0 x.fs gs)
/-! ### expressions over data -/
abbrev DE := List (Option D)
def SlF (K : PySem.W.Frag) (H0 : Hp) (σ : L2.St) (as : DE) : Prop := ∀ (i : Nat) (d : D), as[i]? = some (some d) → ∃ v, σ[i]? = some (some v) ∧ Is K H0 d v
theorem SlF.mono {K : PySem.W.Frag} {H0 H1 : Hp} {σ : L2.St} {as : DE} (h : SlF K H0 σ as) (e : Same H0 H1) : SlF K H1 σ as := fun i d q =>
  let ⟨v, a, b⟩ := h i d q
  ⟨v, a, b.mono e⟩
/-- e is worth d -/
structure EE (X : Cx) (e : Expr) (as : DE) (d : D) : Prop where
  run : ∀ (σ : L2.St) (H0 H : Hp), Same H0 H → SlF X.K H0 σ as → ∀ Q : VK, (∀ v H0' H', Grow H0 H H0' H' → Is X.K H0' d v → Q v H') → re X e σ H Q
/-- es are worth ds -/
structure EA (X : Cx) (es : List Expr) (as : DE) (ds : List D) : Prop where
  run : ∀ (σ : L2.St) (H0 H : Hp), Same H0 H → SlF X.K H0 σ as → ∀ Q : List V → Hp → Prop, (∀ vs H0' H', Grow H0 H H0' H' → IsL X.K H0' ds vs → Q vs H') → ra X es σ H Q
/-- the test e comes out as b -/
structure ET (X : Cx) (e : Expr) (as : DE) (b : Bool) : Prop where
  run : ∀ (σ : L2.St) (H0 H : Hp), Same H0 H → SlF X.K H0 σ as → ∀ Q : Bool → Hp → Prop, (∀ H0' H', Grow H0 H H0' H' → Q b H') → rt X e σ H Q
/-- e raises x -/
structure EX (X : Cx) (e : Expr) (as : DE) (x : Exn) : Prop where
  run : ∀ (σ : L2.St) (H0 H : Hp), Same H0 H → SlF X.K H0 σ as → ∀ Q : VK, (∀ c dd H0' H', Grow H0 H H0' H' → IsX X.K H0' H' c dd x → wx X c dd σ H') → re X e σ H Q
/-- what is at a new address, its parts frozen -/
def Own (K : PySem.W.Frag) (H0 H : Hp) (a : Addr) : D → Prop
  | .lst ds => ∃ vs, H a = some (.lst vs) ∧ IsL K H0 ds vs
  | .dct ks => ∃ kvs, H a = some (.dK kvs) ∧ IsK K H0 ks kvs
  | .obj C fs => ∃ dx gs, H a = some (.ins C dx gs) ∧ IsF K H0 fs gs
  | _ => False
/-- e makes a new d -/
structure EN (X : Cx) (e : Expr) (as : DE) (d : D) : Prop where
  run : ∀ (σ : L2.St) (H0 H : Hp), Same H0 H → SlF X.K H0 σ as → ∀ Q : VK, (∀ a H0' H', Grow H0 H H0' H' → H a = none → H0' a = none → Own X.K H0' H' a d → Q (.ref a) H') → re X e σ H Q
theorem Own.is {K : PySem.W.Frag} {H0 H : Hp} {a : Addr} : ∀ {d : D}, Own K H0 H a d → Same H0 H → Is K H d (.ref a)
  | .lst ds, ⟨vs, h1, h2⟩, e => ⟨a, vs, rfl, SqL.of h1, h2.mono e⟩
  | .dct ks, ⟨vs, h1, h2⟩, e => ⟨a, vs, rfl, .inl h1, h2.mono e⟩
  | .obj C fs, ⟨dx, gs, h1, h2⟩, e => ⟨a, dx, gs, rfl, h1, h2.mono e⟩
  | .non, h, _ => h.elim
  | .bl _, h, _ => h.elim
  | .int _, h, _ => h.elim
  | .str _, h, _ => h.elim
  | .ty _, h, _ => h.elim
  | .cls _, h, _ => h.elim
  | .tup _, h, _ => h.elim
  | .xc _ _ _, h, _ => h.elim
  | .exv _ _, h, _ => h.elim
theorem Own.frz {K : PySem.W.Frag} {H0 H H0' : Hp} {a : Addr} (e : Same H0 H0') (h2 : H0' a = H a) : ∀ {d : D}, Own K H0 H a d → Is K H0' d (.ref a)
  | .lst ds, ⟨vs, h1, h⟩ => ⟨a, vs, rfl, SqL.of (h2.trans h1), h.mono e⟩
  | .dct ks, ⟨vs, h1, h⟩ => ⟨a, vs, rfl, .inl (h2.trans h1), h.mono e⟩
  | .obj C fs, ⟨dx, gs, h1, h⟩ => ⟨a, dx, gs, rfl, h2.trans h1, h.mono e⟩
  | .non, h => h.elim
  | .bl _, h => h.elim
  | .int _, h => h.elim
  | .str _, h => h.elim
  | .ty _, h => h.elim
  | .cls _, h => h.elim
  | .tup _, h => h.elim
  | .xc _ _ _, h => h.elim
  | .exv _ _, h => h.elim
theorem Own.keep {K : PySem.W.Frag} {H0 H H0' H' : Hp} {a : Addr} (e : Same H0 H0') (h2 : ∀ o, H a = some o → H' a = some o) : ∀ {d : D}, Own K H0 H a d → Own K H0' H' a d
  | .lst ds, ⟨vs, h1, h⟩ => ⟨vs, h2 _ h1, h.mono e⟩
  | .dct ks, ⟨vs, h1, h⟩ => ⟨vs, h2 _ h1, h.mono e⟩
  | .obj C fs, ⟨dx, gs, h1, h⟩ => ⟨dx, gs, h2 _ h1, h.mono e⟩
  | .non, h => h.elim
  | .bl _, h => h.elim
  | .int _, h => h.elim
  | .str _, h => h.elim
  | .ty _, h => h.elim
  | .cls _, h => h.elim
  | .tup _, h => h.elim
  | .xc _ _ _, h => h.elim
  | .exv _ _, h => h.elim
theorem Own.some {K : PySem.W.Frag} {H0 H : Hp} {a : Addr} : ∀ {d : D}, Own K H0 H a d → ∃ o, H a = some o
  | .lst ds, ⟨vs, h1, h⟩ => ⟨_, h1⟩
  | .dct ks, ⟨vs, h1, h⟩ => ⟨_, h1⟩
  | .obj C fs, ⟨dx, gs, h1, h⟩ => ⟨_, h1⟩
  | .non, h => h.elim
  | .bl _, h => h.elim
  | .int _, h => h.elim
  | .str _, h => h.elim
  | .ty _, h => h.elim
  | .cls _, h => h.elim
  | .tup _, h => h.elim
  | .xc _ _ _, h => h.elim
  | .exv _ _, h => h.elim
/-- freeze what is new -/
theorem Grow.freeze {H0 H H0' H' : Hp} {a : Addr} {o : HO} (g : Grow H0 H H0' H') (ha : H a = none) (h0 : H0' a = none) (ho : H' a = some o) : Grow H0 H (upd H0' a o) H' := by
  refine ⟨g.frz.trans (Same.new h0), g.all, fun b u e => ?_, fun b x => ?_⟩
  · by_cases z : b = a
    · rw [z, upd_same] at e; rw [z, ho]; exact e
    · rw [upd_ne z] at e; exact g.sub b u e
  · by_cases z : b = a
    · rw [z]; exact .inr ha
    · rw [upd_ne z] at x; exact g.new b x
theorem EN.ee {X : Cx} {e : Expr} {as : DE} {d : D} (h : EN X e as d) : EE X e as d := .mk fun σ H0 H hs hf Q q =>
  h.run σ H0 H hs hf Q fun a H0' H' g ha h0 ho => by
    obtain ⟨o, e⟩ := ho.some
    exact q (.ref a) (upd H0' a o) H' (g.freeze ha h0 e) (ho.frz (Same.new h0) (by rw [upd_same, e]))
end Mw
set_option maxHeartbeats 4000000
namespace Mw
open PySem PySem.Spec PyProof.Rows L2
/-! ### expressions -/
section
variable {X : Cx} {as : DE} {d x y : D} {a b e : Expr} {es : List Expr} {ds : List D} {pos : Pos}
theorem EE.mk_c {v : V} {d : D} {e : Expr} (h : PE X e (tC v)) (hv : ∀ H, Is X.K H d v) : EE X e as d := .mk fun σ H0 H hs hf Q q =>
  re_of h (q v H0 H (Grow.refl hs) (hv H0))
theorem ee_name (i : Nat) {n : Str} (hi : X.N[i]? = some n) (hv : Vis X.env.scope n) (ha : as[i]? = some (some d)) (hd : (n == ("__debug__" : Str)) = false := by decide) (hcd : (n == ("__classdict__" : Str)) = false := by decide) : EE X (.Name n pos) as d := .mk fun σ H0 H hs hf Q q =>
  let ⟨v, e, h⟩ := hf i d ha
  re_of (pe_var hi hv hd hcd) ⟨v, e, q v H0 H (Grow.refl hs) h⟩
theorem ee_int {i : Int} {j : Nat} : EE X (.Constant (.int i) j pos) as (.int i) := .mk_c pe_int fun _ => rfl
theorem ee_bl {k : Bool} {j : Nat} : EE X (.Constant (.bool k) j pos) as (.bl k) := .mk_c pe_bl fun _ => rfl
theorem ee_non {j : Nat} : EE X (.Constant .none j pos) as .non := .mk_c pe_non fun _ => rfl
theorem ee_str {z : Str} {j : Nat} : EE X (.Constant (.str z) j pos) as (.str z) := .mk_c pe_str fun _ => rfl
theorem ee_glob {n : Str} {u : Value} (hg : Gl X n) (hm : X.mg n = some u) {v : V} (r : RelV v u) (hv : ∀ H, Is X.K H d v) (hd : (n == ("__debug__" : Str)) = false := by decide) : EE X (.Name n pos) as d := .mk_c (pe_glob hg hm r hd) hv
theorem ee_bltn {n : Str} {u : Value} (hg : Gl X n) (hm : X.mg n = none) (hb : bootBuiltins n = some u) {v : V} (r : RelV v u) (hv : ∀ H, Is X.K H d v) (hn : n ≠ "__name__" := by decide) (hd : (n == ("__debug__" : Str)) = false := by decide) : EE X (.Name n pos) as d := .mk_c (pe_bltn hg hm hb r hn hd) hv
/-- a two-place operation on data -/
def OpD (X : Cx) (f : Value → Value → Sem Value) (x y d : D) : Prop :=
  ∃ r : R2, OpR X f r ∧ ∀ v w H0 H, Same H0 H → Is X.K H0 x v → Is X.K H0 y w → ∀ Q : VK, (∀ z H0' H', Grow H0 H H0' H' → Is X.K H0' d z → Q z H') → r v w H Q
/-- an operation that gives a bool or a number, whatever -/
theorem OpD.flat {f : Value → Value → Sem Value} {r : R2} {z : V} (ho : OpR X f r) (hz : ∀ H, Is X.K H d z)
    (hr : ∀ v w H, Is X.K H x v → Is X.K H y w → ∀ Q : VK, Q z H → r v w H Q) : OpD X f x y d :=
  ⟨r, ho, fun v w H0 H hs hx hy Q q => hr v w H (hx.mono hs) (hy.mono hs) Q (q z H0 H (Grow.refl hs) (hz H0))⟩
theorem ee_bin {op : Operator} (ha : EE X a as x) (hb : EE X b as y) (ho : OpD X (binaryOp op) x y d) : EE X (.BinOp a op b pos) as d := .mk fun σ H0 H hs hf Q q => by
  obtain ⟨r, ho, hr⟩ := ho
  refine re_of (pe_op ho re_pe re_pe) ?_
  exact ha.run σ H0 H hs hf _ fun v H1 H' g i1 => hb.run σ H1 H' g.sub (hf.mono g.frz) _ fun w H2 H'' g' i2 => hr v w H2 H'' g'.sub (i1.mono g'.frz) i2 Q fun z _ _ g'' i => q z _ _ ((g.trans g').trans g'') i
theorem ee_cmp {op : CmpOp} (ha : EE X a as x) (hb : EE X b as y) (ho : OpD X (compareOp op) x y d) (hm : behindInMarks op b = false) : EE X (.Compare a [op] [b] pos) as d := .mk fun σ H0 H hs hf Q q => by
  obtain ⟨r, ho, hr⟩ := ho
  refine re_of (pe_cmpR ho re_pe re_pe hm) ?_
  exact ha.run σ H0 H hs hf _ fun v H1 H' g i1 => hb.run σ H1 H' g.sub (hf.mono g.frz) _ fun w H2 H'' g' i2 => hr v w H2 H'' g'.sub (i1.mono g'.frz) i2 Q fun z _ _ g'' i => q z _ _ ((g.trans g').trans g'') i
theorem et_cmp {op : CmpOp} {k : Bool} (ha : EE X a as x) (hb : EE X b as y) (ho : OpD X (compareOp op) x y (.bl k)) (hm : behindInMarks op b = false) : ET X (.Compare a [op] [b] pos) as k := .mk fun σ H0 H hs hf Q q => by
  obtain ⟨r, ho, hr⟩ := ho
  refine rt_of (pt_cmpR ho re_pe re_pe hm) ?_
  exact ha.run σ H0 H hs hf _ fun v H1 H' g i1 => hb.run σ H1 H' g.sub (hf.mono g.frz) _ fun w H2 H'' g' i2 => hr v w H2 H'' g'.sub (i1.mono g'.frz) i2 _ fun z _ _ g'' i => ⟨k, i, q _ _ ((g.trans g').trans g'')⟩
/-- an expression that gives a bool, as a test -/
theorem et_val {k : Bool} (h : EE X e as (.bl k)) (he : ∀ whole, isTrue e X.env whole = (do let v ← whole; standAt e.pos; holding [v] (truthy v)) := by intro _; rfl) : ET X e as k := .mk fun σ H0 H hs hf Q q =>
  rt_of (pt_val re_pe he) (h.run σ H0 H hs hf _ fun v H1 H' g i => ⟨k, i, q _ _ g⟩)
theorem et_not {k : Bool} (h : ET X a as k) : ET X (.UnaryOp .Not a pos) as (!k) := .mk fun σ H0 H hs hf Q q =>
  rt_of (pt_not rt_pt) (h.run σ H0 H hs hf _ fun H1 H' g => q _ _ g)
/-- and, or as tests: whatever whole is -/
structure EW (X : Cx) (e : Expr) (as : DE) (b : Bool) : Prop where
  run : ∀ (σ : L2.St) (H0 H : Hp), Same H0 H → SlF X.K H0 σ as → ∀ Q : Bool → Hp → Prop, (∀ H0' H', Grow H0 H H0' H' → Q b H') → ∀ (whole : Sem Value) (pins : List (Addr × Obj)) (s : Shared), Inv X pins σ H s → wpAny (model X.prog X.w) X.A (isTrue e X.env whole) (TP X pins σ Q) X.xe s
theorem EW.et {k : Bool} (h : EW X e as k) : ET X e as k := .mk fun σ H0 H hs hf Q q pins s I => h.run σ H0 H hs hf Q q _ pins s I
def rw_ (X : Cx) (e : Expr) : TT := fun σ H Q => ∀ (whole : Sem Value) (pins : List (Addr × Obj)) (s : Shared), Inv X pins σ H s → wpAny (model X.prog X.w) X.A (isTrue e X.env whole) (TP X pins σ Q) X.xe s
theorem rw_pw : PW X e (rw_ X e) := ⟨fun wh pins s σ H Q I h => h wh pins s I⟩
theorem rw_of {t : TT} {σ : L2.St} {H : Hp} {Q : Bool → Hp → Prop} (h : PW X e t) (q : t σ H Q) : rw_ X e σ H Q := fun wh pins s I => h.run wh pins s σ H Q I q
theorem ew_and1 {k : Bool} (h : ET X a as k) : EW X (.BoolOp .And [a] pos) as k := .mk fun σ H0 H hs hf Q q =>
  rw_of (pw_and1 rt_pt) (h.run σ H0 H hs hf _ q)
theorem ew_or1 {k : Bool} (h : ET X a as k) : EW X (.BoolOp .Or [a] pos) as k := .mk fun σ H0 H hs hf Q q =>
  rw_of (pw_or1 rt_pt) (h.run σ H0 H hs hf _ q)
theorem ew_and {k l : Bool} (h : ET X a as k) (h2 : k = true → EW X (.BoolOp .And (b :: es) pos) as l) : EW X (.BoolOp .And (a :: b :: es) pos) as (k && l) := .mk fun σ H0 H hs hf Q q =>
  rw_of (pw_and rt_pt rw_pw) (h.run σ H0 H hs hf _ fun H1 H' g => by
    cases k with
    | true =>
      rw [if_pos rfl]
      exact (h2 rfl).run σ H1 H' g.sub (hf.mono g.frz) _ fun _ _ g' => q _ _ (g.trans g')
    | false =>
      rw [if_neg Bool.false_ne_true]
      exact q _ _ g)
theorem ew_or {k l : Bool} (h : ET X a as k) (h2 : k = false → EW X (.BoolOp .Or (b :: es) pos) as l) : EW X (.BoolOp .Or (a :: b :: es) pos) as (k || l) := .mk fun σ H0 H hs hf Q q =>
  rw_of (pw_or rt_pt rw_pw) (h.run σ H0 H hs hf _ fun H1 H' g => by
    cases k with
    | true =>
      rw [if_pos rfl]
      exact q _ _ g
    | false =>
      rw [if_neg Bool.false_ne_true]
      exact (h2 rfl).run σ H1 H' g.sub (hf.mono g.frz) _ fun _ _ g' => q _ _ (g.trans g'))
/-- as values, of bools -/
theorem ee_one {op : BoolOp} (h : EE X a as d) : EE X (.BoolOp op [a] pos) as d := .mk fun σ H0 H hs hf Q q => re_of (pe_one re_pe) (h.run σ H0 H hs hf Q q)
theorem ee_and {k l : Bool} (h : EE X a as (.bl k)) (h2 : k = true → EE X (.BoolOp .And (b :: es) pos) as (.bl l)) : EE X (.BoolOp .And (a :: b :: es) pos) as (.bl (k && l)) := .mk fun σ H0 H hs hf Q q =>
  re_of (pe_and re_pe re_pe) (h.run σ H0 H hs hf _ fun v H1 H' g i => by
    refine ⟨k, i, ?_⟩
    cases k with
    | true =>
      rw [if_pos rfl]
      exact (h2 rfl).run σ H1 H' g.sub (hf.mono g.frz) _ fun _ _ _ g' i' => q _ _ _ (g.trans g') i'
    | false =>
      rw [if_neg Bool.false_ne_true]
      exact q _ _ _ g rfl)
theorem ee_or {k l : Bool} (h : EE X a as (.bl k)) (h2 : k = false → EE X (.BoolOp .Or (b :: es) pos) as (.bl l)) : EE X (.BoolOp .Or (a :: b :: es) pos) as (.bl (k || l)) := .mk fun σ H0 H hs hf Q q =>
  re_of (pe_or re_pe re_pe) (h.run σ H0 H hs hf _ fun v H1 H' g i => by
    refine ⟨k, i, ?_⟩
    cases k with
    | true =>
      rw [if_pos rfl]
      exact q _ _ _ g rfl
    | false =>
      rw [if_neg Bool.false_ne_true]
      exact (h2 rfl).run σ H1 H' g.sub (hf.mono g.frz) _ fun _ _ _ g' i' => q _ _ _ (g.trans g') i')
theorem ee_not {k : Bool} (h : EE X a as (.bl k)) : EE X (.UnaryOp .Not a pos) as (.bl (!k)) := .mk fun σ H0 H hs hf Q q =>
  re_of (pe_not re_pe) (h.run σ H0 H hs hf _ fun v H1 H' g i => ⟨k, i, q _ _ _ g rfl⟩)
/-- a if c else b -/
theorem ee_if {c : Expr} {k : Bool} {d1 d2 : D} (h : ET X c as k) (h1 : k = true → EE X a as d1) (h2 : k = false → EE X b as d2) : EE X (.IfExp c a b pos) as (if k = true then d1 else d2) := .mk fun σ H0 H hs hf Q q =>
  re_of (pe_ifExp rt_pt re_pe re_pe) (h.run σ H0 H hs hf _ fun H1 H' g => by
    cases k with
    | true =>
      rw [if_pos rfl]
      exact (h1 rfl).run σ H1 H' g.sub (hf.mono g.frz) _ fun _ _ _ g' i' => q _ _ _ (g.trans g') (by rw [if_pos rfl]; exact i')
    | false =>
      rw [if_neg Bool.false_ne_true]
      exact (h2 rfl).run σ H1 H' g.sub (hf.mono g.frz) _ fun _ _ _ g' i' => q _ _ _ (g.trans g') (by rw [if_neg Bool.false_ne_true]; exact i'))
theorem ee_ifT {c : Expr} {d1 : D} (h : ET X c as true) (h1 : EE X a as d1) : EE X (.IfExp c a b pos) as d1 := by
  have q := ee_if (X := X) (as := as) (c := c) (a := a) (b := b) (d1 := d1) (d2 := d1) (pos := pos) h (fun _ => h1) (fun z => nomatch z)
  rw [if_pos rfl] at q
  exact q
theorem ee_ifF {c : Expr} {d1 : D} (h : ET X c as false) (h1 : EE X b as d1) : EE X (.IfExp c a b pos) as d1 := by
  have q := ee_if (X := X) (as := as) (c := c) (a := a) (b := b) (d1 := d1) (d2 := d1) (pos := pos) h (fun z => nomatch z) (fun _ => h1)
  rw [if_neg Bool.false_ne_true] at q
  exact q
/-! ### arguments, displays -/
theorem ea_nil : EA X [] as [] := .mk fun σ H0 H hs hf Q q => ra_of pa_nil (q [] H0 H (Grow.refl hs) rfl)
theorem ea_cons (h : EE X e as d) (hr : EA X es as ds) (hs : starEach (e :: es) X.env = (false, eval e X.env) :: starEach es X.env := by rfl) : EA X (e :: es) as (d :: ds) := .mk fun σ H0 H hs' hf Q q =>
  ra_of (pa_cons re_pe ra_pa hs) (h.run σ H0 H hs' hf _ fun v H1 H' g i => hr.run σ H1 H' g.sub (hf.mono g.frz) _ fun vs _ _ g' i' => q _ _ _ (g.trans g') (IsL.cons (i.mono g'.frz) i'))
theorem ee_tup {k : Nat} (h : EA X es as ds) (hl : ds.length ≤ sizeLine) : EE X (.Tuple es k pos) as (.tup ds) := .mk fun σ H0 H hs hf Q q =>
  re_of (pe_tup ra_pa) (h.run σ H0 H hs hf _ fun vs H1 H' g i => ⟨by rw [i.len]; exact hl, fun p hp =>
    q _ (upd H1 p (.tup vs)) _ (g.trans (Grow.laid g.sub hp)) ⟨p, vs, rfl, SqT.of upd_same, i.mono (Same.new (g.sub.free hp))⟩⟩)
theorem en_lst (h : EA X es as ds) (hl : ds.length ≤ sizeLine) : EN X (.List es pos) as (.lst ds) := .mk fun σ H0 H hs hf Q q =>
  re_of (pe_lst ra_pa) (h.run σ H0 H hs hf _ fun vs H1 H' g i => ⟨by rw [i.len]; exact hl, fun p hp =>
    q p H1 _ (g.trans (Grow.made g.sub hp)) (g.all.free hp) (g.sub.free hp) ⟨vs, upd_same, i⟩⟩)
/-! ### calls -/
/-- a call of the value f upon data -/
def CaD (X : Cx) (f : Value) (ds : List D) (d : D) : Prop :=
  ∃ r : List V → Hp → VK → Prop, CallR X f r ∧ ∀ vs H0 H, Same H0 H → IsL X.K H0 ds vs → ∀ Q : VK, (∀ z H0' H', Grow H0 H H0' H' → Is X.K H0' d z → Q z H') → r vs H Q
def CaN (X : Cx) (f : Value) (ds : List D) (d : D) : Prop :=
  ∃ r : List V → Hp → VK → Prop, CallR X f r ∧ ∀ vs H0 H, Same H0 H → IsL X.K H0 ds vs → ∀ Q : VK, (∀ a H0' H', Grow H0 H H0' H' → H a = none → H0' a = none → Own X.K H0' H' a d → Q (.ref a) H') → r vs H Q
theorem ee_callB {n : Str} {id : String} {p : Pos} (ha : EA X (e :: es) as ds) (hc : CaD X (.builtin id) ds d) (hg : Gl X n) (hm : X.mg n = none) (hv : bootBuiltins n = some (.builtin id)) (hn : n ≠ "__name__" := by decide) (hdb : (n == ("__debug__" : Str)) = false := by decide)
    (he : starEach (e :: es) X.env = (false, eval e X.env) :: starEach es X.env := by rfl) (hpl : (backTo pos (starEach es X.env)).any (·.1) = false := by rfl) : EE X (.Call (.Name n p) (e :: es) [] pos) as d := .mk fun σ H0 H hs hf Q q => by
  obtain ⟨r, hc, hr⟩ := hc
  exact re_of (pe_callB hc hg hm hv ra_pa hn hdb he hpl) (ha.run σ H0 H hs hf _ fun vs H1 H' g i => hr vs H1 H' g.sub i Q fun z _ _ g' i' => q _ _ _ (g.trans g') i')
theorem ee_callTy {n : Str} {T : String} {p : Pos} (ha : EA X (e :: es) as ds) (hc : CaD X (.type T) ds d) (hg : Gl X n) (hm : X.mg n = none) (hv : bootBuiltins n = some (.type T)) (hn : n ≠ "__name__" := by decide) (hdb : (n == ("__debug__" : Str)) = false := by decide)
    (he : starEach (e :: es) X.env = (false, eval e X.env) :: starEach es X.env := by rfl) (hpl : (backTo pos (starEach es X.env)).any (·.1) = false := by rfl) : EE X (.Call (.Name n p) (e :: es) [] pos) as d := .mk fun σ H0 H hs hf Q q => by
  obtain ⟨r, hc, hr⟩ := hc
  exact re_of (pe_callTy hc hg hm hv ra_pa hn hdb he hpl) (ha.run σ H0 H hs hf _ fun vs H1 H' g i => hr vs H1 H' g.sub i Q fun z _ _ g' i' => q _ _ _ (g.trans g') i')
theorem en_callTy {n : Str} {T : String} {p : Pos} (ha : EA X (e :: es) as ds) (hc : CaN X (.type T) ds d) (hg : Gl X n) (hm : X.mg n = none) (hv : bootBuiltins n = some (.type T)) (hn : n ≠ "__name__" := by decide) (hdb : (n == ("__debug__" : Str)) = false := by decide)
    (he : starEach (e :: es) X.env = (false, eval e X.env) :: starEach es X.env := by rfl) (hpl : (backTo pos (starEach es X.env)).any (·.1) = false := by rfl) : EN X (.Call (.Name n p) (e :: es) [] pos) as d := .mk fun σ H0 H hs hf Q q => by
  obtain ⟨r, hc, hr⟩ := hc
  exact re_of (pe_callTy hc hg hm hv ra_pa hn hdb he hpl) (ha.run σ H0 H hs hf _ fun vs H1 H' g i => hr vs H1 H' g.sub i Q fun a _ _ g' h1 h2 h3 => q _ _ _ (g.trans g') (g.all.free h1) h2 h3)
end
/-! ### defs: what they do, over data -/
abbrev FS := List D → Except Exn D → Prop
def spOf (K : PySem.W.Frag) (S : FS) : Sp := fun vs H Q E => ∃ (H0 : Hp) (ds : List D) (r : Except Exn D), Same H0 H ∧ IsL K H0 ds vs ∧ S ds r ∧
  match r with
  | .ok d => ∀ v H0' H', Grow H0 H H0' H' → Is K H0' d v → Q v H'
  | .error x => ∀ c dd H0' H', Grow H0 H H0' H' → IsX K H0' H' c dd x → E c dd H'
section
variable {X : Cx} {k : Nat} {f : Addr} {fd : FuncData} {ps : List Str} {S : FS} {x : Str} {p pos : Pos} {e : Expr} {es : List Expr} {as : DE} {ds : List D} {d : D} {dvs : List V} {dds : List D} {dus : List Value}
theorem run_fnD {sp : Sp} {CX : CXT} {E : L2.St → XK} {pins : List (Addr × Obj)} {σ : L2.St} {H : Hp} {s : Shared} {Q : VK} {us : List Value} {vs : List V} (F : FnOk X.prog X.w X.K X.mg X.base CX k f fd ps sp) (hr : Room k X.A) (hb : Binds X.K fd ps dus) (hd : Vals dvs dus) (hx : PassesAt CX X σ (E σ))
    (I : Inv X pins σ H s) (r : Vals vs us) (h : sp (vs ++ dvs) H Q (E σ)) : wpAny (model X.prog X.w) X.A (call (.ref f) us) (EP X pins σ Q) X.xe s := by
  have r' := r.append hd
  have hl : (us ++ dus).length = ps.length := by rw [← r'.length]; exact F.len _ _ _ _ h
  have b := hb s us I.kIn hl
  refine wpAny_call (codeAny_mono (F.run X.A X.stack s H ⟨us, []⟩ (us ++ dus) (vs ++ dvs) Q (E σ) hr I.env0 b r' h) fun r s' hq => ?_)
  cases r with
  | error e => exact hx pins H s e s' I hq
  | ok fl =>
    cases fl with
    | ret u => exact I.after hq
    | next => exact False.elim hq
    | brk => exact False.elim hq
    | cont => exact False.elim hq
def tCallD (sp : Sp) (dvs : List V) (E : L2.St → XK) (t : TA) : TE := fun σ H Q => t σ H fun vs H1 => sp (vs ++ dvs) H1 Q (E σ)
theorem pe_callD {sp : Sp} {CX : CXT} {E : L2.St → XK} {t : TA} (F : FnOk X.prog X.w X.K X.mg X.base CX k f fd ps sp) (hr : Room k X.A) (hg : Gl X x) (hm : X.mg x = some (.ref f)) (hk : PySem.W.keepIn X.K (.ref f) = true) (hb : Binds X.K fd ps dus) (hd : Vals dvs dus) (hx : ∀ σ, PassesAt CX X σ (E σ))
    (ha : PA X (e :: es) t) (hdb : (x == ("__debug__" : Str)) = false := by decide) (he : starEach (e :: es) X.env = (false, eval e X.env) :: starEach es X.env := by rfl) (hpl : (backTo pos (starEach es X.env)).any (·.1) = false := by rfl) :
    PE X (.Call (.Name x p) (e :: es) [] pos) (tCallD sp dvs E t) := by
  refine ⟨fun pins s σ H Q I h => ?_⟩
  refine wpAny_Call_Name_kw (ld_glob I hg hm ?_ hdb)
  refine PySem.W.callWith_K (h₀ := X.base) I.ok.mod.kin hk (thn (ha.run pos pins s σ H _ I h) fun us s1 ⟨vs, H1, I1, r, q⟩ => ⟨I1.kIn, ?_⟩) he hpl
  exact run_fnD F hr hb hd (hx σ) I1 r q
/-- the defaults: data, whatever the heap -/
structure Dflt (K : PySem.W.Frag) (dds : List D) (dvs : List V) (dus : List Value) : Prop where
  vals : Vals dvs dus
  is : ∀ H, IsL K H dds dvs
theorem Dflt.nil {K : PySem.W.Frag} : Dflt K [] [] [] := ⟨.nil, fun _ => rfl⟩
/-- what a caller has of a def of the text -/
structure FnE (P : Program) (w : World) (K : PySem.W.Frag) (mg : Str → Option Value) (base : Heap) (k : Nat) (x : Str) (dds : List D) (S : FS) : Prop where
  ex : ∃ (f : Addr) (fd : FuncData) (ps : List Str) (dvs : List V) (dus : List Value), FnOk P w K mg base (L2.CX P w) k f fd ps (spOf K S) ∧ mg x = some (.ref f) ∧ PySem.W.keepIn K (.ref f) = true ∧ Binds K fd ps dus ∧ Dflt K dds dvs dus
abbrev FnD (X : Cx) (k : Nat) (x : Str) (dds : List D) (S : FS) : Prop := FnE X.prog X.w X.K X.mg X.base k x dds S
theorem ee_call (F : FnD X k x dds S) (ha : EA X (e :: es) as ds) (hS : S (ds ++ dds) (.ok d)) (hr : Room k X.A) (hg : Gl X x) (hdb : (x == ("__debug__" : Str)) = false := by decide) (he : starEach (e :: es) X.env = (false, eval e X.env) :: starEach es X.env := by rfl) (hpl : (backTo pos (starEach es X.env)).any (·.1) = false := by rfl) :
    EE X (.Call (.Name x p) (e :: es) [] pos) as d := .mk fun σ H0 H hs hf Q q => by
  obtain ⟨f, fd, ps, dvs, dus, F, hm, hk, hb, hd⟩ := F.ex
  refine re_of (pe_callD (E := WE (wx X)) F hr hg hm hk hb hd.vals (fun σ => passAt wx_takes σ) ra_pa hdb he hpl) ?_
  exact ha.run σ H0 H hs hf _ fun vs H1 H' g i => ⟨H1, ds ++ dds, .ok d, g.sub, i.app (hd.is H1), hS, fun v _ _ g' i' => q v _ _ (g.trans g') i'⟩
theorem ex_call {xn : Exn} (F : FnD X k x dds S) (ha : EA X (e :: es) as ds) (hS : S (ds ++ dds) (.error xn)) (hr : Room k X.A) (hg : Gl X x) (hdb : (x == ("__debug__" : Str)) = false := by decide) (he : starEach (e :: es) X.env = (false, eval e X.env) :: starEach es X.env := by rfl) (hpl : (backTo pos (starEach es X.env)).any (·.1) = false := by rfl) :
    EX X (.Call (.Name x p) (e :: es) [] pos) as xn := .mk fun σ H0 H hs hf Q q => by
  obtain ⟨f, fd, ps, dvs, dus, F, hm, hk, hb, hd⟩ := F.ex
  refine re_of (pe_callD (E := WE (wx X)) F hr hg hm hk hb hd.vals (fun σ => passAt wx_takes σ) ra_pa hdb he hpl) ?_
  exact ha.run σ H0 H hs hf _ fun vs H1 H' g i => ⟨H1, ds ++ dds, .error xn, g.sub, i.app (hd.is H1), hS, fun c dd _ _ g' i' => q c dd _ _ (g.trans g') i'⟩
end
end Mw
set_option maxHeartbeats 4000000
namespace Mw
open PySem PySem.Spec PyProof.Rows L2
/-! ### statements over data -/
inductive Sl where
  | un | fz (d : D) | ow (d : D)
abbrev AS := List Sl
def hid1 : Sl → Option D
  | .fz d => some d
  | _ => none
def vis1 : Sl → Option D
  | .fz d => some d
  | .ow d => some d
  | _ => none
def frz1 : Sl → Sl
  | .ow d => .fz d
  | s => s
abbrev hid (as : AS) : DE := as.map hid1
abbrev vis (as : AS) : DE := as.map vis1
abbrev frz (as : AS) : AS := as.map frz1
/-- the slots σ and the heap H, H0 its frozen part, are as as says; Gs, G: frozen part and heap at the entry -/
structure StH (K : PySem.W.Frag) (Gs G : Hp) (σ : L2.St) (H : Hp) (as : AS) (H0 : Hp) : Prop where
  grow : Grow Gs G H0 H
  fz : ∀ (i : Nat) (d : D), as[i]? = some (.fz d) → ∃ v, σ[i]? = some (some v) ∧ Is K H0 d v
  ow : ∀ (i : Nat) (d : D), as[i]? = some (.ow d) → ∃ a, σ[i]? = some (some (.ref a)) ∧ H0 a = none ∧ G a = none ∧ Own K H0 H a d
  dis : ∀ (i j : Nat) (a : Addr) (d d' : D), as[i]? = some (.ow d) → as[j]? = some (.ow d') → σ[i]? = some (some (.ref a)) → σ[j]? = some (some (.ref a)) → i = j
section
variable {K : PySem.W.Frag} {Gs G H H' H0 H0' : Hp} {σ : L2.St} {as : AS}
theorem map_at {α β : Type} {f : α → β} {l : List α} {i : Nat} {y : β} (h : (l.map f)[i]? = some y) : ∃ x, l[i]? = some x ∧ f x = y := by
  rw [List.getElem?_map] at h
  cases e : l[i]? with
  | none => rw [e] at h; cases h
  | some x => rw [e] at h; exact ⟨x, rfl, Option.some.inj h⟩
theorem StH.hid (S : StH K Gs G σ H as H0) : SlF K H0 σ (hid as) := fun i d e => by
  obtain ⟨x, e1, e2⟩ := map_at e
  cases x with
  | fz d' => cases e2; exact S.fz i d e1
  | un => cases e2
  | ow d' => cases e2
theorem StH.vis (S : StH K Gs G σ H as H0) : SlF K H σ (vis as) := fun i d e => by
  obtain ⟨x, e1, e2⟩ := map_at e
  cases x with
  | fz d' =>
    cases e2
    obtain ⟨v, h1, h2⟩ := S.fz i d e1
    exact ⟨v, h1, h2.mono S.grow.sub⟩
  | un => cases e2
  | ow d' =>
    cases e2
    obtain ⟨a, h1, h2, h3, h4⟩ := S.ow i d e1
    exact ⟨_, h1, h4.is S.grow.sub⟩
/-- the heap has grown -/
theorem StH.more (S : StH K Gs G σ H as H0) (g : Grow H0 H H0' H') : StH K Gs G σ H' as H0' :=
  ⟨S.grow.trans g, fun i d e => let ⟨v, h1, h2⟩ := S.fz i d e; ⟨v, h1, h2.mono g.frz⟩,
   fun i d e => by
    obtain ⟨a, h1, h2, h3, h4⟩ := S.ow i d e
    obtain ⟨o, e4⟩ := h4.some
    refine ⟨a, h1, ?_, h3, h4.keep g.frz fun o q => g.all a o q⟩
    cases z : H0' a with
    | none => rfl
    | some u =>
      rcases g.new a (by rw [z]; simp) with q | q
      · exact absurd h2 q
      · rw [e4] at q
        exact (nomatch q), S.dis⟩
/-- the heap has grown, nothing of it is held -/
theorem StH.tmp (S : StH K Gs G σ H as H0) (e : Same H H') : StH K Gs G σ H' as H0 :=
  S.more ⟨Same.refl _, e, S.grow.sub.trans e, fun _ x => .inl x⟩
theorem set_at {α : Type} {l : List α} {i j : Nat} {x y : α} (h : (l.set i x)[j]? = some y) : (i = j ∧ x = y) ∨ (i ≠ j ∧ l[j]? = some y) := by
  by_cases e : i = j
  · subst e
    by_cases hl : i < l.length
    · rw [List.getElem?_set_self hl] at h
      exact .inl ⟨rfl, Option.some.inj h⟩
    · rw [List.getElem?_eq_none (by simpa using hl)] at h
      cases h
  · rw [List.getElem?_set_ne e] at h
    exact .inr ⟨e, h⟩
/-- a slot is stored: frozen -/
theorem StH.setF (S : StH K Gs G σ H as H0) {i : Nat} {d : D} {v : V} (hi : i < σ.length) (hv : Is K H0 d v) : StH K Gs G (σ.set i (some v)) H (as.set i (.fz d)) H0 := by
  refine ⟨S.grow, fun j d' e => ?_, fun j d' e => ?_, fun j k a d1 d2 e1 e2 s1 s2 => ?_⟩
  · rcases set_at e with ⟨rfl, q⟩ | ⟨n, q⟩
    · cases q
      exact ⟨v, List.getElem?_set_self hi, hv⟩
    · rw [List.getElem?_set_ne n]
      exact S.fz j d' q
  · rcases set_at e with ⟨rfl, q⟩ | ⟨n, q⟩
    · cases q
    · rw [List.getElem?_set_ne n]
      exact S.ow j d' q
  · rcases set_at e1 with ⟨rfl, q⟩ | ⟨n1, q1⟩
    · cases q
    · rcases set_at e2 with ⟨rfl, q⟩ | ⟨n2, q2⟩
      · cases q
      · rw [List.getElem?_set_ne n1] at s1
        rw [List.getElem?_set_ne n2] at s2
        exact S.dis j k a d1 d2 q1 q2 s1 s2
theorem StH.setU (S : StH K Gs G σ H as H0) {i : Nat} {w : Option V} : StH K Gs G (σ.set i w) H (as.set i .un) H0 := by
  refine ⟨S.grow, fun j d' e => ?_, fun j d' e => ?_, fun j k a d1 d2 e1 e2 s1 s2 => ?_⟩
  · rcases set_at e with ⟨rfl, q⟩ | ⟨n, q⟩
    · cases q
    · rw [List.getElem?_set_ne n]
      exact S.fz j d' q
  · rcases set_at e with ⟨rfl, q⟩ | ⟨n, q⟩
    · cases q
    · rw [List.getElem?_set_ne n]
      exact S.ow j d' q
  · rcases set_at e1 with ⟨rfl, q⟩ | ⟨n1, q1⟩
    · cases q
    · rcases set_at e2 with ⟨rfl, q⟩ | ⟨n2, q2⟩
      · cases q
      · rw [List.getElem?_set_ne n1] at s1
        rw [List.getElem?_set_ne n2] at s2
        exact S.dis j k a d1 d2 q1 q2 s1 s2
/-- a slot is stored: a new object of one's own, at an address that no other owned slot has -/
theorem StH.setO (S : StH K Gs G σ H as H0) {i : Nat} {d : D} {p : Addr} (hi : i < σ.length) (h0 : H0 p = none) (hG : G p = none) (ho : Own K H0 H p d) (hn : ∀ (j : Nat) (d' : D), as[j]? = some (.ow d') → σ[j]? ≠ some (some (.ref p))) :
    StH K Gs G (σ.set i (some (.ref p))) H (as.set i (.ow d)) H0 := by
  refine ⟨S.grow, fun j d' e => ?_, fun j d' e => ?_, fun j k a d1 d2 e1 e2 s1 s2 => ?_⟩
  · rcases set_at e with ⟨rfl, q⟩ | ⟨n, q⟩
    · cases q
    · rw [List.getElem?_set_ne n]
      exact S.fz j d' q
  · rcases set_at e with ⟨rfl, q⟩ | ⟨n, q⟩
    · cases q
      exact ⟨p, List.getElem?_set_self hi, h0, hG, ho⟩
    · rw [List.getElem?_set_ne n]
      exact S.ow j d' q
  · rcases set_at e1 with ⟨rfl, q⟩ | ⟨n1, q1⟩
    · rcases set_at e2 with ⟨rfl, q'⟩ | ⟨n2, q2⟩
      · rfl
      · rw [List.getElem?_set_self hi] at s1
        rw [List.getElem?_set_ne n2] at s2
        cases s1
        exact absurd s2 (hn k d2 q2)
    · rcases set_at e2 with ⟨rfl, q⟩ | ⟨n2, q2⟩
      · rw [List.getElem?_set_self hi] at s2
        rw [List.getElem?_set_ne n1] at s1
        cases s2
        exact absurd s1 (hn j d1 q1)
      · rw [List.getElem?_set_ne n1] at s1
        rw [List.getElem?_set_ne n2] at s2
        exact S.dis j k a d1 d2 q1 q2 s1 s2
/-- an owned object is written -/
theorem StH.write (S : StH K Gs G σ H as H0) {i : Nat} {d d' : D} {a : Addr} {o : HO} (hi : as[i]? = some (.ow d)) (hs : σ[i]? = some (some (.ref a))) (ho : Own K H0 (upd H a o) a d') :
    StH K Gs G σ (upd H a o) (as.set i (.ow d')) H0 := by
  obtain ⟨b, q1, q2, q3, q4⟩ := S.ow i d hi
  rw [hs] at q1
  cases q1
  have g : Grow Gs G H0 (upd H a o) := ⟨S.grow.frz, fun b u e => by rw [upd_ne (ne_of_none e q3)]; exact S.grow.all b u e, fun b u e => by rw [upd_ne (ne_of_none e q2)]; exact S.grow.sub b u e, S.grow.new⟩
  refine ⟨g, fun j e q => ?_, fun j e q => ?_, fun j k c d1 d2 e1 e2 s1 s2 => ?_⟩
  · rcases set_at q with ⟨rfl, z⟩ | ⟨n, z⟩
    · cases z
    · exact S.fz j e z
  · rcases set_at q with ⟨rfl, z⟩ | ⟨n, z⟩
    · cases z
      exact ⟨a, hs, q2, q3, ho⟩
    · obtain ⟨c, r1, r2, r3, r4⟩ := S.ow j e z
      refine ⟨c, r1, r2, r3, r4.keep (Same.refl _) fun u hu => ?_⟩
      have hca : c ≠ a := fun w => by
        subst w
        exact n (S.dis i j c d e hi z hs r1)
      rw [upd_ne hca]
      exact hu
  · rcases set_at e1 with ⟨rfl, z1⟩ | ⟨n1, z1⟩
    · rcases set_at e2 with ⟨rfl, z2⟩ | ⟨n2, z2⟩
      · rfl
      · exact S.dis i k c d d2 hi z2 s1 s2
    · rcases set_at e2 with ⟨rfl, z2⟩ | ⟨n2, z2⟩
      · exact S.dis j i c d1 d z1 hi s1 s2
      · exact S.dis j k c d1 d2 z1 z2 s1 s2
open Classical in
/-- what is owned is frozen, at the slots p -/
theorem StH.freeze (S : StH K Gs G σ H as H0) (p : Nat → Bool) : ∃ H0', Same H0 H0' ∧ StH K Gs G σ H (as.mapIdx fun i s => if p i then frz1 s else s) H0' := by
  let H1 : Hp := fun b => if ∃ (i : Nat) (d : D), p i = true ∧ as[i]? = some (.ow d) ∧ σ[i]? = some (some (.ref b)) then H b else H0 b
  have e1 : ∀ (i : Nat) (d : D) (a : Addr), p i = true → as[i]? = some (.ow d) → σ[i]? = some (some (.ref a)) → H1 a = H a := fun i d a h1 h2 h3 => if_pos ⟨i, d, h1, h2, h3⟩
  have sm : Same H0 H1 := fun b o e => by
    show (if _ then H b else H0 b) = some o
    split
    · exact S.grow.sub b o e
    · exact e
  have sub : Same H1 H := fun b o e => by
    have e' : (if ∃ (i : Nat) (d : D), p i = true ∧ as[i]? = some (.ow d) ∧ σ[i]? = some (some (.ref b)) then H b else H0 b) = some o := e
    split at e'
    · exact e'
    · exact S.grow.sub b o e'
  refine ⟨H1, sm, ⟨⟨S.grow.frz.trans sm, S.grow.all, sub, fun a x => ?_⟩, fun i d e => ?_, fun i d e => ?_, fun i j a d d' x1 x2 x3 x4 => ?_⟩⟩
  · have x' : (if ∃ (i : Nat) (d : D), p i = true ∧ as[i]? = some (.ow d) ∧ σ[i]? = some (some (.ref a)) then H a else H0 a) ≠ none := x
    split at x'
    · rename_i h
      obtain ⟨i, d, h1, h2, h3⟩ := h
      obtain ⟨b, q1, q2, q3, q4⟩ := S.ow i d h2
      rw [h3] at q1
      cases q1
      exact .inr q3
    · exact S.grow.new a x'
  · rw [List.getElem?_mapIdx] at e
    cases z : as[i]? with
    | none => rw [z] at e; cases e
    | some s =>
      rw [z] at e
      have e : (if p i = true then frz1 s else s) = .fz d := Option.some.inj e
      cases s with
      | un => split at e <;> cases e
      | fz d' =>
        have e' : d' = d := by
          split at e
          · exact Sl.fz.inj e
          · exact Sl.fz.inj e
        subst e'
        obtain ⟨v, h1, h2⟩ := S.fz i d' z
        exact ⟨v, h1, h2.mono sm⟩
      | ow d' =>
        split at e
        · rename_i hp
          cases e
          obtain ⟨a, q1, q2, q3, q4⟩ := S.ow i d z
          exact ⟨_, q1, q4.frz sm (e1 i d a hp z q1)⟩
        · cases e
  · rw [List.getElem?_mapIdx] at e
    cases z : as[i]? with
    | none => rw [z] at e; cases e
    | some s =>
      rw [z] at e
      have e : (if p i = true then frz1 s else s) = .ow d := Option.some.inj e
      have hp : p i = false := by
        cases hp : p i with
        | false => rfl
        | true =>
          rw [if_pos hp] at e
          cases s <;> cases e
      rw [hp, if_neg Bool.false_ne_true] at e
      subst e
      obtain ⟨a, q1, q2, q3, q4⟩ := S.ow i d z
      refine ⟨a, q1, ?_, q3, q4.keep sm fun _ h => h⟩
      show (if _ then H a else H0 a) = none
      rw [if_neg]
      · exact q2
      · rintro ⟨j, d', h1, h2, h3⟩
        have ij := S.dis i j a d d' z h2 q1 h3
        subst ij
        rw [hp] at h1
        cases h1
  · have back : ∀ (i : Nat) (d : D), (as.mapIdx fun i s => if p i then frz1 s else s)[i]? = some (.ow d) → as[i]? = some (.ow d) := fun i d e => by
      rw [List.getElem?_mapIdx] at e
      cases z : as[i]? with
      | none => rw [z] at e; cases e
      | some s =>
        rw [z] at e
        have e : (if p i = true then frz1 s else s) = .ow d := Option.some.inj e
        split at e
        · cases s <;> cases e
        · rw [e]
    exact S.dis i j a d d' (back i d x1) (back j d' x2) x3 x4
end
structure Fin where
  nx : AS → Prop
  rt : D → Prop
  bk : AS → Prop := fun _ => False
  ct : AS → Prop := fun _ => False
  ex : Exn → AS → Prop := fun _ _ => False
/-- the ends D serve F -/
structure EndsOk (X : Cx) (Gs G H0 : Hp) (F : Fin) (E : Ends) : Prop where
  nx : ∀ σ H as H1, Same H0 H1 → StH X.K Gs G σ H as H1 → F.nx as → E.nx σ H
  rt : ∀ v H d H1, Same H0 H1 → Grow Gs G H1 H → Is X.K H1 d v → F.rt d → E.rt v H
  bk : ∀ σ H as H1, Same H0 H1 → StH X.K Gs G σ H as H1 → F.bk as → E.bk σ H
  ct : ∀ σ H as H1, Same H0 H1 → StH X.K Gs G σ H as H1 → F.ct as → E.ct σ H
  ex : ∀ c dd σ H x as H1, Same H0 H1 → StH X.K Gs G σ H as H1 → IsX X.K H1 H c dd x → F.ex x as → wx X c dd σ H
theorem EndsOk.more {X : Cx} {Gs G H0 H1 : Hp} {F : Fin} {E : Ends} (h : EndsOk X Gs G H0 F E) (e : Same H0 H1) : EndsOk X Gs G H1 F E :=
  ⟨fun σ H as H2 q => h.nx σ H as H2 (e.trans q), fun v H d H2 q => h.rt v H d H2 (e.trans q), fun σ H as H2 q => h.bk σ H as H2 (e.trans q), fun σ H as H2 q => h.ct σ H as H2 (e.trans q), fun c dd σ H x as H2 q => h.ex c dd σ H x as H2 (e.trans q)⟩
structure S1 (X : Cx) (Gs G : Hp) (st : Stmt) (as : AS) (F : Fin) : Prop where
  run : ∀ (σ : L2.St) (H H0 : Hp), StH X.K Gs G σ H as H0 → ∀ E : Ends, EndsOk X Gs G H0 F E → rs X st E σ H
structure SS (X : Cx) (Gs G : Hp) (sts : List Stmt) (as : AS) (F : Fin) : Prop where
  run : ∀ (σ : L2.St) (H H0 : Hp), StH X.K Gs G σ H as H0 → ∀ E : Ends, EndsOk X Gs G H0 F E → rss X sts E σ H
theorem rs_len {X : Cx} {st : Stmt} {σ : L2.St} {H : Hp} {E : Ends} (h : σ.length = X.N.length → rs X st E σ H) : rs X st E σ H := fun pins s I => h I.len pins s I
theorem rss_len {X : Cx} {sts : List Stmt} {σ : L2.St} {H : Hp} {E : Ends} (h : σ.length = X.N.length → rss X sts E σ H) : rss X sts E σ H := fun pins s I => h I.len pins s I
section
variable {X : Cx} {Gs G : Hp} {st : Stmt} {sts : List Stmt} {as as' : AS} {F : Fin} {e : Expr} {d : D} {pos : Pos}
theorem ss_nil (h : F.nx as) : SS X Gs G [] as F := .mk fun σ H H0 S E ok => rss_of pss_nil (ok.nx σ H as H0 (Same.refl _) S h)
theorem ss_cons (h : S1 X Gs G st as { F with nx := fun as' => SS X Gs G sts as' F }) : SS X Gs G (st :: sts) as F := .mk fun σ H H0 S E ok => by
  refine rss_of (pss_cons rs_ps rss_pss) ?_
  refine h.run σ H H0 S _ ⟨fun σ' H' as' H1 q S' h' => ?_, ok.rt, ok.bk, ok.ct, ok.ex⟩
  exact h'.run σ' H' H1 S' E (ok.more q)
theorem ss_one (h : S1 X Gs G st as F) : SS X Gs G [st] as F := .mk fun σ H H0 S E ok => by
  refine rss_of (pss_one rs_ps) ?_
  exact h.run σ H H0 S E ok
theorem S1.imp {F' : Fin} (h : S1 X Gs G st as F) (h1 : ∀ a, F.nx a → F'.nx a) (h2 : ∀ a, F.rt a → F'.rt a) (h3 : ∀ a, F.bk a → F'.bk a) (h4 : ∀ a, F.ct a → F'.ct a) (h5 : ∀ x a, F.ex x a → F'.ex x a) : S1 X Gs G st as F' := .mk fun σ H H0 S E ok =>
  h.run σ H H0 S E ⟨fun σ' H' as' H1 q S' z => ok.nx σ' H' as' H1 q S' (h1 _ z), fun v H' d H1 q g i z => ok.rt v H' d H1 q g i (h2 _ z), fun σ' H' as' H1 q S' z => ok.bk σ' H' as' H1 q S' (h3 _ z), fun σ' H' as' H1 q S' z => ok.ct σ' H' as' H1 q S' (h4 _ z), fun c dd σ' H' x as' H1 q S' i z => ok.ex c dd σ' H' x as' H1 q S' i (h5 _ _ z)⟩
theorem SS.imp {F' : Fin} (h : SS X Gs G sts as F) (h1 : ∀ a, F.nx a → F'.nx a) (h2 : ∀ a, F.rt a → F'.rt a) (h3 : ∀ a, F.bk a → F'.bk a) (h4 : ∀ a, F.ct a → F'.ct a) (h5 : ∀ x a, F.ex x a → F'.ex x a) : SS X Gs G sts as F' := .mk fun σ H H0 S E ok =>
  h.run σ H H0 S E ⟨fun σ' H' as' H1 q S' z => ok.nx σ' H' as' H1 q S' (h1 _ z), fun v H' d H1 q g i z => ok.rt v H' d H1 q g i (h2 _ z), fun σ' H' as' H1 q S' z => ok.bk σ' H' as' H1 q S' (h3 _ z), fun σ' H' as' H1 q S' z => ok.ct σ' H' as' H1 q S' (h4 _ z), fun c dd σ' H' x as' H1 q S' i z => ok.ex c dd σ' H' x as' H1 q S' i (h5 _ _ z)⟩
/-- freeze at the slots p first -/
theorem s1_freeze (p : Nat → Bool) (h : S1 X Gs G st (as.mapIdx fun i s => if p i then frz1 s else s) F) : S1 X Gs G st as F := .mk fun σ H H0 S E ok => by
  obtain ⟨H1, e, S1⟩ := S.freeze p
  exact h.run σ H H1 S1 E (ok.more e)
theorem s1_frz (h : S1 X Gs G st (frz as) F) : S1 X Gs G st as F := by
  refine s1_freeze (fun _ => true) ?_
  have e : (as.mapIdx fun i s => if (fun _ => true) i = true then frz1 s else s) = frz as := by
    rw [List.mapIdx_eq_iff]
    intro i
    rw [List.getElem?_map]
    rfl
  rw [e]
  exact h
theorem vis_frz : hid (frz as) = vis as := by
  unfold hid frz vis
  rw [List.map_map]
  congr 1
  funext s
  cases s <;> rfl
theorem s1_ret (h : EE X e (vis as) d) (q : F.rt d) : S1 X Gs G (.Return (some e) pos) as F := by
  refine s1_frz ⟨fun σ H H0 S E ok => ?_⟩
  refine rs_of (ps_ret re_pe) ?_
  have sf := S.hid
  rw [vis_frz] at sf
  exact h.run σ H0 H S.grow.sub sf _ fun v H1 H' g i => ok.rt v H' d H1 g.frz (S.grow.trans g) i q
theorem s1_retN (q : F.rt .non) : S1 X Gs G (.Return none pos) as F := .mk fun σ H H0 S E ok => rs_of ps_retN (ok.rt _ H .non H0 (Same.refl _) S.grow rfl q)
theorem s1_pass (q : F.nx as) : S1 X Gs G (.Pass pos) as F := .mk fun σ H H0 S E ok => rs_of ps_pass (ok.nx σ H as H0 (Same.refl _) S q)
theorem s1_brk (q : F.bk as) : S1 X Gs G (.Break pos) as F := .mk fun σ H H0 S E ok => rs_of ps_break (ok.bk σ H as H0 (Same.refl _) S q)
theorem s1_ct (q : F.ct as) : S1 X Gs G (.Continue pos) as F := .mk fun σ H H0 S E ok => rs_of ps_continue (ok.ct σ H as H0 (Same.refl _) S q)
/-- an expression for what it does -/
theorem s1_expr (h : EE X e (vis as) d) (hs : swapsWith e none pos.line X.env = pure false := by rfl) (q : F.nx as) : S1 X Gs G (.Expr e pos) as F := .mk fun σ H H0 S E ok => by
  refine rs_of (ps_expr re_pe hs) ?_
  exact h.run σ H H (Same.refl _) S.vis _ fun v H1 H' g i => ok.nx σ H' as H0 (Same.refl _) (S.tmp g.all) q
/-- a name is stored -/
theorem s1_set (i : Nat) {n : Str} {pos' : Pos} (hN : X.N.Nodup) (hi : X.N[i]? = some n) (hx : Loc X.env.scope n) (h : EE X e (hid as) d) (q : F.nx (as.set i (.fz d)))
    (hs : swapsWith e (some (.Name n pos')) pos.line X.env = pure false := by rfl) (hf : X.fn n = true ∨ X.env.scope.names.lookup n = some .local := by first | exact .inl rfl | exact .inr rfl | assumption) : S1 X Gs G (.Assign [.Name n pos'] e pos) as F := .mk fun σ H H0 S E ok => by
  refine rs_len fun hl => rs_of (ps_set hN hi hx re_pe hs hf) ?_
  exact h.run σ H0 H S.grow.sub S.hid _ fun v H1 H' g iv => ok.nx _ H' _ H1 g.frz ((S.more g).setF (by rw [hl]; exact (List.getElem?_eq_some_iff.mp hi).1) iv) q
/-- flat data lie in no heap -/
def flatD : D → Bool
  | .non => true
  | .bl _ => true
  | .int _ => true
  | .str _ => true
  | .ty _ => true
  | .cls _ => true
  | _ => false
theorem Is.flat {K : PySem.W.Frag} {H H' : Hp} {v : V} : ∀ {d : D}, flatD d = true → Is K H d v → Is K H' d v
  | .non, _, h => h
  | .bl _, _, h => h
  | .int _, _, h => h
  | .str _, _, h => h
  | .ty _, _, h => h
  | .cls _, _, h => h
  | .tup _, e, _ => nomatch e
  | .lst _, e, _ => nomatch e
  | .dct _, e, _ => nomatch e
  | .obj _ _, e, _ => nomatch e
  | .xc _ _ _, e, _ => nomatch e
  | .exv _ _, e, _ => nomatch e
theorem s1_setV (i : Nat) {n : Str} {pos' : Pos} (hN : X.N.Nodup) (hi : X.N[i]? = some n) (hx : Loc X.env.scope n) (h : EE X e (vis as) d) (hd : flatD d = true) (q : F.nx (as.set i (.fz d)))
    (hs : swapsWith e (some (.Name n pos')) pos.line X.env = pure false := by rfl) (hf : X.fn n = true ∨ X.env.scope.names.lookup n = some .local := by first | exact .inl rfl | exact .inr rfl | assumption) : S1 X Gs G (.Assign [.Name n pos'] e pos) as F := .mk fun σ H H0 S E ok => by
  refine rs_len fun hl => rs_of (ps_set hN hi hx re_pe hs hf) ?_
  exact h.run σ H H (Same.refl _) S.vis _ fun v H1 H' g iv => ok.nx _ H' _ H0 (Same.refl _) ((S.tmp g.all).setF (by rw [hl]; exact (List.getElem?_eq_some_iff.mp hi).1) (iv.flat hd)) q
theorem s1_setN (i : Nat) {n : Str} {pos' : Pos} (hN : X.N.Nodup) (hi : X.N[i]? = some n) (hx : Loc X.env.scope n) (h : EN X e (hid as) d) (q : F.nx (as.set i (.ow d)))
    (hs : swapsWith e (some (.Name n pos')) pos.line X.env = pure false := by rfl) (hf : X.fn n = true ∨ X.env.scope.names.lookup n = some .local := by first | exact .inl rfl | exact .inr rfl | assumption) : S1 X Gs G (.Assign [.Name n pos'] e pos) as F := .mk fun σ H H0 S E ok => by
  refine rs_len fun hl => rs_of (ps_set hN hi hx re_pe hs hf) ?_
  refine h.run σ H0 H S.grow.sub S.hid _ fun a H1 H' g ha h0 ho => ok.nx _ H' _ H1 g.frz ((S.more g).setO (by rw [hl]; exact (List.getElem?_eq_some_iff.mp hi).1) h0 ?_ ho fun j d' e1 e2 => ?_) q
  · exact S.grow.all.free ha
  · obtain ⟨b, q1, q2, q3, q4⟩ := S.ow j d' e1
    rw [e2] at q1
    cases q1
    obtain ⟨o, e4⟩ := q4.some
    rw [ha] at e4
    cases e4
theorem s1_if {c : Expr} {t u : List Stmt} {b : Bool} (h : ET X c (vis as) b) (h1 : b = true → SS X Gs G t as F) (h2 : b = false → SS X Gs G u as F) : S1 X Gs G (.If c t u pos) as F := .mk fun σ H H0 S E ok => by
  refine rs_of (ps_if rt_pt rss_pss rss_pss) ?_
  refine h.run σ H H (Same.refl _) S.vis _ fun H1 H' g => ?_
  cases b with
  | true =>
    rw [if_pos rfl]
    exact (h1 rfl).run σ H' H0 (S.tmp g.all) E ok
  | false =>
    rw [if_neg Bool.false_ne_true]
    exact (h2 rfl).run σ H' H0 (S.tmp g.all) E ok
theorem s1_ifT {c : Expr} {t u : List Stmt} (h : ET X c (vis as) true) (h1 : SS X Gs G t as F) : S1 X Gs G (.If c t u pos) as F := s1_if h (fun _ => h1) fun z => nomatch z
theorem s1_ifF {c : Expr} {t u : List Stmt} (h : ET X c (vis as) false) (h1 : SS X Gs G u as F) : S1 X Gs G (.If c t u pos) as F := s1_if h (fun z => nomatch z) fun _ => h1
/-- while: I m, m falls -/
theorem s1_while {c : Expr} {body : List Stmt} (I : Nat → AS → Prop) (m0 : Nat) (h0 : I m0 as) (hp : PassesOwn (model X.prog X.w) X.A X.env X.xe)
    (hs : ∀ m as', I m as' → ∃ b, ET X c (vis as') b ∧ (b = true → SS X Gs G body as' { F with nx := fun a => ∃ m', m' < m ∧ I m' a, ct := fun a => ∃ m', m' < m ∧ I m' a, bk := F.nx }) ∧ (b = false → F.nx as')) : S1 X Gs G (.While c body [] pos) as F := .mk fun σ H H0 S E ok => by
  refine rs_of (ps_while hp rt_pt rss_pss) ?_
  refine ⟨fun m σ' H' => ∃ as' H1, Same H0 H1 ∧ StH X.K Gs G σ' H' as' H1 ∧ I m as', ⟨m0, as, H0, Same.refl _, S, h0⟩, fun m σ' H' w => ?_⟩
  obtain ⟨as', H1, q1, S', i⟩ := w
  obtain ⟨b, hb, h1, h2⟩ := hs m as' i
  refine hb.run σ' H' H' (Same.refl _) S'.vis _ fun H2 H3 g => ?_
  cases b with
  | true =>
    rw [if_pos rfl]
    refine ⟨fun σ2 H4 => ∃ m', m' < m ∧ ∃ as' H1, Same H0 H1 ∧ StH X.K Gs G σ2 H4 as' H1 ∧ I m' as', fun σ2 H4 z => z, ?_⟩
    refine (h1 rfl).run σ' H3 H1 (S'.tmp g.all) _ ⟨fun σ4 H4 as4 H5 q S4 ⟨m', l, z⟩ => ⟨m', l, as4, H5, q1.trans q, S4, z⟩, (ok.more q1).rt, (ok.more q1).nx, fun σ4 H4 as4 H5 q S4 ⟨m', l, z⟩ => ⟨m', l, as4, H5, q1.trans q, S4, z⟩, (ok.more q1).ex⟩
  | false =>
    rw [if_neg Bool.false_ne_true]
    exact ok.nx σ' H3 as' H1 q1 (S'.tmp g.all) (h2 rfl)
/-- for n in a list -/
theorem s1_forL {l : Expr} {body : List Stmt} {n : Str} {pos' : Pos} {ds : List D} (i : Nat) (hl : EE X l (hid as) (.lst ds)) (I : Nat → AS → Prop) (h0 : I 0 as)
    (hs : ∀ j d as', ds[j]? = some d → I j as' → SS X Gs G body (as'.set i (.fz d)) { F with nx := I (j + 1), ct := I (j + 1), bk := F.nx }) (hd : ∀ as', I ds.length as' → F.nx as')
    (hp : PassesOwn (model X.prog X.w) X.A X.env X.xe) (hc : X.calm = true) (hN : X.N.Nodup) (hi : X.N[i]? = some n) (hx : Loc X.env.scope n)
    (hf : X.fn n = true ∨ X.env.scope.names.lookup n = some .local := by first | exact .inl rfl | exact .inr rfl | assumption) (hss : ∀ x, foldedSetIterable l X.env x = pure x := by intro _; rfl) : S1 X Gs G (.For (.Name n pos') l body [] pos) as F := .mk fun σ H H0 S E ok => by
  refine rs_of (ps_for hp hc (pi_list re_pe) (pg_name hN hi hx hf) rss_pss hss) ?_
  refine hl.run σ H0 H S.grow.sub S.hid _ fun v H1 H' g iv => ?_
  obtain ⟨a, vs, rfl, hq, hv⟩ := iv
  have hq' : SqL X.K H' a vs := Same.lst g.sub hq
  have ev : vs.length = ds.length := hv.len
  refine ⟨a, rfl, ⟨vs, hq'⟩, for_list (xs := vs) (fun j σ' H2 => ∃ as' H3, Same H1 H3 ∧ StH X.K Gs G σ' H2 as' H3 ∧ I j as') ⟨as, H1, Same.refl _, S.more g, h0⟩ (fun j σ' H2 _ ⟨as', H3, q, S', _⟩ => Same.lst (q.trans S'.grow.sub) hq) ?_ ?_⟩
  · rintro j x σ' H2 hx' ⟨as', H3, q, S', ij⟩
    have hj : j < ds.length := by rw [← ev]; exact (List.getElem?_eq_some_iff.mp hx').1
    obtain ⟨u, e1, e2⟩ := hv.get (i := j) (d := ds[j]) (List.getElem?_eq_getElem hj)
    rw [hx'] at e1
    cases e1
    show rss X body _ (σ'.set i (some x)) H2
    refine rss_len fun hl2 => ?_
    refine (hs j ds[j] as' (List.getElem?_eq_getElem hj) ij).run _ H2 H3 (S'.setF (by rw [List.length_set] at hl2; rw [hl2]; exact (List.getElem?_eq_some_iff.mp hi).1) (e2.mono q)) _ ⟨fun σ4 H4 as4 H5 r S4 z => ?_, (ok.more (g.frz.trans q)).rt, (ok.more (g.frz.trans q)).nx, fun σ4 H4 as4 H5 r S4 z => ?_, (ok.more (g.frz.trans q)).ex⟩
    · exact ⟨as4, H5, q.trans r, S4, z⟩
    · exact ⟨as4, H5, q.trans r, S4, z⟩
  · rintro σ' H2 ⟨as', H3, q, S', z⟩
    rw [ev] at z
    exact ok.nx σ' H2 as' H3 (g.frz.trans q) S' (hd as' z)
end
end Mw
set_option maxHeartbeats 4000000
namespace Mw
open PySem PySem.Spec PyProof.Rows L2
section
variable {X : Cx} {as : DE} {d x y : D} {a b e : Expr} {es : List Expr} {ds : List D} {pos : Pos}
/-! ### operators -/
theorem od_addI {i j : Int} : OpD X (binaryOp .Add) (.int i) (.int j) (.int (i + j)) := .flat op_add (fun _ => rfl) fun v w H hx hy Q q => ⟨i, j, hx, hy, q⟩
theorem od_subI {i j : Int} : OpD X (binaryOp .Sub) (.int i) (.int j) (.int (i - j)) := .flat op_sub (fun _ => rfl) fun v w H hx hy Q q => ⟨i, j, hx, hy, q⟩
theorem od_mul {i j : Int} (h : CMulW i j) : OpD X (binaryOp .Mult) (.int i) (.int j) (.int (i * j)) := .flat op_mulW (fun _ => rfl) fun v w H hx hy Q q => ⟨i, j, hx, hy, h, q⟩
theorem od_fdiv {i j : Int} (h : CDivW i j) : OpD X (binaryOp .FloorDiv) (.int i) (.int j) (.int (i / j)) := .flat op_fdivW (fun _ => rfl) fun v w H hx hy Q q => ⟨i, j, hx, hy, h, q⟩
theorem od_mod {i j : Int} (h : 0 < j) : OpD X (binaryOp .Mod) (.int i) (.int j) (.int (i % j)) := .flat op_mod (fun _ => rfl) fun v w H hx hy Q q => ⟨i, j, hx, hy, h, q⟩
theorem od_pow {i j : Int} (h : CPow i j) : OpD X (binaryOp .Pow) (.int i) (.int j) (.int (i ^ j.toNat)) := .flat op_pow (fun _ => rfl) fun v w H hx hy Q q => ⟨i, j, hx, hy, h, q⟩
theorem od_addS {i j : Str} (h : i.length + j.length ≤ sizeLine) : OpD X (binaryOp .Add) (.str i) (.str j) (.str (i ++ j)) := .flat op_add_str (fun _ => rfl) fun v w H hx hy Q q => ⟨i, j, hx, hy, h, q⟩
theorem oc_lt {i j : Int} : OpD X (compareOp .Lt) (.int i) (.int j) (.bl (decide (i < j))) := .flat op_lt (fun _ => rfl) fun v w H hx hy Q q => ⟨i, j, hx, hy, q⟩
theorem oc_le {i j : Int} : OpD X (compareOp .LtE) (.int i) (.int j) (.bl (decide (i ≤ j))) := .flat op_le (fun _ => rfl) fun v w H hx hy Q q => ⟨i, j, hx, hy, q⟩
theorem oc_gt {i j : Int} : OpD X (compareOp .Gt) (.int i) (.int j) (.bl (decide (j < i))) := .flat op_gt (fun _ => rfl) fun v w H hx hy Q q => ⟨i, j, hx, hy, q⟩
theorem oc_ge {i j : Int} : OpD X (compareOp .GtE) (.int i) (.int j) (.bl (decide (j ≤ i))) := .flat op_ge (fun _ => rfl) fun v w H hx hy Q q => ⟨i, j, hx, hy, q⟩
theorem dec_iff {p q : Prop} [Decidable p] [Decidable q] (h : p ↔ q) : decide p = decide q := by
  by_cases hp : p
  · rw [decide_eq_true hp, decide_eq_true (h.mp hp)]
  · rw [decide_eq_false hp, decide_eq_false fun z => hp (h.mpr z)]
theorem oc_eqI {i j : Int} : OpD X (compareOp .Eq) (.int i) (.int j) (.bl (decide (i = j))) := .flat op_eq (fun _ => rfl) fun v w H hx hy Q q => by
  rw [show v = _ from hx, show w = _ from hy]
  refine ⟨rfl, ?_⟩
  rw [show decide (V.int i = V.int j) = decide (i = j) from dec_iff ⟨fun z => V.int.inj z, fun z => by rw [z]⟩]
  exact q
theorem oc_neI {i j : Int} : OpD X (compareOp .NotEq) (.int i) (.int j) (.bl (!decide (i = j))) := .flat op_ne (fun _ => rfl) fun v w H hx hy Q q => by
  rw [show v = _ from hx, show w = _ from hy]
  refine ⟨rfl, ?_⟩
  rw [show decide (V.int i = V.int j) = decide (i = j) from dec_iff ⟨fun z => V.int.inj z, fun z => by rw [z]⟩]
  exact q
theorem oc_eqS {i j : Str} : OpD X (compareOp .Eq) (.str i) (.str j) (.bl (decide (i = j))) := .flat op_eq (fun _ => rfl) fun v w H hx hy Q q => by
  rw [show v = _ from hx, show w = _ from hy]
  refine ⟨rfl, ?_⟩
  rw [show decide (V.str i = V.str j) = decide (i = j) from dec_iff ⟨fun z => V.str.inj z, fun z => by rw [z]⟩]
  exact q
theorem oc_neS {i j : Str} : OpD X (compareOp .NotEq) (.str i) (.str j) (.bl (!decide (i = j))) := .flat op_ne (fun _ => rfl) fun v w H hx hy Q q => by
  rw [show v = _ from hx, show w = _ from hy]
  refine ⟨rfl, ?_⟩
  rw [show decide (V.str i = V.str j) = decide (i = j) from dec_iff ⟨fun z => V.str.inj z, fun z => by rw [z]⟩]
  exact q
/-! ### == of data -/
mutual
def toPy : D → PyData
  | .non => .none
  | .bl b => .bool b
  | .int i => .int i
  | .str z => .str z
  | .tup ds => .tuple (toPys ds)
  | .lst ds => .list (toPys ds)
  | _ => .none
def toPys : List D → List PyData
  | [] => []
  | d :: ds => toPy d :: toPys ds
end
mutual
/-- plain data: what == takes -/
def plain : D → Bool
  | .non => true
  | .bl _ => true
  | .int _ => true
  | .str z => PyData.strOk z
  | .tup ds => plains ds
  | .lst ds => plains ds
  | _ => false
def plains : List D → Bool
  | [] => true
  | d :: ds => plain d && plains ds
end
mutual
theorem Is.dp {K : PySem.W.Frag} {H : Hp} : ∀ {d : D} {v : V}, plain d = true → Is K H d v → Dp K H v (toPy d)
  | .non, _, _, h => by rw [show _ = V.non from h]; exact .non
  | .bl b, _, _, h => by rw [show _ = V.bl b from h]; exact .bl b
  | .int i, _, _, h => by rw [show _ = V.int i from h]; exact .int i
  | .str z, _, _, h => by rw [show _ = V.str z from h]; exact .str z
  | .tup ds, _, p, h => by
    obtain ⟨a, vs, h1, h2, h3⟩ := h
    rw [h1]
    exact .tup h2 (IsL.dp p h3)
  | .lst ds, _, p, h => by
    obtain ⟨a, vs, h1, h2, h3⟩ := h
    rw [h1]
    exact .lst h2 (IsL.dp p h3)
theorem IsL.dp {K : PySem.W.Frag} {H : Hp} : ∀ {ds : List D} {vs : List V}, plains ds = true → IsL K H ds vs → DpAll K H vs (toPys ds)
  | [], _, _, h => by rw [show _ = [] from h]; exact .nil
  | d :: ds, _, p, h => by
    obtain ⟨v, r, h1, h2, h3⟩ := h
    rw [h1]
    have p' : (plain d && plains ds) = true := p
    rw [Bool.and_eq_true] at p'
    exact .cons (Is.dp p'.1 h2) (IsL.dp p'.2 h3)
end
mutual
theorem canLay_plain : ∀ {d : D}, plain d = true → (toPy d).canLay0 = true
  | .non, _ => rfl
  | .bl b, _ => rfl
  | .int i, _ => rfl
  | .str z, h => h
  | .tup ds, h => canLays_plain (ds := ds) h
  | .lst ds, h => canLays_plain (ds := ds) h
theorem canLays_plain : ∀ {ds : List D}, plains ds = true → PyData.canLayAll0 (toPys ds) = true
  | [], _ => rfl
  | d :: ds, h => by
    have p' : (plain d && plains ds) = true := h
    rw [Bool.and_eq_true] at p'
    show ((toPy d).canLay0 && PyData.canLayAll0 (toPys ds)) = true
    rw [canLay_plain p'.1, canLays_plain p'.2] <;> rfl
end
/-- plain, and at most 64 deep -/
def pyOk (d : D) : Bool := plain d && decide ((toPy d).depth ≤ 64)
theorem pyOk.shaped {d : D} (h : pyOk d = true) : SeqAt.shaped (toPy d) = true := by
  have h' : (plain d && decide ((toPy d).depth ≤ 64)) = true := h
  rw [Bool.and_eq_true] at h'
  show ((toPy d).canLay0 && decide ((toPy d).depth ≤ 64)) = true
  rw [canLay_plain h'.1, h'.2] <;> rfl
theorem pyOk.plain {d : D} (h : pyOk d = true) : Mw.plain d = true := by
  have h' : (Mw.plain d && decide ((toPy d).depth ≤ 64)) = true := h
  rw [Bool.and_eq_true] at h'
  exact h'.1
def eqD (x y : D) : Bool := PyData.eqv (toPy x) (toPy y)
theorem oc_eqD {k : Nat} (hr : Room k X.A) (hx : pyOk x = true) (hy : pyOk y = true) : OpD X (compareOp .Eq) x y (.bl (eqD x y)) := .flat (op_eqD hr.units) (fun _ => rfl) fun v w H h1 h2 Q q =>
  ⟨_, _, h1.dp (pyOk.plain hx), h2.dp (pyOk.plain hy), pyOk.shaped hx, pyOk.shaped hy, q⟩
theorem oc_neD {k : Nat} (hr : Room k X.A) (hx : pyOk x = true) (hy : pyOk y = true) : OpD X (compareOp .NotEq) x y (.bl (!eqD x y)) := .flat (op_neD hr.units) (fun _ => rfl) fun v w H h1 h2 Q q =>
  ⟨_, _, h1.dp (pyOk.plain hx), h2.dp (pyOk.plain hy), pyOk.shaped hx, pyOk.shaped hy, q⟩
/-- is None -/
def isNon : D → Bool
  | .non => true
  | _ => false
theorem Is.non {K : PySem.W.Frag} {H : Hp} : ∀ {d : D} {v : V}, Is K H d v → decide (v = V.non) = isNon d
  | .non, _, h => by rw [show _ = V.non from h]; rfl
  | .bl b, _, h => by rw [show _ = V.bl b from h]; rfl
  | .int i, _, h => by rw [show _ = V.int i from h]; rfl
  | .str z, _, h => by rw [show _ = V.str z from h]; rfl
  | .ty n, _, h => by rw [show _ = V.ty n from h]; rfl
  | .cls a, _, h => by rw [show _ = V.ref a from h]; rfl
  | .tup ds, _, h => by obtain ⟨a, vs, h1, h2, h3⟩ := h; rw [h1]; rfl
  | .lst ds, _, h => by obtain ⟨a, vs, h1, h2, h3⟩ := h; rw [h1]; rfl
  | .dct ds, _, h => by obtain ⟨a, vs, h1, h2, h3⟩ := h; rw [h1]; rfl
  | .obj C ds, _, h => by obtain ⟨a, dx, vs, h1, h2, h3⟩ := h; rw [h1]; rfl
  | .xc a dd ds, _, h => by obtain ⟨vs, h1, h2, h3⟩ := h; rw [h1]; rfl
  | .exv C ds, _, h => by obtain ⟨a, dx, vs, h1, h2, h3⟩ := h; rw [h1]; rfl
theorem oc_isN : OpD X (compareOp .Is) x .non (.bl (isNon x)) := .flat op_isN (fun _ => rfl) fun v w H h1 h2 Q q => ⟨h2, by rw [h1.non]; exact q⟩
theorem oc_notN : OpD X (compareOp .IsNot) x .non (.bl (!isNon x)) := .flat op_notN (fun _ => rfl) fun v w H h1 h2 Q q => ⟨h2, by rw [h1.non]; exact q⟩
/-! ### x in a row of flat things -/
def flatP : D → Bool
  | .non => true
  | .bl _ => true
  | .int _ => true
  | .str _ => true
  | _ => false
def toV : D → V
  | .non => .non
  | .bl b => .bl b
  | .int i => .int i
  | .str z => .str z
  | _ => .non
theorem Is.toV {K : PySem.W.Frag} {H : Hp} : ∀ {d : D} {v : V}, flatP d = true → Is K H d v → v = Mw.toV d ∧ flatV v = true
  | .non, _, _, h => by rw [show _ = V.non from h]; exact ⟨rfl, rfl⟩
  | .bl b, _, _, h => by rw [show _ = V.bl b from h]; exact ⟨rfl, rfl⟩
  | .int i, _, _, h => by rw [show _ = V.int i from h]; exact ⟨rfl, rfl⟩
  | .str z, _, _, h => by rw [show _ = V.str z from h]; exact ⟨rfl, rfl⟩
theorem IsL.toV {K : PySem.W.Frag} {H : Hp} : ∀ {ds : List D} {vs : List V}, ds.all flatP = true → IsL K H ds vs → vs = ds.map Mw.toV ∧ vs.all flatV = true
  | [], _, _, h => by rw [show _ = [] from h]; exact ⟨rfl, rfl⟩
  | d :: ds, _, p, h => by
    obtain ⟨v, r, h1, h2, h3⟩ := h
    rw [List.all_cons, Bool.and_eq_true] at p
    obtain ⟨e1, e2⟩ := Is.toV p.1 h2
    obtain ⟨e3, e4⟩ := IsL.toV p.2 h3
    rw [h1, List.all_cons, e2, e4]
    exact ⟨by rw [e1, e3]; rfl, rfl⟩
def inD (x : D) (ds : List D) : Bool := inV (toV x) (ds.map toV)
theorem oc_inT (hx : flatP x = true) (hd : ds.all flatP = true) : OpD X (compareOp .In) x (.tup ds) (.bl (inD x ds)) := .flat op_in_seq (fun _ => rfl) fun v w H h1 h2 Q q => by
  obtain ⟨a, vs, rfl, hq, hv⟩ := h2
  obtain ⟨e1, e2⟩ := h1.toV hx
  obtain ⟨e3, e4⟩ := hv.toV hd
  refine ⟨a, vs, rfl, .inr hq, e2, e4, ?_⟩
  rw [if_neg Bool.false_ne_true, e1, e3]
  exact q
theorem oc_inL (hx : flatP x = true) (hd : ds.all flatP = true) : OpD X (compareOp .In) x (.lst ds) (.bl (inD x ds)) := .flat op_in_seq (fun _ => rfl) fun v w H h1 h2 Q q => by
  obtain ⟨a, vs, rfl, hq, hv⟩ := h2
  obtain ⟨e1, e2⟩ := h1.toV hx
  obtain ⟨e3, e4⟩ := hv.toV hd
  refine ⟨a, vs, rfl, .inl hq, e2, e4, ?_⟩
  rw [if_neg Bool.false_ne_true, e1, e3]
  exact q
theorem oc_ninT (hx : flatP x = true) (hd : ds.all flatP = true) : OpD X (compareOp .NotIn) x (.tup ds) (.bl (!inD x ds)) := .flat op_notIn_seq (fun _ => rfl) fun v w H h1 h2 Q q => by
  obtain ⟨a, vs, rfl, hq, hv⟩ := h2
  obtain ⟨e1, e2⟩ := h1.toV hx
  obtain ⟨e3, e4⟩ := hv.toV hd
  refine ⟨a, vs, rfl, .inr hq, e2, e4, ?_⟩
  rw [if_pos rfl, e1, e3]
  exact q
theorem oc_ninL (hx : flatP x = true) (hd : ds.all flatP = true) : OpD X (compareOp .NotIn) x (.lst ds) (.bl (!inD x ds)) := .flat op_notIn_seq (fun _ => rfl) fun v w H h1 h2 Q q => by
  obtain ⟨a, vs, rfl, hq, hv⟩ := h2
  obtain ⟨e1, e2⟩ := h1.toV hx
  obtain ⟨e3, e4⟩ := hv.toV hd
  refine ⟨a, vs, rfl, .inl hq, e2, e4, ?_⟩
  rw [if_pos rfl, e1, e3]
  exact q
theorem oc_inS {c : Nat} {z : Str} : OpD X (compareOp .In) (.str ⟨#[c]⟩) (.str z) (.bl (decide (c ∈ z.cps.toList))) := .flat op_in_sign (fun _ => rfl) fun v w H h1 h2 Q q => ⟨c, z, h1, h2, q⟩
theorem oc_ninS {c : Nat} {z : Str} : OpD X (compareOp .NotIn) (.str ⟨#[c]⟩) (.str z) (.bl (!decide (c ∈ z.cps.toList))) := .flat op_notIn_sign (fun _ => rfl) fun v w H h1 h2 Q q => ⟨c, z, h1, h2, q⟩
/-! ### negation, subscripts -/
theorem ee_neg {i : Int} (h : EE X a as (.int i)) : EE X (.UnaryOp .USub a pos) as (.int (-i)) := .mk fun σ H0 H hs hf Q q =>
  re_of (pe_un un_neg re_pe) (h.run σ H0 H hs hf _ fun v H1 H' g iv => ⟨i, iv, q _ _ _ g rfl⟩)
theorem atI_is {K : PySem.W.Frag} {H : Hp} {ds : List D} {vs : List V} {i : Int} (h : IsL K H ds vs) (e : atI ds i = some d) : ∃ v, atI vs i = some v ∧ Is K H d v := by
  unfold atI at e ⊢
  rw [h.len]
  cases q : ixN ds.length i with
  | none => rw [q] at e; cases e
  | some j =>
    rw [q] at e
    exact h.get e
theorem ee_ixT {i : Int} (ha : EE X a as (.tup ds)) (hb : EE X b as (.int i)) (h : atI ds i = some d) (hp : PlainIx b := by exact fun _ _ => rfl) : EE X (.Subscript a b pos) as d := .mk fun σ H0 H hs hf Q q =>
  re_of (pe_ix ix_tup re_pe re_pe hp) (ha.run σ H0 H hs hf _ fun v H1 H' g iv => hb.run σ H1 H' g.sub (hf.mono g.frz) _ fun w H2 H'' g' iw => by
    obtain ⟨p, vs, rfl, hq, hv⟩ := iv
    obtain ⟨z, e1, e2⟩ := atI_is (hv.mono g'.frz) h
    exact ⟨p, vs, i, z, rfl, iw, Same.tup (g'.frz.trans g'.sub) hq, e1, q _ _ _ (g.trans g') e2⟩)
theorem ee_ixL {i : Int} (ha : EE X a as (.lst ds)) (hb : EE X b as (.int i)) (h : atI ds i = some d) (hp : PlainIx b := by exact fun _ _ => rfl) : EE X (.Subscript a b pos) as d := .mk fun σ H0 H hs hf Q q =>
  re_of (pe_ix ix_list re_pe re_pe hp) (ha.run σ H0 H hs hf _ fun v H1 H' g iv => hb.run σ H1 H' g.sub (hf.mono g.frz) _ fun w H2 H'' g' iw => by
    obtain ⟨p, vs, rfl, hq, hv⟩ := iv
    obtain ⟨z, e1, e2⟩ := atI_is (hv.mono g'.frz) h
    exact ⟨p, vs, i, z, rfl, iw, Same.lst (g'.frz.trans g'.sub) hq, e1, q _ _ _ (g.trans g') e2⟩)
theorem ee_ixS {i : Int} {z : Str} {c : Nat} (ha : EE X a as (.str z)) (hb : EE X b as (.int i)) (hz : z.length ≤ sizeLine) (h : atI z.cps.toList i = some c) (hp : PlainIx b := by exact fun _ _ => rfl) : EE X (.Subscript a b pos) as (.str ⟨#[c]⟩) := .mk fun σ H0 H hs hf Q q =>
  re_of (pe_ix ix_str re_pe re_pe hp) (ha.run σ H0 H hs hf _ fun v H1 H' g iv => hb.run σ H1 H' g.sub (hf.mono g.frz) _ fun w H2 H'' g' iw =>
    ⟨z, i, c, iv, iw, hz, h, q _ _ _ (g.trans g') rfl⟩)
/-! ### built-ins -/
theorem CaD.flat {f : Value} {r : List V → Hp → VK → Prop} {z : V} (ho : CallR X f r) (hz : ∀ H, Is X.K H d z) (hr : ∀ vs H, IsL X.K H ds vs → ∀ Q : VK, Q z H → r vs H Q) : CaD X f ds d :=
  ⟨r, ho, fun vs H0 H hs hx Q q => hr vs H (hx.mono hs) Q (q z H0 H (Grow.refl hs) (hz H0))⟩
theorem is1 {K : PySem.W.Frag} {H : Hp} {vs : List V} (h : IsL K H [x] vs) : ∃ v, vs = [v] ∧ Is K H x v := by
  obtain ⟨v, r, h1, h2, h3⟩ := h
  rw [show r = [] from h3] at h1
  exact ⟨v, h1, h2⟩
theorem is2 {K : PySem.W.Frag} {H : Hp} {vs : List V} (h : IsL K H [x, y] vs) : ∃ v w, vs = [v, w] ∧ Is K H x v ∧ Is K H y w := by
  obtain ⟨v, r, h1, h2, h3⟩ := h
  obtain ⟨w, e1, e2⟩ := is1 h3
  rw [e1] at h1
  exact ⟨v, w, h1, h2, e2⟩
theorem ca_abs {i : Int} : CaD X (.builtin "abs") [.int i] (.int (if i < 0 then -i else i)) := .flat call_abs (fun _ => rfl) fun vs H h Q q => by
  obtain ⟨v, e, h1⟩ := is1 h
  exact ⟨i, by rw [e, show v = _ from h1], q⟩
theorem ca_max2 {i j : Int} (hc : X.calm = true) : CaD X (.builtin "max") [.int i, .int j] (.int (if j > i then j else i)) := .flat (call_max2 hc) (fun _ => rfl) fun vs H h Q q => by
  obtain ⟨v, w, e, h1, h2⟩ := is2 h
  exact ⟨i, j, by rw [e, show v = _ from h1, show w = _ from h2], q⟩
theorem ca_min2 {i j : Int} (hc : X.calm = true) : CaD X (.builtin "min") [.int i, .int j] (.int (if j < i then j else i)) := .flat (call_min2 hc) (fun _ => rfl) fun vs H h Q q => by
  obtain ⟨v, w, e, h1, h2⟩ := is2 h
  exact ⟨i, j, by rw [e, show v = _ from h1, show w = _ from h2], q⟩
theorem ca_intI {i : Int} : CaD X (.type "int") [.int i] (.int i) := .flat call_int1 (fun _ => rfl) fun vs H h Q q => by
  obtain ⟨v, e, h1⟩ := is1 h
  exact .inl ⟨i, by rw [e, show v = _ from h1], q⟩
theorem ca_intB {k : Bool} : CaD X (.type "int") [.bl k] (.int (if k then 1 else 0)) := .flat call_int1 (fun _ => rfl) fun vs H h Q q => by
  obtain ⟨v, e, h1⟩ := is1 h
  exact .inr ⟨k, by rw [e, show v = _ from h1], q⟩
theorem ca_intS {z : Str} {n : Int} (hn : PySem.intText? z = some n) (hz : z.length ≤ 640) : CaD X (.type "int") [.str z] (.int n) := .flat call_int_str (fun _ => rfl) fun vs H h Q q => by
  obtain ⟨v, e, h1⟩ := is1 h
  exact ⟨z, n, by rw [e, show v = _ from h1], hn, hz, q⟩
theorem ca_strI {i : Int} (hi : i.natAbs.log2 < 1920) : CaD X (.type "str") [.int i] (.str (toString i)) := .flat call_str_int (fun _ => rfl) fun vs H h Q q => by
  obtain ⟨v, e, h1⟩ := is1 h
  exact ⟨i, by rw [e, show v = _ from h1], hi, q⟩
theorem ca_lenS {z : Str} (hz : z.length ≤ sizeLine) : CaD X (.builtin "len") [.str z] (.int (z.length : Nat)) := .flat call_len (fun _ => rfl) fun vs H h Q q => by
  obtain ⟨v, e, h1⟩ := is1 h
  exact ⟨v, z.length, e, by rw [show v = _ from h1]; exact ⟨hz, rfl⟩, q⟩
theorem ca_lenT : CaD X (.builtin "len") [.tup ds] (.int (ds.length : Nat)) := .flat call_len (fun _ => rfl) fun vs H h Q q => by
  obtain ⟨v, e, a, us, h1, h2, h3⟩ := is1 h
  exact ⟨v, ds.length, e, by rw [h1]; exact .inr ⟨us, h2, h3.len.symm⟩, q⟩
theorem ca_lenL : CaD X (.builtin "len") [.lst ds] (.int (ds.length : Nat)) := .flat call_len (fun _ => rfl) fun vs H h Q q => by
  obtain ⟨v, e, a, us, h1, h2, h3⟩ := is1 h
  exact ⟨v, ds.length, e, by rw [h1]; exact .inl ⟨us, h2, h3.len.symm⟩, q⟩
theorem ca_divmod {i j : Int} (h : CDivP i j) : CaD X (.builtin "divmod") [.int i, .int j] (.tup [.int (i / j), .int (i % j)]) :=
  ⟨_, call_divmodW, fun vs H0 H hs hx Q q => by
    obtain ⟨v, w, e, h1, h2⟩ := is2 hx
    refine ⟨i, j, by rw [e, show v = _ from h1, show w = _ from h2], h, fun p hp => ?_⟩
    exact q _ (upd H0 p _) _ (Grow.laid hs hp) ⟨p, _, rfl, SqT.of upd_same, _, _, rfl, rfl, _, _, rfl, rfl, rfl⟩⟩
/-! ### isinstance -/
def tyN : D → Option String
  | .non => some "NoneType"
  | .bl _ => some "bool"
  | .int _ => some "int"
  | .str _ => some "str"
  | .tup _ => some "tuple"
  | .lst _ => some "list"
  | .dct _ => some "dict"
  | _ => none
theorem Is.ty {K : PySem.W.Frag} {H : Hp} : ∀ {d : D} {v : V} {n : String}, tyN d = some n → Is K H d v → TyX K H v (.type n)
  | .non, _, _, e, h => by cases e; rw [show _ = V.non from h]; exact .base .non
  | .bl b, _, _, e, h => by cases e; rw [show _ = V.bl b from h]; exact .base (.bl b)
  | .int i, _, _, e, h => by cases e; rw [show _ = V.int i from h]; exact .base (.int i)
  | .str z, _, _, e, h => by cases e; rw [show _ = V.str z from h]; exact .base (.str z)
  | .tup ds, _, _, e, h => by
    cases e
    obtain ⟨a, vs, h1, h2, h3⟩ := h
    rw [h1]
    rcases h2 with (h2 | ⟨o, h2⟩) | ⟨o, its, n, h2, h4, _⟩
    · exact .base (.tup h2)
    · exact .fTuple h2
    · exact .kTuple h2 h4
  | .lst ds, _, _, e, h => by
    cases e
    obtain ⟨a, vs, h1, h2, h3⟩ := h
    rw [h1]
    rcases h2 with (h2 | ⟨o, h2⟩) | ⟨o, its, n, h2, h4, _⟩
    · exact .base (.lst h2)
    · exact .base (.frz h2)
    · exact .kList h2 h4
  | .dct ds, _, _, e, h => by
    cases e
    obtain ⟨a, vs, h1, h2, h3⟩ := h
    rw [h1]
    rcases h2 with h2 | ⟨o, h2⟩
    · exact .base (.dK h2)
    · exact .fDict h2
theorem ca_isi {n m : String} {k : Bool} (hx : tyN x = some n) (hk : kitB n m = some k) : CaD X (.builtin "isinstance") [x, .ty m] (.bl k) := .flat call_isi (fun _ => rfl) fun vs H h Q q => by
  obtain ⟨v, w, e, h1, h2⟩ := is2 h
  rw [show w = _ from h2] at e
  exact ⟨v, .ty m, _, _, k, e, .ty m, h1.ty hx, kit_ty hk, q⟩
def isThing (d : D) : Bool := (tyN d).isSome
def isTyI : D → Bool
  | .int _ => true
  | .bl _ => true
  | _ => false
def isTyB : D → Bool
  | .bl _ => true
  | _ => false
def isTyS : D → Bool
  | .str _ => true
  | _ => false
def isTyT : D → Bool
  | .tup _ => true
  | _ => false
def isTyL : D → Bool
  | .lst _ => true
  | _ => false
def isTyDc : D → Bool
  | .dct _ => true
  | _ => false
theorem ca_isI (h : isThing x = true) : CaD X (.builtin "isinstance") [x, .ty "int"] (.bl (isTyI x)) := by
  cases x with
  | non => first | exact ca_isi (k := true) rfl (by decide +kernel) | exact ca_isi (k := false) rfl (by decide +kernel)
  | bl b => first | exact ca_isi (k := true) rfl (by decide +kernel) | exact ca_isi (k := false) rfl (by decide +kernel)
  | int i => first | exact ca_isi (k := true) rfl (by decide +kernel) | exact ca_isi (k := false) rfl (by decide +kernel)
  | str z => first | exact ca_isi (k := true) rfl (by decide +kernel) | exact ca_isi (k := false) rfl (by decide +kernel)
  | tup ds => first | exact ca_isi (k := true) rfl (by decide +kernel) | exact ca_isi (k := false) rfl (by decide +kernel)
  | lst ds => first | exact ca_isi (k := true) rfl (by decide +kernel) | exact ca_isi (k := false) rfl (by decide +kernel)
  | dct ds => first | exact ca_isi (k := true) rfl (by decide +kernel) | exact ca_isi (k := false) rfl (by decide +kernel)
  | ty n => cases h
  | cls n => cases h
  | obj C fs => cases h
  | xc a dd fs => cases h
  | exv C fs => cases h
theorem ca_isB (h : isThing x = true) : CaD X (.builtin "isinstance") [x, .ty "bool"] (.bl (isTyB x)) := by
  cases x with
  | non => first | exact ca_isi (k := true) rfl (by decide +kernel) | exact ca_isi (k := false) rfl (by decide +kernel)
  | bl b => first | exact ca_isi (k := true) rfl (by decide +kernel) | exact ca_isi (k := false) rfl (by decide +kernel)
  | int i => first | exact ca_isi (k := true) rfl (by decide +kernel) | exact ca_isi (k := false) rfl (by decide +kernel)
  | str z => first | exact ca_isi (k := true) rfl (by decide +kernel) | exact ca_isi (k := false) rfl (by decide +kernel)
  | tup ds => first | exact ca_isi (k := true) rfl (by decide +kernel) | exact ca_isi (k := false) rfl (by decide +kernel)
  | lst ds => first | exact ca_isi (k := true) rfl (by decide +kernel) | exact ca_isi (k := false) rfl (by decide +kernel)
  | dct ds => first | exact ca_isi (k := true) rfl (by decide +kernel) | exact ca_isi (k := false) rfl (by decide +kernel)
  | ty n => cases h
  | cls n => cases h
  | obj C fs => cases h
  | xc a dd fs => cases h
  | exv C fs => cases h
theorem ca_isS (h : isThing x = true) : CaD X (.builtin "isinstance") [x, .ty "str"] (.bl (isTyS x)) := by
  cases x with
  | non => first | exact ca_isi (k := true) rfl (by decide +kernel) | exact ca_isi (k := false) rfl (by decide +kernel)
  | bl b => first | exact ca_isi (k := true) rfl (by decide +kernel) | exact ca_isi (k := false) rfl (by decide +kernel)
  | int i => first | exact ca_isi (k := true) rfl (by decide +kernel) | exact ca_isi (k := false) rfl (by decide +kernel)
  | str z => first | exact ca_isi (k := true) rfl (by decide +kernel) | exact ca_isi (k := false) rfl (by decide +kernel)
  | tup ds => first | exact ca_isi (k := true) rfl (by decide +kernel) | exact ca_isi (k := false) rfl (by decide +kernel)
  | lst ds => first | exact ca_isi (k := true) rfl (by decide +kernel) | exact ca_isi (k := false) rfl (by decide +kernel)
  | dct ds => first | exact ca_isi (k := true) rfl (by decide +kernel) | exact ca_isi (k := false) rfl (by decide +kernel)
  | ty n => cases h
  | cls n => cases h
  | obj C fs => cases h
  | xc a dd fs => cases h
  | exv C fs => cases h
theorem ca_isT (h : isThing x = true) : CaD X (.builtin "isinstance") [x, .ty "tuple"] (.bl (isTyT x)) := by
  cases x with
  | non => first | exact ca_isi (k := true) rfl (by decide +kernel) | exact ca_isi (k := false) rfl (by decide +kernel)
  | bl b => first | exact ca_isi (k := true) rfl (by decide +kernel) | exact ca_isi (k := false) rfl (by decide +kernel)
  | int i => first | exact ca_isi (k := true) rfl (by decide +kernel) | exact ca_isi (k := false) rfl (by decide +kernel)
  | str z => first | exact ca_isi (k := true) rfl (by decide +kernel) | exact ca_isi (k := false) rfl (by decide +kernel)
  | tup ds => first | exact ca_isi (k := true) rfl (by decide +kernel) | exact ca_isi (k := false) rfl (by decide +kernel)
  | lst ds => first | exact ca_isi (k := true) rfl (by decide +kernel) | exact ca_isi (k := false) rfl (by decide +kernel)
  | dct ds => first | exact ca_isi (k := true) rfl (by decide +kernel) | exact ca_isi (k := false) rfl (by decide +kernel)
  | ty n => cases h
  | cls n => cases h
  | obj C fs => cases h
  | xc a dd fs => cases h
  | exv C fs => cases h
theorem ca_isL (h : isThing x = true) : CaD X (.builtin "isinstance") [x, .ty "list"] (.bl (isTyL x)) := by
  cases x with
  | non => first | exact ca_isi (k := true) rfl (by decide +kernel) | exact ca_isi (k := false) rfl (by decide +kernel)
  | bl b => first | exact ca_isi (k := true) rfl (by decide +kernel) | exact ca_isi (k := false) rfl (by decide +kernel)
  | int i => first | exact ca_isi (k := true) rfl (by decide +kernel) | exact ca_isi (k := false) rfl (by decide +kernel)
  | str z => first | exact ca_isi (k := true) rfl (by decide +kernel) | exact ca_isi (k := false) rfl (by decide +kernel)
  | tup ds => first | exact ca_isi (k := true) rfl (by decide +kernel) | exact ca_isi (k := false) rfl (by decide +kernel)
  | lst ds => first | exact ca_isi (k := true) rfl (by decide +kernel) | exact ca_isi (k := false) rfl (by decide +kernel)
  | dct ds => first | exact ca_isi (k := true) rfl (by decide +kernel) | exact ca_isi (k := false) rfl (by decide +kernel)
  | ty n => cases h
  | cls n => cases h
  | obj C fs => cases h
  | xc a dd fs => cases h
  | exv C fs => cases h
theorem ca_isDc (h : isThing x = true) : CaD X (.builtin "isinstance") [x, .ty "dict"] (.bl (isTyDc x)) := by
  cases x with
  | non => first | exact ca_isi (k := true) rfl (by decide +kernel) | exact ca_isi (k := false) rfl (by decide +kernel)
  | bl b => first | exact ca_isi (k := true) rfl (by decide +kernel) | exact ca_isi (k := false) rfl (by decide +kernel)
  | int i => first | exact ca_isi (k := true) rfl (by decide +kernel) | exact ca_isi (k := false) rfl (by decide +kernel)
  | str z => first | exact ca_isi (k := true) rfl (by decide +kernel) | exact ca_isi (k := false) rfl (by decide +kernel)
  | tup ds => first | exact ca_isi (k := true) rfl (by decide +kernel) | exact ca_isi (k := false) rfl (by decide +kernel)
  | lst ds => first | exact ca_isi (k := true) rfl (by decide +kernel) | exact ca_isi (k := false) rfl (by decide +kernel)
  | dct ds => first | exact ca_isi (k := true) rfl (by decide +kernel) | exact ca_isi (k := false) rfl (by decide +kernel)
  | ty n => cases h
  | cls n => cases h
  | obj C fs => cases h
  | xc a dd fs => cases h
  | exv C fs => cases h
/-- an own class: no builtin thing is of it -/
theorem ca_isiC {n : String} {C : Addr} {k : Bool} (hx : tyN x = some n) (hk : PySem.W.kitOne X.K (.type n) (.ref C) = some k) : CaD X (.builtin "isinstance") [x, .cls C] (.bl k) := .flat call_isi (fun _ => rfl) fun vs H h Q q => by
  obtain ⟨v, w, e, h1, h2⟩ := is2 h
  rw [show w = _ from h2] at e
  exact ⟨v, .ref C, _, _, k, e, .own C, h1.ty hx, hk, q⟩
end
end Mw
set_option maxHeartbeats 4000000
namespace Mw
open PySem PySem.Spec PyProof.Rows L2
/-! ### what is known of a body's context -/
inductive At : List Str → Str → Nat → Prop
  | here {n : Str} {r : List Str} : At (n :: r) n 0
  | there {m n : Str} {r : List Str} {i : Nat} (h : At r n i) : At (m :: r) n (i + 1)
theorem At.get {N : List Str} {n : Str} {i : Nat} (h : At N n i) : N[i]? = some n := by
  induction h with
  | here => rfl
  | there _ ih => rw [List.getElem?_cons_succ]; exact ih
theorem At.mem {N : List Str} {n : Str} {i : Nat} (h : At N n i) : n ∈ N := List.mem_of_getElem? h.get
def locOk (sc : Scope) (n : Str) : Bool := (sc.names.lookup n == some .local || sc.names.lookup n == some .cell) && !(n == ("__debug__" : Str)) && !(n == ("__classdict__" : Str))
def glbOk (sc : Scope) (n : Str) : Bool := (sc.names.lookup n == some .globalImplicit) && !(n == ("__debug__" : Str)) && !(n == ("__name__" : Str))
/-- names that are read, with their slots; global names -/
structure Nms (X : Cx) (N : List Str) : Prop where
  at_ : ∀ n i, At N n i → X.N[i]? = some n ∧ Vis X.env.scope n ∧ (n == ("__debug__" : Str)) = false ∧ (n == ("__classdict__" : Str)) = false
structure Gls (X : Cx) (gs : List Str) : Prop where
  at_ : ∀ n i, At gs n i → Gl X n ∧ (n == ("__debug__" : Str)) = false ∧ n ≠ "__name__"
/-- N: all slots; L: the def's own, ahead in N; gs: globals; sc: the def's scope -/
structure Body (X : Cx) (N L gs : List Str) (k : Nat) (sc : Scope) : Prop where
  hN : X.N = N
  hsc : X.env.scope = sc
  nd : N.Nodup
  pre : N.take L.length = L
  loc : L.all (locOk sc) = true
  gl : gs.all (glbOk sc) = true
  kind : sc.kind = .function
  nofree : ∀ y ∈ sc.names, y.2 ≠ .free
  fn : ∀ n, X.fn n = true
  room : Room k X.A
  calm : X.calm = true
  pown : PassesOwn (model X.prog X.w) X.A X.env X.xe
  stk : X.stack = X.env :: X.outer
  frm : X.env.frame = some X.env.locals
section
variable {X : Cx} {N L gs : List Str} {k : Nat} {n : Str} {i j : Nat} {as : DE} {d : D} {sc : Scope}
theorem nk_beq {a b : Option NameKind} (h : (a == b) = true) : a = b := by simpa using h
theorem loc_vis {sc : Scope} (h : Loc sc n) : Vis sc n := h.elim .inl fun z => .inr (.inl z)
theorem Body.locs (B : Body X N L gs k sc) (h : At L n i) : X.N[i]? = some n ∧ Loc X.env.scope n ∧ (n == ("__debug__" : Str)) = false ∧ (n == ("__classdict__" : Str)) = false := by
  have q := List.all_eq_true.mp B.loc n h.mem
  unfold locOk at q
  simp only [Bool.and_eq_true, Bool.or_eq_true, Bool.not_eq_true'] at q
  refine ⟨?_, ?_, q.1.2, q.2⟩
  · have e := h.get
    rw [← B.pre] at e
    have hi : i < (N.take L.length).length := (List.getElem?_eq_some_iff.mp e).1
    rw [List.length_take] at hi
    rw [List.getElem?_take_of_lt (by omega)] at e
    rw [B.hN]
    exact e
  · rw [B.hsc]
    rcases q.1.1 with z | z
    · exact .inl (nk_beq z)
    · exact .inr (nk_beq z)
theorem Body.gls (B : Body X N L gs k sc) (h : At gs n i) : Gl X n ∧ (n == ("__debug__" : Str)) = false ∧ n ≠ "__name__" := by
  have q := List.all_eq_true.mp B.gl n h.mem
  unfold glbOk at q
  simp only [Bool.and_eq_true, Bool.not_eq_true'] at q
  refine ⟨?_, q.1.2, by simpa using q.2⟩
  show X.env.scope.names.lookup n = _
  rw [B.hsc]
  exact nk_beq q.1.1
theorem Body.nms (B : Body X N L gs k sc) : Nms X L := ⟨fun n i h => let ⟨a, b, c, d⟩ := B.locs h; ⟨a, loc_vis b, c, d⟩⟩
theorem Body.glb (B : Body X N L gs k sc) : Gls X gs := ⟨fun n i h => B.gls h⟩
theorem Body.ndX (B : Body X N L gs k sc) : X.N.Nodup := by rw [B.hN]; exact B.nd
theorem Body.tr (B : Body X N L gs k sc) {pn : List (Addr × Obj)} {xe : Value → Shared → Prop} (hp : PassesOwn (model X.prog X.w) X.A X.env xe) : Body (X.tr pn xe) N L gs k sc := ⟨B.hN, B.hsc, B.nd, B.pre, B.loc, B.gl, B.kind, B.nofree, B.fn, B.room, B.calm, hp, B.stk, B.frm⟩
theorem Nms.tr {pn : List (Addr × Obj)} {xe : Value → Shared → Prop} (h : Nms X L) : Nms (X.tr pn xe) L := ⟨h.at_⟩
theorem Gls.tr {pn : List (Addr × Obj)} {xe : Value → Shared → Prop} (h : Gls X gs) : Gls (X.tr pn xe) gs := ⟨h.at_⟩
theorem Nms.suite {a : Addr} {pn : List (Addr × Obj)} (h : Nms X L) : Nms (X.suite a pn) L := ⟨h.at_⟩
theorem Gls.suite {a : Addr} {pn : List (Addr × Obj)} (h : Gls X gs) : Gls (X.suite a pn) gs := ⟨h.at_⟩
end
section
variable {X : Cx} {N L gs : List Str} {k : Nat} {n : Str} {i j : Nat} {as : DE} {d x y : D} {pos p p2 p3 : Pos} {e a b : Expr} {es : List Expr} {ds : List D}
/-! ### the rules by name -/
theorem e_name (B : Nms X L) (h : At L n i) (ha : as[i]? = some (some d)) : EE X (.Name n pos) as d :=
  let ⟨h1, h2, h3, h4⟩ := B.at_ _ _ h
  ee_name i h1 h2 ha h3 h4
theorem e_ty {T : String} (B : Gls X gs) (h : At gs n i) (hm : X.mg n = none) (hb : bootBuiltins n = some (.type T)) : EE X (.Name n pos) as (.ty T) :=
  let ⟨h1, h2, h3⟩ := B.at_ _ _ h
  ee_bltn (v := .ty T) h1 hm hb rfl (fun _ => rfl) h3 h2
theorem e_cls {C : Addr} (B : Gls X gs) (h : At gs n i) (hm : X.mg n = some (.ref C)) : EE X (.Name n pos) as (.cls C) :=
  let ⟨h1, h2, h3⟩ := B.at_ _ _ h
  ee_glob (v := .ref C) h1 hm rfl (fun _ => rfl) h2
/-- a constant of the module -/
structure CstE (K : PySem.W.Frag) (mg : Str → Option Value) (n : Str) (d : D) : Prop where
  ex : ∃ (u : Value) (v : V), mg n = some u ∧ RelV v u ∧ ∀ H, Is K H d v
abbrev CstD (X : Cx) (n : Str) (d : D) : Prop := CstE X.K X.mg n d
theorem e_cst (B : Gls X gs) (c : CstD X n d) (h : At gs n i) : EE X (.Name n pos) as d := by
  obtain ⟨u, v, h1, h2, h3⟩ := c.ex
  obtain ⟨g1, g2, g3⟩ := B.at_ _ _ h
  exact ee_glob g1 h1 h2 h3 g2
theorem e_abs (B : Gls X gs) (h : At gs "abs" i) (hm : X.mg "abs" = none) {z : Int} (ha : EE X e as (.int z)) (he : starEach [e] X.env = (false, eval e X.env) :: starEach [] X.env := by rfl) : EE X (.Call (.Name "abs" p) [e] [] pos) as (.int (if z < 0 then -z else z)) :=
  let ⟨h1, h2, h3⟩ := B.at_ _ _ h
  ee_callB (ea_cons ha ea_nil he) ca_abs h1 hm boot_abs h3 h2 he rfl
theorem e_len (B : Gls X gs) (h : At gs "len" i) (hm : X.mg "len" = none) (ha : EE X e as x) (hc : CaD X (.builtin "len") [x] d) (he : starEach [e] X.env = (false, eval e X.env) :: starEach [] X.env := by rfl) : EE X (.Call (.Name "len" p) [e] [] pos) as d :=
  let ⟨h1, h2, h3⟩ := B.at_ _ _ h
  ee_callB (ea_cons ha ea_nil he) hc h1 hm boot_len h3 h2 he rfl
theorem e_divmod (B : Gls X gs) (h : At gs "divmod" i) (hm : X.mg "divmod" = none) {z w : Int} (ha : EE X a as (.int z)) (hb : EE X b as (.int w)) (hd : CDivP z w) (he : starEach [a, b] X.env = (false, eval a X.env) :: starEach [b] X.env := by rfl) (he2 : starEach [b] X.env = (false, eval b X.env) :: starEach [] X.env := by rfl)
    (hpl : (backTo pos (starEach [b] X.env)).any (·.1) = false := by rfl) : EE X (.Call (.Name "divmod" p) [a, b] [] pos) as (.tup [.int (z / w), .int (z % w)]) :=
  let ⟨h1, h2, h3⟩ := B.at_ _ _ h
  ee_callB (ea_cons ha (ea_cons hb ea_nil he2) he) (ca_divmod hd) h1 hm boot_divmod h3 h2 he hpl
theorem e_isi (B : Gls X gs) (h : At gs "isinstance" i) (hm : X.mg "isinstance" = none) (ha : EE X a as x) (hb : EE X b as y) (hc : CaD X (.builtin "isinstance") [x, y] d) (he : starEach [a, b] X.env = (false, eval a X.env) :: starEach [b] X.env := by rfl) (he2 : starEach [b] X.env = (false, eval b X.env) :: starEach [] X.env := by rfl)
    (hpl : (backTo pos (starEach [b] X.env)).any (·.1) = false := by rfl) : EE X (.Call (.Name "isinstance" p) [a, b] [] pos) as d :=
  let ⟨h1, h2, h3⟩ := B.at_ _ _ h
  ee_callB (ea_cons ha (ea_cons hb ea_nil he2) he) hc h1 hm boot_isinstance h3 h2 he hpl
theorem e_int (B : Gls X gs) (h : At gs "int" i) (hm : X.mg "int" = none) (ha : EE X e as x) (hc : CaD X (.type "int") [x] d) (he : starEach [e] X.env = (false, eval e X.env) :: starEach [] X.env := by rfl) : EE X (.Call (.Name "int" p) [e] [] pos) as d :=
  let ⟨h1, h2, h3⟩ := B.at_ _ _ h
  ee_callTy (ea_cons ha ea_nil he) hc h1 hm boot_int h3 h2 he rfl
theorem e_strc (B : Gls X gs) (h : At gs "str" i) (hm : X.mg "str" = none) (ha : EE X e as x) (hc : CaD X (.type "str") [x] d) (he : starEach [e] X.env = (false, eval e X.env) :: starEach [] X.env := by rfl) : EE X (.Call (.Name "str" p) [e] [] pos) as d :=
  let ⟨h1, h2, h3⟩ := B.at_ _ _ h
  ee_callTy (ea_cons ha ea_nil he) hc h1 hm boot_str h3 h2 he rfl
variable {f : Addr} {dds : List D} {S : FS} {k' : Nat}
theorem e_call (B : Gls X gs) (F : FnD X k' n dds S) (h : At gs n i) (hr : Room k' X.A) (ha : EA X (e :: es) as ds) (hS : S (ds ++ dds) (.ok d)) (he : starEach (e :: es) X.env = (false, eval e X.env) :: starEach es X.env := by rfl) (hpl : (backTo pos (starEach es X.env)).any (·.1) = false := by rfl) :
    EE X (.Call (.Name n p) (e :: es) [] pos) as d :=
  let ⟨h1, h2, h3⟩ := B.at_ _ _ h
  ee_call F ha hS hr h1 h2 he hpl
theorem x_call {xn : Exn} (B : Gls X gs) (F : FnD X k' n dds S) (h : At gs n i) (hr : Room k' X.A) (ha : EA X (e :: es) as ds) (hS : S (ds ++ dds) (.error xn)) (he : starEach (e :: es) X.env = (false, eval e X.env) :: starEach es X.env := by rfl) (hpl : (backTo pos (starEach es X.env)).any (·.1) = false := by rfl) :
    EX X (.Call (.Name n p) (e :: es) [] pos) as xn :=
  let ⟨h1, h2, h3⟩ := B.at_ _ _ h
  ex_call F ha hS hr h1 h2 he hpl
end
/-! ### statements by name -/
inductive SetA : AS → Nat → Sl → AS → Prop
  | here {s x : Sl} {l : AS} : SetA (s :: l) 0 x (x :: l)
  | there {s x : Sl} {l l' : AS} {i : Nat} (h : SetA l i x l') : SetA (s :: l) (i + 1) x (s :: l')
theorem SetA.eq {l l' : AS} {i : Nat} {x : Sl} (h : SetA l i x l') : l.set i x = l' := by
  induction h with
  | here => rfl
  | there _ ih => rw [List.set_cons_succ, ih]
section
variable {X : Cx} {N L gs : List Str} {k : Nat} {sc : Scope} {n m : Str} {i j : Nat} {Gs G : Hp} {as as1 as2 : AS} {F : Fin} {d x y : D} {pos p p2 p3 : Pos} {e a b : Expr} {es : List Expr} {ds : List D} {body : List Stmt}
theorem t_set (B : Body X N L gs k sc) (h : At L n i) (he : EE X e (hid as) d) (hs : swapsWith e (some (.Name n p)) pos.line X.env = pure false := by rfl) (ha : SetA as i (.fz d) as1) (q : F.nx as1) : S1 X Gs G (.Assign [.Name n p] e pos) as F :=
  let ⟨h1, h2, _, _⟩ := B.locs h
  s1_set i B.ndX h1 h2 he (by rw [ha.eq]; exact q) hs (.inl (B.fn n))
theorem t_setV (B : Body X N L gs k sc) (h : At L n i) (he : EE X e (vis as) d) (hs : swapsWith e (some (.Name n p)) pos.line X.env = pure false := by rfl) (hd : flatD d = true) (ha : SetA as i (.fz d) as1) (q : F.nx as1) : S1 X Gs G (.Assign [.Name n p] e pos) as F :=
  let ⟨h1, h2, _, _⟩ := B.locs h
  s1_setV i B.ndX h1 h2 he hd (by rw [ha.eq]; exact q) hs (.inl (B.fn n))
theorem t_setN (B : Body X N L gs k sc) (h : At L n i) (he : EN X e (hid as) d) (hs : swapsWith e (some (.Name n p)) pos.line X.env = pure false := by rfl) (ha : SetA as i (.ow d) as1) (q : F.nx as1) : S1 X Gs G (.Assign [.Name n p] e pos) as F :=
  let ⟨h1, h2, _, _⟩ := B.locs h
  s1_setN i B.ndX h1 h2 he (by rw [ha.eq]; exact q) hs (.inl (B.fn n))
/-- a statement whose expression raises -/
theorem s1_retX {xn : Exn} (h : EX X e (vis as) xn) (q : F.ex xn (frz as)) : S1 X Gs G (.Return (some e) pos) as F := by
  refine s1_frz ⟨fun σ H H0 S E ok => ?_⟩
  refine rs_of (ps_ret re_pe) ?_
  have sf := S.hid
  rw [vis_frz] at sf
  exact h.run σ H0 H S.grow.sub sf _ fun c dd H1 H' g iv => ok.ex c dd σ H' xn _ H1 g.frz (S.more g) iv q
theorem s1_exprX {xn : Exn} (h : EX X e (vis as) xn) (hs : swapsWith e none pos.line X.env = pure false := by rfl) (q : F.ex xn (frz as)) : S1 X Gs G (.Expr e pos) as F := by
  refine s1_frz ⟨fun σ H H0 S E ok => ?_⟩
  refine rs_of (ps_expr re_pe hs) ?_
  have sf := S.hid
  rw [vis_frz] at sf
  exact h.run σ H0 H S.grow.sub sf _ fun c dd H1 H' g iv => ok.ex c dd σ H' xn _ H1 g.frz (S.more g) iv q
theorem t_setX {xn : Exn} (B : Body X N L gs k sc) (hn : At L n i) (h : EX X e (vis as) xn) (hs : swapsWith e (some (.Name n p)) pos.line X.env = pure false := by rfl) (q : F.ex xn (frz as)) : S1 X Gs G (.Assign [.Name n p] e pos) as F := by
  obtain ⟨h1, h2, _, _⟩ := B.locs hn
  refine s1_frz ⟨fun σ H H0 S E ok => ?_⟩
  refine rs_of (ps_set B.ndX h1 h2 re_pe hs (.inl (B.fn n))) ?_
  have sf := S.hid
  rw [vis_frz] at sf
  exact h.run σ H0 H S.grow.sub sf _ fun c dd H1 H' g iv => ok.ex c dd σ H' xn _ H1 g.frz (S.more g) iv q
theorem s1_ifX {xn : Exn} {c : Expr} {t u : List Stmt} (h : EX X c (vis as) xn) (he : ∀ whole, isTrue c X.env whole = (do let v ← whole; standAt c.pos; holding [v] (truthy v)) := by intro _; rfl) (q : F.ex xn (frz as)) : S1 X Gs G (.If c t u pos) as F := by
  refine s1_frz ⟨fun σ H H0 S E ok => ?_⟩
  refine rs_of (ps_if (pt_val re_pe he) rss_pss rss_pss) ?_
  have sf := S.hid
  rw [vis_frz] at sf
  exact h.run σ H0 H S.grow.sub sf _ fun c dd H1 H' g iv => ok.ex c dd σ H' xn _ H1 g.frz (S.more g) iv q
/-- an own exception class without fields -/
structure ExcE (K : PySem.W.Frag) (mg : Str → Option Value) (n : Str) (C : Addr) : Prop where
  g : mg n = some (.ref C)
  x : PySem.W.excIn K C [.type "ValueError", .type "Exception", .type "BaseException", .type "object"] "ValueError.__new__" = true
  k : PySem.W.keepIn K (.ref C) = true
  b : PySem.W.subIn K (.ref C) (.type "BaseException") = some true
  t : PySem.W.typeIn K (.ref C) = some (.type "type")
abbrev ExcOk (X : Cx) (n : Str) (C : Addr) : Prop := ExcE X.K X.mg n C
theorem t_raise {C : Addr} {z : Nat} (B : Body X N L gs k sc) (hC : ExcOk X n C) (h : At gs n i) (q : F.ex ⟨C, []⟩ as) : S1 X Gs G (.Raise (some (.Call (.Name n p) [.Constant (.str m) z p2] [] p3)) none pos) as F := .mk fun σ H H0 S E ok => by
  obtain ⟨h1, h2, h3⟩ := B.gls h
  refine rs_of (ps_raise B.calm wx_takes (pmk_own PySem.F.excBase_ValueError hC.x hC.g hC.k (raises_own hC.b hC.t) h1 h2)) ?_
  exact ok.ex _ _ σ H ⟨C, []⟩ as H0 (Same.refl _) S ⟨rfl, .inl ⟨rfl, rfl⟩⟩ q
/-- a, b = e -/
theorem t_two {k2 : Nat} (B : Body X N L gs k sc) (h1 : At L n i) (h2 : At L m j) (he : EE X e (hid as) (.tup [x, y]))
    (hs : swapsWithSole [.Tuple [.Name n p, .Name m p2] k2 p3] e pos.line X.env = pure false := by rfl) (hw : swappedStores [.Tuple [.Name n p, .Name m p2] k2 p3] e X.env = pure none := by rfl) (ha1 : SetA as i (.fz x) as1) (ha2 : SetA as1 j (.fz y) as2) (q : F.nx as2) : S1 X Gs G (.Assign [.Tuple [.Name n p, .Name m p2] k2 p3] e pos) as F := .mk fun σ H H0 S E ok => by
  obtain ⟨a1, a2, _, _⟩ := B.locs h1
  obtain ⟨b1, b2, _, _⟩ := B.locs h2
  refine rs_len fun hl => rs_of (ps_asg re_pe (pg_tup B.calm (pgs_cons (pg_name B.ndX a1 a2 (.inl (B.fn n))) (pgs_cons (pg_name B.ndX b1 b2 (.inl (B.fn m))) pgs_nil))) hs hw) ?_
  refine he.run σ H0 H S.grow.sub S.hid _ fun v H1 H' g iv => ?_
  obtain ⟨a, vs, rfl, hq, hv⟩ := iv
  obtain ⟨v1, v2, e1, i1, i2⟩ := is2 hv
  subst e1
  refine ⟨a, _, rfl, Same.tup g.sub hq, rfl, v1, [v2], rfl, v2, [], rfl, rfl, ?_⟩
  have il : i < σ.length := by rw [hl]; exact (List.getElem?_eq_some_iff.mp a1).1
  have jl : j < (σ.set i (some v1)).length := by rw [List.length_set, hl]; exact (List.getElem?_eq_some_iff.mp b1).1
  exact ok.nx _ H' _ H1 g.frz (((S.more g).setF il i1).setF jl i2) (by rw [ha1.eq, ha2.eq]; exact q)
/-- for n in range(e) -/
theorem t_forR {z : Int} {e : Expr} (B : Body X N L gs k sc) (h : At L n i) (hr : At gs "range" j) (hm : X.mg "range" = none) (he : EE X e (vis as) (.int z)) (hz : -(2 ^ 62) ≤ z ∧ z < 2 ^ 62) (I : Nat → AS → Prop) (h0 : I 0 as)
    (hs : ∀ (t : Nat) as', (t : Int) < z → I t as' → ∃ as2, SetA as' i (.fz (.int t)) as2 ∧ SS X Gs G body as2 { F with nx := I (t + 1), ct := I (t + 1), bk := F.nx }) (hd : ∀ as', I z.toNat as' → F.nx as')
    (hst : starEach [e] X.env = [(false, eval e X.env)] := by rfl) (hss : ∀ x, foldedSetIterable (.Call (.Name "range" p2) [e] [] p3) X.env x = pure x := by intro _; rfl) : S1 X Gs G (.For (.Name n p) (.Call (.Name "range" p2) [e] [] p3) body [] pos) as F := .mk fun σ H H0 S E ok => by
  obtain ⟨a1, a2, _, _⟩ := B.locs h
  obtain ⟨g1, g2, g3⟩ := B.gls hr
  refine rs_of (ps_for B.pown B.calm (pi_range1 g1 hm (pa_cons re_pe pa_nil hst) hst) (pg_name B.ndX a1 a2 (.inl (B.fn n))) rss_pss hss) ?_
  refine he.run σ H H (Same.refl _) S.vis _ fun v H1 H' g iv => ?_
  subst iv
  refine ⟨z, rfl, hz.1, hz.2, for_range (lo := 0) (n := z.toNat) (fun t σ' H2 => ∃ as' H3, Same H0 H3 ∧ StH X.K Gs G σ' H2 as' H3 ∧ I t as') ⟨as, H0, Same.refl _, S.tmp g.all, h0⟩ ?_ ?_⟩
  · rintro t σ' H2 ht ⟨as', H3, q, S', it⟩
    show rss X body _ (σ'.set i (some (.int (0 + (t : Int))))) H2
    rw [Int.zero_add]
    refine rss_len fun hl2 => ?_
    obtain ⟨as2, ea, hb2⟩ := hs t as' (by omega) it
    refine hb2.run _ H2 H3 (by rw [← ea.eq]; exact S'.setF (by rw [List.length_set] at hl2; rw [hl2]; exact (List.getElem?_eq_some_iff.mp a1).1) rfl) _ ⟨fun σ4 H4 as4 H5 r S4 z => ⟨as4, H5, q.trans r, S4, z⟩, (ok.more q).rt, (ok.more q).nx, fun σ4 H4 as4 H5 r S4 z => ⟨as4, H5, q.trans r, S4, z⟩, (ok.more q).ex⟩
  · rintro σ' H2 ⟨as', H3, q, S', z⟩
    exact ok.nx σ' H2 as' H3 q S' (hd as' z)
/-- for n in range(a, b) -/
theorem t_forR2 {z w : Int} (B : Body X N L gs k sc) (h : At L n i) (hr : At gs "range" j) (hm : X.mg "range" = none) (ha : EE X a (vis as) (.int z)) (hb : EE X b (vis as) (.int w)) (hz : -(2 ^ 62) ≤ z ∧ z < 2 ^ 62 ∧ -(2 ^ 62) ≤ w ∧ w < 2 ^ 62) (I : Nat → AS → Prop) (h0 : I 0 as)
    (hs : ∀ (t : Nat) as', z + (t : Int) < w → I t as' → ∃ as2, SetA as' i (.fz (.int (z + t))) as2 ∧ SS X Gs G body as2 { F with nx := I (t + 1), ct := I (t + 1), bk := F.nx }) (hd : ∀ as', I (w - z).toNat as' → F.nx as')
    (hst : starEach [a, b] X.env = [(false, eval a X.env), (false, eval b X.env)] := by rfl) (hst2 : starEach [b] X.env = [(false, eval b X.env)] := by rfl) (hss : ∀ x, foldedSetIterable (.Call (.Name "range" p2) [a, b] [] p3) X.env x = pure x := by intro _; rfl) : S1 X Gs G (.For (.Name n p) (.Call (.Name "range" p2) [a, b] [] p3) body [] pos) as F := .mk fun σ H H0 S E ok => by
  obtain ⟨a1, a2, _, _⟩ := B.locs h
  obtain ⟨g1, g2, g3⟩ := B.gls hr
  refine rs_of (ps_for B.pown B.calm (pi_range2 g1 hm (pa_cons re_pe (pa_cons re_pe pa_nil hst2) (by rw [hst, hst2])) hst hst2) (pg_name B.ndX a1 a2 (.inl (B.fn n))) rss_pss hss) ?_
  refine ha.run σ H H (Same.refl _) S.vis _ fun v H1 H' g iv => ?_
  subst iv
  refine hb.run σ H' H' (Same.refl _) (S.tmp g.all).vis _ fun v H1 H'' g' iv => ?_
  subst iv
  refine ⟨z, w, rfl, hz, for_range (lo := z) (n := (w - z).toNat) (fun t σ' H2 => ∃ as' H3, Same H0 H3 ∧ StH X.K Gs G σ' H2 as' H3 ∧ I t as') ⟨as, H0, Same.refl _, S.tmp (g.all.trans g'.all), h0⟩ ?_ ?_⟩
  · rintro t σ' H2 ht ⟨as', H3, q, S', it⟩
    show rss X body _ (σ'.set i (some (.int (z + (t : Int))))) H2
    refine rss_len fun hl2 => ?_
    obtain ⟨as2, ea, hb2⟩ := hs t as' (by omega) it
    refine hb2.run _ H2 H3 (by rw [← ea.eq]; exact S'.setF (by rw [List.length_set] at hl2; rw [hl2]; exact (List.getElem?_eq_some_iff.mp a1).1) rfl) _ ⟨fun σ4 H4 as4 H5 r S4 z => ⟨as4, H5, q.trans r, S4, z⟩, (ok.more q).rt, (ok.more q).nx, fun σ4 H4 as4 H5 r S4 z => ⟨as4, H5, q.trans r, S4, z⟩, (ok.more q).ex⟩
  · rintro σ' H2 ⟨as', H3, q, S', z⟩
    exact ok.nx σ' H2 as' H3 q S' (hd as' z)
/-- n.append(e) -/
theorem t_append {apos cpos : Pos} (B : Body X N L gs k sc) (h : At L n i) (ha : as[i]? = some (.ow (.lst ds))) (he : EE X e (hid as) d) (hz : ds.length < sizeLine)
    (hfew : ((backTo cpos (starEach [e] X.env)).all (fun x => !x.1) && (backToKw cpos (keywordEach [] X.env)).all (fun x => x.1.isSome)
      && decide ([e].length + ([] : List Keyword).length + (if ([] : List Keyword).isEmpty then 0 else 1) < 30)) = true := by rfl)
    (hline : (apos.endLine == cpos.line) = true := by rfl) (hst : starEach [e] X.env = (false, eval e X.env) :: starEach [] X.env := by rfl) (hsw : swapsWith (.Call (.Attribute (.Name n p) "append" apos) [e] [] cpos) none pos.line X.env = pure false := by rfl) (hst0 : SetA as i (.ow (.lst (ds ++ [d]))) as1) (q : F.nx as1) :
    S1 X Gs G (.Expr (.Call (.Attribute (.Name n p) "append" apos) [e] [] cpos) pos) as F := .mk fun σ H H0 S E ok => by
  obtain ⟨a1, a2, a3, a4⟩ := B.locs h
  obtain ⟨l, s1, s2, s3, us, hu, hi⟩ := S.ow i _ ha
  refine rs_of (ps_expr (pe_bm PySem.F.plainAttrs_list PySem.F.slot_list_append PySem.F.type_list_append mt_append (pe_var a1 (loc_vis a2) a3 a4) (pa_cons re_pe pa_nil hst) rfl hfew hline hst rfl) hsw) ?_
  refine ⟨_, s1, .inl ⟨rfl, us, SqL.of hu⟩, ?_⟩
  refine he.run σ H0 H S.grow.sub S.hid _ fun v H1 H' g iv => ?_
  refine ⟨l, us, v, rfl, rfl, g.all _ _ hu, by rw [hi.len]; exact hz, ?_⟩
  exact ok.nx σ _ _ H1 g.frz ((S.more g).write (d := .lst ds) (d' := .lst (ds ++ [d])) ha s1 ⟨us ++ [v], upd_same, (hi.mono g.frz).app (.one iv)⟩) (by rw [hst0.eq]; exact q)
end
/-! ### a def -/
theorem start_get {N : List Str} {vs : List V} {i : Nat} {v : V} (h : vs[i]? = some v) : (L2.start N vs)[i]? = some (some v) := by
  unfold L2.start
  have hi : i < vs.length := (List.getElem?_eq_some_iff.mp h).1
  rw [List.getElem?_append_left (by rw [List.length_map]; exact hi), List.getElem?_map, h]
  rfl
def startA (N : List Str) (ds : List D) : AS := ds.map .fz ++ List.replicate (N.length - ds.length) .un
theorem startA_at {N : List Str} {ds : List D} {i : Nat} {s : Sl} (h : (startA N ds)[i]? = some s) : (∃ d, s = .fz d ∧ ds[i]? = some d) ∨ s = .un := by
  unfold startA at h
  by_cases hi : i < ds.length
  · rw [List.getElem?_append_left (by rw [List.length_map]; exact hi), List.getElem?_map, List.getElem?_eq_getElem hi] at h
    exact .inl ⟨ds[i], (Option.some.inj h).symm, List.getElem?_eq_getElem hi⟩
  · rw [List.getElem?_append_right (by rw [List.length_map]; omega), List.getElem?_replicate] at h
    split at h
    · exact .inr (Option.some.inj h).symm
    · cases h
section
variable {P : Program} {w : World} {K : PySem.W.Frag} {mg : Str → Option Value} {base : Heap}
/-- a def's body, checked -/
structure BodyOk (N L ps gs : List Str) (sc : Scope) : Prop where
  fs : FnScope N ps sc
  pre : N.take L.length = L
  loc : L.all (locOk sc) = true
  gl : gs.all (glbOk sc) = true
theorem fn_okD {x qual : Str} {st : Stmt} {f : Addr} {fd : FuncData} {N L ps gs : List Str} {k : Nat} {S : FS} (F : Fun K x qual st f fd) (C : BodyOk N L ps gs (defScope st)) (len : ∀ ds r, S ds r → ds.length = ps.length)
    (body : ∀ X : Cx, X.prog = P → X.w = w → X.K = K → X.mg = mg → X.base = base → Body X N L gs k (defScope st) → ∀ (Gs G : Hp) (ds : List D) (r : Except Exn D), S ds r → SS X Gs G (defBody st) (startA N ds) { nx := fun _ => r = .ok .non, rt := fun d => r = .ok d, ex := fun x _ => r = .error x }) :
    FnOk P w K mg base (L2.CX P w) (k + 1) f fd ps (spOf K S) := by
  refine F.okX C.fs (fun vs H Q E h => ?_) (fun cdv A outer s H vs Q E hr h => ?_)
  · obtain ⟨H0, ds, r, _, h1, h2, _⟩ := h
    rw [h1.len]
    exact len ds r h2
  · obtain ⟨H0, ds, r, hs, hi, hS, post⟩ := h
    refine ⟨_, rss_pss, ?_⟩
    have BX : Body (cxOf (L2.CX P w) P w K mg base N qual (defScope st) f cdv A outer s H E) N L gs k (defScope st) := ⟨rfl, rfl, C.fs.nd, C.pre, C.loc, C.gl, C.fs.kind, C.fs.nofree, fun _ => rfl, hr, rfl, passes_of rfl, rfl, rfl⟩
    refine (body _ rfl rfl rfl rfl rfl BX H0 H ds r hS).run _ H H0 ⟨Grow.refl hs, fun i d e => ?_, fun i d e => ?_, fun i j a d d' e => ?_⟩ _ ⟨fun σ' H' as' H1 _ S' z => ?_, fun v H' d H1 _ g i z => ?_, fun _ _ _ _ _ _ z => z.elim, fun _ _ _ _ _ _ z => z.elim, fun c dd σ' H' x as' H1 _ S' i z => ?_⟩
    · rcases startA_at e with ⟨d', e1, e2⟩ | e1
      · cases e1
        obtain ⟨v, q1, q2⟩ := hi.get e2
        exact ⟨v, start_get q1, q2⟩
      · cases e1
    · rcases startA_at e with ⟨d', e1, e2⟩ | e1 <;> cases e1
    · rcases startA_at e with ⟨d', e1, e2⟩ | e1 <;> cases e1
    · have z' : r = .ok .non := z
      subst z'
      exact post .non H1 H' S'.grow rfl
    · have z' : r = .ok d := z
      subst z'
      exact post v H1 H' g i
    · have z' : r = .error x := z
      subst z'
      exact wx_of (takes_of (E := E) rfl rfl rfl rfl) (post c dd H1 H' S'.grow i)
end
end Mw
set_option maxHeartbeats 4000000
namespace Mw
open PySem PySem.Spec PyProof.Rows L2
section
variable {X : Cx} {as : DE} {d d' x y : D} {a b c e : Expr} {es : List Expr} {ds : List D} {pos : Pos} {k l : Bool}
theorem len_le {n : Nat} (h : Nat.ble n 1000 = true) : n ≤ sizeLine := Nat.le_trans (Nat.le_of_ble_eq_true h) (by decide)
theorem ee_is (h : EE X e as d) (q : d = d') : EE X e as d' := q ▸ h
theorem et_is (h : ET X e as k) (q : k = l) : ET X e as l := q ▸ h
theorem ew_is (h : EW X e as k) (q : k = l) : EW X e as l := q ▸ h
theorem ew_orT (h : ET X a as true) : EW X (.BoolOp .Or (a :: b :: es) pos) as true := ew_or (l := true) h fun z => nomatch z
theorem ew_orF (h : ET X a as false) (h2 : EW X (.BoolOp .Or (b :: es) pos) as l) : EW X (.BoolOp .Or (a :: b :: es) pos) as l := ew_or h fun _ => h2
theorem ew_andT (h : ET X a as true) (h2 : EW X (.BoolOp .And (b :: es) pos) as l) : EW X (.BoolOp .And (a :: b :: es) pos) as l := ew_and h fun _ => h2
theorem ew_andF (h : ET X a as false) : EW X (.BoolOp .And (a :: b :: es) pos) as false := ew_and (l := true) h fun z => nomatch z
theorem ee_orT (h : EE X a as (.bl true)) : EE X (.BoolOp .Or (a :: b :: es) pos) as (.bl true) := ee_or (l := true) h fun z => nomatch z
theorem ee_orF (h : EE X a as (.bl false)) (h2 : EE X (.BoolOp .Or (b :: es) pos) as (.bl l)) : EE X (.BoolOp .Or (a :: b :: es) pos) as (.bl l) := ee_or h fun _ => h2
theorem ee_andT (h : EE X a as (.bl true)) (h2 : EE X (.BoolOp .And (b :: es) pos) as (.bl l)) : EE X (.BoolOp .And (a :: b :: es) pos) as (.bl l) := ee_and h fun _ => h2
theorem ee_andF (h : EE X a as (.bl false)) : EE X (.BoolOp .And (a :: b :: es) pos) as (.bl false) := ee_and (l := true) h fun z => nomatch z
/-- a chain of two comparisons -/
theorem et_chain {op op' : CmpOp} {z : D} (ha : EE X a as x) (hb : EE X b as y) (hc : EE X c as z) (ho : OpD X (compareOp op) x y (.bl k)) (ho' : OpD X (compareOp op') y z (.bl l)) (hm : lastMarks [op, op'] [b, c] = false := by with_unfolding_all rfl) :
    ET X (.Compare a [op, op'] [b, c] pos) as (k && l) := .mk fun σ H0 H hs hf Q q => by
  obtain ⟨r, ho, hr⟩ := ho
  obtain ⟨r', ho', hr'⟩ := ho'
  refine rt_of (pt_chain ho ho' re_pe re_pe re_pe hm) ?_
  refine ha.run σ H0 H hs hf _ fun v H1 H' g i1 => ?_
  refine hb.run σ H1 H' g.sub (hf.mono g.frz) _ fun w H2 H'' g' i2 => ?_
  refine hr v w H2 H'' g'.sub (i1.mono g'.frz) i2 _ fun z H3 H3' g'' i => ⟨k, i, ?_⟩
  cases k with
  | true =>
    rw [if_pos rfl]
    refine hc.run σ H3 H3' g''.sub (hf.mono ((g.frz.trans g'.frz).trans g''.frz)) _ fun u H4 H4' g4 i4 => ?_
    refine hr' w u H4 H4' g4.sub (i2.mono (g''.frz.trans g4.frz)) i4 _ fun z H5 H5' g5 i5 => ?_
    exact ⟨l, i5, q _ _ ((((g.trans g').trans g'').trans g4).trans g5)⟩
  | false =>
    rw [if_neg Bool.false_ne_true]
    exact ⟨false, rfl, q _ _ ((g.trans g').trans g'')⟩
theorem ee_chain {op op' : CmpOp} {z : D} (ha : EE X a as x) (hb : EE X b as y) (hc : EE X c as z) (ho : OpD X (compareOp op) x y (.bl k)) (ho' : OpD X (compareOp op') y z (.bl l)) (hm : lastMarks [op, op'] [b, c] = false := by with_unfolding_all rfl) :
    EE X (.Compare a [op, op'] [b, c] pos) as (.bl (k && l)) := .mk fun σ H0 H hs hf Q q => by
  obtain ⟨r, ho, hr⟩ := ho
  obtain ⟨r', ho', hr'⟩ := ho'
  refine re_of (pe_chain ho ho' re_pe re_pe re_pe hm) ?_
  refine ha.run σ H0 H hs hf _ fun v H1 H' g i1 => ?_
  refine hb.run σ H1 H' g.sub (hf.mono g.frz) _ fun w H2 H'' g' i2 => ?_
  refine hr v w H2 H'' g'.sub (i1.mono g'.frz) i2 _ fun z H3 H3' g'' i => ⟨k, i, ?_⟩
  cases k with
  | true =>
    rw [if_pos rfl]
    refine hc.run σ H3 H3' g''.sub (hf.mono ((g.frz.trans g'.frz).trans g''.frz)) _ fun u H4 H4' g4 i4 => ?_
    exact hr' w u H4 H4' g4.sub (i2.mono (g''.frz.trans g4.frz)) i4 _ fun z H5 H5' g5 i5 => q _ _ _ ((((g.trans g').trans g'').trans g4).trans g5) i5
  | false =>
    rw [if_neg Bool.false_ne_true]
    exact q _ _ _ ((g.trans g').trans g'') rfl
end
/-! ### what is walked -/
/-- the iterator J yields ds -/
structure Walks (K : PySem.W.Frag) (J : It) (H0 : Hp) (ds : List D) : Prop where
  stop : ∀ H, Same H0 H → J.stop ds.length H
  go : ∀ i H, i < ds.length → Same H0 H → J.go i H
  yld : ∀ i d H0' H x H2, ds[i]? = some d → Same H0 H0' → Same H0' H → J.yld i H x H2 → ∃ H0'', Grow H0' H H0'' H2 ∧ Is K H0'' d x
theorem Walks.mono {K : PySem.W.Frag} {J : It} {H0 H1 : Hp} {ds : List D} (w : Walks K J H0 ds) (e : Same H0 H1) : Walks K J H1 ds :=
  ⟨fun H q => w.stop H (e.trans q), fun i H h q => w.go i H h (e.trans q), fun i d H0' H x H2 a b c y => w.yld i d H0' H x H2 a (e.trans b) c y⟩
structure IW (X : Cx) (tg iter : Expr) (as : DE) (ds : List D) : Prop where
  run : ∃ wi, PI X tg iter wi ∧ ∀ (σ : L2.St) (H0 H : Hp), Same H0 H → SlF X.K H0 σ as → ∀ R : It → Hp → Prop, (∀ J H0' H', Grow H0 H H0' H' → Walks X.K J H0' ds → R J H') → wi σ H R
section
variable {X : Cx} {as : DE} {d x y : D} {tg a b c e : Expr} {es : List Expr} {ds : List D} {pos p : Pos}
theorem iw_list (h : EE X e as (.lst ds)) : IW X tg e as ds := ⟨_, pi_list re_pe, fun σ H0 H hs hf R q => h.run σ H0 H hs hf _ fun v H1 H' g iv => by
  obtain ⟨a, vs, rfl, hq, hv⟩ := iv
  have hl := hv.len
  refine ⟨a, rfl, ⟨vs, Same.lst g.sub hq⟩, q _ H1 _ g ⟨fun H2 e => ⟨vs, Same.lst e hq, by omega⟩, fun i H2 hi e => ⟨vs, vs[i]'(by omega), Same.lst e hq, List.getElem?_eq_getElem _⟩, fun i d H2 H3 x H4 hd e1 e2 hy => ?_⟩⟩
  obtain ⟨rfl, hx⟩ := hy
  obtain ⟨u, q1, q2⟩ := hv.get hd
  have e3 := hx vs (Same.lst (e1.trans e2) hq)
  rw [q1] at e3
  cases e3
  exact ⟨H2, Grow.refl e2, q2.mono e1⟩⟩
theorem iw_tup (h : EE X e as (.tup ds)) : IW X tg e as ds := ⟨_, pi_tup re_pe, fun σ H0 H hs hf R q => h.run σ H0 H hs hf _ fun v H1 H' g iv => by
  obtain ⟨a, vs, rfl, hq, hv⟩ := iv
  have hl := hv.len
  refine ⟨a, rfl, ⟨vs, Same.tup g.sub hq⟩, q _ H1 _ g ⟨fun H2 e => ⟨vs, Same.tup e hq, by omega⟩, fun i H2 hi e => ⟨vs, vs[i]'(by omega), Same.tup e hq, List.getElem?_eq_getElem _⟩, fun i d H2 H3 x H4 hd e1 e2 hy => ?_⟩⟩
  obtain ⟨rfl, hx⟩ := hy
  obtain ⟨u, q1, q2⟩ := hv.get hd
  have e3 := hx vs (Same.tup (e1.trans e2) hq)
  rw [q1] at e3
  cases e3
  exact ⟨H2, Grow.refl e2, q2.mono e1⟩⟩
theorem walks_range {K : PySem.W.Frag} {H0 : Hp} {lo : Int} {n : Nat} : Walks K (Itr lo n) H0 ((List.range n).map fun i => D.int (lo + (i : Nat))) := by
  refine ⟨fun H _ => ?_, fun i H hi _ => ?_, fun i d H2 H3 x H4 hd e1 e2 hy => ?_⟩
  · show n ≤ _
    simp
  · show i < n
    simpa using hi
  · obtain ⟨rfl, rfl⟩ := hy
    refine ⟨H2, Grow.refl e2, ?_⟩
    rw [List.getElem?_map] at hd
    cases z : (List.range n)[i]? with
    | none => rw [z] at hd; cases hd
    | some j =>
      rw [z] at hd
      have hi : i < n := by
        have := (List.getElem?_eq_some_iff.mp z).1
        simpa using this
      rw [List.getElem?_range hi] at z
      cases z
      cases hd
      exact rfl
theorem iw_range1 {gs : List Str} {j : Nat} {z : Int} {p2 : Pos} (B : Gls X gs) (hr : At gs "range" j) (hm : X.mg "range" = none) (he : EE X e as (.int z)) (hz : -(2 ^ 62) ≤ z ∧ z < 2 ^ 62) (hst : starEach [e] X.env = [(false, eval e X.env)] := by rfl) :
    IW X tg (.Call (.Name "range" p) [e] [] p2) as ((List.range z.toNat).map fun i => D.int (0 + (i : Nat))) := ⟨_, pi_range1 (B.at_ _ _ hr).1 hm (pa_cons re_pe pa_nil hst) hst, fun σ H0 H hs hf R q => he.run σ H0 H hs hf _ fun v H1 H' g iv => by
  subst iv
  exact ⟨z, rfl, hz.1, hz.2, q _ H1 _ g walks_range⟩⟩
theorem iw_range2 {gs : List Str} {j : Nat} {z w : Int} {p2 : Pos} (B : Gls X gs) (hr : At gs "range" j) (hm : X.mg "range" = none) (ha : EE X a as (.int z)) (hb : EE X b as (.int w)) (hz : -(2 ^ 62) ≤ z ∧ z < 2 ^ 62 ∧ -(2 ^ 62) ≤ w ∧ w < 2 ^ 62)
    (hst : starEach [a, b] X.env = [(false, eval a X.env), (false, eval b X.env)] := by rfl) (hst2 : starEach [b] X.env = [(false, eval b X.env)] := by rfl) :
    IW X tg (.Call (.Name "range" p) [a, b] [] p2) as ((List.range (w - z).toNat).map fun i => D.int (z + (i : Nat))) := ⟨_, pi_range2 (B.at_ _ _ hr).1 hm (pa_cons re_pe (pa_cons re_pe pa_nil hst2) (by rw [hst, hst2])) hst hst2, fun σ H0 H hs hf R q => ha.run σ H0 H hs hf _ fun v H1 H' g iv => by
  subst iv
  refine hb.run σ H1 H' g.sub (hf.mono g.frz) _ fun v H2 H'' g' iv => ?_
  subst iv
  exact ⟨z, w, rfl, hz, q _ H2 _ (g.trans g') walks_range⟩⟩
end
/-! ### targets -/
def rg (X : Cx) (tg : Expr) : TG := fun v σ H Q => ∀ (pins : List (Addr × Obj)) (s : Shared) (u : Value), Inv X pins σ H s → RelV v u → wpAny (model X.prog X.w) X.A (assign tg X.env u) (fun _ s' => ∃ σ' H', Inv X pins σ' H' s' ∧ Q σ' H') X.xe s
theorem rg_pg {X : Cx} {tg : Expr} : PG X tg (rg X tg) := ⟨fun pins s σ H v u Q I r h => h pins s u I r⟩
theorem rg_of {X : Cx} {tg : Expr} {t : TG} {v : V} {σ : L2.St} {H : Hp} {Q : L2.St → Hp → Prop} (h : PG X tg t) (q : t v σ H Q) : rg X tg v σ H Q := fun pins s u I r => h.run pins s σ H v u Q I r q
/-- stores that a target makes: slots with data -/
abbrev Sto := List (Nat × D)
def stoS : Sto → AS → AS
  | [], as => as
  | (i, d) :: r, as => stoS r (as.set i (.fz d))
def stoE : Sto → DE → DE
  | [], as => as
  | (i, d) :: r, as => stoE r (as.set i (some d))
def stoV : List (Nat × V) → L2.St → L2.St
  | [], σ => σ
  | (i, v) :: r, σ => stoV r (σ.set i (some v))
/-- the target tg, given d, stores w -/
structure TgD (X : Cx) (tg : Expr) (d : D) (w : Sto) : Prop where
  run : ∀ (σ : L2.St) (H0 H : Hp) (v : V), Same H0 H → Is X.K H0 d v → ∀ Q : L2.St → Hp → Prop, (∀ vs : List (Nat × V), Paired (fun (a : Nat × D) (b : Nat × V) => a.1 = b.1 ∧ a.1 < X.N.length ∧ Is X.K H0 a.2 b.2) w vs → Q (stoV vs σ) H) → rg X tg v σ H Q
section
variable {X : Cx} {N L gs : List Str} {k : Nat} {sc : Scope} {n m o : Str} {i j l : Nat} {d x y z : D} {p p2 p3 p4 : Pos}
theorem tg_name' (hN : X.N.Nodup) (hi : X.N[i]? = some n) (hx : Loc X.env.scope n) (hf : X.fn n = true ∨ X.env.scope.names.lookup n = some .local) : TgD X (.Name n p) d [(i, d)] := .mk fun σ H0 H v hs iv Q q =>
  rg_of (pg_name hN hi hx hf) (q [(i, v)] (.cons ⟨rfl, (List.getElem?_eq_some_iff.mp hi).1, iv⟩ .nil))
theorem tg_two' {k2 : Nat} (hc : X.calm = true) (hN : X.N.Nodup) (hi : X.N[i]? = some n) (hx : Loc X.env.scope n) (hf : X.fn n = true ∨ X.env.scope.names.lookup n = some .local) (hi2 : X.N[j]? = some m) (hx2 : Loc X.env.scope m) (hf2 : X.fn m = true ∨ X.env.scope.names.lookup m = some .local) :
    TgD X (.Tuple [.Name n p, .Name m p2] k2 p3) (.tup [x, y]) [(i, x), (j, y)] := .mk fun σ H0 H v hs iv Q q => by
  refine rg_of (pg_tup hc (pgs_cons (pg_name hN hi hx hf) (pgs_cons (pg_name hN hi2 hx2 hf2) pgs_nil))) ?_
  obtain ⟨a, vs, rfl, hq, hv⟩ := iv
  obtain ⟨v1, v2, e1, i1, i2⟩ := is2 hv
  subst e1
  exact ⟨a, _, rfl, Same.tup hs hq, rfl, v1, [v2], rfl, v2, [], rfl, rfl, q [(i, v1), (j, v2)] (.cons ⟨rfl, (List.getElem?_eq_some_iff.mp hi).1, i1⟩ (.cons ⟨rfl, (List.getElem?_eq_some_iff.mp hi2).1, i2⟩ .nil))⟩
theorem is3 {K : PySem.W.Frag} {H : Hp} {vs : List V} (h : IsL K H [x, y, z] vs) : ∃ v w u, vs = [v, w, u] ∧ Is K H x v ∧ Is K H y w ∧ Is K H z u := by
  obtain ⟨v, r, h1, h2, h3⟩ := h
  obtain ⟨w, u, e1, e2, e3⟩ := is2 h3
  rw [e1] at h1
  exact ⟨v, w, u, h1, h2, e2, e3⟩
theorem tg_three' {k2 : Nat} (hc : X.calm = true) (hN : X.N.Nodup) (hi : X.N[i]? = some n) (hx : Loc X.env.scope n) (hf : X.fn n = true ∨ X.env.scope.names.lookup n = some .local) (hi2 : X.N[j]? = some m) (hx2 : Loc X.env.scope m) (hf2 : X.fn m = true ∨ X.env.scope.names.lookup m = some .local)
    (hi3 : X.N[l]? = some o) (hx3 : Loc X.env.scope o) (hf3 : X.fn o = true ∨ X.env.scope.names.lookup o = some .local) :
    TgD X (.Tuple [.Name n p, .Name m p2, .Name o p4] k2 p3) (.tup [x, y, z]) [(i, x), (j, y), (l, z)] := .mk fun σ H0 H v hs iv Q q => by
  refine rg_of (pg_tup hc (pgs_cons (pg_name hN hi hx hf) (pgs_cons (pg_name hN hi2 hx2 hf2) (pgs_cons (pg_name hN hi3 hx3 hf3) pgs_nil)))) ?_
  obtain ⟨a, vs, rfl, hq, hv⟩ := iv
  obtain ⟨v1, v2, v3, e1, i1, i2, i3⟩ := is3 hv
  subst e1
  exact ⟨a, _, rfl, Same.tup hs hq, rfl, v1, [v2, v3], rfl, v2, [v3], rfl, v3, [], rfl, rfl, q [(i, v1), (j, v2), (l, v3)] (.cons ⟨rfl, (List.getElem?_eq_some_iff.mp hi).1, i1⟩ (.cons ⟨rfl, (List.getElem?_eq_some_iff.mp hi2).1, i2⟩ (.cons ⟨rfl, (List.getElem?_eq_some_iff.mp hi3).1, i3⟩ .nil)))⟩
theorem tg_name (B : Body X N L gs k sc) (h : At L n i) : TgD X (.Name n p) d [(i, d)] :=
  let ⟨h1, h2, _, _⟩ := B.locs h
  tg_name' B.ndX h1 h2 (.inl (B.fn n))
theorem tg_two {k2 : Nat} (B : Body X N L gs k sc) (h : At L n i) (h' : At L m j) : TgD X (.Tuple [.Name n p, .Name m p2] k2 p3) (.tup [x, y]) [(i, x), (j, y)] :=
  let ⟨h1, h2, _, _⟩ := B.locs h
  let ⟨g1, g2, _, _⟩ := B.locs h'
  tg_two' B.calm B.ndX h1 h2 (.inl (B.fn n)) g1 g2 (.inl (B.fn m))
theorem tg_three {k2 : Nat} (B : Body X N L gs k sc) (h : At L n i) (h' : At L m j) (h'' : At L o l) : TgD X (.Tuple [.Name n p, .Name m p2, .Name o p4] k2 p3) (.tup [x, y, z]) [(i, x), (j, y), (l, z)] :=
  let ⟨h1, h2, _, _⟩ := B.locs h
  let ⟨g1, g2, _, _⟩ := B.locs h'
  let ⟨f1, f2, _, _⟩ := B.locs h''
  tg_three' B.calm B.ndX h1 h2 (.inl (B.fn n)) g1 g2 (.inl (B.fn m)) f1 f2 (.inl (B.fn o))
end
theorem stoV_len : ∀ (vs : List (Nat × V)) (σ : L2.St), (stoV vs σ).length = σ.length
  | [], σ => rfl
  | (i, v) :: r, σ => by
    show (stoV r _).length = _
    rw [stoV_len r, List.length_set]
theorem StH.sto {K : PySem.W.Frag} {Gs G : Hp} {H H0 : Hp} {n : Nat} : ∀ {w : Sto} {vs : List (Nat × V)} {σ : L2.St} {as : AS}, StH K Gs G σ H as H0 → σ.length = n → Paired (fun (a : Nat × D) (b : Nat × V) => a.1 = b.1 ∧ a.1 < n ∧ Is K H0 a.2 b.2) w vs → StH K Gs G (stoV vs σ) H (stoS w as) H0
  | [], _, _, _, S, _, .nil => S
  | (i, d) :: w, _, σ, as, S, hn, .cons (b := (j, v)) ⟨e, h1, h2⟩ t => by
    have e' : i = j := e
    subst e'
    exact StH.sto (σ := σ.set i (some v)) (as := as.set i (.fz d)) (S.setF (by rw [hn]; exact h1) h2) (by rw [List.length_set]; exact hn) t
/-! ### for -/
section
variable {X : Cx} {N L gs : List Str} {k : Nat} {sc : Scope} {Gs G : Hp} {as : AS} {F : Fin} {tg iter : Expr} {body : List Stmt} {ds : List D} {pos : Pos}
theorem t_for (B : Body X N L gs k sc) (w : D → Sto) (hw : IW X tg iter (hid as) ds) (I : Nat → AS → Prop) (h0 : I 0 as) (ht : ∀ (j : Nat) (d : D), ds[j]? = some d → TgD X tg d (w d))
    (hs : ∀ (j : Nat) (d : D) (as' : AS), ds[j]? = some d → I j as' → SS X Gs G body (stoS (w d) as') { F with nx := I (j + 1), ct := I (j + 1), bk := F.nx }) (hd : ∀ as', I ds.length as' → F.nx as')
    (hss : ∀ x, foldedSetIterable iter X.env x = pure x := by intro _; rfl) : S1 X Gs G (.For tg iter body [] pos) as F := .mk fun σ H H0 S E ok => by
  obtain ⟨wi, hpi, hwi⟩ := hw.run
  refine rs_of (ps_for B.pown B.calm hpi rg_pg rss_pss hss) ?_
  refine hwi σ H0 H S.grow.sub S.hid _ fun J H1 H' g wk => ?_
  refine ⟨fun i m σ' H2 => m = ds.length - i ∧ i ≤ ds.length ∧ ∃ as' H3, Same H1 H3 ∧ StH X.K Gs G σ' H2 as' H3 ∧ I i as', ⟨ds.length, by simp, Nat.zero_le _, as, H1, Same.refl _, S.more g, h0⟩, ?_⟩
  rintro i m σ' H2 ⟨rfl, hi, as', H3, q, S', ij⟩
  by_cases hlt : i < ds.length
  · refine .inr ⟨wk.go i H2 hlt (q.trans S'.grow.sub), fun σ4 H4 => ∃ as4 H5, Same H1 H5 ∧ StH X.K Gs G σ4 H4 as4 H5 ∧ I (i + 1) as4, fun σ4 H4 ⟨as4, H5, a1, a2, a3⟩ => ⟨ds.length - (i + 1), by omega, rfl, hlt, as4, H5, a1, a2, a3⟩, fun x H4 hy => ?_⟩
    have hd' : ds[i]? = some ds[i] := List.getElem?_eq_getElem hlt
    obtain ⟨H5, g5, i5⟩ := wk.yld i ds[i] H3 H2 x H4 hd' q S'.grow.sub hy
    have S5 := S'.more g5
    refine (ht i ds[i] hd').run σ' H5 H4 x g5.sub i5 _ fun vs hp => ?_
    refine rss_len fun hl => ?_
    rw [stoV_len] at hl
    refine (hs i ds[i] as' hd' ij).run _ H4 H5 (S5.sto hl hp) _ ⟨fun σ6 H6 as6 H7 r S6 z => ⟨as6, H7, (q.trans g5.frz).trans r, S6, z⟩, (ok.more (g.frz.trans (q.trans g5.frz))).rt, (ok.more (g.frz.trans (q.trans g5.frz))).nx, fun σ6 H6 as6 H7 r S6 z => ⟨as6, H7, (q.trans g5.frz).trans r, S6, z⟩, (ok.more (g.frz.trans (q.trans g5.frz))).ex⟩
  · have e : i = ds.length := by omega
    subst e
    exact .inl ⟨wk.stop H2 (q.trans S'.grow.sub), ok.nx σ' H2 as' H3 (g.frz.trans q) S' (hd as' ij)⟩
end
/-! ### comprehensions -/
theorem lookup_rel_free {g : Str × NameKind → Str × NameKind} (hg : ∀ q, (g q).1 = q.1 ∧ (q.2 = .free → (g q).2 = .free ∨ (g q).2 = .cell)) : ∀ {names : List (Str × NameKind)} {x : Str}, names.lookup x = some .free → (names.map g).lookup x = some .free ∨ (names.map g).lookup x = some .cell
  | [], x, h => by cases h
  | (n, k) :: r, x, h => by
    rw [List.map_cons]
    obtain ⟨g1, g2⟩ := hg (n, k)
    have eg : g (n, k) = (n, (g (n, k)).2) := Prod.ext g1 rfl
    rw [eg]
    rw [List.lookup_cons] at h
    rw [List.lookup_cons]
    cases hx : x == n with
    | true =>
      rw [hx] at h
      have e : k = .free := Option.some.inj h
      rcases g2 e with z | z
      · exact .inl (congrArg some z)
      · exact .inr (congrArg some z)
    | false =>
      rw [hx] at h
      exact lookup_rel_free hg h
def visB (scope : Scope) (n : Str) : Bool := (scope.names.lookup n == some .local || scope.names.lookup n == some .free) && !(n == ("__debug__" : Str)) && !(n == ("__classdict__" : Str))
/-- N': N, none for what the block does not see -/
def seesB (scope : Scope) (N : List Str) (N' : List (Option Str)) : Bool := (N'.zip N).all fun q => match q.1 with | none => true | some n => n == q.2 && visB scope n
inductive AtB : List (Option Str) → Str → Nat → Prop
  | here {n : Str} {r : List (Option Str)} : AtB (some n :: r) n 0
  | there {m : Option Str} {n : Str} {r : List (Option Str)} {i : Nat} (h : AtB r n i) : AtB (m :: r) n (i + 1)
theorem AtB.get {N : List (Option Str)} {n : Str} {i : Nat} (h : AtB N n i) : N[i]? = some (some n) := by
  induction h with
  | here => rfl
  | there _ ih => rw [List.getElem?_cons_succ]; exact ih
structure NmsB (X : Cx) (N : List (Option Str)) : Prop where
  at_ : ∀ n i, AtB N n i → X.N[i]? = some n ∧ Vis X.env.scope n ∧ (n == ("__debug__" : Str)) = false ∧ (n == ("__classdict__" : Str)) = false
theorem e_nameB {X : Cx} {L : List (Option Str)} {n : Str} {i : Nat} {as : DE} {d : D} {pos : Pos} (B : NmsB X L) (h : AtB L n i) (ha : as[i]? = some (some d)) : EE X (.Name n pos) as d :=
  let ⟨h1, h2, h3, h4⟩ := B.at_ _ _ h
  ee_name i h1 h2 ha h3 h4
section
variable {X : Cx} {N L gs : List Str} {k : Nat} {sc : Scope} {scope : Scope} {cl : List (Str × Addr)} {C : Addr} {s : Shared} {H : Hp} {fp : List Addr}
theorem blk_vis {n : Str} (h : visB scope n = true) : Vis (X.blk s H scope (compEnvC scope cl C X.env) fp).env.scope n := by
  unfold visB at h
  simp only [Bool.and_eq_true, Bool.or_eq_true] at h
  rcases h.1.1 with z | z
  · exact .inl (lookup_relabel_local (nk_beq z))
  · have q := lookup_rel_free (g := fun q => if (q.2 == NameKind.free && X.env.scope.kind == .function && X.env.kindOf q.1 == some .cell) then (q.1, NameKind.cell) else (q.1, q.2)) (fun q => ⟨by split <;> rfl, fun e => by split <;> first | exact .inr rfl | exact .inl e⟩) (nk_beq z)
    rcases q with q | q
    · exact .inr (.inr q)
    · exact .inr (.inl q)
theorem blk_nms {N' : List (Option Str)} (B : Body X N L gs k sc) (hl : N'.length ≤ N.length) (h : seesB scope N N' = true) : NmsB (X.blk s H scope (compEnvC scope cl C X.env) fp) N' := .mk fun n i ha => by
  have e := ha.get
  have hi : i < N'.length := (List.getElem?_eq_some_iff.mp e).1
  have hz : (N'.zip N)[i]? = some (some n, N[i]'(by omega)) := by
    rw [List.getElem?_zip_eq_some]
    exact ⟨e, List.getElem?_eq_getElem _⟩
  have q : (n == N[i]'(by omega) && visB scope n) = true := List.all_eq_true.mp h _ (List.mem_of_getElem? hz)
  rw [Bool.and_eq_true] at q
  obtain ⟨q1, q2⟩ := q
  have e1 : n = N[i]'(by omega) := by simpa using q1
  refine ⟨?_, blk_vis q2, ?_⟩
  · show X.N[i]? = some n
    rw [B.hN, List.getElem?_eq_getElem (by omega), ← e1]
  · unfold visB at q2
    simp only [Bool.and_eq_true, Bool.not_eq_true'] at q2
    exact ⟨q2.1.2, q2.2⟩
theorem blk_gls {gs' : List Str} (h : gs'.all (glbOk scope) = true) : Gls (X.blk s H scope (compEnvC scope cl C X.env) fp) gs' := .mk fun n i ha => by
  have q := List.all_eq_true.mp h n ha.mem
  unfold glbOk at q
  simp only [Bool.and_eq_true, Bool.not_eq_true'] at q
  refine ⟨?_, q.1.2, by simpa using q.2⟩
  exact lookup_relS_keep (sc := X.env.scope) (by decide) (nk_beq q.1.1)
end
theorem rs_lenE {X : Cx} {e : Expr} {σ : L2.St} {H : Hp} {Q : VK} (h : σ.length = X.N.length → re X e σ H Q) : re X e σ H Q := fun pins s I => h I.len pins s I
/-- tests of a clause -/
structure ETs (X : Cx) (ifs : List Expr) (as : DE) (b : Bool) : Prop where
  run : ∀ (σ : L2.St) (H0 H : Hp), Same H0 H → SlF X.K H0 σ as → ∀ Q : Bool → Hp → Prop, (∀ H0' H', Grow H0 H H0' H' → Q b H') → ∀ (pins : List (Addr × Obj)) (s : Shared), Inv X pins σ H s →
    wpAny (model X.prog X.w) X.A (forIn ifs true fun c r => if r = true then do let ok ← isTrue c X.env (eval c X.env); pure (ForInStep.yield ok) else pure (ForInStep.yield r)) (TP X pins σ Q) X.xe s
theorem ets_nil {X : Cx} {as : DE} : ETs X [] as true := .mk fun σ H0 H hs hf Q q pins s I => pts_nil.run pins s σ H Q I (q H0 H (Grow.refl hs))
theorem ets_one {X : Cx} {c : Expr} {as : DE} {b : Bool} (h : ET X c as b) : ETs X [c] as b := .mk fun σ H0 H hs hf Q q pins s I => (pts_one rt_pt).run pins s σ H Q I (h.run σ H0 H hs hf Q q)
def rts (X : Cx) (ifs : List Expr) : TT := fun σ H Q => ∀ (pins : List (Addr × Obj)) (s : Shared), Inv X pins σ H s → wpAny (model X.prog X.w) X.A (forIn ifs true fun c r => if r = true then do let ok ← isTrue c X.env (eval c X.env); pure (ForInStep.yield ok) else pure (ForInStep.yield r)) (TP X pins σ Q) X.xe s
/-- wiping the block's own slots -/
def wipeE : DE → List Nat → DE
  | as, [] => as
  | as, v :: vs => (wipeE as vs).set v none
theorem SlF.wipe {K : PySem.W.Frag} {H0 : Hp} {σ : L2.St} {as : DE} (h : SlF K H0 σ as) : ∀ vs : List Nat, SlF K H0 (L2.wipe σ vs) (wipeE as vs)
  | [] => h
  | v :: vs => fun i d e => by
    have ih := SlF.wipe h vs
    have e' : ((wipeE as vs).set v none)[i]? = some (some d) := e
    rcases (set_at e') with ⟨_, q⟩ | ⟨n, q⟩
    · cases q
    · obtain ⟨u, h1, h2⟩ := ih i d q
      exact ⟨u, by show ((L2.wipe σ vs).set v none)[i]? = _; rw [List.getElem?_set_ne n]; exact h1, h2⟩
theorem SlF.sto {K : PySem.W.Frag} {H0 : Hp} {n : Nat} : ∀ {w : Sto} {vs : List (Nat × V)} {σ : L2.St} {as : DE}, SlF K H0 σ as → σ.length = n → Paired (fun (a : Nat × D) (b : Nat × V) => a.1 = b.1 ∧ a.1 < n ∧ Is K H0 a.2 b.2) w vs → SlF K H0 (stoV vs σ) (stoE w as)
  | [], _, _, _, S, _, .nil => S
  | (i, d) :: w, _, σ, as, S, hn, .cons (b := (j, v)) ⟨e, h1, h2⟩ t => by
    have e' : i = j := e
    subst e'
    refine SlF.sto (σ := σ.set i (some v)) (as := as.set i (some d)) (fun l d' q => ?_) (by rw [List.length_set]; exact hn) t
    rcases set_at q with ⟨e1, q1⟩ | ⟨m, q1⟩
    · cases q1
      subst e1
      exact ⟨v, List.getElem?_set_self (by rw [hn]; exact h1), h2⟩
    · obtain ⟨u, a, b⟩ := S l d' q1
      exact ⟨u, by rw [List.getElem?_set_ne m]; exact a, b⟩
theorem wipe_set {v : Nat} {x : Option V} : ∀ {vs : List Nat} {σ : L2.St}, v ∈ vs → wipe (σ.set v x) vs = wipe σ vs
  | [], σ, h => by cases h
  | u :: vs, σ, h => by
    show (wipe (σ.set v x) vs).set u none = (wipe σ vs).set u none
    by_cases e : v ∈ vs
    · rw [wipe_set e]
    · have e' : v = u := by
        rcases List.mem_cons.mp h with z | z
        · exact z
        · exact absurd z e
      subst e'
      rw [wipe_out_set e, List.set_set]
where
  wipe_out_set {v : Nat} {x : Option V} : ∀ {vs : List Nat} {σ : L2.St}, v ∉ vs → wipe (σ.set v x) vs = (wipe σ vs).set v x
  | [], σ, _ => rfl
  | u :: vs, σ, h => by
    show (wipe (σ.set v x) vs).set u none = ((wipe σ vs).set u none).set v x
    rw [wipe_out_set (fun z => h (List.mem_cons_of_mem _ z)), List.set_comm]
    exact fun z => h (by rw [z]; exact List.mem_cons_self)
theorem wipe_sto : ∀ {ws : List (Nat × V)} {vs : List Nat} {σ : L2.St}, (∀ q ∈ ws, q.1 ∈ vs) → wipe (stoV ws σ) vs = wipe σ vs
  | [], vs, σ, _ => rfl
  | (i, v) :: r, vs, σ, h => by
    show wipe (stoV r (σ.set i (some v))) vs = _
    rw [wipe_sto fun q hq => h q (List.mem_cons_of_mem _ hq), wipe_set (h (i, v) List.mem_cons_self)]
theorem wipe_wipe : ∀ {vs us : List Nat} {σ : L2.St}, (∀ v ∈ vs, v ∈ us) → wipe (wipe σ vs) us = wipe σ us
  | [], us, σ, _ => rfl
  | v :: vs, us, σ, h => by
    show wipe ((wipe σ vs).set v none) us = _
    rw [wipe_set (h v List.mem_cons_self), wipe_wipe fun x hx => h x (List.mem_cons_of_mem _ hx)]
theorem paired_mem {α β : Type} {F : α → β → Prop} : ∀ {l : List α} {m : List β}, Paired F l m → ∀ b ∈ m, ∃ a ∈ l, F a b
  | _, _, .nil, _, h => nomatch h
  | _, _, .cons r t, b, h => by
    rcases List.mem_cons.mp h with z | z
    · subst z
      exact ⟨_, List.mem_cons_self, r⟩
    · obtain ⟨a, h1, h2⟩ := paired_mem t b z
      exact ⟨a, List.mem_cons_of_mem _ h1, h2⟩
section
variable {X : Cx} {N L gs : List Str} {k : Nat} {sc : Scope} {scope : Scope} {as : DE} {tg iter elt : Expr} {ifs : List Expr} {ds : List D} {pos : Pos}
/-- what a comprehension makes -/
theorem en_lc (own : List (Str × Nat)) (N' : List (Option Str)) (gs' : List Str) (w : D → Sto) (f : D → D) (pr : D → Bool) (B : Body X N L gs k sc) (hw : IW X tg iter as ds)
    (hok : blkC N sc scope own = true) (hN' : (decide (N'.length ≤ N.length) && seesB scope N N' && gs'.all (glbOk scope)) = true) (hz : ds.length < sizeLine) (how : ∀ (j : Nat) (d : D), ds[j]? = some d → ∀ q ∈ w d, q.1 ∈ own.map (·.2))
    (ht : ∀ (s : Shared) (H : Hp) (cl : List (Str × Addr)) (C : Addr) (fp : List Addr), NmsB (X.blk s H scope (compEnvC scope cl C X.env) fp) N' → ∀ (j : Nat) (d : D), ds[j]? = some d → TgD (X.blk s H scope (compEnvC scope cl C X.env) fp) tg d (w d))
    (hb : ∀ (s : Shared) (H : Hp) (cl : List (Str × Addr)) (C : Addr) (fp : List Addr), NmsB (X.blk s H scope (compEnvC scope cl C X.env) fp) N' → Gls (X.blk s H scope (compEnvC scope cl C X.env) fp) gs' → ∀ (j : Nat) (d : D), ds[j]? = some d →
      ETs (X.blk s H scope (compEnvC scope cl C X.env) fp) ifs (stoE (w d) (wipeE as (own.map (·.2)))) (pr d) ∧ (pr d = true → EE (X.blk s H scope (compEnvC scope cl C X.env) fp) elt (stoE (w d) (wipeE as (own.map (·.2)))) (f d)))
    (hss : ∀ x, foldedSetIterable iter X.env x = pure x := by intro _; rfl) : EN X (.ListComp elt [⟨tg, iter, ifs, 0⟩] scope pos) as (.lst ((ds.filter pr).map f)) := .mk fun σ H0 H hs hf Q q => by
  obtain ⟨wi, hpi, hwi⟩ := hw.run
  simp only [Bool.and_eq_true, decide_eq_true_eq] at hN'
  obtain ⟨⟨n1, n2⟩, n3⟩ := hN'
  let g : TG := fun v σ H Q => ∀ (s' : Shared) (H' : Hp) (C : Addr) (cl : List (Str × Addr)) (fp : List Addr), rg (X.blk s' H' scope (compEnvC scope cl C X.env) fp) tg v σ H Q
  let tt : TT := fun σ H Q => ∀ (s' : Shared) (H' : Hp) (C : Addr) (cl : List (Str × Addr)) (fp : List Addr), rts (X.blk s' H' scope (compEnvC scope cl C X.env) fp) ifs σ H Q
  let te : TE := fun σ H Q => ∀ (s' : Shared) (H' : Hp) (C : Addr) (cl : List (Str × Addr)) (fp : List Addr), re (X.blk s' H' scope (compEnvC scope cl C X.env) fp) elt σ H Q
  refine rs_lenE fun hlen => re_of (pe_lc (g := g) (tt := tt) (te := te) (own := own) B.calm B.ndX hpi (by rw [B.hN, B.hsc]; exact blkOk_by hok) (fun s' H' C cl fp => ⟨fun pins s σ H v u Q I r h => h s' H' C cl fp pins s u I r⟩) (fun s' H' C cl fp => ⟨fun pins s σ H Q I h => h s' H' C cl fp pins s I⟩) (fun s' H' C cl fp => ⟨fun pins s σ H Q I h => h s' H' C cl fp pins s I⟩) hss) ?_
  refine hwi σ H0 H hs hf _ fun J H1 H' gr wk Dl hDl => ?_
  -- W: behind i turns the list holds what was made
  refine ⟨fun i m H2 => m = ds.length - i ∧ i ≤ ds.length ∧ ∃ H3 vs, Grow H1 (upd H' Dl (.lst [])) H3 (upd H2 Dl (.lst [])) ∧ H3 Dl = none ∧ H2 Dl = some (.lst vs) ∧ IsL X.K H3 (((ds.take i).filter pr).map f) vs ∧ (∀ b o, b ≠ Dl → H' b = some o → H2 b = some o), ⟨ds.length, by simp, Nat.zero_le _, H1, [], ?_, gr.sub.free hDl, upd_same, rfl, fun b o hb e => by rw [upd_ne hb]; exact e⟩, ?_⟩
  · rw [upd_upd]
    exact Grow.refl (gr.sub.trans (Same.new hDl))
  rintro i m H2 ⟨rfl, hi, H3, vs, g3, h3D, h2D, hv, hk⟩
  have s32 : Same H3 H2 := fun b o e => by
    have e' := g3.sub b o e
    have hb : b ≠ Dl := fun z => by rw [z, h3D] at e; cases e
    rw [upd_ne hb] at e'
    exact e'
  by_cases hlt : i < ds.length
  · have hd : ds[i]? = some ds[i] := List.getElem?_eq_getElem hlt
    refine .inr ⟨wk.go i H2 hlt (g3.frz.trans s32), fun H4 => ∃ H5 vs', Grow H1 (upd H' Dl (.lst [])) H5 (upd H4 Dl (.lst [])) ∧ H5 Dl = none ∧ H4 Dl = some (.lst vs') ∧ IsL X.K H5 (((ds.take (i + 1)).filter pr).map f) vs' ∧ (∀ b o, b ≠ Dl → H' b = some o → H4 b = some o), fun H4 ⟨H5, vs', a1, a2, a3, a4, a5⟩ => ⟨ds.length - (i + 1), by omega, rfl, hlt, H5, vs', a1, a2, a3, a4, a5⟩, fun x H4 hy => ?_⟩
    obtain ⟨H5, g5, i5⟩ := wk.yld i ds[i] H3 H2 x H4 hd g3.frz s32 hy
    have more : ∀ {Ha Hb Ha' Hb' : Hp}, Grow Ha Hb Ha' Hb' → Ha Dl = none → Hb Dl = some (.lst vs) → Ha' Dl = none ∧ Hb' Dl = some (.lst vs) ∧ Grow Ha (upd Hb Dl (.lst [])) Ha' (upd Hb' Dl (.lst [])) := fun {Ha Hb Ha' Hb'} gg e1 e2 => by
      have e3 : Ha' Dl = none := by
        cases z : Ha' Dl with
        | none => rfl
        | some u =>
          rcases gg.new Dl (by rw [z]; simp) with w | w
          · exact absurd e1 w
          · rw [e2] at w; cases w
      refine ⟨e3, gg.all _ _ e2, gg.frz, fun b o e => ?_, fun b o e => ?_, fun b hb => ?_⟩
      · by_cases z : b = Dl
        · rw [z, upd_same] at e ⊢; exact e
        · rw [upd_ne z] at e ⊢; exact gg.all b o e
      · have z : b ≠ Dl := fun z => by rw [z, e3] at e; cases e
        rw [upd_ne z]
        exact gg.sub b o e
      · rcases gg.new b hb with w | w
        · exact .inl w
        · have z : b ≠ Dl := fun z => by rw [z, e2] at w; cases w
          exact .inr (by rw [upd_ne z]; exact w)
    obtain ⟨d5, d4, gg5⟩ := more g5 h3D h2D
    intro s' Hs C cl fp
    refine (ht s' Hs cl C fp (blk_nms B n1 n2) i ds[i] hd).run _ H5 H4 x g5.sub i5 _ fun ws hp => ?_
    have hmem : ∀ q ∈ ws, q.1 ∈ own.map (·.2) := fun q hq => by
      obtain ⟨a, ha1, ha2⟩ := paired_mem hp q hq
      rw [← ha2.1]
      exact how i ds[i] hd a ha1
    refine ⟨by rw [wipe_sto hmem, wipe_wipe fun _ h => h], ?_⟩
    have hsl : SlF X.K H5 (stoV ws (wipe σ (own.map (·.2)))) (stoE (w ds[i]) (wipeE as (own.map (·.2)))) := SlF.sto (((hf.mono gr.frz).mono (g3.frz.trans g5.frz)).wipe _) (by rw [wipe_length]; exact hlen) hp
    intro s1 Hs1 C1 cl1 fp1
    have bb := hb s1 Hs1 cl1 C1 fp1 (blk_nms B n1 n2) (blk_gls n3) i ds[i] hd
    refine bb.1.run _ H5 H4 g5.sub hsl _ fun H6 H7 g6 => ?_
    obtain ⟨d6, d7, gg6⟩ := more g6 d5 d4
    have tk : ds.take (i + 1) = ds.take i ++ [ds[i]] := by rw [List.take_add_one, hd]; rfl
    cases hpr : pr ds[i] with
    | false =>
      rw [if_neg Bool.false_ne_true]
      refine ⟨H6, vs, (g3.trans gg5).trans gg6, d6, d7, ?_, fun b o hb' e => g6.all b o (g5.all b o (hk b o hb' e))⟩
      rw [tk, List.filter_append, List.filter_cons, if_neg (by rw [hpr]; exact Bool.false_ne_true), List.filter_nil, List.append_nil]
      exact hv.mono (g5.frz.trans g6.frz)
    | true =>
      rw [if_pos rfl]
      intro s2 Hs2 C2 cl2 fp2
      have bb2 := hb s2 Hs2 cl2 C2 fp2 (blk_nms B n1 n2) (blk_gls n3) i ds[i] hd
      refine (bb2.2 hpr).run _ H6 H7 g6.sub (hsl.mono g6.frz) _ fun y H8 H9 g8 i8 => ?_
      obtain ⟨d8, d9, gg8⟩ := more g8 d6 d7
      refine ⟨vs, d9, ?_, H8, vs ++ [y], ?_, d8, upd_same, ?_, fun b o hb' e => by rw [upd_ne hb']; exact g8.all b o (g6.all b o (g5.all b o (hk b o hb' e)))⟩
      · have l1 := hv.len
        rw [l1, List.length_map]
        have l2 := List.length_filter_le pr (ds.take i)
        rw [List.length_take] at l2
        omega
      · rw [upd_upd]
        exact ((g3.trans gg5).trans gg6).trans gg8
      · rw [tk, List.filter_append, List.filter_cons, if_pos hpr, List.filter_nil, List.map_append]
        exact (hv.mono ((g5.frz.trans g6.frz).trans g8.frz)).app (.one i8)
  · have e : i = ds.length := by omega
    subst e
    refine .inl ⟨wk.stop H2 (g3.frz.trans s32), ?_⟩
    rw [List.take_length] at hv
    have g4 : Grow H1 H' H3 H2 := by
      refine ⟨g3.frz, fun b o e => hk b o (fun z => by rw [z, hDl] at e; cases e) e, s32, fun b hb => ?_⟩
      rcases g3.new b hb with w | w
      · exact .inl w
      · have z : b ≠ Dl := fun z => hb (by rw [z]; exact h3D)
        rw [upd_ne z] at w
        exact .inr w
    exact q Dl H3 H2 (gr.trans g4) (gr.all.free hDl) h3D ⟨vs, h2D, hv⟩
/-- the block's own name is its slot -/
theorem blk_own {n : Str} {cl : List (Str × Addr)} {C : Addr} {s : Shared} {H : Hp} {fp : List Addr} (h : (scope.names.lookup n == some .local) = true) : (X.blk s H scope (compEnvC scope cl C X.env) fp).env.scope.names.lookup n = some .local := lookup_relabel_local (nk_beq h)
/-- what is looked at of a comprehension's scope: one name -/
def chk1 (N : List Str) (sc scope : Scope) (n : Str) (i : Nat) (N' : List (Option Str)) (gs' : List Str) : Bool :=
  blkC N sc scope [(n, i)] && (decide (N'.length ≤ N.length) && seesB scope N N' && gs'.all (glbOk scope)) && (scope.names.lookup n == some .local)
theorem en_lc1 {n : Str} {p : Pos} (i : Nat) (N' : List (Option Str)) (gs' : List Str) (f : D → D) (pr : D → Bool) (B : Body X N L gs k sc) (hw : IW X (.Name n p) iter as ds) (hc : chk1 N sc scope n i N' gs' = true) (hz : ds.length < sizeLine)
    (hb : ∀ (s : Shared) (H : Hp) (cl : List (Str × Addr)) (C : Addr) (fp : List Addr), NmsB (X.blk s H scope (compEnvC scope cl C X.env) fp) N' → Gls (X.blk s H scope (compEnvC scope cl C X.env) fp) gs' → ∀ (j : Nat) (d : D), ds[j]? = some d →
      ETs (X.blk s H scope (compEnvC scope cl C X.env) fp) ifs ((as.set i none).set i (some d)) (pr d) ∧ (pr d = true → EE (X.blk s H scope (compEnvC scope cl C X.env) fp) elt ((as.set i none).set i (some d)) (f d)))
    (hss : ∀ x, foldedSetIterable iter X.env x = pure x := by intro _; rfl) : EN X (.ListComp elt [⟨.Name n p, iter, ifs, 0⟩] scope pos) as (.lst ((ds.filter pr).map f)) := by
  unfold chk1 at hc
  rw [Bool.and_eq_true, Bool.and_eq_true] at hc
  obtain ⟨⟨c1, c2⟩, c3⟩ := hc
  have hi : N[i]? = some n := (blkOk_by c1).ix (n, i) (List.mem_singleton.mpr rfl)
  refine en_lc [(n, i)] N' gs' (fun d => [(i, d)]) f pr B hw c1 c2 hz (fun j d _ q hq => ?_) (fun s H cl C fp _ j d _ => ?_) hb hss
  · have e : q = (i, d) := List.mem_singleton.mp hq
    rw [e]
    exact List.mem_singleton.mpr rfl
  · exact tg_name' B.ndX (by show X.N[i]? = _; rw [B.hN]; exact hi) (.inl (blk_own c3)) (.inr (blk_own c3))
/-- .. two names -/
def chk2 (N : List Str) (sc scope : Scope) (n m : Str) (i j : Nat) (N' : List (Option Str)) (gs' : List Str) : Bool :=
  blkC N sc scope [(n, i), (m, j)] && (decide (N'.length ≤ N.length) && seesB scope N N' && gs'.all (glbOk scope)) && ((scope.names.lookup n == some .local) && (scope.names.lookup m == some .local))
def two (i j : Nat) : D → Sto
  | .tup [x, y] => [(i, x), (j, y)]
  | _ => []
theorem en_lc2 {n m : Str} {p p2 p3 : Pos} {k2 : Nat} (i j : Nat) (N' : List (Option Str)) (gs' : List Str) (f : D → D) (pr : D → Bool) (B : Body X N L gs k sc) (hw : IW X (.Tuple [.Name n p, .Name m p2] k2 p3) iter as ds) (hc : chk2 N sc scope n m i j N' gs' = true) (hz : ds.length < sizeLine)
    (h2 : ∀ (t : Nat) (d : D), ds[t]? = some d → ∃ x y, d = .tup [x, y])
    (hb : ∀ (s : Shared) (H : Hp) (cl : List (Str × Addr)) (C : Addr) (fp : List Addr), NmsB (X.blk s H scope (compEnvC scope cl C X.env) fp) N' → Gls (X.blk s H scope (compEnvC scope cl C X.env) fp) gs' → ∀ (t : Nat) (x y : D), ds[t]? = some (.tup [x, y]) →
      ETs (X.blk s H scope (compEnvC scope cl C X.env) fp) ifs ((((as.set j none).set i none).set i (some x)).set j (some y)) (pr (.tup [x, y])) ∧ (pr (.tup [x, y]) = true → EE (X.blk s H scope (compEnvC scope cl C X.env) fp) elt ((((as.set j none).set i none).set i (some x)).set j (some y)) (f (.tup [x, y]))))
    (hss : ∀ x, foldedSetIterable iter X.env x = pure x := by intro _; rfl) : EN X (.ListComp elt [⟨.Tuple [.Name n p, .Name m p2] k2 p3, iter, ifs, 0⟩] scope pos) as (.lst ((ds.filter pr).map f)) := by
  unfold chk2 at hc
  obtain ⟨h12, h34⟩ := Bool.and_eq_true_iff.mp hc
  obtain ⟨c1, c2⟩ := Bool.and_eq_true_iff.mp h12
  obtain ⟨c3, c4⟩ := Bool.and_eq_true_iff.mp h34
  have hi : N[i]? = some n := (blkOk_by c1).ix (n, i) List.mem_cons_self
  have hj : N[j]? = some m := (blkOk_by c1).ix (m, j) (List.mem_cons_of_mem _ List.mem_cons_self)
  refine en_lc [(n, i), (m, j)] N' gs' (two i j) f pr B hw c1 c2 hz (fun t d hd q hq => ?_) (fun s H cl C fp _ t d hd => ?_) (fun s H cl C fp nb gb t d hd => ?_) hss
  · obtain ⟨x, y, rfl⟩ := h2 t d hd
    have hq' : q ∈ [(i, x), (j, y)] := hq
    rcases List.mem_cons.mp hq' with e | e
    · rw [e]; exact List.mem_cons_self
    · rw [List.mem_singleton.mp e]; exact List.mem_cons_of_mem _ List.mem_cons_self
  · obtain ⟨x, y, rfl⟩ := h2 t d hd
    exact tg_two' B.calm B.ndX (by show X.N[i]? = _; rw [B.hN]; exact hi) (.inl (blk_own c3)) (.inr (blk_own c3)) (by show X.N[j]? = _; rw [B.hN]; exact hj) (.inl (blk_own c4)) (.inr (blk_own c4))
  · obtain ⟨x, y, rfl⟩ := h2 t d hd
    exact hb s H cl C fp nb gb t x y hd
end
end Mw
set_option maxHeartbeats 4000000
namespace Mw
open PySem PySem.Spec PyProof.Rows L2
/-! ### a[b] -/
def SubD (X : Cx) (b : Expr) (x y d : D) : Prop :=
  ∃ R : R2, (∀ a pos ta tb, PE X a ta → PE X b tb → PE X (.Subscript a b pos) (tOp R ta tb)) ∧ ∀ v w H0 H, Same H0 H → Is X.K H0 x v → Is X.K H0 y w → ∀ Q : VK, (∀ z H0' H', Grow H0 H H0' H' → Is X.K H0' d z → Q z H') → R v w H Q
section
variable {X : Cx} {as : DE} {d x y : D} {a b c e : Expr} {es : List Expr} {ds : List D} {pos p p2 : Pos}
theorem ee_sub (ha : EE X a as x) (hb : EE X b as y) (hs : SubD X b x y d) : EE X (.Subscript a b pos) as d := .mk fun σ H0 H hs' hf Q q => by
  obtain ⟨R, hp, hr⟩ := hs
  refine re_of (hp a pos _ _ re_pe re_pe) ?_
  exact ha.run σ H0 H hs' hf _ fun v H1 H' g i1 => hb.run σ H1 H' g.sub (hf.mono g.frz) _ fun w H2 H'' g' i2 => hr v w H2 H'' g'.sub (i1.mono g'.frz) i2 Q fun z _ _ g'' i => q z _ _ ((g.trans g').trans g'') i
theorem sub_T {i : Int} (h : atI ds i = some d) (hp : PlainIx b := by exact fun _ _ => rfl) : SubD X b (.tup ds) (.int i) d := ⟨_, fun a pos ta tb h1 h2 => pe_ix ix_tup h1 h2 hp, fun v w H0 H hs iv iw Q q => by
  obtain ⟨p, vs, rfl, hq, hv⟩ := iv
  obtain ⟨z, e1, e2⟩ := atI_is hv h
  exact ⟨p, vs, i, z, rfl, iw, Same.tup hs hq, e1, q _ _ _ (Grow.refl hs) e2⟩⟩
theorem sub_L {i : Int} (h : atI ds i = some d) (hp : PlainIx b := by exact fun _ _ => rfl) : SubD X b (.lst ds) (.int i) d := ⟨_, fun a pos ta tb h1 h2 => pe_ix ix_list h1 h2 hp, fun v w H0 H hs iv iw Q q => by
  obtain ⟨p, vs, rfl, hq, hv⟩ := iv
  obtain ⟨z, e1, e2⟩ := atI_is hv h
  exact ⟨p, vs, i, z, rfl, iw, Same.lst hs hq, e1, q _ _ _ (Grow.refl hs) e2⟩⟩
theorem sub_S {i : Int} {z : Str} {c : Nat} (hz : z.length ≤ sizeLine) (h : atI z.cps.toList i = some c) (hp : PlainIx b := by exact fun _ _ => rfl) : SubD X b (.str z) (.int i) (.str ⟨#[c]⟩) := ⟨_, fun a pos ta tb h1 h2 => pe_ix ix_str h1 h2 hp, fun v w H0 H hs iv iw Q q =>
  ⟨z, i, c, iv, iw, hz, h, q _ _ _ (Grow.refl hs) rfl⟩⟩
/-! ### f'..' -/
/-- a part's text -/
inductive FmD : D → Str → Prop
  | str {z : Str} (h : z.length ≤ sizeLine) : FmD (.str z) z
  | int {i : Int} (h : i.natAbs.log2 < 1920) : FmD (.int i) (toString i)
theorem ee_fmt {z : Str} (h : EE X e as x) (hz : FmD x z) : EE X (.FormattedValue e (-1) none pos) as (.str z) := .mk fun σ H0 H hs hf Q q =>
  re_of (pe_fmt re_pe) (h.run σ H0 H hs hf _ fun v H1 H' g i => by
    cases hz with
    | str hz => exact .inl ⟨_, i, hz, q _ _ _ g rfl⟩
    | int hz => exact .inr ⟨_, i, hz, q _ _ _ g rfl⟩)
/-- the parts, one behind the other -/
inductive EJ (X : Cx) (as : DE) : List Expr → Str → Str → Prop
  | nil {acc : Str} : EJ X as [] acc acc
  | cons {e : Expr} {es : List Expr} {acc z out : Str} (h : EE X e as (.str z)) (hl : (acc ++ z).length ≤ sizeLine) (r : EJ X as es (acc ++ z) out) : EJ X as (e :: es) acc out
theorem pj_re : ∀ es : List Expr, PJ X es (es.map (re X))
  | [] => .nil
  | e :: es => .cons re_pe (pj_re es)
theorem EJ.run : ∀ {es : List Expr} {acc out : Str}, EJ X as es acc out → ∀ (σ : L2.St) (H0 H : Hp), Same H0 H → SlF X.K H0 σ as → ∀ Q : Str → Hp → Prop, (∀ H0' H', Grow H0 H H0' H' → Q out H') → tJs (es.map (re X)) acc σ H Q
  | [], _, _, .nil, σ, H0, H, hs, hf, Q, q => q H0 H (Grow.refl hs)
  | e :: es, _, _, .cons h hl r, σ, H0, H, hs, hf, Q, q => h.run σ H0 H hs hf _ fun v H1 H' g i => ⟨_, i, hl, EJ.run r σ H1 H' g.sub (hf.mono g.frz) Q fun _ _ g' => q _ _ (g.trans g')⟩
theorem ee_joined {v1 v2 : Expr} {rest : List Expr} {out : Str} (h : EJ X as (v1 :: v2 :: rest) Str.empty out) : EE X (.JoinedStr (v1 :: v2 :: rest) pos) as (.str out) := .mk fun σ H0 H hs hf Q q =>
  re_of (pe_joined (pj_re _)) (h.run σ H0 H hs hf _ fun _ _ g => q _ _ _ g rfl)
theorem ee_joined1 {z : Str} (h : EE X e as (.str z)) : EE X (.JoinedStr [e] pos) as (.str z) := .mk fun σ H0 H hs hf Q q => re_of (pe_joined1 re_pe) (h.run σ H0 H hs hf Q q)
end
/-! ### try .. except -/
/-- what the class object at M, named in a clause, says -/
structure CatE (K : PySem.W.Frag) (c m : Addr) (b : Bool) : Prop where
  ex : PySem.W.exmOne K (.ref c) (.ref m) = some b
section
variable {X : Cx} {N L gs : List Str} {k : Nat} {sc : Scope} {n x : Str} {i j : Nat} {Gs G : Hp} {as : AS} {F : Fin} {M : Addr} {body suite : List Stmt} {b₀ : Stmt} {np pos pos' : Pos}
/-- the suite's end: the clause's name is gone -/
def Fin.gone (F : Fin) (i : Nat) : Fin := { nx := fun as => F.nx (as.set i .un), rt := F.rt, bk := fun as => F.bk (as.set i .un), ct := fun as => F.ct (as.set i .un), ex := fun _ _ => False }
/-- the name's slot: the exception at a, its own dict with its fields -/
def excS (a : Addr) (dd : Option Addr) (x : Exn) : Sl := match dd with
  | none => .fz (.cls a)
  | some d => .fz (.xc a d x.fs)
theorem t_try (EX : Exn → AS → Prop) (B : Body X N L gs k sc) (hn : At L n i) (hnl : sc.names.lookup n = some .local) (hg : At gs x j) (hm : X.mg x = some (.ref M))
    (hb : ∀ (pn : List (Addr × Obj)) (xe : Value → Shared → Prop), Body (X.tr pn xe) N L gs k sc → SS (X.tr pn xe) Gs G body as { F with ex := EX })
    (hx : ∀ xn as', EX xn as' → ∃ b, CatE X.K xn.cls M b ∧ (b = false → F.ex xn as') ∧ (b = true → ∀ (a : Addr) (oe : Obj) (dd : Option Addr) (pn : List (Addr × Obj)), Zc (.ref xn.cls) dd oe → (∃ vs, oe.data = .fields vs) → (xn.fs = [] → dd = none) → (xn.fs ≠ [] → ∃ d, dd = some d) → SS (X.suite a ((a, oe) :: pn)) Gs G (b₀ :: suite) (as'.set i (excS a dd xn)) (F.gone i))) :
    S1 X Gs G (.Try body [.ExceptHandler (some (.Name x np)) (some n) (b₀ :: suite) pos'] [] [] pos) as F := .mk fun σ H H0 S E ok => by
  obtain ⟨a1, a2, _, _⟩ := B.locs hn
  obtain ⟨g1, g2, g3⟩ := B.gls hg
  let tb : WX → TS := fun W D σ H => ∀ (pn : List (Addr × Obj)) (xe : Value → Shared → Prop), Takes (X.tr pn xe) W → PassesOwn (model X.prog X.w) X.A X.env xe → rss (X.tr pn xe) body D σ H
  let ts : Addr → Value → Option Addr → TS := fun a cls d D σ H => ∀ (oe : Obj) (pn : List (Addr × Obj)), Zc cls d oe → (∃ vs, oe.data = .fields vs) → rss (X.suite a ((a, oe) :: pn)) (b₀ :: suite) D σ H
  refine rs_of (ps_try_as (i := i) (tb := tb) (ts := ts) B.stk B.frm B.ndX a1 (by show X.env.scope.names.lookup n = _; rw [B.hsc]; exact hnl) ⟨g1, g2, .inl hm⟩ wx_takes (fun W pn xe tk hp => ⟨fun pins s σ H D I h => h pn xe tk hp pins s I⟩) (fun a oe cls d pn hz hf => ⟨fun pins s σ H D I h => h oe pn hz hf pins s I⟩)) ?_
  intro pn xe tk hp
  refine (hb pn xe (B.tr hp)).run σ H H0 S E ⟨fun σ' H' as' H1 q S' => ok.nx σ' H' as' H1 q S', fun v H' d H1 q => ok.rt v H' d H1 q, fun σ' H' as' H1 q S' => ok.bk σ' H' as' H1 q S', fun σ' H' as' H1 q S' => ok.ct σ' H' as' H1 q S', fun c dd σ' H' xn as' H1 q S' iv hex => ?_⟩
  refine wx_of tk ?_
  obtain ⟨b, hb1, hb2, hb3⟩ := hx xn as' hex
  obtain ⟨ec, iv'⟩ := id iv
  refine ⟨b, by rw [ec]; exact hb1.ex, fun hbt a ha => ?_, fun hbf => ok.ex c dd σ' H' xn as' H1 q S' iv (hb2 hbf)⟩
  intro oe pn' hz hfl
  rw [ec] at hz
  refine rss_len fun hlen => ?_
  have hi : i < σ'.length := by
    have h1 : i < X.N.length := (List.getElem?_eq_some_iff.mp a1).1
    have h2 : (σ'.set i (some (V.ref a))).length = X.N.length := hlen
    rw [List.length_set] at h2
    omega
  have S2 : StH X.K Gs G (σ'.set i (some (.ref a))) H' (as'.set i (excS a dd xn)) H1 := by
    unfold excS
    cases dd with
    | none => exact S'.setF hi rfl
    | some d =>
      rcases iv' with ⟨_, z⟩ | ⟨_, d', gs', e1, e2, e3⟩
      · cases z
      · cases e1
        exact S'.setF hi ⟨gs', rfl, e2, e3⟩
  refine (hb3 hbt a oe dd pn' hz hfl (fun z => by
      rcases iv' with ⟨_, q⟩ | ⟨q, _⟩
      · exact q
      · exact absurd z q) (fun z => by
      rcases iv' with ⟨q, _⟩ | ⟨_, d', _, e1, _⟩
      · exact absurd q z
      · exact ⟨d', e1⟩)).run _ H' H1 S2 _ ⟨fun σ4 H4 as4 H5 r S4 z => ?_, fun v H4 d H5 r g4 i4 z => ok.rt v H4 d H5 (q.trans r) g4 i4 z, fun σ4 H4 as4 H5 r S4 z => ?_, fun σ4 H4 as4 H5 r S4 z => ?_, fun _ _ _ _ _ _ _ _ _ _ z => z.elim⟩
  · exact ok.nx _ H4 _ H5 (q.trans r) S4.setU z
  · exact ok.bk _ H4 _ H5 (q.trans r) S4.setU z
  · exact ok.ct _ H4 _ H5 (q.trans r) S4.setU z
end
/-! ### isinstance in a suite -/
section
variable {X : Cx} {a C : Addr} {oe : Obj} {pn : List (Addr × Obj)} {b : Bool}
theorem ca_isE {M : Addr} (c : ExcC X.K C) (hz : Zc (.ref C) none oe) (hf : ∃ vs, oe.data = .fields vs) (hk : PySem.W.kitOne X.K (.ref C) (.ref M) = some b) : CaD (X.suite a ((a, oe) :: pn)) (.builtin "isinstance") [.cls a, .cls M] (.bl b) := .flat (call_isE c hz hf) (fun _ => rfl) fun vs H h Q q => by
  obtain ⟨v, w, e, h1, h2⟩ := is2 h
  rw [show v = _ from h1, show w = _ from h2] at e
  exact ⟨.ref M, .ref M, b, e, fun u r => r, hk, q⟩
theorem ca_isET {T : String} (c : ExcC X.K C) (hz : Zc (.ref C) none oe) (hf : ∃ vs, oe.data = .fields vs) (hk : PySem.W.kitOne X.K (.ref C) (.type T) = some b) : CaD (X.suite a ((a, oe) :: pn)) (.builtin "isinstance") [.cls a, .ty T] (.bl b) := .flat (call_isE c hz hf) (fun _ => rfl) fun vs H h Q q => by
  obtain ⟨v, w, e, h1, h2⟩ := is2 h
  rw [show v = _ from h1, show w = _ from h2] at e
  exact ⟨.ty T, .type T, b, e, fun u r => r, hk, q⟩
end
end Mw
set_option maxHeartbeats 4000000
namespace Mw
open PySem PySem.Spec PyProof.Rows L2
section
variable {X : Cx} {as : DE} {a b c : Expr} {pos : Pos}
/-! ### is of bools -/
theorem oc_isB {k l : Bool} : OpD X (compareOp .Is) (.bl k) (.bl l) (.bl (decide (k = l))) := .flat op_isBl (fun _ => rfl) fun v w H h1 h2 Q q => ⟨k, l, h1, h2, q⟩
theorem oc_notB {k l : Bool} : OpD X (compareOp .IsNot) (.bl k) (.bl l) (.bl (!decide (k = l))) := .flat op_notBl (fun _ => rfl) fun v w H h1 h2 Q q => ⟨k, l, h1, h2, q⟩
/-! ### lists put together -/
def rCatL (K : PySem.W.Frag) : R2 := fun x y H Q => ∃ a b xs ys, x = .ref a ∧ y = .ref b ∧ SqL K H a xs ∧ SqL K H b ys ∧ xs.length + ys.length ≤ sizeLine ∧ ∀ p, H p = none → Q (.ref p) (upd H p (.lst (xs ++ ys)))
theorem op_catL : OpR X (binaryOp .Add) (rCatL X.K) := by
  intro pins s σ H x y v u Q I rx ry h
  obtain ⟨l, b, xs, zs, rfl, rfl, hx, hy, hz, q⟩ := h
  cases rx
  cases ry
  obtain ⟨its, r, ⟨⟨cls, dd, data, sl⟩, n, ho, hc, hd, hs⟩, z⟩ := I.list hx
  obtain ⟨its2, r2, ⟨⟨cls2, dd2, data2, sl2⟩, n2, ho2, hc2, hd2, hs2⟩, z2⟩ := I.list hy
  simp only at hc hd hs hc2 hd2 hs2
  subst hc hd hs hc2 hd2 hs2
  have l1 := r.length
  have l2 := r2.length
  refine concat_meets ⟨_, ho, rfl⟩ ⟨_, ho2, rfl⟩ PySem.noFill_list_add PySem.seq_list_add PySem.F.slot_list_add PySem.F.entry_list_add (PySem.F.args_list_add_2 _ _) (PyProof.Rows.list_addW l b its.toArray its2.toArray n n2 none none sl sl2 (by rw [List.size_toArray, List.size_toArray]; omega)) ⟨ho, ho2, ?_⟩
  have ea : its.toArray ++ its2.toArray = (its ++ its2).toArray := by simp
  rw [ea]
  exact ⟨.ref _, _, I.lnew (t' := s.toks) (r.append r2) (by rw [List.length_append]; omega), rfl, q _ I.fresh⟩
theorem od_catL {ds es : List D} (h : ds.length + es.length ≤ sizeLine) : OpD X (binaryOp .Add) (.lst ds) (.lst es) (.lst (ds ++ es)) := ⟨_, op_catL, fun v w H0 H hs h1 h2 Q q => by
  obtain ⟨a, vs, rfl, q1, i1⟩ := h1
  obtain ⟨b, ws, rfl, q2, i2⟩ := h2
  refine ⟨a, b, vs, ws, rfl, rfl, Same.lst hs q1, Same.lst hs q2, by rw [i1.len, i2.len]; exact h, fun p hp => ?_⟩
  exact q _ (upd H0 p (.lst (vs ++ ws))) _ (Grow.laid hs hp) ⟨p, vs ++ ws, rfl, SqL.of upd_same, (i1.app i2).mono (Same.new (hs.free hp))⟩⟩
/-! ### a if c else b, that raises -/
theorem ex_ifT {x : Exn} (h : ET X c as true) (h1 : EX X a as x) : EX X (.IfExp c a b pos) as x := .mk fun σ H0 H hs hf Q q =>
  re_of (pe_ifExp rt_pt re_pe re_pe) (h.run σ H0 H hs hf _ fun H1 H' g => by
    rw [if_pos rfl]
    exact h1.run σ H1 H' g.sub (hf.mono g.frz) _ fun _ _ _ _ g' i' => q _ _ _ _ (g.trans g') i')
theorem ex_ifF {x : Exn} (h : ET X c as false) (h1 : EX X b as x) : EX X (.IfExp c a b pos) as x := .mk fun σ H0 H hs hf Q q =>
  re_of (pe_ifExp rt_pt re_pe re_pe) (h.run σ H0 H hs hf _ fun H1 H' g => by
    rw [if_neg Bool.false_ne_true]
    exact h1.run σ H1 H' g.sub (hf.mono g.frz) _ fun _ _ _ _ g' i' => q _ _ _ _ (g.trans g') i')
end
end Mw
set_option maxHeartbeats 4000000
/-! own exceptions with fields: made by their own __init__, raised, or held as values -/
namespace Mw
section
open PySem PySem.Spec PySem.Calls PyProof.Rows PySem.W PySem.HandSPX
variable {prog : Program} {w : World} {A : Around} {E : Value → Shared → Prop} {s : Shared} {K : Frag} {x D : Addr} {ox od : Obj}
/-- e.__class__, e an own exception with its own dict -/
theorem exv_class {Q : Option Value → Shared → Prop} (C : L2.ExcC K D) (X : K.In s.heap) (I : InstAt s.heap x ox D (some od)) (h : Q (some (.ref D)) { s with toks := s.toks + 1 }) : wpAny (model prog w) A (getAttr? (.ref x) "__class__") Q E s := by
  have hf : findObj K D (some od) "__class__" = some (.bind (.builtin "getset_descriptor.__get__") (.builtin "object.__class__")) :=
    findObj_data (show (clsIn K D).isSome = true by obtain ⟨cd, hc, _⟩ := any_some C.hd; rw [hc]; rfl) C.ha C.hn C.ht
  obtain ⟨hp, g, d, t, os⟩ := s
  have L0 := I.type (M := model prog w)
  have L1 := looks_findIn (M := model prog w) X C.hg
  have L2 := looks_findIn (M := model prog w) X C.hk
  have L3 := looks_find (M := model prog w) X I hf
  have sub : Looks (model prog w) hp (isInstance (.ref x) (.type "BaseException")) true := L0.andThen (looks_subIn X C.hs)
  have n0 : (Value.builtin "BaseException.__getattribute__" == Value.builtin "object.__getattribute__") = false := by decide +kernel
  unfold getAttr? getAttrBy? getAttrBy
  refine wpAny_bind (wpAny_mkText (wpAny_bind (wpAny_attempt (wpAny_holding (wpAny_bind (L0.at (wpAny_bind (L1.at ?_))))))))
  show wpAny _ _ (if (onTheHeap (Value.ref D) && Value.builtin "BaseException.__getattribute__" == Value.builtin "object.__getattribute__") = true then _ else _) _ _ _
  rw [n0, Bool.and_false, if_neg Bool.false_ne_true]
  unfold getAttrByItsOwn hookBefore
  refine wpAny_bind ?_
  rw [if_pos (show onTheHeap (Value.ref D) = true from rfl)]
  refine L2.at (wpAny_bind (wpAny_attempt (wpAny_holding ?_)))
  unfold callGetattribute
  rw [Bool.false_and, if_neg Bool.false_ne_true]
  unfold boundAndCalled
  rw [PySem.F.excAttr_ValueError.ga.bind (.ref x)]
  refine wpAny_bind (wpAny_pure ?_)
  show wpAny _ _ (call (.builtin "BaseException.__getattribute__") [.ref x, .str "__class__" t]) _ _ _
  refine wpAny_call (codeAny_call_builtin PySem.F.excAttr_ValueError.ga.plain PySem.F.entry_bexc_ga ?_)
  refine @check_slot (model prog w) _ _ ⟨hp, g, d, t + 1, os⟩ "BaseException.__getattribute__" "BaseException" "__getattribute__" (.ref x) [.str "__class__" t] [] _ (by decide +kernel) (by decide +kernel) sub (PySem.F.args_bexc_ga (.ref x) (.str "__class__" t)) ?_
  unfold Builtin.«object.__getattribute__»
  refine wpAny_bind (wpAny_of_eq (a := ((Value.ref x : Value), [Value.str "__class__" t])) (by first | rfl | (simp only [slotArgs]; rfl)) ?_)
  refine wpAny_bind (wpAny_pure (wpAny_bind (L0.at (wpAny_bind (L3.at ?_)))))
  show wpAny _ _ (holding [Value.builtin "object.__class__"] (call (.builtin "getset_descriptor.__get__") [.builtin "object.__class__", .ref x, .ref D]) >>= ret) _ _ _
  refine wpAny_bind (wpAny_holding (wpAny_call (class_get (s := ⟨hp, g, d, t + 1, os⟩) (ox := ox) (od := some od) X I C.hm (wpAny_pure ?_))))
  show wpAny _ _ (handedOut (.ref D)) _ _ _
  rw [handedOut_of (v := .ref D) rfl]
  first
    | exact wpAny_pure (wpAny_pure h)
    | exact wpAny_pure h
    | exact wpAny_pure (wpAny_bind (wpAny_pure (wpAny_pure h)))
theorem exv_kit (C : L2.ExcC K D) : KitX K (.ref x) (.ref D) (fun h => InstAt h x ox D (some od)) where
  ty := fun _ _ _ I => I.type
  it := fun _ _ X _ => by
    obtain ⟨cdD, hcD, _⟩ := any_some C.hd
    unfold clsIn at hcD
    split at hcD
    · rename_i ho
      intro A' Q' E' s' k q
      unfold isType loadHead
      exact wpAny_bind (wpAny_loadPart (k _ _ (X _ _ ho)) (wpAny_pure q))
    · cases hcD
  ne := fun h tp dd its n sl X htp => by
    obtain ⟨cdD, hcD, _⟩ := any_some C.hd
    refine Bool.eq_false_iff.mpr fun q => ?_
    obtain rfl : D = tp := Value.ref.inj (beq_iff_eq.mp q)
    unfold clsIn at hcD
    split at hcD
    · rename_i ho
      cases (X _ _ ho).symm.trans htp
    · cases hcD
  ca := fun X I k => exv_class C X I k
end
section
open PySem PySem.Spec PyProof.Rows L2
variable {X : Cx} {pins : List (Addr × Obj)} {σ : L2.St} {H : Hp} {s : Shared} {a C : Addr} {dx : Addr} {gs : List (Str × V)}
/-- the object of an exception held as a value -/
theorem exv_at (I : Inv X pins σ H s) (ea : H a = some (exo a C (some dx))) (ed : H dx = some (exd dx gs)) : ∃ (ox od : Obj) (mA : Str → Option Value), PySem.W.InstAt s.heap a ox C (some od) ∧ (∀ n, PySem.W.lookIn n od = some (mA n)) ∧ ∀ f, RelO (gs.lookup f) (mA f) := by
  obtain ⟨t1, ho⟩ := exo_at I.hok ea
  obtain ⟨mA, hns, rel⟩ := exd_at I.hok ed
  obtain ⟨od, hod, hl⟩ := lookIn_ns hns
  exact ⟨_, od, mA, ⟨ho, rfl, rfl, hod⟩, hl, rel⟩
/-- e.f -/
def tXv (K : PySem.W.Frag) (C : Addr) (f : Str) (te : TE) : TE := fun σ H Q => te σ H fun x H1 => ∃ (a dx : Addr) (gs : List (Str × V)) (v : V), x = .ref a ∧ H1 a = some (exo a C (some dx)) ∧ H1 dx = some (exd dx gs) ∧ gs.lookup f = some v ∧ Q v H1
theorem pe_xv {e : Expr} {te : TE} {pos : Pos} {n : Str} (T : XfC X.K C) (hno : PySem.W.findIn X.K (.ref C) n = some none) (he : PE X e te) (hb : attributeBase e n X.env (eval e X.env) = eval e X.env := by rfl) : PE X (.Attribute e n pos) (tXv X.K C n te) := by
  refine ⟨fun pins s σ H Q I h => ?_⟩
  refine attr_of hb (thn (he.run pins s σ H _ I h) fun u s1 hh => ?_)
  obtain ⟨x, H1, I1, rx, a, dx, gs, v, ex, ea, ed, l, q⟩ := hh
  subst ex
  obtain rfl : u = Value.ref a := rx
  obtain ⟨ox, od, mA, J, hl, hr⟩ := exv_at I1 ea ed
  obtain ⟨u, hu, ru⟩ := RelO.some_of (v := v) (o := mA n) (by rw [← l]; exact hr n)
  exact PySem.HandSPX.exc_get I1.kIn J T.ga T.gg T.exC (PySem.W.findObj_own T.hdC hno rfl (by rw [hl, hu])) (handed_of ru) ⟨v, H1, I1.tok _, ru, q⟩
/-- isinstance(e, c) -/
def rIsV (K : PySem.W.Frag) (C : Addr) : List V → Hp → VK → Prop := fun xs H Q => ∃ (a dx : Addr) (gs : List (Str × V)) (c : V) (cv : Value) (b : Bool), xs = [.ref a, c] ∧ H a = some (exo a C (some dx)) ∧ H dx = some (exd dx gs) ∧ (∀ u, RelV c u → u = cv) ∧ PySem.W.kitOne K (.ref C) cv = some b ∧ Q (.bl b) H
theorem call_isV (T : ExcC X.K C) : CallR X (.builtin "isinstance") (rIsV X.K C) := by
  intro pins s σ H xs us Q I r h
  obtain ⟨a, dx, gs, c, cv, b, rfl, ea, ed, hcv, e, q⟩ := h
  obtain ⟨u0, u1, rfl, rx, rt⟩ := vals2 r
  obtain rfl : u0 = Value.ref a := rx
  obtain rfl := hcv _ rt
  obtain ⟨ox, od, mA, J, _, _⟩ := exv_at I ea ed
  exact PySem.W.kia_one (exv_kit T) I.kIn J e (fun z => nomatch z) fun tk => ⟨.bl b, H, I.kept (t' := tk) fun _ _ z => z, rfl, q⟩
end
/-! ### made by their own __init__ -/
section
open PySem PySem.Spec PyProof.Rows L2
abbrev putF (fs : List Str) (ys : List V) : List (Str × V) := (fs.zip ys).reverse
abbrev putD (fs : List Str) (ds : List D) : List (Str × D) := (fs.zip ds).reverse
/-- an own __init__ that stores its params under fs -/
def spInit (C : Addr) (fs : List Str) : Sp := fun vs H Q _ => ∃ (a : Addr) (ys : List V), vs = .ref a :: ys ∧ ys.length = fs.length ∧ H a = some (exo a C none) ∧
  ∀ (dx : Addr) (H' : Hp), H dx = none → dx ≠ a → H' a = some (exo a C (some dx)) → H' dx = some (exd dx (putF fs ys)) → (∀ b, b ≠ a → b ≠ dx → H' b = H b) → Q .non H'
/-- what a caller has of such a class -/
structure MkE (P : Program) (w : World) (K : PySem.W.Frag) (mg : Str → Option Value) (base : Heap) (k : Nat) (x : Str) (C : Addr) (fs : List Str) : Prop where
  oc : OexC K C
  nn : fs ≠ []
  ex : ∃ (fI : Addr) (fd : FuncData) (ps : List Str), PySem.W.findIn K (.ref C) "__init__" = some (some (.ref fI)) ∧ PySem.W.typeIn K (.ref fI) = some (.type "function") ∧ FnOk P w K mg base (L2.CX P w) k fI fd ps (spInit C fs) ∧ Binds K fd ps []
  g : mg x = some (.ref C)
abbrev MkD (X : Cx) (k : Nat) (x : Str) (C : Addr) (fs : List Str) : Prop := MkE X.prog X.w X.K X.mg X.base k x C fs
theorem isF_zip {K : PySem.W.Frag} {H : Hp} : ∀ {fs : List Str} {ds : List D} {vs : List V}, IsL K H ds vs → IsF K H (fs.zip ds) (fs.zip vs)
  | [], _, _, _ => rfl
  | f :: fs, [], _, h => by
    rw [show _ = [] from h]
    exact rfl
  | f :: fs, d :: ds, _, h => by
    obtain ⟨v, r, h1, h2, h3⟩ := h
    rw [h1]
    exact ⟨v, _, rfl, h2, isF_zip h3⟩
theorem IsF.app {K : PySem.W.Frag} {H : Hp} : ∀ {ds es : List (Str × D)} {vs ws : List (Str × V)}, IsF K H ds vs → IsF K H es ws → IsF K H (ds ++ es) (vs ++ ws)
  | [], _, _, _, h, g => by rw [show _ = [] from h]; exact g
  | (k, d) :: ds, _, _, _, h, g => by
    obtain ⟨v, r, h1, h2, h3⟩ := h
    rw [h1]
    exact ⟨v, _, rfl, h2, IsF.app h3 g⟩
theorem IsF.rev {K : PySem.W.Frag} {H : Hp} : ∀ {ds : List (Str × D)} {vs : List (Str × V)}, IsF K H ds vs → IsF K H ds.reverse vs.reverse
  | [], _, h => by rw [show _ = [] from h]; exact rfl
  | (k, d) :: ds, _, h => by
    obtain ⟨v, r, h1, h2, h3⟩ := h
    rw [h1, List.reverse_cons, List.reverse_cons]
    exact IsF.app h3.rev ⟨v, _, rfl, h2, rfl⟩
theorem IsF.lookup {K : PySem.W.Frag} {H : Hp} {n : Str} {d : D} : ∀ {ds : List (Str × D)} {vs : List (Str × V)}, IsF K H ds vs → ds.lookup n = some d → ∃ v, vs.lookup n = some v ∧ Is K H d v
  | [], _, h, e => nomatch e
  | (k, x) :: ds, _, h, e => by
    obtain ⟨v, r, h1, h2, h3⟩ := h
    rw [h1]
    rw [List.lookup_cons] at e ⊢
    by_cases q : n == k
    · rw [q] at e ⊢
      cases e
      exact ⟨v, rfl, h2⟩
    · rw [Bool.eq_false_iff.mpr q] at e ⊢
      exact IsF.lookup h3 e
variable {X : Cx} {pins : List (Addr × Obj)} {σ : L2.St} {H1 : Hp} {k : Nat} {x : Str} {C : Addr} {fs : List Str}
theorem call_mk {s1 : Shared} {us : List Value} {vs : List V} {Q : Value → Shared → Prop} (M : MkD X k x C fs) (hr : Room (k + 1) X.A) (I1 : Inv X pins σ H1 s1) (r1 : Vals vs us) (hl : vs.length = fs.length) (hz : fs.length ≤ 1000)
    (h : ∀ (a dx : Addr) (H2 : Hp) (s' : Shared), H1 a = none → H1 dx = none → dx ≠ a → Inv X pins σ H2 s' → H2 a = some (exo a C (some dx)) → H2 dx = some (exd dx (putF fs vs)) → (∀ b, b ≠ a → b ≠ dx → H2 b = H1 b) → Q (.ref a) s') : wpAny (model X.prog X.w) X.A (call (.ref C) us) Q X.xe s1 := by
  obtain ⟨fI, fd, ps, iC, tI, F1, hb⟩ := M.ex
  obtain ⟨nm, q, N, bs, bm, sn, sub, ab, col, dd, k0, k1, k2, k3, k5, hC, hbm⟩ := M.oc.cls
  obtain ⟨hp, g, dr, tk, os⟩ := s1
  have hsz : hp.objs.size ≤ hp.objs.size + 1 := Nat.le_succ _
  have hn : H1 (hp.objs.size + 1) = none := I1.hok.fresh hsz
  have kk : ∀ b o, hp.get? b = some o → ((hp.push (PySem.W.kdv_tup us)).push (PySem.HandSPX.excO C hp.objs.size)).get? b = some o := fun b o e => Heap.get?_push_of_some _ (Heap.get?_push_of_some _ e)
  have hget : ((hp.push (PySem.W.kdv_tup us)).push (PySem.HandSPX.excO C hp.objs.size)).get? (hp.objs.size + 1) = some (PySem.HandSPX.excO C hp.objs.size) := by heap_get
  have I2 : Inv X pins σ (upd H1 (hp.objs.size + 1) (exo (hp.objs.size + 1) C none)) ⟨(hp.push (PySem.W.kdv_tup us)).push (PySem.HandSPX.excO C hp.objs.size), g, dr, tk, os⟩ :=
    I1.laid (t' := tk) (a := hp.objs.size + 1) (o := exo (hp.objs.size + 1) C none) (h' := (hp.push (PySem.W.kdv_tup us)).push (PySem.HandSPX.excO C hp.objs.size)) kk hsz (exo_ok hget)
  have hq : spInit C fs (.ref (hp.objs.size + 1) :: vs) (upd H1 (hp.objs.size + 1) (exo (hp.objs.size + 1) C none)) (fun v H2 => v = .non ∧ ∃ dx : Addr, H1 dx = none ∧ dx ≠ hp.objs.size + 1 ∧ H2 (hp.objs.size + 1) = some (exo (hp.objs.size + 1) C (some dx)) ∧ H2 dx = some (exd dx (putF fs vs)) ∧ ∀ b, b ≠ hp.objs.size + 1 → b ≠ dx → H2 b = H1 b) (fun _ _ _ => False) :=
    ⟨_, vs, rfl, hl, upd_same, fun dx H' e1 e2 e3 e4 e5 => ⟨rfl, dx, by rw [upd_ne e2] at e1; exact e1, e2, e3, e4, fun b n1 n2 => by rw [e5 b n1 n2, upd_ne n1]⟩⟩
  have r2 : Vals (V.ref (hp.objs.size + 1) :: vs) (Value.ref (hp.objs.size + 1) :: us) := .cons rfl r1
  have hlen : (Value.ref (hp.objs.size + 1) :: us).length = ps.length := by
    have e := r2.length
    rw [F1.len _ _ _ _ hq] at e
    exact e.symm
  have hus : us.length ≤ sizeLine := by
    rw [← Paired.length r1, sizeLine_eq]
    omega
  have hb2 := hb _ (Value.ref (hp.objs.size + 1) :: us) I2.kIn (by rw [List.append_nil]; exact hlen)
  rw [List.append_nil] at hb2
  refine wpAny_call (PySem.HandSPX.call_own F.excBase_ValueError (fun Y => PySem.HandSPX.refsVE_contains Y bm hbm) (I1.kIn _ _ hC) (PySem.W.looks_findIn I1.kIn iC) (fun self => PySem.W.bind_fn I1.kIn self tI) hus
    (codeAny_mono (F1.run _ X.stack _ _ ⟨Value.ref (hp.objs.size + 1) :: us, []⟩ (Value.ref (hp.objs.size + 1) :: us) _ _ (fun _ _ _ => False) (hr.make C us []) (I2.env0.make C us []) hb2 r2 hq) fun r s' hq' => ?_))
  cases r with
  | error er => exact passes_call wx_takes (E := fun _ _ _ => False) (fun _ _ _ _ z => z.elim) pins σ _ _ er s' I2 hq'
  | ok fl =>
    cases fl with
    | ret u =>
      obtain ⟨v, H2, os2, bare2, un2, hok2, rv, ev, dx, n1, n2, ea, ed, hk⟩ := hq'
      subst ev
      exact ⟨rv, h _ dx H2 _ hn n1 n2 (I2.call' (ch := []) os2 un2 hok2 bare2 fun b z => absurd z (by simp)) ea ed hk⟩
    | next => exact False.elim hq'
    | brk => exact False.elim hq'
    | cont => exact False.elim hq'
/-- C(e, ..) as a value -/
theorem ee_mk {e : Expr} {es : List Expr} {as : DE} {ds : List D} {p pos : Pos} (M : MkD X k x C fs) (hr : Room (k + 1) X.A) (hg : Gl X x) (hdb : (x == ("__debug__" : Str)) = false) (ha : EA X (e :: es) as ds) (hl : ds.length = fs.length) (hz : fs.length ≤ 1000)
    (he : starEach (e :: es) X.env = (false, eval e X.env) :: starEach es X.env := by rfl) (hpl : (backTo pos (starEach es X.env)).any (·.1) = false := by rfl) : EE X (.Call (.Name x p) (e :: es) [] pos) as (.exv C (putD fs ds)) := .mk fun σ H0 H hs hf Q q => by
  intro pins s I
  refine wpAny_Call_Name_kw (ld_glob I hg M.g ?_ hdb)
  refine PySem.W.callWith_K (h₀ := X.base) I.ok.mod.kin M.oc.kC (thn ((ra_pa (es := e :: es)).run pos pins s σ H (fun vs H' => ∃ H0', Grow H0 H H0' H' ∧ IsL X.K H0' ds vs) I (ha.run σ H0 H hs hf _ fun vs H1 H' g i => ⟨H1, g, i⟩)) fun us s1 ⟨vs, H1, I1, r1, H0', g, iv⟩ => ⟨I1.kIn, ?_⟩) he hpl
  show wpAny _ _ (call (.ref C) us) _ _ _
  refine call_mk M hr I1 r1 (by rw [iv.len]; exact hl) hz fun a dx H2 s' n1 n2 ne J ea ed hk => ?_
  have m1 : H0' a = none := g.sub.free n1
  have m2 : H0' dx = none := g.sub.free n2
  have sm : Same H0' (upd (upd H0' a (exo a C (some dx))) dx (exd dx (putF fs vs))) := (Same.new m1).trans (Same.new (by rw [upd_ne ne]; exact m2))
  refine ⟨.ref a, H2, J, rfl, q (.ref a) (upd (upd H0' a (exo a C (some dx))) dx (exd dx (putF fs vs))) H2 (g.trans ⟨sm, fun b o e => ?_, fun b o e => ?_, fun b z => ?_⟩) ⟨a, dx, _, rfl, ?_, upd_same, ?_⟩⟩
  · rw [hk b (ne_of_none e n1) (ne_of_none e n2)]
    exact e
  · by_cases h1 : b = dx
    · subst h1
      rw [upd_same] at e
      rw [ed]
      exact e
    · rw [upd_ne h1] at e
      by_cases h2 : b = a
      · subst h2
        rw [upd_same] at e
        rw [ea]
        exact e
      · rw [upd_ne h2] at e
        rw [hk b h2 h1]
        exact g.sub b o e
  · by_cases h1 : b = dx
    · rw [h1]; exact .inr n2
    · rw [upd_ne h1] at z
      by_cases h2 : b = a
      · rw [h2]; exact .inr n1
      · rw [upd_ne h2] at z
        exact .inl z
  · rw [upd_ne (Ne.symm ne), upd_same]
  · exact (isF_zip (iv.mono sm)).rev
/-- e.f, e an exception held as a value -/
theorem ee_xv {e : Expr} {as : DE} {n : Str} {d : D} {ms : List (Str × D)} {pos : Pos} (T : XfC X.K C) (hno : PySem.W.findIn X.K (.ref C) n = some none) (he : EE X e as (.exv C ms)) (hl : ms.lookup n = some d) (hb : attributeBase e n X.env (eval e X.env) = eval e X.env := by rfl) : EE X (.Attribute e n pos) as d := .mk fun σ H0 H hs hf Q q =>
  re_of (pe_xv T hno re_pe hb) (he.run σ H0 H hs hf _ fun v H1 H' g i => by
    obtain ⟨a, dx, gs, e1, e2, e3, e4⟩ := i
    obtain ⟨v', h1, h2⟩ := e4.lookup hl
    exact ⟨a, dx, gs, v', e1, g.sub _ _ e2, g.sub _ _ e3, h1, q _ _ _ g h2⟩)
theorem ca_isV {M : Addr} {b : Bool} {ms : List (Str × D)} (T : ExcC X.K C) (hk : PySem.W.kitOne X.K (.ref C) (.ref M) = some b) : CaD X (.builtin "isinstance") [.exv C ms, .cls M] (.bl b) := .flat (call_isV T) (fun _ => rfl) fun vs H h Q q => by
  obtain ⟨v, w, e, h1, h2⟩ := is2 h
  obtain ⟨a, dx, gs, e1, e2, e3, e4⟩ := h1
  rw [e1, show w = _ from h2] at e
  exact ⟨a, dx, gs, .ref M, .ref M, b, e, e2, e3, fun u r => r, hk, q⟩
end
end Mw
set_option maxHeartbeats 4000000
/-! own __init__s of exceptions; such exceptions raised -/
namespace Mw
open PySem PySem.Spec PyProof.Rows L2
/-- an own base class of exceptions, without own __init__ -/
structure BaseI (K : PySem.W.Frag) (mg : Str → Option Value) (n : Str) (M : Addr) : Prop where
  g : mg n = some (.ref M)
  ex : ∃ mc, ClX.CRead K M mc ∧ PySem.W.findCls K (.ref M) mc "__init__" = some (.val (.builtin "ValueError.__init__"))
section
variable {X : Cx} {N L gs : List Str} {k : Nat} {sc : Scope} {σ : L2.St} {H : Hp} {E : Ends} {a C M dx : Addr} {y : V} {f n : Str} {i j : Nat} {e : Expr} {es : List Expr} {ta : TA} {p p' p1 p2 p3 pos pos' : Pos} {st : Stmt} {sts : List Stmt}
theorem pe_meinit {pl : Sem Bool} {mc : Value} (hg : Gl X n) (hm : X.mg n = some (.ref M)) (hdb : (n == ("__debug__" : Str)) = false) (r : ClX.CRead X.K M mc) (vV : PySem.W.findCls X.K (.ref M) mc "__init__" = some (.val (.builtin "ValueError.__init__"))) (ha : PA X (e :: es) ta)
    (hc : eval (.Call (.Attribute (.Name n p1) "__init__" p2) (e :: es) [] pos) X.env = (do
      let ov ← eval (.Name n p1) X.env
      standAt p2.atName
      let (f, first) ← holding [ov] (getMethod ov "__init__" pl)
      callWith pos f first (backTo pos (starEach (e :: es) X.env)) (backToKw pos (keywordEach [] X.env))) := by rfl)
    (he : starEach (e :: es) X.env = (false, eval e X.env) :: starEach es X.env := by rfl) (hpl : (backTo pos (starEach es X.env)).any (·.1) = false := by rfl) :
    PE X (.Call (.Attribute (.Name n p1) "__init__" p2) (e :: es) [] pos) (tVeI X.K ta) := by
  refine ⟨fun pins s σ H Q I h => ?_⟩
  refine PySem.W.methodCall_KW (ld_glob I hg hm ?_ hdb) hc
  refine PySem.W.method_cls I.kIn r.ga (PySem.W.cls_value I.kIn r.rd vV (by decide +kernel) ?_)
  show wpAny _ _ (callWith pos (Value.builtin "ValueError.__init__") [] (backTo pos (starEach (e :: es) X.env)) []) _ _ _
  refine PyProof.Rows.callWith_method1 (thn (ha.run pos pins _ σ H _ (I.tok _) h) fun us s1 ⟨vs, H1, I1, r1, a, C, ws, ev, hl, T, ea, q⟩ => ?_) he hpl
  subst ev
  obtain ⟨u0, ur, rfl, ra, rw'⟩ : ∃ u0 ur, us = u0 :: ur ∧ RelV (.ref a) u0 ∧ Vals ws ur := by cases r1; exact ⟨_, _, rfl, ‹_›, ‹_›⟩
  obtain rfl : u0 = Value.ref a := ra
  exact oinit_ok T I1 ea (by rw [← Paired.length rw', sizeLine_eq]; omega) fun s' J => ⟨.non, H1, J, rfl, q⟩
theorem rs_then (h : rs X st { E with nx := fun σ' H' => rss X sts E σ' H' } σ H) : rss X (st :: sts) E σ H := rss_of (pss_cons rs_ps rss_pss) h
theorem rs_last (h : rs X st E σ H) : rss X [st] E σ H := rss_of (pss_one rs_ps) h
/-- B.__init__(self, 'm') -/
theorem st_meinit {m g0 : Str} {z : Nat} (B : Body X N L gs k sc) (hb : BaseI X.K X.mg n M) (hn : At gs n j) (h0 : At L g0 0) (T : OexC X.K C) (hs : σ[0]? = some (some (.ref a))) (ha : H a = some (exo a C none)) (q : E.nx σ H)
    (hw : swapsWith (.Call (.Attribute (.Name n p1) "__init__" p2) [.Name g0 p, .Constant (.str m) z p'] [] pos) none pos'.line X.env = pure false := by rfl)
    (he : starEach [.Name g0 p, .Constant (.str m) z p'] X.env = (false, eval (.Name g0 p) X.env) :: starEach [.Constant (.str m) z p'] X.env := by rfl) (he2 : starEach [.Constant (.str m) z p'] X.env = (false, eval (.Constant (.str m) z p') X.env) :: starEach [] X.env := by rfl)
    (hpl : (backTo pos (starEach [.Constant (.str m) z p'] X.env)).any (·.1) = false := by rfl) {pl : Sem Bool}
    (hc : eval (.Call (.Attribute (.Name n p1) "__init__" p2) [.Name g0 p, .Constant (.str m) z p'] [] pos) X.env = (do
      let ov ← eval (.Name n p1) X.env
      standAt p2.atName
      let (f, first) ← holding [ov] (getMethod ov "__init__" pl)
      callWith pos f first (backTo pos (starEach [.Name g0 p, .Constant (.str m) z p'] X.env)) (backToKw pos (keywordEach [] X.env))) := by rfl) :
    rs X (.Expr (.Call (.Attribute (.Name n p1) "__init__" p2) [.Name g0 p, .Constant (.str m) z p'] [] pos) pos') E σ H := by
  obtain ⟨mc, r, vV⟩ := hb.ex
  obtain ⟨g1, g2, _⟩ := B.gls hn
  obtain ⟨a1, a2, a3, a4⟩ := B.locs h0
  refine rs_of (ps_expr (pe_meinit g1 hb.g g2 r vV (pa_cons (pe_var a1 (loc_vis a2) a3 a4) (pa_cons pe_str pa_nil he2) he) hc he hpl) hw) ?_
  exact ⟨.ref a, hs, a, C, [.str m], rfl, (show 1 ≤ 1000 by decide), T, ha, q⟩
/-- self.f = v, the first one -/
theorem st_first {g q : Str} (B : Body X N L gs k sc) (h0 : At L q 0) (hi : At L g i) (T : OexC X.K C) (hf : PySem.W.findIn X.K (.ref C) f = some none) (hs : σ[0]? = some (some (.ref a))) (hy : σ[i]? = some (some y)) (ha : H a = some (exo a C none))
    (nx : ∀ dx, H dx = none → dx ≠ a → E.nx σ (upd (upd H dx (exd dx [(f, y)])) a (exo a C (some dx)))) (hw : swapsWith (.Name g p) (some (.Attribute (.Name q p1) f p')) pos.line X.env = pure false := by rfl) : rs X (.Assign [.Attribute (.Name q p1) f p'] (.Name g p) pos) E σ H := by
  obtain ⟨a1, a2, a3, a4⟩ := B.locs h0
  obtain ⟨b1, b2, b3, b4⟩ := B.locs hi
  refine rs_of (ps_ost (pe_var a1 (loc_vis a2) a3 a4) (pe_var b1 (loc_vis b2) b3 b4) hw) ?_
  exact ⟨y, hy, .ref a, hs, a, C, rfl, T, hf, .inl ⟨ha, nx⟩⟩
/-- .. a further one -/
theorem st_more {g q : Str} {ms : List (Str × V)} (B : Body X N L gs k sc) (h0 : At L q 0) (hi : At L g i) (T : OexC X.K C) (hf : PySem.W.findIn X.K (.ref C) f = some none) (hs : σ[0]? = some (some (.ref a))) (hy : σ[i]? = some (some y)) (ha : H a = some (exo a C (some dx))) (hd : H dx = some (exd dx ms)) (hl : ms.length ≤ 900)
    (nx : E.nx σ (upd H dx (exd dx ((f, y) :: ms)))) (hw : swapsWith (.Name g p) (some (.Attribute (.Name q p1) f p')) pos.line X.env = pure false := by rfl) : rs X (.Assign [.Attribute (.Name q p1) f p'] (.Name g p) pos) E σ H := by
  obtain ⟨a1, a2, a3, a4⟩ := B.locs h0
  obtain ⟨b1, b2, b3, b4⟩ := B.locs hi
  refine rs_of (ps_ost (pe_var a1 (loc_vis a2) a3 a4) (pe_var b1 (loc_vis b2) b3 b4) hw) ?_
  exact ⟨y, hy, .ref a, hs, a, C, rfl, T, hf, .inr ⟨dx, ms, ha, hd, hl, nx⟩⟩
end
section
variable {P : Program} {w : World} {K : PySem.W.Frag} {mg : Str → Option Value} {base : Heap}
theorem fn_okI {x qual : Str} {st : Stmt} {f C : Addr} {fd : FuncData} {N L ps gs fs : List Str} {k : Nat} (F : Fun K x qual st f fd) (W : BodyOk N L ps gs (defScope st)) (len : ps.length = fs.length + 1)
    (body : ∀ X : Cx, X.prog = P → X.w = w → X.K = K → X.mg = mg → X.base = base → Body X N L gs k (defScope st) → ∀ (a : Addr) (ys : List V) (H : Hp) (Q : VK), ys.length = fs.length → H a = some (exo a C none) →
      (∀ (dx : Addr) (H' : Hp), H dx = none → dx ≠ a → H' a = some (exo a C (some dx)) → H' dx = some (exd dx (putF fs ys)) → (∀ b, b ≠ a → b ≠ dx → H' b = H b) → Q .non H') →
      rss X (defBody st) { nx := fun _ H' => Q .non H', rt := Q } (L2.start N (.ref a :: ys)) H) : FnOk P w K mg base (L2.CX P w) (k + 1) f fd ps (spInit C fs) := by
  refine F.okX W.fs (fun vs H Q E h => ?_) (fun cdv A outer s H vs Q E hr h => ?_)
  · obtain ⟨a, ys, rfl, h1, _⟩ := h
    rw [List.length_cons, h1, len]
  · obtain ⟨a, ys, rfl, h1, h2, h3⟩ := h
    have BX : Body (cxOf (L2.CX P w) P w K mg base N qual (defScope st) f cdv A outer s H E) N L gs k (defScope st) := ⟨rfl, rfl, W.fs.nd, W.pre, W.loc, W.gl, W.fs.kind, W.fs.nofree, fun _ => rfl, hr, rfl, passes_of rfl, rfl, rfl⟩
    exact ⟨_, rss_pss, body _ rfl rfl rfl rfl rfl BX a ys H Q h1 h2 h3⟩
end
/-! ### raise C(e, ..) -/
section
variable {X : Cx} {N L gs : List Str} {k k' : Nat} {sc : Scope} {C : Addr} {n : Str} {j : Nat} {fs : List Str} {e : Expr} {es : List Expr} {as : AS} {ds : List D} {F : Fin} {Gs G : Hp} {p pos pos' : Pos}
theorem t_raiseF (B : Body X N L gs k sc) (M : MkD X k' n C fs) (hn : At gs n j) (hr : Room (k' + 1) X.A) (ha : EA X (e :: es) (vis as) ds) (hl : ds.length = fs.length) (hz : fs.length ≤ 1000) (q : F.ex ⟨C, putD fs ds⟩ (frz as))
    (he : starEach (e :: es) X.env = (false, eval e X.env) :: starEach es X.env := by rfl) (hpl : (backTo pos (starEach es X.env)).any (·.1) = false := by rfl) : S1 X Gs G (.Raise (some (.Call (.Name n p) (e :: es) [] pos)) none pos') as F := by
  obtain ⟨g1, g2, _⟩ := B.gls hn
  obtain ⟨fI, fd, ps, iC, tI, F1, hb⟩ := M.ex
  refine s1_frz ⟨fun σ H H0 S E ok => ?_⟩
  refine rs_of (ps_raise B.calm wx_takes (pmk_oex (dvs := []) M.oc iC tI F1 hr hb .nil (passes_call wx_takes (E := fun _ _ _ => False) (fun _ _ _ _ z => z.elim)) g1 M.g ra_pa g2 he hpl)) ?_
  have sf := S.hid
  rw [vis_frz] at sf
  refine ha.run σ H0 H S.grow.sub sf _ fun vs H1 H' g iv => ?_
  have hlv : vs.length = fs.length := by rw [iv.len]; exact hl
  refine ⟨by omega, fun a na => ?_⟩
  rw [List.append_nil]
  refine ⟨a, vs, rfl, hlv, upd_same, fun dx H2 n1 ne ea ed hk => ⟨rfl, dx, _, ea, ed, by rw [upd_ne ne] at n1; exact n1, ?_⟩⟩
  rw [upd_ne ne] at n1
  have eq : upd (L2.del H2 a) dx (.xd (putF fs vs)) = upd H' dx (.xd (putF fs vs)) := by
    funext b
    by_cases h1 : b = dx
    · rw [h1, upd_same, upd_same]
    · rw [upd_ne h1, upd_ne h1]
      by_cases h2 : b = a
      · rw [h2, L2.del_same, na]
      · rw [L2.del_ne h2, hk b h2 h1, upd_ne h2]
  rw [eq]
  have g2' := g.trans (Grow.laid (o := .xd (putF fs vs)) g.sub n1)
  have nn : putD fs ds ≠ [] := by
    intro z
    have z1 : (fs.zip ds).length = 0 := by rw [← List.length_reverse]; exact congrArg List.length z
    rw [List.length_zip, hl, Nat.min_self] at z1
    exact M.nn (List.length_eq_zero_iff.mp z1)
  exact ok.ex (.ref C) (some dx) σ _ ⟨C, putD fs ds⟩ _ _ g2'.frz (S.more g2') ⟨rfl, .inr ⟨nn, dx, putF fs vs, rfl, upd_same, (isF_zip (iv.mono (Same.new (g.sub.free n1)))).rev⟩⟩ q
end
section
variable {X : Cx} {gs : List Str} {k' : Nat} {C : Addr} {n : Str} {j : Nat} {fs : List Str} {e : Expr} {es : List Expr} {as : DE} {ds : List D} {p pos : Pos} {d : D} {ms : List (Str × D)}
theorem e_mk (B : Gls X gs) (M : MkD X k' n C fs) (h : At gs n j) (hr : Room (k' + 1) X.A) (ha : EA X (e :: es) as ds) (hl : ds.length = fs.length) (hz : fs.length ≤ 1000)
    (he : starEach (e :: es) X.env = (false, eval e X.env) :: starEach es X.env := by rfl) (hpl : (backTo pos (starEach es X.env)).any (·.1) = false := by rfl) : EE X (.Call (.Name n p) (e :: es) [] pos) as (.exv C (putD fs ds)) :=
  let ⟨g1, g2, _⟩ := B.at_ _ _ h
  ee_mk M hr g1 g2 ha hl hz he hpl
/-- what is asked of a class whose instances' fields are read -/
structure XvC (K : PySem.W.Frag) (C : Addr) : Prop where
  x : XfC K C
  e : ExcC K C
abbrev NoAt (K : PySem.W.Frag) (C : Addr) (n : Str) : Prop := PySem.W.findIn K (.ref C) n = some none
theorem e_xv (he : EE X e as (.exv C ms)) (T : XvC X.K C) (hno : NoAt X.K C n) (hl : ms.lookup n = some d) (hb : attributeBase e n X.env (eval e X.env) = eval e X.env := by rfl) : EE X (.Attribute e n pos) as d := ee_xv T.x hno he hl hb
end
end Mw
set_option maxHeartbeats 4000000
/-! objects without fields or with frozen ones: made, their methods, isinstance -/
namespace Mw
open PySem PySem.Spec PyProof.Rows L2
/-- what a caller has of a method of the class at C -/
structure MetE (P : Program) (w : World) (K : PySem.W.Frag) (mg : Str → Option Value) (base : Heap) (k : Nat) (C : Addr) (m : Str) (dds : List D) (S : FS) : Prop where
  c : Cls K C
  ex : ∃ (f : Addr) (fd : FuncData) (ps : List Str) (dvs : List V) (dus : List Value), Meth K C m f ∧ FnOk P w K mg base (L2.CX P w) k f fd ps (spOf K S) ∧ Binds K fd ps dus ∧ Dflt K dds dvs dus
abbrev MetD (X : Cx) (k : Nat) (C : Addr) (m : Str) (dds : List D) (S : FS) : Prop := MetE X.prog X.w X.K X.mg X.base k C m dds S
/-- a class without own __init__ -/
structure New0 (K : PySem.W.Frag) (mg : Str → Option Value) (x : Str) (C : Addr) : Prop where
  makes : PySem.W.makesIn K C = true
  init : PySem.W.findIn K (.ref C) "__init__" = some (some (.builtin "object.__init__"))
  kp : PySem.W.keepIn K (.ref C) = true
  top : PySem.W.mroIn K C (.type "object") = some true
  g : mg x = some (.ref C)
/-- an instance's class, for isinstance -/
structure InsE (K : PySem.W.Frag) (C : Addr) : Prop where
  c : Cls K C
  ha : PySem.W.findIn K (.ref C) "__class__" = some (some (.builtin "object.__class__"))
  hn : PySem.W.specialIn K (.builtin "object.__class__") "__get__" = some (some (.builtin "getset_descriptor.__get__"))
  ht : PySem.W.takesIn K (.builtin "object.__class__") = some true
  hm : PySem.W.mroIn K C (.type "object") = some true
section
variable {X : Cx} {gs : List Str} {k k' : Nat} {C : Addr} {m x : Str} {dds : List D} {S : FS} {fs : List (Str × D)} {o e : Expr} {es : List Expr} {as : DE} {ds : List D} {d : D} {apos pos p : Pos} {to : TE} {ta : TA} {sp : Sp} {f : Addr} {fd : FuncData} {ps : List Str} {dvs : List V} {dus : List Value} {E : L2.St → XK} {j : Nat}
def tMethD (C : Addr) (m : Str) (sp : Sp) (dvs : List V) (E : L2.St → XK) (ta : TE) (t : TA) : TE := fun σ H Q => ta σ H fun x H1 => ∃ a dx fs, x = .ref a ∧ H1 a = some (.ins C dx fs) ∧ fs.lookup m = none ∧
  t σ H1 fun vs H2 => sp (x :: (vs ++ dvs)) H2 Q (E σ)
theorem pe_methD {pl : Sem Bool} {CX : CXT} (he : PE X o to) (c : Cls X.K C) (hm : Meth X.K C m f) (F : FnOk X.prog X.w X.K X.mg X.base CX k f fd ps sp) (hr : Room k X.A) (hb : Binds X.K fd ps dus) (hd : Vals dvs dus) (hx : ∀ σ, PassesAt CX X σ (E σ)) (ha : PA X (e :: es) ta)
    (hst : starEach (e :: es) X.env = (false, eval e X.env) :: starEach es X.env := by rfl) (hpl : (backTo pos (starEach es X.env)).any (·.1) = false := by rfl)
    (ht : eval (.Call (.Attribute o m apos) (e :: es) [] pos) X.env = (do
      let ov ← eval o X.env
      standAt apos.atName
      let (f, first) ← holding [ov] (getMethod ov m pl)
      callWith pos f first (backTo pos (starEach (e :: es) X.env)) (backToKw pos (keywordEach [] X.env))) := by rfl) : PE X (.Call (.Attribute o m apos) (e :: es) [] pos) (tMethD C m sp dvs E to ta) := by
  refine ⟨fun pins s σ H Q I h => ?_⟩
  refine PySem.W.methodCall_KW (pl := pl) (thn (he.run pins s σ H _ I h) fun u s1 ⟨x, H1, I1, rx, a, dx, fs, ex, ea, l, q⟩ => ?_) ht
  subst ex
  obtain rfl : u = Value.ref a := rx
  refine getmeth_ok I1 ea c hm l ?_
  refine PySem.W.callWith_K (first := [.ref a]) (h₀ := X.base) I.ok.mod.kin hm.kp (thn (ha.run pos pins s1 σ H1 _ I1 q) fun us s2 ⟨vs, H2, I2, r, q2⟩ => ⟨I2.kIn, ?_⟩) hst hpl
  exact run_fnD (us := .ref a :: us) (vs := .ref a :: vs) F hr hb hd (hx σ) I2 (.cons rfl r) q2
theorem isF_none {K : PySem.W.Frag} {H : Hp} {n : Str} : ∀ {ds : List (Str × D)} {vs : List (Str × V)}, IsF K H ds vs → ds.lookup n = none → vs.lookup n = none
  | [], _, h, _ => by rw [show _ = [] from h]; rfl
  | (k, x) :: ds, _, h, e => by
    obtain ⟨v, r, h1, h2, h3⟩ := h
    rw [h1]
    rw [List.lookup_cons] at e ⊢
    by_cases q : n == k
    · rw [q] at e; cases e
    · rw [Bool.eq_false_iff.mpr q] at e ⊢
      exact isF_none h3 e
/-- o.m(e, ..) -/
theorem ee_meth {pl : Sem Bool} (M : MetD X k C m dds S) (ho : EE X o as (.obj C fs)) (hl : fs.lookup m = none) (ha : EA X (e :: es) as ds) (hS : S (.obj C fs :: (ds ++ dds)) (.ok d)) (hr : Room k X.A)
    (hst : starEach (e :: es) X.env = (false, eval e X.env) :: starEach es X.env := by rfl) (hpl : (backTo pos (starEach es X.env)).any (·.1) = false := by rfl)
    (ht : eval (.Call (.Attribute o m apos) (e :: es) [] pos) X.env = (do
      let ov ← eval o X.env
      standAt apos.atName
      let (f, first) ← holding [ov] (getMethod ov m pl)
      callWith pos f first (backTo pos (starEach (e :: es) X.env)) (backToKw pos (keywordEach [] X.env))) := by rfl) : EE X (.Call (.Attribute o m apos) (e :: es) [] pos) as d := .mk fun σ H0 H hs hf Q q => by
  obtain ⟨f, fd, ps, dvs, dus, hm, F, hb, hd⟩ := M.ex
  refine re_of (pe_methD (pl := pl) (E := WE (wx X)) re_pe M.c hm F hr hb hd.vals (fun σ => passAt wx_takes σ) ra_pa hst hpl ht) ?_
  refine ho.run σ H0 H hs hf _ fun v H1 H' g i => ?_
  obtain ⟨a, dx, gs, h1, h2, h3⟩ := i
  refine ⟨a, dx, gs, h1, g.sub _ _ h2, isF_none h3 hl, ?_⟩
  refine ha.run σ H1 H' g.sub (hf.mono g.frz) _ fun vs H2 H'' g' i' => ?_
  exact ⟨H2, .obj C fs :: (ds ++ dds), .ok d, g'.sub, IsL.cons (Is.mono g'.frz ⟨a, dx, gs, h1, h2, h3⟩) (i'.app (hd.is H2)), hS, fun v _ _ g'' i'' => q v _ _ ((g.trans g').trans g'') i''⟩
theorem ex_meth {pl : Sem Bool} {xn : Exn} (M : MetD X k C m dds S) (ho : EE X o as (.obj C fs)) (hl : fs.lookup m = none) (ha : EA X (e :: es) as ds) (hS : S (.obj C fs :: (ds ++ dds)) (.error xn)) (hr : Room k X.A)
    (hst : starEach (e :: es) X.env = (false, eval e X.env) :: starEach es X.env := by rfl) (hpl : (backTo pos (starEach es X.env)).any (·.1) = false := by rfl)
    (ht : eval (.Call (.Attribute o m apos) (e :: es) [] pos) X.env = (do
      let ov ← eval o X.env
      standAt apos.atName
      let (f, first) ← holding [ov] (getMethod ov m pl)
      callWith pos f first (backTo pos (starEach (e :: es) X.env)) (backToKw pos (keywordEach [] X.env))) := by rfl) : EX X (.Call (.Attribute o m apos) (e :: es) [] pos) as xn := .mk fun σ H0 H hs hf Q q => by
  obtain ⟨f, fd, ps, dvs, dus, hm, F, hb, hd⟩ := M.ex
  refine re_of (pe_methD (pl := pl) (E := WE (wx X)) re_pe M.c hm F hr hb hd.vals (fun σ => passAt wx_takes σ) ra_pa hst hpl ht) ?_
  refine ho.run σ H0 H hs hf _ fun v H1 H' g i => ?_
  obtain ⟨a, dx, gs, h1, h2, h3⟩ := i
  refine ⟨a, dx, gs, h1, g.sub _ _ h2, isF_none h3 hl, ?_⟩
  refine ha.run σ H1 H' g.sub (hf.mono g.frz) _ fun vs H2 H'' g' i' => ?_
  exact ⟨H2, .obj C fs :: (ds ++ dds), .error xn, g'.sub, IsL.cons (Is.mono g'.frz ⟨a, dx, gs, h1, h2, h3⟩) (i'.app (hd.is H2)), hS, fun c dd _ _ g'' i'' => q c dd _ _ ((g.trans g').trans g'') i''⟩
/-- C() where there is no __init__ but object's -/
theorem pe_new00 (N : New0 X.K X.mg x C) (hg : Gl X x) (hdb : (x == ("__debug__" : Str)) = false) : PE X (.Call (.Name x p) [] [] pos) (fun _ H Q => ∀ a dx, H a = none → H dx = none → dx ≠ a → Q (.ref a) (upd (upd H dx (.own a)) a (.ins C dx []))) := by
  refine ⟨fun pins s σ H Q I h => ?_⟩
  refine wpAny_Call_Name_kw (ld_glob I hg N.g ?_ hdb)
  refine PySem.W.callWith_K0 I.kIn N.kp ?_
  have hq := h (s.heap.objs.size + 1) s.heap.objs.size (I.hok.fresh (Nat.le_succ _)) (I.hok.fresh (Nat.le_refl _)) (Nat.ne_of_lt (Nat.lt_succ_self _))
  have I2 := Inv.made (C := C) I
  refine wpAny_call (make_map0 I.kIn N.makes N.init (fun self => PySem.W.Looks.of_pure (PySem.W.oi_bind self)) ?_)
  have hget : ((s.heap.push PySem.W.emptyDict).push (PySem.W.instObj C s.heap.objs.size)).get? (s.heap.objs.size + 1) = some (PySem.W.instObj C s.heap.objs.size) := by heap_get
  have t1 : PySem.W.Looks (model X.prog X.w) ((s.heap.push PySem.W.emptyDict).push (PySem.W.instObj C s.heap.objs.size)) (typeOf (.ref (s.heap.objs.size + 1))) (.ref C) := (PySem.W.Looks.ld hget).andThen .now
  have top : PySem.W.Looks (model X.prog X.w) ((s.heap.push PySem.W.emptyDict).push (PySem.W.instObj C s.heap.objs.size)) (isSubtype (.ref C) (.type "object")) true := PySem.W.looks_mroIn (I2.kIn) N.top
  refine codeAny_call_builtin PySem.W.oi_plain PySem.W.entry_oi (@PySem.W.check_slot (model X.prog X.w) _ _ _ "object.__init__" "object" "__init__" (.ref (s.heap.objs.size + 1)) [] [] _ PySem.W.oi_kind PySem.W.oi_split (t1.andThen top) (PySem.W.oi_args (.ref (s.heap.objs.size + 1))) ?_)
  rw [PySem.W.oi_run]
  exact wpAny_pure (And.intro rfl ⟨V.ref (s.heap.objs.size + 1), _, I2, rfl, hq⟩)
theorem ee_new00 (N : New0 X.K X.mg x C) (hg : Gl X x) (hdb : (x == ("__debug__" : Str)) = false) : EE X (.Call (.Name x p) [] [] pos) as (.obj C []) := .mk fun σ H0 H hs hf Q q =>
  re_of (pe_new00 N hg hdb) fun a dx n1 n2 ne => by
    have m1 : H0 a = none := hs.free n1
    have m2 : H0 dx = none := hs.free n2
    refine q (.ref a) (upd (upd H0 dx (.own a)) a (.ins C dx [])) _ ⟨(Same.new m2).trans (Same.new (by rw [upd_ne (Ne.symm ne)]; exact m1)), (Same.new n2).trans (Same.new (by rw [upd_ne (Ne.symm ne)]; exact n1)), fun b o e => ?_, fun b z => ?_⟩ ⟨a, dx, [], rfl, upd_same, rfl⟩
    · by_cases h1 : b = a
      · rw [h1, upd_same] at e ⊢
        exact e
      · rw [upd_ne h1] at e ⊢
        by_cases h2 : b = dx
        · rw [h2, upd_same] at e ⊢
          exact e
        · rw [upd_ne h2] at e ⊢
          exact hs b o e
    · by_cases h1 : b = a
      · rw [h1]; exact .inr n1
      · rw [upd_ne h1] at z
        by_cases h2 : b = dx
        · rw [h2]; exact .inr n2
        · rw [upd_ne h2] at z
          exact .inl z
theorem e_new0 (B : Gls X gs) (N : New0 X.K X.mg x C) (h : At gs x j) : EE X (.Call (.Name x p) [] [] pos) as (.obj C []) :=
  let ⟨g1, g2, _⟩ := B.at_ _ _ h
  ee_new00 N g1 g2
/-- isinstance(o, M) of an instance -/
theorem ca_isO {M : Addr} {b : Bool} (T : InsE X.K C) (hk : PySem.W.kitOne X.K (.ref C) (.ref M) = some b) : CaD X (.builtin "isinstance") [.obj C fs, .cls M] (.bl b) := .flat call_isi (fun _ => rfl) fun vs H h Q q => by
  obtain ⟨v, w, e, h1, h2⟩ := is2 h
  obtain ⟨a, dx, gs, e1, e2, e3⟩ := h1
  rw [e1, show w = _ from h2] at e
  exact ⟨.ref a, .ref M, _, _, b, e, .own M, .base (.ins e2 T.c T.ha T.hn T.ht T.hm), hk, q⟩
theorem ca_isOT {T' : String} {b : Bool} (T : InsE X.K C) (hk : PySem.W.kitOne X.K (.ref C) (.type T') = some b) (hc : ClsV (.ty T') (.type T')) : CaD X (.builtin "isinstance") [.obj C fs, .ty T'] (.bl b) := .flat call_isi (fun _ => rfl) fun vs H h Q q => by
  obtain ⟨v, w, e, h1, h2⟩ := is2 h
  obtain ⟨a, dx, gs, e1, e2, e3⟩ := h1
  rw [e1, show w = _ from h2] at e
  exact ⟨.ref a, .ty T', _, _, b, e, hc, .base (.ins e2 T.c T.ha T.hn T.ht T.hm), hk, q⟩
end
end Mw
set_option maxHeartbeats 4000000
/-! slices, text * int, methods of texts and lists -/
namespace Mw
open PySem PySem.Spec PyProof.Rows L2
/-! ### slices -/
def ro (X : Cx) (e : Option Expr) : TO := fun σ H Q => ∀ (pins : List (Addr × Obj)) (s : Shared), Inv X pins σ H s → wpAny (model X.prog X.w) X.A (evalPart e X.env) (fun u s' => ∃ o H', Inv X pins σ H' s' ∧ IsPart u o ∧ Q o H') X.xe s
theorem ro_po {X : Cx} {e : Option Expr} : PO X e (ro X e) := ⟨fun pins s σ H Q I h => h pins s I⟩
theorem ro_of {X : Cx} {e : Option Expr} {t : TO} {σ : L2.St} {H : Hp} {Q : Option Int → Hp → Prop} (h : PO X e t) (q : t σ H Q) : ro X e σ H Q := fun pins s I => h.run pins s σ H Q I q
/-- a slice's part -/
structure EO (X : Cx) (o : Option Expr) (as : DE) (i : Option Int) : Prop where
  run : ∀ (σ : L2.St) (H0 H : Hp), Same H0 H → SlF X.K H0 σ as → ∀ Q : Option Int → Hp → Prop, (∀ H0' H', Grow H0 H H0' H' → Q i H') → ro X o σ H Q
section
variable {X : Cx} {as : DE} {e : Expr} {lo hi : Option Expr} {i j : Option Int} {p2 pos : Pos} {z : Str} {ds : List D}
theorem eo_none : EO X none as none := .mk fun σ H0 H hs hf Q q => ro_of po_none (q H0 H (Grow.refl hs))
theorem eo_some {n : Int} (h : EE X e as (.int n)) : EO X (some e) as (some n) := .mk fun σ H0 H hs hf Q q => ro_of (po_some re_pe) (h.run σ H0 H hs hf _ fun v H1 H' g iv => ⟨n, iv, q _ _ g⟩)
theorem ee_slS (he : EE X e as (.str z)) (hl : EO X lo as i) (hu : EO X hi as j) (hz : z.length ≤ sizeLine) : EE X (.Subscript e (.Slice lo hi none p2) pos) as (.str (cutS z i j)) := .mk fun σ H0 H hs hf Q q => by
  refine re_of (pe_slice sl_str re_pe ro_po ro_po) ?_
  refine he.run σ H0 H hs hf _ fun v H1 H' g iv => hl.run σ H1 H' g.sub (hf.mono g.frz) _ fun H2 H'' g' => hu.run σ H2 H'' g'.sub (hf.mono (g.frz.trans g'.frz)) _ fun H3 H3' g'' => ?_
  exact ⟨z, iv, hz, q _ _ _ ((g.trans g').trans g'') rfl⟩
def cutD (ds : List D) (lo hi : Option Int) : List D := (ds.drop (HT.sIx ds.length 0 lo)).take (HT.sIx ds.length ds.length hi - HT.sIx ds.length 0 lo)
theorem IsL.cut {K : PySem.W.Frag} {H : Hp} {vs : List V} (h : IsL K H ds vs) (i j : Option Int) : IsL K H (cutD ds i j) (cutV vs i j) := by
  unfold cutD cutV
  rw [h.len]
  exact (h.drop _).take _
theorem en_slL (he : EE X e as (.lst ds)) (hl : EO X lo as i) (hu : EO X hi as j) : EN X (.Subscript e (.Slice lo hi none p2) pos) as (.lst (cutD ds i j)) := .mk fun σ H0 H hs hf Q q => by
  refine re_of (pe_slice sl_list re_pe ro_po ro_po) ?_
  refine he.run σ H0 H hs hf _ fun v H1 H' g iv => hl.run σ H1 H' g.sub (hf.mono g.frz) _ fun H2 H'' g' => hu.run σ H2 H'' g'.sub (hf.mono (g.frz.trans g'.frz)) _ fun H3 H3' g'' => ?_
  obtain ⟨a, vs, h1, h2, h3⟩ := iv
  have G3 := (g.trans g').trans g''
  refine ⟨a, vs, h1, Same.lst ((g'.frz.trans g''.frz).trans g''.sub) h2, fun p hp => ?_⟩
  exact q p H3 _ (G3.trans (Grow.made g''.sub hp)) (G3.all.free hp) (g''.sub.free hp) ⟨_, upd_same, (h3.mono (g'.frz.trans g''.frz)).cut i j⟩
end
/-! ### text * int -/
def mulS (z : Str) (n : Int) : Str := ⟨(List.replicate n.toNat z.cps).foldl (· ++ ·) #[]⟩
theorem foldl_empty : ∀ n : Nat, (List.replicate n (#[] : Array Nat)).foldl (· ++ ·) #[] = #[]
  | 0 => rfl
  | n + 1 => by
    rw [List.replicate_succ, List.foldl_cons, Array.append_empty]
    exact foldl_empty n
def rMulS : R2 := fun x y H Q => ∃ (z : Str) (n : Int), x = .str z ∧ y = .int n ∧ 0 ≤ n ∧ n < 2 ^ 31 ∧ z.length < 2 ^ 31 ∧ z.length * n.toNat ≤ sizeLine ∧ (mulS z n).length ≤ sizeLine ∧ Q (.str (mulS z n)) H
section
variable {X : Cx}
theorem op_mulS : OpR X (binaryOp .Mult) rMulS := by
  intro pins s σ H x y v u Q I rx ry h
  obtain ⟨z, n, rfl, rfl, h0, h1, h2, h3, h4, q⟩ := h
  obtain ⟨t, rfl⟩ := rx
  obtain ⟨u', rfl⟩ := ry
  refine P.mul_str (by rw [decide_eq_false (by omega), decide_eq_false (by omega)] <;> rfl) (fun a b => ?_) (fun a b => ?_) ?_
  · have hn : 0 < n := by omega
    have : ((2 : Int) ^ 63 - 1) / n ≥ 2 ^ 31 := by
      refine (Int.le_ediv_iff_mul_le hn).mpr ?_
      have : (2 : Int) ^ 31 * n ≤ 2 ^ 31 * (2 ^ 31) := Int.mul_le_mul_of_nonneg_left (by omega) (by decide)
      omega
    omega
  · unfold Builtin.Str.tooLong
    exact decide_eq_false (by omega)
  · by_cases c1 : n < 1
    · rw [if_pos c1]
      have e : mulS z n = Str.empty := by
        unfold mulS
        rw [show n.toNat = 0 by omega]
        rfl
      rw [e] at q
      exact ⟨by decide, .str _, H, I.tok _, ⟨_, rfl⟩, q⟩
    · rw [if_neg c1]
      by_cases c2 : (n == 1 || z.length == 0) = true
      · rw [if_pos c2]
        have e : mulS z n = z := by
          unfold mulS
          rcases Bool.or_eq_true_iff.mp c2 with c | c
          · rw [show n.toNat = 1 by have := eq_of_beq c; omega]
            show Str.mk (#[] ++ z.cps) = z
            rw [Array.empty_append]
          · have hz : z.cps = #[] := Array.eq_empty_of_size_eq_zero (eq_of_beq c)
            rw [hz, foldl_empty, ← hz]
        rw [e] at q
        exact ⟨.str _, H, I, ⟨_, rfl⟩, q⟩
      · rw [if_neg c2]
        exact ⟨h4, .str _, H, I.tok _, ⟨_, rfl⟩, q⟩
theorem od_mulS {z : Str} {n : Int} (h0 : 0 ≤ n) (h1 : n < 2 ^ 31) (h2 : z.length < 2 ^ 31) (h3 : z.length * n.toNat ≤ sizeLine) (h4 : (mulS z n).length ≤ sizeLine) : OpD X (binaryOp .Mult) (.str z) (.int n) (.str (mulS z n)) := .flat op_mulS (fun _ => rfl) fun v w H hx hy Q q => ⟨z, n, hx, hy, h0, h1, h2, h3, h4, q⟩
end
/-! ### methods of builtin things -/
/-- the type that a builtin method is looked up at -/
def tyB : D → Option String
  | .str _ => some "str"
  | .int _ => some "int"
  | .lst _ => some "list"
  | _ => none
theorem tyB_ok {K : PySem.W.Frag} {H : Hp} {T : String} : ∀ {d : D} {v : V}, tyB d = some T → Is K H d v → tyV K T v H
  | .str z, _, e, h => by cases e; rw [show _ = V.str z from h]; rfl
  | .int i, _, e, h => by cases e; rw [show _ = V.int i from h]; rfl
  | .lst ds, _, e, h => by
    cases e
    obtain ⟨a, vs, h1, h2, h3⟩ := h
    rw [h1]
    exact .inl ⟨rfl, vs, h2⟩
def CaM (X : Cx) (id : String) (x : D) (ds : List D) (d : D) : Prop :=
  ∃ r : V → List V → Hp → VK → Prop, MtR X id r ∧ ∀ v vs H0 H, Same H0 H → Is X.K H0 x v → IsL X.K H0 ds vs → ∀ Q : VK, (∀ z H0' H', Grow H0 H H0' H' → Is X.K H0' d z → Q z H') → r v vs H Q
def CaMN (X : Cx) (id : String) (x : D) (ds : List D) (d : D) : Prop :=
  ∃ r : V → List V → Hp → VK → Prop, MtR X id r ∧ ∀ v vs H0 H, Same H0 H → Is X.K H0 x v → IsL X.K H0 ds vs → ∀ Q : VK, (∀ a H0' H', Grow H0 H H0' H' → H a = none → H0' a = none → Own X.K H0' H' a d → Q (.ref a) H') → r v vs H Q
section
variable {X : Cx} {o e : Expr} {es : List Expr} {name : Str} {apos cpos : Pos} {T id : String} {as : DE} {x d : D} {ds : List D}
theorem ee_bm (ho : EE X o as x) (ha : EA X (e :: es) as ds) (hx : tyB x = some T) (pa : PlainAttrs T) (slot : Slot T name id) (hty : typeOf (.builtin id) = pure (.type "method_descriptor")) (hc : CaM X id x ds d)
    (hbase : attributeBase o name X.env (eval o X.env) = eval o X.env := by rfl)
    (hfew : ((backTo cpos (starEach (e :: es) X.env)).all (fun x => !x.1) && (backToKw cpos (keywordEach [] X.env)).all (fun x => x.1.isSome)
      && decide ((e :: es).length + ([] : List Keyword).length + (if ([] : List Keyword).isEmpty then 0 else 1) < 30)) = true := by rfl)
    (hline : (apos.endLine == cpos.line) = true := by rfl) (hs : starEach (e :: es) X.env = (false, eval e X.env) :: starEach es X.env := by rfl) (hplain : (backTo cpos (starEach es X.env)).any (·.1) = false := by rfl) :
    EE X (.Call (.Attribute o name apos) (e :: es) [] cpos) as d := .mk fun σ H0 H hs' hf Q q => by
  obtain ⟨r, hm, hr⟩ := hc
  refine re_of (pe_bm pa slot hty hm re_pe ra_pa hbase hfew hline hs hplain) ?_
  refine ho.run σ H0 H hs' hf _ fun v H1 H' g iv => ⟨tyB_ok hx (iv.mono g.sub), ha.run σ H1 H' g.sub (hf.mono g.frz) _ fun vs H2 H'' g' iv' => ?_⟩
  exact hr v vs H2 H'' g'.sub (iv.mono g'.frz) iv' Q fun z _ _ g'' i'' => q z _ _ ((g.trans g').trans g'') i''
theorem ee_bm0 (ho : EE X o as x) (hx : tyB x = some T) (pa : PlainAttrs T) (slot : Slot T name id) (hty : typeOf (.builtin id) = pure (.type "method_descriptor")) (hc : CaM X id x [] d)
    (hbase : attributeBase o name X.env (eval o X.env) = eval o X.env := by rfl) (hline : (apos.endLine == cpos.line) = true := by rfl) : EE X (.Call (.Attribute o name apos) [] [] cpos) as d := .mk fun σ H0 H hs' hf Q q => by
  obtain ⟨r, hm, hr⟩ := hc
  refine re_of (pe_bm0 pa slot hty hm re_pe hbase hline) ?_
  refine ho.run σ H0 H hs' hf _ fun v H1 H' g iv => ⟨tyB_ok hx (iv.mono g.sub), ?_⟩
  exact hr v [] H1 H' g.sub iv rfl Q fun z _ _ g'' i'' => q z _ _ (g.trans g'') i''
theorem cm_zfill {z : Str} {i : Int} (h : PadOk i = true) : CaM X "str.zfill" (.str z) [.int i] (.str (Txt.zfill z i)) := ⟨_, mt_zfill, fun v vs H0 H hs h1 h2 Q q => by
  obtain ⟨w, e, h3⟩ := is1 h2
  rw [e]
  exact ⟨z, i, h1, by rw [show w = _ from h3], h, q _ _ _ (Grow.refl hs) rfl⟩⟩
end
end Mw
set_option maxHeartbeats 4000000
/-! a def called within an except suite, upon the caught exception: it only looks at it -/
namespace Mw
open PySem PySem.Spec PyProof.Rows L2
/-- names of a def's context, without room -/
structure BodyN (X : Cx) (N L gs : List Str) (sc : Scope) : Prop where
  hN : X.N = N
  hsc : X.env.scope = sc
  nd : N.Nodup
  pre : N.take L.length = L
  loc : L.all (locOk sc) = true
  gl : gs.all (glbOk sc) = true
  fn : ∀ n, X.fn n = true
section
variable {X : Cx} {N L gs : List Str} {sc : Scope} {n : Str} {i : Nat}
theorem BodyN.ndX (B : BodyN X N L gs sc) : X.N.Nodup := by rw [B.hN]; exact B.nd
theorem BodyN.locs (B : BodyN X N L gs sc) (h : At L n i) : X.N[i]? = some n ∧ Loc X.env.scope n ∧ (n == ("__debug__" : Str)) = false ∧ (n == ("__classdict__" : Str)) = false := by
  have q := List.all_eq_true.mp B.loc n h.mem
  unfold locOk at q
  simp only [Bool.and_eq_true, Bool.or_eq_true, Bool.not_eq_true'] at q
  refine ⟨?_, ?_, q.1.2, q.2⟩
  · have e := h.get
    rw [← B.pre] at e
    have hi : i < (N.take L.length).length := (List.getElem?_eq_some_iff.mp e).1
    rw [List.length_take] at hi
    rw [List.getElem?_take_of_lt (by omega)] at e
    rw [B.hN]
    exact e
  · rw [B.hsc]
    rcases q.1.1 with z | z
    · exact .inl (nk_beq z)
    · exact .inr (nk_beq z)
theorem BodyN.gls (B : BodyN X N L gs sc) (h : At gs n i) : Gl X n ∧ (n == ("__debug__" : Str)) = false ∧ n ≠ "__name__" := by
  have q := List.all_eq_true.mp B.gl n h.mem
  unfold glbOk at q
  simp only [Bool.and_eq_true, Bool.not_eq_true'] at q
  refine ⟨?_, q.1.2, by simpa using q.2⟩
  show X.env.scope.names.lookup n = _
  rw [B.hsc]
  exact nk_beq q.1.1
theorem BodyN.nms (B : BodyN X N L gs sc) : Nms X L := ⟨fun n i h => let ⟨a, b, c, d⟩ := B.locs h; ⟨a, loc_vis b, c, d⟩⟩
theorem BodyN.glb (B : BodyN X N L gs sc) : Gls X gs := ⟨fun n i h => B.gls h⟩
theorem Body.names {k : Nat} (B : Body X N L gs k sc) : BodyN X N L gs sc := ⟨B.hN, B.hsc, B.nd, B.pre, B.loc, B.gl, B.fn⟩
theorem BodyN.suite {a : Addr} {pn : List (Addr × Obj)} (B : BodyN X N L gs sc) : BodyN (X.suite a pn) N L gs sc := ⟨B.hN, B.hsc, B.nd, B.pre, B.loc, B.gl, B.fn⟩
theorem h_set {Gs G : Hp} {as as1 : AS} {F : Fin} {d : D} {e : Expr} {p pos : Pos} (B : BodyN X N L gs sc) (h : At L n i) (he : EE X e (hid as) d) (hs : swapsWith e (some (.Name n p)) pos.line X.env = pure false := by rfl) (ha : SetA as i (.fz d) as1) (q : F.nx as1) : S1 X Gs G (.Assign [.Name n p] e pos) as F :=
  let ⟨h1, h2, _, _⟩ := B.locs h
  s1_set i B.ndX h1 h2 he (by rw [ha.eq]; exact q) hs (.inl (B.fn n))
end
/-- isinstance of a pinned exception -/
theorem call_isP {X : Cx} {a D : Addr} {oe : Obj} (C : ExcC X.K D) (hp : (a, oe) ∈ X.pn) (hz : Zc (.ref D) none oe) (hf : ∃ vs, oe.data = .fields vs) : CallR X (.builtin "isinstance") (rIsE X.K D a) := by
  intro pins s σ H xs us Q I r h
  obtain ⟨c, cv, b, rfl, hcv, e, q⟩ := h
  obtain ⟨u0, u1, rfl, rx, rt⟩ := vals2 r
  obtain rfl : u0 = Value.ref a := rx
  obtain rfl := hcv _ rt
  obtain ⟨hget, _⟩ := I.pin (a, oe) (List.mem_append.mpr (.inl hp))
  obtain ⟨vs, hv⟩ := hf
  have J : PySem.W.InstAt s.heap a oe D none := by
    obtain ⟨oc, od, oda, osl⟩ := oe
    obtain ⟨h1, h2⟩ := hz
    dsimp only at h1 h2 hv
    subst h1 h2 hv
    exact ⟨hget, rfl, rfl, trivial⟩
  exact PySem.W.kia_one (PySem.W.handS_kitx_exc C.hg C.hk C.hs C.hd C.ha C.hn C.ht C.hm) I.kIn J e (fun z => nomatch z) fun tk => ⟨.bl b, H, I.kept (t' := tk) fun _ _ z => z, rfl, q⟩
section
variable {X : Cx} {a C : Addr} {oe : Obj} {b : Bool}
theorem ca_isP {M : Addr} (c : ExcC X.K C) (hp : (a, oe) ∈ X.pn) (hz : Zc (.ref C) none oe) (hf : ∃ vs, oe.data = .fields vs) (hk : PySem.W.kitOne X.K (.ref C) (.ref M) = some b) : CaD X (.builtin "isinstance") [.cls a, .cls M] (.bl b) := .flat (call_isP c hp hz hf) (fun _ => rfl) fun vs H h Q q => by
  obtain ⟨v, w, e, h1, h2⟩ := is2 h
  rw [show v = _ from h1, show w = _ from h2] at e
  exact ⟨.ref M, .ref M, b, e, fun u r => r, hk, q⟩
theorem ca_isPT {T : String} (c : ExcC X.K C) (hp : (a, oe) ∈ X.pn) (hz : Zc (.ref C) none oe) (hf : ∃ vs, oe.data = .fields vs) (hk : PySem.W.kitOne X.K (.ref C) (.type T) = some b) : CaD X (.builtin "isinstance") [.cls a, .ty T] (.bl b) := .flat (call_isP c hp hz hf) (fun _ => rfl) fun vs H h Q q => by
  obtain ⟨v, w, e, h1, h2⟩ := is2 h
  rw [show v = _ from h1, show w = _ from h2] at e
  exact ⟨.ty T, .type T, b, e, fun u r => r, hk, q⟩
end
/-! ### the promise -/
/-- a def of one parameter, called upon the caught exception of the class C, of no fields -/
structure HotE (P : Program) (w : World) (K : PySem.W.Frag) (mg : Str → Option Value) (base : Heap) (k : Nat) (x : Str) (S : Addr → D → Prop) : Prop where
  ex : ∃ (f : Addr) (fd : FuncData) (y : Str), mg x = some (.ref f) ∧ PySem.W.keepIn K (.ref f) = true ∧ Binds K fd [y] [] ∧
    ∀ (A : Around) (outer : List Env) (s : Shared) (H : Hp) (args : Args) (C a : Addr) (oe : Obj) (d : D) (Q : VK) (E : XK) (H0 : Hp), Same H0 H → L2H.RoomH k A → L2H.PinOk outer H s (a, oe) → Zc (.ref C) none oe → (∃ vs, oe.data = .fields vs) → S C d →
      Env0 P w K mg base A outer s H → BindsTo s fd args [(y, .ref a)] → (∀ v H0' H', Grow H0 H H0' H' → Is K H0' d v → Q v H') → codeAny (model P w) A (.call (.ref f) args) (CR (L2.CX P w) outer P w H s Q E) s
abbrev HotD (X : Cx) (k : Nat) (x : Str) (S : Addr → D → Prop) : Prop := HotE X.prog X.w X.K X.mg X.base k x S
section
variable {P : Program} {w : World} {K : PySem.W.Frag} {mg : Str → Option Value} {base : Heap}
/-- by its body -/
theorem hot_ok {x y qual : Str} {params : Arguments} {st : Stmt} {kws : List (Str × V)} {f : Addr} {fd : FuncData} {N L gs : List Str} {k : Nat} {S : Addr → D → Prop} (F : FunD K x qual params (defBody st) (defScope st) [] kws f fd) (W : BodyOk N L [y] gs (defScope st)) (g : mg x = some (.ref f)) (bb : Binds K fd [y] [])
    (body : ∀ (X : Cx), X.prog = P → X.w = w → X.K = K → X.mg = mg → X.base = base → BodyN X N L gs (defScope st) → L2H.RoomH k X.A → ∀ (C a : Addr) (oe : Obj), (a, oe) ∈ X.pn → Zc (.ref C) none oe → (∃ vs, oe.data = .fields vs) → ∀ (Gs G : Hp) (d : D), S C d →
      SS X Gs G (defBody st) (startA N [.cls a]) { nx := fun _ => d = .non, rt := fun d' => d' = d }) : HotE P w K mg base (k + 1) x S := by
  obtain ⟨oc, od, dV, kV, doc, pm, an, cdv, ct, osl, rfl, lk, hcd, _, _⟩ := F.ex
  refine ⟨f, _, y, g, F.kp, bb, fun A outer s H args C a oe d Q E H0 hs0 hr hpin hz hf hS e0 hb q => ?_⟩
  have KX : K.In s.heap := e0.mod.kin.keeps fun b o e => (e0.bs b o e).1
  have lim : s.heap.NoLimit := e0.mod.nolimit.keeps fun b o e => (e0.bs b o e).1
  have S0 := W.fs
  have hkind : ∀ z ∈ ([y] : List Str).zip [Value.ref a], (defScope st).names.lookup z.1 = some .local ∨ ((defScope st).names.lookup z.1 = some .cell ∧ ((cellsFrom (s.heap.objs.size + 1) (defScope st).names []).lookup z.1).isSome = true) := fun ⟨n, v⟩ hy => by
    rcases S0.par n (List.of_mem_zip hy).1 with q | q
    · exact .inl q
    · exact .inr ⟨q, PySem.W.cellsFrom_some _ _ _ (.inl q)⟩
  refine codeAny_call_function hr.depth (KX _ _ lk) rfl S0.co S0.gen rfl (PySem.W.codeRec_of KX hcd) (hb _ _ _ _ ?_)
  refine wpAny_newFunctionEnv_cells S0.kind hkind fun env he s1 x => ?_
  subst he
  refine ⟨lim.keeps x.toInCall.keep, codeAny_func ?_⟩
  have I : Inv (L2H.cxH (L2.CX P w) P w K mg base N qual (defScope st) f cdv A outer s H E (a, oe)) [] (L2.start N [.ref a]) H s1 := L2H.inv_startH S0 hpin e0 rfl (.cons rfl .nil) x
  have BX : BodyN (L2H.cxH (L2.CX P w) P w K mg base N qual (defScope st) f cdv A outer s H E (a, oe)) N L gs (defScope st) := ⟨rfl, rfl, S0.nd, W.pre, W.loc, W.gl, fun _ => rfl⟩
  have bd := body _ rfl rfl rfl rfl rfl BX (hr.deeper _) C a oe (List.mem_singleton.mpr rfl) hz hf H0 H d hS
  have st0 : StH K H0 H (L2.start N [.ref a]) H (startA N [.cls a]) H0 := by
    refine ⟨Grow.refl hs0, fun i d e => ?_, fun i d e => ?_, fun i j a d d' e => ?_⟩
    · rcases startA_at e with ⟨d', e1, e2⟩ | e1
      · cases e1
        obtain ⟨v, q1, q2⟩ := (IsL.one (K := K) (H := H0) (d := .cls a) (v := .ref a) rfl).get e2
        exact ⟨v, start_get q1, q2⟩
      · cases e1
    · rcases startA_at e with ⟨d', e1, e2⟩ | e1 <;> cases e1
    · rcases startA_at e with ⟨d', e1, e2⟩ | e1 <;> cases e1
  have run := bd.run _ H H0 st0 { nx := fun _ H' => Q .non H', rt := Q } ⟨fun σ' H' as' H1 _ S' z => by
      have z' : d = .non := z
      subst z'
      exact q .non H1 H' S'.grow rfl, fun v H' d' H1 _ g i z => by
      have z' : d' = d := z
      subst z'
      exact q v H1 H' g i, fun _ _ _ _ _ _ z => z.elim, fun _ _ _ _ _ _ z => z.elim, fun _ _ _ _ _ _ _ _ _ _ z => z.elim⟩
  refine wpAny_mono (run [] s1 I) (fun fl s' hs => ?_) fun e s' hs => hs
  have fin : ∀ {σ' : L2.St} {H' : Hp} {v : V} {u : Value}, Inv (L2H.cxH (L2.CX P w) P w K mg base N qual (defScope st) f cdv A outer s H E (a, oe)) [] σ' H' s' → RelV v u → Q v H' → CE outer P w H s Q u s' :=
    fun {σ' H' v u} J rv q => ⟨v, H', J.os, J.bare, J.base, J.hok, rv, q⟩
  cases fl with
  | ret u =>
    obtain ⟨v, σ', H', J, rv, q⟩ := hs
    exact fin J rv q
  | next =>
    obtain ⟨σ', H', J, q⟩ := hs
    exact fin (v := V.non) (u := Value.none) J rfl q
  | brk =>
    obtain ⟨_, _, _, q⟩ := hs
    exact False.elim q
  | cont =>
    obtain ⟨_, _, _, q⟩ := hs
    exact False.elim q
end
/-- f(e) in the suite -/
theorem e_hot {X : Cx} {gs : List Str} {k : Nat} {x y : Str} {j i : Nat} {S : Addr → D → Prop} {C a : Addr} {oe : Obj} {pn : List (Addr × Obj)} {as : DE} {d : D} {p p1 pos : Pos} {L : List Str} (B : Gls (X.suite a ((a, oe) :: pn)) gs) (Nn : Nms (X.suite a ((a, oe) :: pn)) L) (F : HotD X k x S) (hr : Room k X.A) (h : At gs x j) (hy : At L y i) (ha : as[i]? = some (some (.cls a)))
    (hz : Zc (.ref C) none oe) (hf : ∃ vs, oe.data = .fields vs) (hS : S C d) (he : starEach [.Name y p1] (X.suite a ((a, oe) :: pn)).env = (false, eval (.Name y p1) (X.suite a ((a, oe) :: pn)).env) :: starEach [] (X.suite a ((a, oe) :: pn)).env := by rfl) : EE (X.suite a ((a, oe) :: pn)) (.Call (.Name x p) [.Name y p1] [] pos) as d := .mk fun σ H0 H hs hf' Q q => by
  intro pins s I
  obtain ⟨g1, g2, g3⟩ := B.at_ _ _ h
  obtain ⟨n1, n2, n3, n4⟩ := Nn.at_ _ _ hy
  obtain ⟨f, fd, z, hm, hk, hb, run⟩ := F.ex
  refine wpAny_Call_Name_kw (ld_glob I g1 hm ?_ g2)
  have ea : EA (X.suite a ((a, oe) :: pn)) [.Name y p1] as [.cls a] := ea_cons (ee_name i n1 n2 ha n3 n4) ea_nil he
  refine PySem.W.callWith_K (h₀ := X.base) I.ok.mod.kin hk (thn (ra_pa.run pos pins s σ H (fun vs H' => ∃ H0', Grow H0 H H0' H' ∧ IsL X.K H0' [.cls a] vs) I (ea.run σ H0 H hs hf' _ fun vs H1 H' g i => ⟨H1, g, i⟩)) fun us s1 ⟨vs, H1, I1, r1, H0', g, iv⟩ => ⟨I1.kIn, ?_⟩) he rfl
  obtain ⟨v, rfl, iv1⟩ := is1 iv
  obtain ⟨u, rfl, ru⟩ := vals1 r1
  rw [show v = V.ref a from iv1] at ru
  obtain rfl : u = Value.ref a := ru
  have P1 := I1.pin (a, oe) (List.mem_append_left _ List.mem_cons_self)
  have hpin : L2H.PinOk X.stack H1 s1 (a, oe) := ⟨P1.1, P1.2.1, fun hm => (List.mem_cons.mp (I1.stkSub a hm)).elim P1.2.2.1 P1.2.2.2.1, P1.2.2.2.2⟩
  have hb2 := hb s1 [Value.ref a] I1.kIn rfl
  rw [List.append_nil] at hb2
  refine wpAny_call (codeAny_mono (run _ X.stack s1 H1 ⟨[.ref a], []⟩ C a oe d Q (fun _ _ _ => False) H0' g.sub (L2H.roomH_mark hr _) hpin hz hf hS I1.env0 hb2 fun w H2 H2' g' i' => q w H2 H2' (g.trans g') i') fun r s' hq => ?_)
  cases r with
  | error e => obtain ⟨_, _, _, _, _, _, _, _, _, _, _, _, z⟩ := hq; exact z.elim
  | ok fl =>
    cases fl with
    | ret u => exact I1.after hq
    | next => exact False.elim hq
    | brk => exact False.elim hq
    | cont => exact False.elim hq
end Mw
set_option maxHeartbeats 4000000
/-! x += e; dicts with keys that are ints and texts; list.count, list.index -/
namespace Mw
open PySem PySem.Spec PyProof.Rows L2
section
variable {X : Cx} {N L gs : List Str} {k : Nat} {sc : Scope} {n : Str} {i : Nat} {Gs G : Hp} {as as1 : AS} {F : Fin} {d x y : D} {pos p pos' : Pos} {e : Expr}
/-- an in-place operation on data -/
def IpD (X : Cx) (op : Operator) (x y d : D) : Prop :=
  ∃ ti : TIp, PIp X op ti ∧ ∀ v w H0 H, Same H0 H → Is X.K H0 x v → Is X.K H0 y w → ∀ Q : VK, (∀ z H0' H', Grow H0 H H0' H' → Is X.K H0' d z → Q z H') → ti v w H Q
theorem ip_addI {a b : Int} : IpD X .Add (.int a) (.int b) (.int (a + b)) := ⟨_, ip_add, fun v w H0 H hs h1 h2 Q q => ⟨a, b, h1, h2, q _ _ _ (Grow.refl hs) rfl⟩⟩
theorem ip_subI {a b : Int} : IpD X .Sub (.int a) (.int b) (.int (a - b)) := ⟨_, ip_sub, fun v w H0 H hs h1 h2 Q q => ⟨a, b, h1, h2, q _ _ _ (Grow.refl hs) rfl⟩⟩
/-- x op= e -/
theorem t_aug {op : Operator} (B : Body X N L gs k sc) (h : At L n i) (hx : as[i]? = some (.fz x)) (he : EE X e (hid as) y) (ho : IpD X op x y d) (ha : SetA as i (.fz d) as1) (q : F.nx as1) : S1 X Gs G (.AugAssign (.Name n pos') op e pos) as F := .mk fun σ H H0 S E ok => by
  obtain ⟨a1, a2, _, _⟩ := B.locs h
  obtain ⟨ti, hp, hr⟩ := ho
  obtain ⟨v, e1, iv⟩ := S.fz i x hx
  refine rs_len fun hl => rs_of (ps_aug B.ndX a1 a2 re_pe hp (.inl (B.fn n))) ?_
  refine ⟨v, e1, he.run σ H0 H S.grow.sub S.hid _ fun w H1 H' g iw => hr v w H1 H' g.sub (iv.mono g.frz) iw _ fun z H2 H'' g' iz => ?_⟩
  have gg := g.trans g'
  exact ok.nx _ H'' _ H2 gg.frz ((S.more gg).setF (by rw [hl]; exact (List.getElem?_eq_some_iff.mp a1).1) iz) (by rw [ha.eq]; exact q)
end
/-! ### dicts -/
def kD : Key → D
  | .inl i => .int i
  | .inr z => .str z
theorem kD_is {K : PySem.W.Frag} {H : Hp} {k : Key} {v : V} (h : Is K H (kD k) v) : v = kV k := by
  cases k <;> exact h
def valD (ks : List (Key × D)) (k : Key) : Option D := (ks.find? fun kv => decide (kv.1 = k)).map (·.2)
def putKD (ks : List (Key × D)) (k : Key) (d : D) : List (Key × D) :=
  if (ks.any fun kv => decide (kv.1 = k)) = true then ks.map (fun kv => if kv.1 = k then (kv.1, d) else kv) else ks ++ [(k, d)]
def mergeKD (ks more : List (Key × D)) : List (Key × D) := more.foldl (fun acc kv => putKD acc kv.1 kv.2) ks
section
variable {K : PySem.W.Frag} {H : Hp} {k : Key} {d : D} {v : V}
theorem IsK.any : ∀ {ks : List (Key × D)} {kvs : List (Key × V)}, IsK K H ks kvs → (kvs.any fun kv => decide (kv.1 = k)) = (ks.any fun kv => decide (kv.1 = k))
  | [], _, h => by rw [show _ = [] from h]; rfl
  | (j, x) :: ks, _, h => by
    obtain ⟨w, r, h1, h2, h3⟩ := h
    rw [h1, List.any_cons, List.any_cons, IsK.any h3]
theorem IsK.app : ∀ {ks es : List (Key × D)} {kvs ws : List (Key × V)}, IsK K H ks kvs → IsK K H es ws → IsK K H (ks ++ es) (kvs ++ ws)
  | [], _, _, _, h, g => by rw [show _ = [] from h]; exact g
  | (j, x) :: ks, _, _, _, h, g => by
    obtain ⟨w, r, h1, h2, h3⟩ := h
    rw [h1]
    exact ⟨w, _, rfl, h2, IsK.app h3 g⟩
theorem IsK.over (hd : Is K H d v) : ∀ {ks : List (Key × D)} {kvs : List (Key × V)}, IsK K H ks kvs → IsK K H (ks.map fun kv => if kv.1 = k then (kv.1, d) else kv) (kvs.map fun kv => if kv.1 = k then (kv.1, v) else kv)
  | [], _, h => by rw [show _ = [] from h]; rfl
  | (j, x) :: ks, _, h => by
    obtain ⟨w, r, h1, h2, h3⟩ := h
    rw [h1, List.map_cons, List.map_cons]
    by_cases e : j = k
    · rw [if_pos e, if_pos e]
      exact ⟨v, _, rfl, hd, IsK.over hd h3⟩
    · rw [if_neg e, if_neg e]
      exact ⟨w, _, rfl, h2, IsK.over hd h3⟩
theorem IsK.put {ks : List (Key × D)} {kvs : List (Key × V)} (h : IsK K H ks kvs) (hd : Is K H d v) : IsK K H (putKD ks k d) (putK kvs k v) := by
  unfold putKD putK
  rw [h.any]
  split
  · exact h.over hd
  · exact h.app ⟨v, [], rfl, hd, rfl⟩
theorem IsK.merge : ∀ {more : List (Key × D)} {ms : List (Key × V)} {ks : List (Key × D)} {kvs : List (Key × V)}, IsK K H more ms → IsK K H ks kvs → IsK K H (mergeKD ks more) (mergeK kvs ms)
  | [], _, _, _, h, g => by rw [show _ = [] from h]; exact g
  | (j, x) :: more, _, _, _, h, g => by
    obtain ⟨w, r, h1, h2, h3⟩ := h
    rw [h1]
    show IsK K H (mergeKD (putKD _ j x) more) (mergeK (putK _ j w) r)
    exact IsK.merge h3 (g.put h2)
theorem IsK.val : ∀ {ks : List (Key × D)} {kvs : List (Key × V)}, IsK K H ks kvs → valD ks k = some d → ∃ v, valV kvs k = some v ∧ Is K H d v
  | [], _, h, e => nomatch e
  | (j, x) :: ks, _, h, e => by
    obtain ⟨w, r, h1, h2, h3⟩ := h
    rw [h1]
    by_cases q : j = k
    · rw [valV_pos (p := (j, w)) q]
      have e' : valD ((j, x) :: ks) k = some x := by simp [valD, List.find?_cons, q]
      rw [e'] at e
      cases e
      exact ⟨w, rfl, h2⟩
    · rw [valV_neg (p := (j, w)) q]
      have e' : valD ((j, x) :: ks) k = valD ks k := by simp [valD, List.find?_cons, q]
      rw [e'] at e
      exact IsK.val h3 e
theorem IsK.noval : ∀ {ks : List (Key × D)} {kvs : List (Key × V)}, IsK K H ks kvs → valD ks k = none → valV kvs k = none
  | [], _, h, e => by rw [show _ = [] from h]; rfl
  | (j, x) :: ks, _, h, e => by
    obtain ⟨w, r, h1, h2, h3⟩ := h
    rw [h1]
    by_cases q : j = k
    · have e' : valD ((j, x) :: ks) k = some x := by simp [valD, List.find?_cons, q]
      rw [e'] at e; cases e
    · rw [valV_neg (p := (j, w)) q]
      have e' : valD ((j, x) :: ks) k = valD ks k := by simp [valD, List.find?_cons, q]
      rw [e'] at e
      exact IsK.noval h3 e
theorem IsK.len : ∀ {ks : List (Key × D)} {kvs : List (Key × V)}, IsK K H ks kvs → kvs.length = ks.length
  | [], _, h => by rw [show _ = [] from h]; rfl
  | (j, x) :: ks, _, h => by
    obtain ⟨w, r, h1, h2, h3⟩ := h
    rw [h1, List.length_cons, List.length_cons, h3.len]
end
section
variable {X : Cx} {N L gs : List Str} {kk : Nat} {sc : Scope} {n : Str} {i : Nat} {Gs G : Hp} {as as1 : AS} {F : Fin} {de : DE} {d : D} {k : Key} {ks : List (Key × D)} {pos p pos' : Pos} {e o ie : Expr} {keys : List (Option Expr)} {values : List Expr}
/-- the pairs of a display -/
inductive EPs (X : Cx) (de : DE) : List (Option Expr) → List Expr → List (Key × D) → Prop
  | nil : EPs X de [] [] []
  | cons {ke ve : Expr} {kes : List (Option Expr)} {ves : List Expr} {k : Key} {d : D} {r : List (Key × D)} (hk : EE X ke de (kD k)) (hv : EE X ve de d) (hr : EPs X de kes ves r) : EPs X de (some ke :: kes) (ve :: ves) ((k, d) :: r)
theorem EPs.go {X : Cx} {de : DE} : ∀ {keys : List (Option Expr)} {values : List Expr} {ks : List (Key × D)}, EPs X de keys values ks → ∃ trs : List (TE × TE), PPs X pos keys values trs ∧
    ∀ (σ : L2.St) (H0 H : Hp), Same H0 H → SlF X.K H0 σ de → ∀ Q : List (V × V) → Hp → Prop, (∀ kvs H0' H', Grow H0 H H0' H' → IsK X.K H0' ks kvs → Q (kvs.map fun kv => (kV kv.1, kv.2)) H') → tPairs trs σ H Q
  | _, _, _, .nil => ⟨[], pps_nil, fun σ H0 H hs hf Q q => q [] H0 H (Grow.refl hs) rfl⟩
  | _, _, _, .cons (k := k) (d := d) hk hv hr => by
    obtain ⟨trs, h1, h2⟩ := hr.go
    refine ⟨_, pps_cons re_pe re_pe h1, fun σ H0 H hs hf Q q => ?_⟩
    refine hk.run σ H0 H hs hf _ fun v H1 H' g iv => hv.run σ H1 H' g.sub (hf.mono g.frz) _ fun w H2 H2' g' iw => h2 σ H2 H2' g'.sub (hf.mono (g.frz.trans g'.frz)) _ fun kvs H3 H3' g'' ik => ?_
    have z := q ((k, w) :: kvs) H3 H3' ((g.trans g').trans g'') ⟨w, kvs, rfl, iw.mono g''.frz, ik⟩
    rw [kD_is iv]
    exact z
theorem en_disp (h : EPs X de keys values ks) (hall : keys.all (·.isSome) = true) (hl : keys.length = values.length) (h0 : keys ≠ []) (h15 : keys.length ≤ 15) (hk : ks.length ≤ 15) : EN X (.Dict keys values pos) de (.dct (mergeKD [] ks)) := .mk fun σ H0 H hs hf Q q => by
  obtain ⟨trs, h1, h2⟩ := h.go
  refine re_of (pe_disp h1 hall hl h0 h15) fun p hp => ?_
  refine h2 σ H0 (upd H p (.dK [])) (hs.trans (Same.new hp)) hf _ fun kvs H1 H' g ik => ?_
  have e := g.all p _ upd_same
  refine ⟨e, kvs, rfl, by rw [ik.len]; exact hk, ?_⟩
  have n0 : H0 p = none := hs.free hp
  have hp1 : H1 p = none := by
    cases z : H1 p with
    | none => rfl
    | some u =>
      rcases g.new p (by rw [z]; simp) with w | w
      · exact absurd n0 w
      · rw [upd_same] at w; exact nomatch w
  refine q p H1 _ ⟨g.frz, fun b u eb => ?_, fun b u eb => ?_, fun b z => ?_⟩ hp hp1 ⟨_, upd_same, IsK.merge ik rfl⟩
  · rw [upd_ne (ne_of_none eb hp)]
    exact g.all b u (by rw [upd_ne (ne_of_none eb hp)]; exact eb)
  · rw [upd_ne (ne_of_none eb hp1)]
    exact g.sub b u eb
  · rcases g.new b z with w | w
    · exact .inl w
    · by_cases hb : b = p
      · rw [hb]; exact .inr hp
      · rw [upd_ne hb] at w; exact .inr w
theorem en_dnew : EN X (.Dict [] [] pos) de (.dct []) := .mk fun σ H0 H hs hf Q q =>
  re_of pe_dnewK fun p hp => q p H0 _ (Grow.made hs hp) hp (hs.free hp) ⟨[], upd_same, rfl⟩
/-- o[k] -/
theorem ee_dget (hr : Room kk X.A) (ho : EE X o de (.dct ks)) (hi : EE X ie de (kD k)) (hv : valD ks k = some d) (hn : NoSl ie := by exact fun _ _ => rfl) : EE X (.Subscript o ie pos) de d := .mk fun σ H0 H hs hf Q q => by
  refine re_of (pe_dget (by have := hr.units; omega) re_pe re_pe hn) ?_
  refine ho.run σ H0 H hs hf _ fun v H1 H' g iv => hi.run σ H1 H' g.sub (hf.mono g.frz) _ fun w H2 H2' g' iw => ?_
  obtain ⟨a, kvs, e1, e2, e3⟩ := iv
  obtain ⟨x, hx, ix⟩ := (e3.mono g'.frz).val hv
  exact ⟨a, x, e1, .inl ⟨kvs, k, Same.rd (g'.frz.trans g'.sub) e2, kD_is iw, hx.symm⟩, q x H2 H2' (g.trans g') ix⟩
/-- n[k] = e, the dict owned -/
theorem t_dput (B : Body X N L gs kk sc) (h : At L n i) (ha : as[i]? = some (.ow (.dct ks))) (he : EE X e (hid as) d) (hk : EE X ie (hid as) (kD k)) (hz : ks.length < sizeLine) (hst : SetA as i (.ow (.dct (putKD ks k d))) as1) (q : F.nx as1)
    (hs : swapsWith e (some (.Subscript (.Name n p) ie pos')) pos.line X.env = pure false := by rfl) : S1 X Gs G (.Assign [.Subscript (.Name n p) ie pos'] e pos) as F := .mk fun σ H H0 S E ok => by
  obtain ⟨a1, a2, a3, a4⟩ := B.locs h
  obtain ⟨l, s1, s2, s3, kvs, hu, hi⟩ := S.ow i _ ha
  refine rs_of (ps_dput (by have := B.room.units; omega) (pe_var a1 (loc_vis a2) a3 a4) re_pe re_pe hs) ?_
  refine he.run σ H0 H S.grow.sub S.hid _ fun v H1 H' g iv => ⟨_, s1, ?_⟩
  refine hk.run σ H1 H' g.sub (S.hid.mono g.frz) _ fun w H2 H2' g' iw => ?_
  have gg := g.trans g'
  have e2 := gg.all _ _ hu
  refine ⟨l, _, rfl, .inl ⟨kvs, k, e2, kD_is iw, by rw [hi.len]; exact hz, rfl⟩, ?_⟩
  exact ok.nx σ _ _ H2 gg.frz ((S.more gg).write (d := .dct ks) (d' := .dct (putKD ks k d)) ha s1 ⟨_, upd_same, (hi.mono gg.frz).put (iv.mono g'.frz)⟩) (by rw [hst.eq]; exact q)
end
end Mw
set_option maxHeartbeats 4000000
namespace Mw
open PySem PySem.Spec PyProof.Rows L2
section
variable {X : Cx}
/-- xs.count(k), xs bools -/
def rCountB (K : PySem.W.Frag) : V → List V → Hp → VK → Prop := fun x xs H Q => ∃ (a : Addr) (bs : List Bool) (k : Bool), x = .ref a ∧ xs = [.bl k] ∧ SqL K H a (bs.map V.bl) ∧ Q (.int (bs.count k : Nat)) H
theorem bools_vals {k : Bool} : ∀ {bs : List Bool} {us : List Value}, Vals (bs.map V.bl) us → us.countP (isBoolOf k) = bs.count k ∧ ∀ y ∈ us, ∃ b, y = Value.bool b
  | [], _, r => by cases r; exact ⟨rfl, fun y h => by cases h⟩
  | b :: bs, _, r => by
    rw [List.map_cons] at r
    cases r with
    | cons h t =>
      obtain ⟨h1, h2⟩ := bools_vals (k := k) t
      obtain rfl : _ = Value.bool b := h
      refine ⟨?_, fun y hy => ?_⟩
      · rw [List.countP_cons, List.count_cons, h1]
        rfl
      · rcases List.mem_cons.mp hy with e | e
        · exact ⟨b, e⟩
        · exact h2 y e
theorem mt_countB : MtR X "list.count" (rCountB X.K) := by
  intro pins s σ H x xs v us Q I rx rxs h
  obtain ⟨a, bs, k, rfl, rfl, hs, q⟩ := h
  cases rx
  obtain ⟨u, rfl, ru⟩ := vals1 rxs
  obtain rfl : u = Value.bool k := ru
  obtain ⟨its, r, ⟨⟨cls, dd, data, sl⟩, n, ho, hc, hd, hdt⟩, hz⟩ := I.list hs
  simp only at hc hd hdt
  subst hc hd hdt
  obtain ⟨h1, h2⟩ := bools_vals (k := k) r
  refine call_meets PySem.F.slot_list_count ⟨_, ho, rfl⟩ PySem.F.entry_list_count (PySem.F.args_list_count_2 _ _) (PySem.SeqAt.list_countAt a its.toArray n none sl (.bool k) (isBoolOf k)) ⟨ho, fun y hy => ?_, ?_⟩
  · obtain ⟨b, rfl⟩ := h2 y (by simpa using hy)
    exact PySem.SeqAt.EqAt.bool_bool b k
  · rw [List.toList_toArray, h1]
    exact ⟨.int _, H, I.tok _, ⟨_, rfl⟩, q⟩
theorem isL_bools {K : PySem.W.Frag} {H : Hp} : ∀ {bs : List Bool} {vs : List V}, IsL K H (bs.map D.bl) vs → vs = bs.map V.bl
  | [], _, h => h
  | b :: bs, _, h => by
    obtain ⟨v, r, h1, h2, h3⟩ := h
    rw [h1, show v = V.bl b from h2, isL_bools h3]
    rfl
theorem cm_countB {bs : List Bool} {k : Bool} : CaM X "list.count" (.lst (bs.map D.bl)) [.bl k] (.int (bs.count k : Nat)) := ⟨_, mt_countB, fun v vs H0 H hs h1 h2 Q q => by
  obtain ⟨a, ws, e1, e2, e3⟩ := h1
  obtain ⟨w, e, h3⟩ := is1 h2
  rw [isL_bools e3] at e2
  exact ⟨a, bs, k, e1, by rw [e, show w = _ from h3], Same.lst hs e2, q _ _ _ (Grow.refl hs) rfl⟩⟩
theorem cm_indexB {bs : List Bool} {j : Nat} (hj : bs[j]? = some true) (hn : ∀ m, m < j → bs[m]? = some false) : CaM X "list.index" (.lst (bs.map D.bl)) [.bl true] (.int (j : Nat)) := ⟨_, mt_index, fun v vs H0 H hs h1 h2 Q q => by
  obtain ⟨a, ws, e1, e2, e3⟩ := h1
  obtain ⟨w, e, h3⟩ := is1 h2
  rw [isL_bools e3] at e2
  refine ⟨a, bs.map V.bl, .bl true, j, .bl true, e1, by rw [e, show w = _ from h3], Same.lst hs e2, rfl, ?_, by rw [List.getElem?_map, hj]; rfl, rfl, fun m z hm hz => ?_, q _ _ _ (Grow.refl hs) rfl⟩
  · rw [List.all_map]
    exact List.all_eq_true.mpr fun _ _ => rfl
  · rw [List.getElem?_map, hn m hm] at hz
    cases hz
    rfl⟩
end
end Mw
set_option maxHeartbeats 4000000
/-! methods by name -/
namespace Mw
open PySem PySem.Spec PyProof.Rows L2
section
variable {X : Cx} {gs : List Str} {k : Nat} {C : Addr} {m : Str} {dds : List D} {S : FS} {fs : List (Str × D)} {o e : Expr} {es : List Expr} {as : DE} {ds : List D} {d x : D} {apos cpos pos : Pos} {z : Str} {i : Int} {bs : List Bool}
theorem e_meth {pl : Sem Bool} (ho : EE X o as (.obj C fs)) (M : MetD X k C m dds S) (hl : fs.lookup m = none) (hr : Room k X.A) (ha : EA X (e :: es) as ds) (hS : S (.obj C fs :: (ds ++ dds)) (.ok d))
    (hst : starEach (e :: es) X.env = (false, eval e X.env) :: starEach es X.env := by rfl) (hpl : (backTo pos (starEach es X.env)).any (·.1) = false := by rfl)
    (ht : eval (.Call (.Attribute o m apos) (e :: es) [] pos) X.env = (do
      let ov ← eval o X.env
      standAt apos.atName
      let (f, first) ← holding [ov] (getMethod ov m pl)
      callWith pos f first (backTo pos (starEach (e :: es) X.env)) (backToKw pos (keywordEach [] X.env))) := by rfl) : EE X (.Call (.Attribute o m apos) (e :: es) [] pos) as d := ee_meth (pl := pl) M ho hl ha hS hr hst hpl ht
theorem x_meth {pl : Sem Bool} {xn : Exn} (ho : EE X o as (.obj C fs)) (M : MetD X k C m dds S) (hl : fs.lookup m = none) (hr : Room k X.A) (ha : EA X (e :: es) as ds) (hS : S (.obj C fs :: (ds ++ dds)) (.error xn))
    (hst : starEach (e :: es) X.env = (false, eval e X.env) :: starEach es X.env := by rfl) (hpl : (backTo pos (starEach es X.env)).any (·.1) = false := by rfl)
    (ht : eval (.Call (.Attribute o m apos) (e :: es) [] pos) X.env = (do
      let ov ← eval o X.env
      standAt apos.atName
      let (f, first) ← holding [ov] (getMethod ov m pl)
      callWith pos f first (backTo pos (starEach (e :: es) X.env)) (backToKw pos (keywordEach [] X.env))) := by rfl) : EX X (.Call (.Attribute o m apos) (e :: es) [] pos) as xn := ex_meth (pl := pl) M ho hl ha hS hr hst hpl ht
theorem e_zfill (ho : EE X o as (.str z)) (he : EE X e as (.int i)) (h : PadOk i = true)
    (hbase : attributeBase o "zfill" X.env (eval o X.env) = eval o X.env := by rfl)
    (hfew : ((backTo cpos (starEach [e] X.env)).all (fun x => !x.1) && (backToKw cpos (keywordEach [] X.env)).all (fun x => x.1.isSome)
      && decide ([e].length + ([] : List Keyword).length + (if ([] : List Keyword).isEmpty then 0 else 1) < 30)) = true := by rfl)
    (hline : (apos.endLine == cpos.line) = true := by rfl) (hs : starEach [e] X.env = (false, eval e X.env) :: starEach [] X.env := by rfl) : EE X (.Call (.Attribute o "zfill" apos) [e] [] cpos) as (.str (Txt.zfill z i)) :=
  ee_bm ho (ea_cons he ea_nil hs) rfl PySem.F.plainAttrs_str PySem.F.slot_str_zfill PySem.F.type_str_zfill (cm_zfill h) hbase hfew hline hs rfl
theorem e_countB {b : Bool} (ho : EE X o as (.lst (bs.map D.bl))) (he : EE X e as (.bl b))
    (hbase : attributeBase o "count" X.env (eval o X.env) = eval o X.env := by rfl)
    (hfew : ((backTo cpos (starEach [e] X.env)).all (fun x => !x.1) && (backToKw cpos (keywordEach [] X.env)).all (fun x => x.1.isSome)
      && decide ([e].length + ([] : List Keyword).length + (if ([] : List Keyword).isEmpty then 0 else 1) < 30)) = true := by rfl)
    (hline : (apos.endLine == cpos.line) = true := by rfl) (hs : starEach [e] X.env = (false, eval e X.env) :: starEach [] X.env := by rfl) : EE X (.Call (.Attribute o "count" apos) [e] [] cpos) as (.int (bs.count b : Nat)) :=
  ee_bm ho (ea_cons he ea_nil hs) rfl PySem.F.plainAttrs_list PySem.F.slot_list_count PySem.F.type_list_count cm_countB hbase hfew hline hs rfl
theorem e_indexB {j : Nat} (ho : EE X o as (.lst (bs.map D.bl))) (he : EE X e as (.bl true)) (hj : bs[j]? = some true) (hn : ∀ m, m < j → bs[m]? = some false)
    (hbase : attributeBase o "index" X.env (eval o X.env) = eval o X.env := by rfl)
    (hfew : ((backTo cpos (starEach [e] X.env)).all (fun x => !x.1) && (backToKw cpos (keywordEach [] X.env)).all (fun x => x.1.isSome)
      && decide ([e].length + ([] : List Keyword).length + (if ([] : List Keyword).isEmpty then 0 else 1) < 30)) = true := by rfl)
    (hline : (apos.endLine == cpos.line) = true := by rfl) (hs : starEach [e] X.env = (false, eval e X.env) :: starEach [] X.env := by rfl) : EE X (.Call (.Attribute o "index" apos) [e] [] cpos) as (.int (j : Nat)) :=
  ee_bm ho (ea_cons he ea_nil hs) rfl PySem.F.plainAttrs_list PySem.F.slot_list_index PySem.F.type_list_index (cm_indexB hj hn) hbase hfew hline hs rfl
end
end Mw
set_option maxHeartbeats 4000000
namespace Mw
section
open PySem PySem.SeqAt
theorem dict_declines_str (l : Addr) (es : Array DictEntry) (ep : Nat) (dd : Option Addr) (sl : Array (Option Value)) (b : Str) (u : Tok) :
    Meets (Builtin.«dict.__eq__» ⟨[.ref l, .str b u], []⟩) (fun _ R s => s.heap.get? l = some { cls := .type "dict", dict := dd, data := .dict es ep, slots := sl } ∧ R (.ok (.ret .notImplemented)) s) :=
  .of_wp fun prog w A R s h => by obtain ⟨hp, g, d, tk, os⟩ := s; obtain ⟨hl, h⟩ := h; have f1 := F.sub_str_dict; wp_walk using AutoSeq1.wpAny_loadPart' hl, wpAny_load hl; exact ⟨_, rfl, h⟩
theorem str_declines_dict (b : Str) (u : Tok) (l : Addr) (c : Value) (es : Array DictEntry) (ep : Nat) (dd : Option Addr) (sl : Array (Option Value)) :
    Meets (Builtin.«str.__eq__» ⟨[.str b u, .ref l], []⟩) (fun _ R s => s.heap.get? l = some { cls := c, dict := dd, data := .dict es ep, slots := sl } ∧ R (.ok (.ret .notImplemented)) s) :=
  .of_wp fun prog w A R s h => by obtain ⟨hp, g, d, tk, os⟩ := s; obtain ⟨hl, h⟩ := h; wp_walk using AutoSeq1.wpAny_loadPart' hl, wpAny_load hl; exact ⟨_, rfl, h⟩
theorem rc_dict_str {A : Around} {s : Shared} {l : Addr} {es : Array DictEntry} {ep : Nat} {dd : Option Addr} {sl : Array (Option Value)} (b : Str) (u : Tok) (ho : s.heap.get? l = some { cls := .type "dict", dict := dd, data := .dict es ep, slots := sl }) (hu : A.units < cLine) : RcAt A s (.ref l) (.str b u) false := fun prog w E Q h =>
  rc_eq_decline_or (k := false) ⟨_, ho, rfl⟩ (typeIs_str s b u) (by decide) F.sub_str_dict F.slot_dict_eq F.slot_str_eq_refl
    (fun _ hq => call_meets F.slot_dict_eq ⟨_, ho, rfl⟩ F.entry_dict_eq (F.args_dict_eq_2 _ _) (dict_declines_str l es ep dd sl b u) ⟨ho, hq⟩)
    (fun _ hq => call_meets F.slot_str_eq_refl (typeIs_str s b u) F.entry_str_eq (F.args_str_eq_2 _ _) (str_declines_dict b u l (.type "dict") es ep dd sl) ⟨ho, hq⟩)
    (fun _ hq => wpAny_of_eq (rfl : isSame (.ref l) (.str b u) = pure false) hq) (.inr hu) h
end
section
open PySem PySem.Spec PyProof.Rows L2
theorem op_eq_ds {X : Cx} (hu : X.A.units < cLine) : OpR X (compareOp .Eq) (fun x y H Q => ∃ a kvs z, x = .ref a ∧ Rd H a (.dK kvs) ∧ y = .str z ∧ Q (.bl false) H) := by
  intro pins s σ H x y v u Q I rx ry h
  obtain ⟨a, kvs, z, rfl, hr, rfl, q⟩ := h
  obtain rfl : v = Value.ref a := rx
  obtain ⟨t, rfl⟩ := ry
  obtain ⟨_, _, vs, _, ⟨cls, dd, dt, sl⟩, es, ep, h1, h2, hd, _⟩ := hr.ok I.hok
  obtain ⟨c1, c2, c3⟩ := id h2
  simp only at c1 c2 c3 hd
  subst c1 c2 c3 hd
  exact rc_dict_str z t h1 hu X.prog X.w X.xe (EP X pins σ Q) ⟨.bl false, H, I, rfl, q⟩
theorem oc_eqDS {X : Cx} {k : Nat} {ks : List (Key × D)} {z : Str} (hr : Room k X.A) : OpD X (compareOp .Eq) (.dct ks) (.str z) (.bl false) := .flat (op_eq_ds (by have := hr.units; omega)) (fun _ => rfl) fun v w H h1 h2 Q q => by
  obtain ⟨a, kvs, e1, e2, e3⟩ := h1
  exact ⟨a, kvs, z, e1, e2, h2, q⟩
end
end Mw
set_option maxHeartbeats 4000000
/-! walks over texts, all, sum, list(..), tuple(..), sorted, split, partition, join, dict.get -/
namespace Mw
open PySem PySem.Spec PyProof.Rows L2
section
variable {X : Cx} {as : DE} {d x y : D} {tg a b c e : Expr} {es : List Expr} {ds : List D} {pos p : Pos} {gs : List Str} {j k : Nat} {z : Str}
/-- the signs of a text -/
def signsD (z : Str) : List D := z.cps.toList.map fun c => .str ⟨#[c]⟩
theorem iw_str (h : EE X e as (.str z)) : IW X tg e as (signsD z) := ⟨_, pi_str re_pe, fun σ H0 H hs hf R q => h.run σ H0 H hs hf _ fun v H1 H' g iv => by
  have hl : (signsD z).length = z.cps.size := by unfold signsD; rw [List.length_map, Array.length_toList]
  refine ⟨z, iv, q _ H1 _ g ⟨fun H2 e => by show z.cps.size ≤ _; omega, fun i H2 hi e => by show i < z.cps.size; omega, fun i d H2 H3 x H4 hd e1 e2 hy => ?_⟩⟩
  obtain ⟨rfl, c, hc, rfl⟩ := hy
  refine ⟨H2, Grow.refl e2, ?_⟩
  unfold signsD at hd
  rw [List.getElem?_map, Array.getElem?_toList, hc] at hd
  cases hd
  exact rfl⟩
/-! ### builtins -/
theorem isL_ints {K : PySem.W.Frag} {H : Hp} : ∀ {ns : List Int} {vs : List V}, IsL K H (ns.map D.int) vs → vs = ns.map V.int
  | [], _, h => h
  | n :: ns, _, h => by
    obtain ⟨v, r, h1, h2, h3⟩ := h
    rw [h1, show v = V.int n from h2, isL_ints h3]
    rfl
theorem isL_strs {K : PySem.W.Frag} {H : Hp} : ∀ {ns : List Str} {vs : List V}, IsL K H (ns.map D.str) vs → vs = ns.map V.str
  | [], _, h => h
  | n :: ns, _, h => by
    obtain ⟨v, r, h1, h2, h3⟩ := h
    rw [h1, show v = V.str n from h2, isL_strs h3]
    rfl
theorem strs_isL {K : PySem.W.Frag} {H : Hp} : ∀ ns : List Str, IsL K H (ns.map D.str) (ns.map V.str)
  | [] => rfl
  | n :: ns => ⟨_, _, rfl, rfl, strs_isL ns⟩
theorem ca_all {bs : List Bool} (hc : X.calm = true) : CaD X (.builtin "all") [.lst (bs.map D.bl)] (.bl (bs.all id)) := ⟨_, cr_all hc, fun vs H0 H hs h Q q => by
  obtain ⟨v, e, h1⟩ := is1 h
  obtain ⟨a, ws, e1, e2, e3⟩ := h1
  rw [isL_bools e3] at e2
  exact ⟨a, bs, by rw [e, e1], Same.lst hs e2, q _ _ _ (Grow.refl hs) rfl⟩⟩
theorem ca_any {bs : List Bool} (hc : X.calm = true) : CaD X (.builtin "any") [.lst (bs.map D.bl)] (.bl (bs.any id)) := ⟨_, cr_any hc, fun vs H0 H hs h Q q => by
  obtain ⟨v, e, h1⟩ := is1 h
  obtain ⟨a, ws, e1, e2, e3⟩ := h1
  rw [isL_bools e3] at e2
  exact ⟨a, bs, by rw [e, e1], Same.lst hs e2, q _ _ _ (Grow.refl hs) rfl⟩⟩
theorem ca_sum {ns : List Int} (hc : X.calm = true) : CaD X (.builtin "sum") [.lst (ns.map D.int)] (.int ns.sum) := ⟨_, cr_sum hc, fun vs H0 H hs h Q q => by
  obtain ⟨v, e, h1⟩ := is1 h
  obtain ⟨a, ws, e1, e2, e3⟩ := h1
  rw [isL_ints e3] at e2
  exact ⟨a, ns, by rw [e, e1], Same.lst hs e2, q _ _ _ (Grow.refl hs) rfl⟩⟩
theorem cn_listL : CaN X (.type "list") [.lst ds] (.lst ds) := ⟨_, call_list_of, fun vs H0 H hs h Q q => by
  obtain ⟨v, e, h1⟩ := is1 h
  obtain ⟨a, ws, e1, e2, e3⟩ := h1
  exact ⟨a, ws, by rw [e, e1], .inl (Same.lst hs e2), fun l hl => q l H0 _ (Grow.made hs hl) hl (hs.free hl) ⟨ws, upd_same, e3⟩⟩⟩
theorem cn_listT : CaN X (.type "list") [.tup ds] (.lst ds) := ⟨_, call_list_of, fun vs H0 H hs h Q q => by
  obtain ⟨v, e, h1⟩ := is1 h
  obtain ⟨a, ws, e1, e2, e3⟩ := h1
  exact ⟨a, ws, by rw [e, e1], .inr (Same.tup hs e2), fun l hl => q l H0 _ (Grow.made hs hl) hl (hs.free hl) ⟨ws, upd_same, e3⟩⟩⟩
theorem ca_tupL : CaD X (.type "tuple") [.lst ds] (.tup ds) := ⟨_, call_tuple_of, fun vs H0 H hs h Q q => by
  obtain ⟨v, e, h1⟩ := is1 h
  obtain ⟨a, ws, e1, e2, e3⟩ := h1
  exact ⟨a, ws, by rw [e, e1], .inl ⟨Same.lst hs e2, fun l hl => q (.ref l) (upd H0 l (.tup ws)) _ (Grow.laid hs hl) ⟨l, ws, rfl, SqT.of upd_same, e3.mono (Same.new (hs.free hl))⟩⟩⟩⟩
theorem ca_tupT : CaD X (.type "tuple") [.tup ds] (.tup ds) := ⟨_, call_tuple_of, fun vs H0 H hs h Q q => by
  obtain ⟨v, e, h1⟩ := is1 h
  obtain ⟨a, ws, e1, e2, e3⟩ := id h1
  exact ⟨a, ws, by rw [e, e1], .inr ⟨Same.tup hs e2, q _ _ _ (Grow.refl hs) ⟨a, ws, rfl, e2, e3⟩⟩⟩⟩
/-! ### methods of texts -/
theorem cm_split {z s : Str} (hs0 : (s.length == 0) = false) (hz : z.length + 2 ≤ sizeLine) : CaMN X "str.split" (.str z) [.str s] (.lst ((Txt.split z s).map D.str)) := ⟨_, mt_split, fun v vs H0 H hs h1 h2 Q q => by
  obtain ⟨w, e, h3⟩ := is1 h2
  exact ⟨z, s, h1, by rw [e, show w = _ from h3], hs0, hz, fun p hp => q p H0 _ (Grow.made hs hp) hp (hs.free hp) ⟨_, upd_same, strs_isL _⟩⟩⟩
theorem cm_part {z s : Str} (hs0 : (s.length == 0) = false) (hz : z.length ≤ sizeLine) : CaM X "str.partition" (.str z) [.str s] (.tup [.str (Txt.partition z s).1, .str (Txt.partition z s).2.1, .str (Txt.partition z s).2.2]) := ⟨_, mt_partition, fun v vs H0 H hs h1 h2 Q q => by
  obtain ⟨w, e, h3⟩ := is1 h2
  exact ⟨z, s, h1, by rw [e, show w = _ from h3], hs0, hz, fun p hp => q (.ref p) (upd H0 p (.tup [.str (Txt.partition z s).1, .str (Txt.partition z s).2.1, .str (Txt.partition z s).2.2])) _ (Grow.laid hs hp) ⟨p, _, rfl, SqT.of upd_same, ⟨_, _, rfl, rfl, _, _, rfl, rfl, _, _, rfl, rfl, rfl⟩⟩⟩⟩
theorem cm_joinL {z : Str} {ys : List Str} (hz : (ys.map (·.length)).sum + ys.length * z.length ≤ 16777216) : CaM X "str.join" (.str z) [.lst (ys.map D.str)] (.str (Txt.join z ys)) := ⟨_, mt_join, fun v vs H0 H hs h1 h2 Q q => by
  obtain ⟨w, e, h3⟩ := is1 h2
  obtain ⟨a, ws, e1, e2, e3⟩ := h3
  rw [isL_strs e3] at e2
  exact ⟨z, a, ys, h1, by rw [e, e1], .inl (Same.lst hs e2), hz, q _ _ _ (Grow.refl hs) rfl⟩⟩
theorem en_bm {o : Expr} {name : Str} {apos cpos : Pos} {T id : String} (ho : EE X o as x) (ha : EA X (e :: es) as ds) (hx : tyB x = some T) (pa : PlainAttrs T) (slot : Slot T name id) (hty : typeOf (.builtin id) = pure (.type "method_descriptor")) (hc : CaMN X id x ds d)
    (hbase : attributeBase o name X.env (eval o X.env) = eval o X.env := by rfl)
    (hfew : ((backTo cpos (starEach (e :: es) X.env)).all (fun x => !x.1) && (backToKw cpos (keywordEach [] X.env)).all (fun x => x.1.isSome)
      && decide ((e :: es).length + ([] : List Keyword).length + (if ([] : List Keyword).isEmpty then 0 else 1) < 30)) = true := by rfl)
    (hline : (apos.endLine == cpos.line) = true := by rfl) (hs : starEach (e :: es) X.env = (false, eval e X.env) :: starEach es X.env := by rfl) (hplain : (backTo cpos (starEach es X.env)).any (·.1) = false := by rfl) :
    EN X (.Call (.Attribute o name apos) (e :: es) [] cpos) as d := .mk fun σ H0 H hs' hf Q q => by
  obtain ⟨r, hm, hr⟩ := hc
  refine re_of (pe_bm pa slot hty hm re_pe ra_pa hbase hfew hline hs hplain) ?_
  refine ho.run σ H0 H hs' hf _ fun v H1 H' g iv => ⟨tyB_ok hx (iv.mono g.sub), ha.run σ H1 H' g.sub (hf.mono g.frz) _ fun vs H2 H'' g' iv' => ?_⟩
  exact hr v vs H2 H'' g'.sub (iv.mono g'.frz) iv' Q fun z _ _ g'' h1 h2 h3 => q z _ _ ((g.trans g').trans g'') ((g.trans g').all.free h1) h2 h3
end
end Mw
set_option maxHeartbeats 4000000
/-! sets of texts: set(list of texts), sorted(set) -/
namespace Mw
open PySem PySem.Spec PyProof.Rows L2
theorem strsAt : ∀ {us : List Value} {xs : List Str}, StrsAre us xs → ∀ (i : Nat) (v : Value), us[i]? = some v → ∃ k t, xs[i]? = some k ∧ v = .str k t
  | _, _, .nil, i, v, e => by simp at e
  | _, _, .cons x t r, 0, v, e => ⟨x, t, rfl, (Option.some.inj e).symm⟩
  | _, _, .cons x t r, i + 1, v, e => strsAt r i v e
abbrev SD := PySem.Froz.SD
abbrev sO (D : SD) : Obj := PySem.Froz.sObj "set" D
abbrev addX := PySem.Froz.addTx
/-- the payload D holds the texts l, each once, and can be walked -/
structure SxOk (P : Program) (w : World) (D : SD) (l : List Str) : Prop where
  tx : PySem.Froz.TxOk P w D l
  vals : ((D.1.toList.map (·.2)).map strOf).Perm l
  sv : ∀ e ∈ D.1.toList, ∃ x t, e.2 = Value.str x t
  nd : l.Nodup
  ris : Ris D.2.2.place.toList
  led : w.params.followText "set-order" = true ∨ D.2.2.led = true
section
variable {P : Program} {w : World} {A : Around} {E : Value → Shared → Prop} {s : Shared} {D : SD} {l : List Str} {k : Str}
theorem tail_led {ep : Nat} {es : Array (Int × Value)} {t : SetTable} {b : Bool} (hr : Ris t.place.toList) (hl : w.params.followText "set-order" = true ∨ t.led = true) :
    Ris (PySem.Froz.tailTx ep es t b).2.2.place.toList ∧ (w.params.followText "set-order" = true ∨ (PySem.Froz.tailTx ep es t b).2.2.led = true) ∧ (PySem.Froz.tailTx ep es t b).1.toList.Perm es.toList := by
  unfold PySem.Froz.tailTx
  split
  · exact ⟨relayAll_ris t es _, hl.imp id fun z => by show (relayAll t es _).2.1.led = true; rw [relayAll_led]; exact z, relayAll_perm t es _⟩
  · exact ⟨hr, hl, List.Perm.refl _⟩
theorem SxOk.add (F : SxOk P w D l) (u : Tok) (hk : k ∉ l) : SxOk P w (addX (hashStr w k) (.str k u) D) (k :: l) := by
  obtain ⟨es, ep, t⟩ := D
  have pm := layNew_perm t es (hashStr w k) (.str k u)
  have hr := layNew_ris t es (hashStr w k) (.str k u) F.ris
  have hl : w.params.followText "set-order" = true ∨ (layNew t es (hashStr w k) (.str k u)).2.1.led = true := F.led.imp id fun z => by rw [layNew_led]; exact z
  have q : Ris (addX (hashStr w k) (.str k u) (es, ep, t)).2.2.place.toList ∧ (w.params.followText "set-order" = true ∨ (addX (hashStr w k) (.str k u) (es, ep, t)).2.2.led = true) ∧ (addX (hashStr w k) (.str k u) (es, ep, t)).1.toList.Perm (layNew t es (hashStr w k) (.str k u)).1.toList := by
    show Ris (PySem.Froz.tailTx _ _ _ _).2.2.place.toList ∧ _
    refine tail_led ?_ ?_
    · split <;> exact hr
    · split <;> exact hl
  obtain ⟨q1, q2, q3⟩ := q
  rw [Array.toList_push] at pm
  have pc := q3.trans (pm.trans (List.perm_append_singleton _ _))
  refine ⟨PySem.Froz.add_ok u F.tx, ?_, fun e he => ?_, List.nodup_cons.mpr ⟨hk, F.nd⟩, q1, q2⟩
  · have p1 := (pc.map (fun e : Int × Value => e.2)).map strOf
    exact p1.trans (F.vals.cons k)
  · rcases List.mem_cons.mp (pc.mem_iff.mp he) with z | z
    · exact ⟨k, u, by rw [z]⟩
    · exact F.sv e z
/-- one text more, or none -/
theorem sx_add {a : Addr} {u : Tok} {Q : Bool → Shared → Prop} (ho : s.heap.get? a = some (sO D)) (F : SxOk P w D l) (hb : l.length + 1 < scanBound)
    (h : ∀ (h' : Heap) (D' : SD) (l' : List Str), Heap.SameBut a s.heap h' → h'.get? a = some (sO D') → SxOk P w D' l' → (∀ j, j ∈ l' ↔ j ∈ l ∨ j = k) → l'.length ≤ l.length + 1 → ∀ b, Q b { s with heap := h' }) :
    wpAny (model P w) A (setAddHashed a (.str k u) (hashStr w k)) Q E s := by
  by_cases hk : k ∈ l
  · obtain ⟨es, ep, t⟩ := D
    have hd : (sO (es, ep, t)).data = .set es ep t := rfl
    have hel : ElemsOf (PySem.strKind P w) es.toList := F.tx.el
    have hb0 : es.size < scanBound := by have := F.tx.sz; dsimp only at this; omega
    unfold setAddHashed setAddHashedIn
    refine wpAny_holding (wpAny_bind (wpAny_setState_of ho hd F.tx.fit ?_))
    dsimp only
    rw [byScan_of rfl hb0 hel]
    simp only [↓reduceIte]
    unfold setAddByScan
    refine wpAny_bind ?_
    refine wpAny_bind (wpAny_rule ?_)
    refine wpAny_bind (wpAny_setScan_of (knd := PySem.strKind P w) (k := k) (PySem.Froz.is_str k u) ho hd F.tx.fit hel ?_)
    cases hfi : List.findIdx? (fun e => (PySem.strKind P w).is k e.2) es.toList with
    | some j =>
      dsimp only
      refine wpAny_pure (wpAny_pure ?_)
      exact h s.heap _ l (Heap.SameBut.refl a s.heap) ho F (fun j => ⟨.inl, fun z => z.elim id fun e => e ▸ hk⟩) (Nat.le_succ _) _
    | none =>
      obtain ⟨e, he, q⟩ := (F.tx.mem k).mp hk
      have c := List.findIdx?_eq_none_iff.mp hfi e he
      rw [q] at c
      cases c
  · refine PySem.Froz.add_x ho F.tx hk hb ?_
    have e : Heap.SameBut a s.heap (s.heap.update a fun _ => sO (addX (hashStr w k) (.str k u) D)) := Heap.SameBut.update s.heap a _
    exact h _ _ (k :: l) e (PySem.Froz.get_upd _ ho rfl) (F.add u hk) (fun j => by rw [List.mem_cons]; exact Or.comm) (Nat.le_refl _) _
theorem sx_loop {I : Addr} {fp wr : List Addr} {G : Array GenState → Array GenState → Prop} {n : Nat} {Pv : Nat → Value → Prop} {St : Nat → Shared → Prop} {R : Result → Shared → Prop}
    (W : WalksS P w A.in1 I fp wr G n Pv St) (S : Addr) (hSf : S ∉ fp) (xs : List Str) (hn : n = xs.length) (hb : xs.length + 1 < scanBound) (hval : ∀ i v, Pv i v → ∃ k t, xs[i]? = some k ∧ v = .str k t) :
    ∀ (m i : Nat) (s : Shared), n - i = m → i ≤ n → St i s → (∃ D l, s.heap.get? S = some (sO D) ∧ SxOk P w D l ∧ (∀ j, j ∈ l ↔ j ∈ xs.take i) ∧ l.length ≤ i) →
      (∀ s' D l, Moved (S :: wr) G s s' → s'.heap.get? S = some (sO D) → SxOk P w D l → (∀ j, j ∈ l ↔ j ∈ xs) → l.length ≤ n → R (.ok (.ret .none)) s') →
      codeAny (model P w) A (.builtin "set.update.loop" ⟨[.ref S, .ref I], []⟩) R s := by
  have hSw : S ∉ wr := fun h => hSf (W.sub _ h)
  have hsub : ∀ b ∈ wr, b ∈ S :: wr := fun b hb => List.mem_cons_of_mem _ hb
  intro m
  induction m with
  | zero =>
    rintro i s hk' hi hst ⟨D, l, hS, F, hm, hl⟩ hR
    obtain rfl : i = n := by omega
    refine codeAny_builtin PyProof.Rows.F.entry_set_update_loop ?_
    rw [Around.under_plainId PyProof.Rows.F.plain_set_update_loop _]
    show wpAny _ A.in1 (pyNext (.ref I) >>= _) _ _ s
    refine wpAny_bind (W.done s _ _ hst fun s' mv => ?_)
    rw [List.take_of_length_le (show xs.length ≤ i by omega)] at hm
    show wpAny _ A.in1 (ret Value.none) _ _ s'
    exact wpAny_pure (hR s' D l (mv.mono hsub) (mv.heap S _ hSw hS) F hm hl)
  | succ m ih =>
    rintro i s hk' hi hst ⟨D, l, hS, F, hm, hl⟩ hR
    have hlt : i < n := by omega
    refine codeAny_builtin PyProof.Rows.F.entry_set_update_loop ?_
    rw [Around.under_plainId PyProof.Rows.F.plain_set_update_loop _]
    show wpAny _ A.in1 (pyNext (.ref I) >>= _) _ _ s
    refine wpAny_bind (W.item i s _ _ hlt hst fun v s' hP hst' mv => ?_)
    obtain ⟨z, t, hz, rfl⟩ := hval i v hP
    show wpAny _ A.in1 (holding [Value.str z t] (setAdd S (.str z t)) >>= _) _ _ s'
    refine wpAny_bind (wpAny_holding ?_)
    unfold setAdd
    refine wpAny_holding ?_
    refine wpAny_bind ((PySem.strKind P w).pyHash (k := z) (PySem.Froz.is_str z t) ?_)
    refine sx_add (s := { s' with toks := s'.toks + 1 }) (mv.heap S _ hSw hS) F (by omega) fun h' D' l' hsb ho' F' hm' hl' b => ?_
    have hm2 : ∀ j, j ∈ l' ↔ j ∈ xs.take (i + 1) := fun j => by
      rw [hm' j, hm j, List.take_add_one, hz]
      simp [List.mem_append]
    refine wpAny_pure ⟨plainId_quiet PyProof.Rows.F.plain_set_update_loop _, ih (i + 1) _ (by omega) hlt (W.frame _ s' _ _ hst' (Nat.le_succ _) fun b hb o e => ?_) ⟨D', l', ho', F', hm2, by omega⟩ fun s'' D2 l2 mv2 h2 F2 m2 b2 => ?_⟩
    · rw [hsb.2 b (fun h : b = S => hSf (by rw [← h]; exact hb))]; exact e
    · refine hR s'' D2 l2 (Moved.trans W.gtrans ((mv.mono hsub).then_heap (Nat.le_succ _) fun b o hb e => ?_) mv2) h2 F2 m2 b2
      rw [hsb.2 b (fun h : b = S => hb (by rw [h]; exact List.mem_cons_self))]; exact e
end
section
variable {P : Program} {w : World} {A : Around} {E : Value → Shared → Prop} {s : Shared}
def newS (w : World) : Obj := { cls := .type "set", dict := none, data := .set #[] 0 (.fresh 0 0 (!w.params.followText "set-order")) }
theorem sx_new : SxOk P w (#[], 0, .fresh 0 0 (!w.params.followText "set-order")) [] where
  tx := PySem.Froz.TxOk.nil (by rfl)
  vals := by simp
  sv := fun e he => by simp at he
  nd := List.nodup_nil
  ris := List.Pairwise.nil
  led := by
    show _ ∨ (!w.params.followText "set-order") = true
    cases w.params.followText "set-order"
    · exact .inr rfl
    · exact .inl rfl
set_option maxHeartbeats 3200000 in
theorem call_setX {l : Addr} {items : Array Value} (xs : List Str) {Q : Value → Shared → Prop} (hh : A.handled = none) (hl : s.heap.IsList l items) (hit : StrsAre items.toList xs) (hb : xs.length + 1 < scanBound)
    (h : ∀ (h' : Heap) (tk : Nat) (D : SD) (ls : List Str), h'.get? s.heap.objs.size = some (sO D) → SxOk P w D ls → (∀ j, j ∈ ls ↔ j ∈ xs) → ls.length ≤ xs.length → (∀ b o, s.heap.get? b = some o → h'.get? b = some o) → Q (.ref s.heap.objs.size) { s with heap := h', toks := tk }) :
    wpAny (model P w) A (call (.type "set") [.ref l]) Q E s := by
  have hisz : items.size = xs.length := by rw [← StrsAre.len_eq hit, Array.length_toList]
  obtain ⟨c, tl, hmro⟩ := PySem.F.called_set.mro
  have hmade := PySem.F.called_set.made
  have hsub := PySem.F.called_set.sub
  refine wpAny_call (codeAny_of_tree ?_)
  show wpAny _ _ (callAny (.type "set") _) _ _ _
  refine wpAny_pure ⟨Code.quiet_builtin _ (by decide +kernel), codeAny_builtin PySem.F.entry_type_call ?_⟩
  rw [Around.under_plain (weight_type_call_type "set" [.ref l] []) rfl]
  have h1 := PySem.F.called_set.notType
  have h2 := PySem.F.called_set.canCreate
  have hct := PySem.F.typeCall_set_1 (.ref l)
  repeat (any_goals (first | assumption | wp_step))
  refine codeAny_mono (code_set_led1 (.ref l) (E := E) (Q₁ := fun obj s₁ => obj = .ref s.heap.objs.size ∧ s₁ = { s with heap := s.heap.push (newS w) }) ⟨rfl, rfl⟩) fun r s₁ hr => ?_
  cases r with
  | error e => exact hr
  | ok fl =>
    cases fl with
    | ret obj =>
      obtain ⟨rfl, rfl⟩ := hr
      have hS : (s.heap.push (newS w)).get? s.heap.objs.size = some (newS w) := Heap.get?_push_size _ rfl
      have hT : Shared.TypeIs { s with heap := s.heap.push (newS w) } (.ref s.heap.objs.size) "set" := ⟨_, hS, rfl⟩
      have hli := PySem.F.called_set.init.lookup
      have hbi := PySem.F.called_set.init.bind (.ref s.heap.objs.size)
      repeat (any_goals (first | assumption | wp_step))
      refine codeAny_mono (codeAny_call_builtin (R := wants (fun r s₂ => r = .none ∧ ∃ h' tk D ls, s₂ = { s with heap := h', toks := tk } ∧ h'.get? s.heap.objs.size = some (sO D) ∧ SxOk P w D ls ∧ (∀ j, j ∈ ls ↔ j ∈ xs) ∧ ls.length ≤ xs.length ∧
          (∀ b o, s.heap.get? b = some o → h'.get? b = some o)) E) PySem.F.called_set.init.plain PySem.F.entry_set_init (check_set_init_1 hT ?_)) fun r₂ s₂ hr₂ => ?_
      · obtain ⟨⟨ocls, odict, odata, oslots⟩, hol, hcl, nl, hdl⟩ := hl
        simp only at hcl hdl
        subst hcl; subst hdl
        have hol' : (s.heap.push (newS w)).get? l = some { cls := .type "list", dict := odict, data := .seq items nl, slots := oslots } := Heap.get?_push_of_some _ hol
        have hsls := PySem.F.sub_list_set
        have hslf := PySem.F.sub_list_frozenset
        have hne : (Value.type "list" == Value.type "dict") = false := by decide
        have hl1 : (s.heap.push (newS w)).IsList l items := ⟨_, hol', rfl, nl, rfl⟩
        unfold Builtin.«set.__init__» noKeywords Builtin.Frozenset.updateFrom
        generalize hPI : pyIter = PI
        wp_walk
        subst hPI
        refine wpAny_pyIter_list hl1 ?_
        refine wpAny_bind (wpAny_runValue ?_)
        have hlS : l < s.heap.objs.size := Heap.lt_size hol
        have hh3 : A.in1.in1.in1.handled = none := by simp [hh]
        have hneI : l ≠ (s.heap.push (newS w)).objs.size := by
          rw [Heap.size_push]; exact Nat.ne_of_lt (Nat.lt_succ_of_lt hlS)
        have hSf : s.heap.objs.size ∉ [(s.heap.push (newS w)).objs.size, l] := by
          rw [Heap.size_push]; simp only [List.mem_cons, List.mem_singleton, List.not_mem_nil, or_false, not_or]
          exact ⟨Nat.ne_of_lt (Nat.lt_succ_self _), Nat.ne_of_gt hlS⟩
        have hval : ∀ (i : Nat) (v : Value), items[i]? = some v → ∃ k t, xs[i]? = some k ∧ v = .str k t := fun i v hv => by
          have hi : i < xs.length := by rw [← hisz]; exact (Array.getElem?_eq_some_iff.mp hv).1
          exact strsAt hit i v (by rw [Array.getElem?_toList]; exact hv)
        refine sx_loop ((Walks.list hh3 _ l hneI items).toS) s.heap.objs.size
          hSf xs hisz hb hval (items.size - 0) 0 _ (by omega) (Nat.zero_le _)
          ⟨⟨_, Heap.get?_push_size _ rfl, rfl, rfl⟩, (hl1.push _)⟩ ?hS0 ?hR
        case hS0 => exact ⟨(#[], 0, .fresh 0 0 (!w.params.followText "set-order")), [], Heap.get?_push_of_some _ hS, sx_new, fun j => by simp, Nat.le_refl 0⟩
        case hR =>
          intro s' D ls hm hS' F' hms hls
          obtain ⟨h', g2, d', tk', os'⟩ := s'
          have eg : g2 = s.gens := hm.gens
          have ed : d' = s.drawn := hm.drawn
          have eo : os' = s.os := hm.os
          subst eg; subst ed; subst eo
          show wpAny _ _ _ _ _ _
          refine wpAny_pure ?_
          show wpAny _ _ (ret Value.none) _ _ _
          refine wpAny_pure ⟨rfl, h', tk', D, ls, rfl, hS', F', hms, by rw [← hisz]; exact hls, fun b o e => ?_⟩
          have hb0 : b < s.heap.objs.size := Heap.lt_size e
          have hb1 : b ≠ s.heap.objs.size := Nat.ne_of_lt hb0
          have hb2 : b ≠ (s.heap.push (newS w)).objs.size := by
            rw [Heap.size_push]; exact Nat.ne_of_lt (Nat.lt_succ_of_lt hb0)
          exact hm.heap b o (by simp only [List.mem_cons, List.mem_singleton, List.not_mem_nil, or_false, not_or]; exact ⟨hb1, hb2⟩) (Heap.get?_push_of_some _ (Heap.get?_push_of_some _ e))
      · cases r₂ with
        | error e => exact hr₂
        | ok fl₂ =>
          cases fl₂ with
          | ret r =>
            obtain ⟨rfl, h', tk, D, ls, rfl, hS', F', hms, hls, hk'⟩ := hr₂
            repeat (any_goals (first | assumption | wp_step))
            exact h _ _ _ _ hS' F' hms hls hk'
          | _ => exact hr₂.elim
    | _ => exact hr.elim
/-- sorted(set) -/
theorem sorted_setX {a : Addr} {D : SD} {l : List Str} {Q : Value → Shared → Prop} (ho : s.heap.get? a = some (sO D)) (F : SxOk P w D l) (hh : A.handled = none) (h64 : l.length < 64)
    (hQ : ∀ s' p (out : Array Value) (c : Nat) (ss : List Str), (∀ b o, s.heap.get? b = some o → s'.heap.get? b = some o) → s'.gens = s.gens → s'.os = s.os → s.heap.objs.size ≤ p →
      s'.heap.get? p = some (seqObj "list" out c) → StrsAre out.toList ss → ss.Perm l → sortedS ss = true → Q (.ref p) s') :
    wpAny (model P w) A (call (.builtin "sorted") [.ref a]) Q E s := by
  obtain ⟨es, ep, t⟩ := D
  have hsz : es.size = l.length := F.tx.sz
  refine Calls.call_function_entry kind_sorted plain_sorted entry_sorted (args_sorted1 _) ?_
  unfold Builtin.«sorted»
  refine wpAny_bind (m := checkCount "sorted" 1 1 _) (wpAny_pure ?_)
  refine wpAny_bind (collect_set (A := A.in1) hh (es := es) (ep := ep) (t := t) ⟨_, ho, rfl, rfl⟩ F.tx.fit (by rw [hsz]; unfold scanBound; omega) F.ris F.led fun s1 vs k1 hz g1 o1 pm => ?_)
  have hvl : vs.length = l.length := by rw [pm.length_eq, List.length_map, Array.length_toList]; exact hsz
  have hI : StrsAre vs (vs.map strOf) := strsAre_map vs fun v hv => by
    obtain ⟨e, he, q⟩ := List.mem_map.mp (pm.mem_iff.mp hv)
    obtain ⟨x, tk, h1⟩ := F.sv e he
    exact ⟨x, tk, by rw [← q]; exact h1⟩
  have pk : (vs.map strOf).Perm l := (pm.map strOf).trans F.vals
  refine wpAny_bind (wpAny_newList ?_ (by rw [hvl, sizeLine_eq]; omega))
  have hoL : (s1.heap.push (seqObj "list" vs.toArray 0)).get? s1.heap.objs.size = some (seqObj "list" vs.toArray 0) := Heap.get?_push_size _ rfl
  refine wpAny_bind (wpAny_holding (wpAny_call_entry slot_list_sort ⟨_, hoL, rfl⟩ entry_list_sort (list_sort_treeK strKind_oneLt hoL hI.keysOf (fun v₁ v₂ rest e => keyKind_strs (by rw [← e]; exact hI)) (by rw [hvl]; exact h64) fun st' a1 a2 => ⟨_, rfl, ?_⟩) (args_list_sort _)))
  obtain ⟨ss, b1, b2, b3⟩ := sorted_out_str hI a1 a2
  obtain ⟨c, hc⟩ := sortedHeap_at (vs := vs) (out := (arrOf st').map (·.2)) hoL
  refine wpAny_pure ⟨_, rfl, hQ _ s1.heap.objs.size _ c ss (fun b u e => ?_) g1 o1 hz hc b1 (b2.trans pk) b3⟩
  have q := k1 b u e
  have hlt := Heap.lt_size q
  show (sortedHeap (s1.heap.push (seqObj "list" vs.toArray 0)) s1.heap.objs.size vs _).get? b = some u
  rw [sortedHeap_old (Nat.ne_of_lt hlt) (by rw [size_push']; exact Nat.lt_succ_of_lt hlt)]
  exact Heap.get?_push_of_some _ q
end
end Mw
set_option maxHeartbeats 4000000
/-! texts in order: sorted(set(..)), sorted(dict); dict.get, in; list(d.items()); xs[::-1]; tuples put together -/
namespace Mw
open PySem PySem.Spec PyProof.Rows L2
/-! ### the order of texts -/
abbrev ltT (a b : Str) : Bool := ltCps a.cps.toList b.cps.toList
theorem ltC_irr : ∀ a : List Nat, ltCps a a = false
  | [] => rfl
  | a :: r => by
    show (decide (a < a) || (a == a && ltCps r r)) = false
    rw [ltC_irr r]
    simp
theorem ltC_tri : ∀ a b : List Nat, ltCps a b = false → ltCps b a = false → a = b
  | [], [], _, _ => rfl
  | [], _ :: _, h, _ => nomatch h
  | _ :: _, [], _, h => nomatch h
  | a :: r, b :: t, h, g => by
    have h' : (decide (a < b) || (a == b && ltCps r t)) = false := h
    have g' : (decide (b < a) || (b == a && ltCps t r)) = false := g
    simp only [Bool.or_eq_false_iff, Bool.and_eq_false_iff, decide_eq_false_iff_not, beq_eq_false_iff_ne, ne_eq] at h' g'
    have e : a = b := by omega
    subst e
    rw [ltC_tri r t (h'.2.resolve_left fun z => z rfl) (g'.2.resolve_left fun z => z rfl)]
theorem ltC_trans : ∀ a b c : List Nat, ltCps a b = true → ltCps b c = true → ltCps a c = true
  | [], _, [], _, h => by
    rename_i b _
    cases b <;> exact (nomatch h)
  | [], _, _ :: _, _, _ => rfl
  | _ :: _, [], _, h, _ => nomatch h
  | _ :: _, _ :: _, [], _, h => nomatch h
  | a :: r, b :: t, c :: u, h, g => by
    have h' : (decide (a < b) || (a == b && ltCps r t)) = true := h
    have g' : (decide (b < c) || (b == c && ltCps t u)) = true := g
    show (decide (a < c) || (a == c && ltCps r u)) = true
    simp only [Bool.or_eq_true, Bool.and_eq_true, decide_eq_true_eq, beq_iff_eq] at h' g' ⊢
    rcases h' with h1 | ⟨h1, h2⟩
    · rcases g' with g1 | ⟨g1, g2⟩
      · exact .inl (by omega)
      · exact .inl (by omega)
    · rcases g' with g1 | ⟨g1, g2⟩
      · exact .inl (by omega)
      · exact .inr ⟨by omega, ltC_trans r t u h2 g2⟩
theorem ltT_tri {a b : Str} (h : ltT a b = false) (g : ltT b a = false) : a = b := by
  have e := ltC_tri _ _ h g
  cases a; cases b
  simp only [Str.mk.injEq]
  exact Array.toList_inj.mp e
def insT (x : Str) : List Str → List Str
  | [] => [x]
  | y :: r => if ltT x y = true then x :: y :: r else if x = y then y :: r else y :: insT x r
def sortT (xs : List Str) : List Str := xs.foldr insT []
def RisT (l : List Str) : Prop := l.Pairwise fun a b => ltT a b = true
theorem mem_insT {x z : Str} : ∀ {l : List Str}, z ∈ insT x l ↔ z = x ∨ z ∈ l
  | [] => by simp [insT]
  | y :: r => by
    unfold insT
    split
    · rw [List.mem_cons]
    · split
      · rename_i e
        rw [e, List.mem_cons]
        exact ⟨.inr, fun h => h.elim .inl id⟩
      · rw [List.mem_cons, mem_insT, List.mem_cons]
        exact ⟨fun h => h.elim (fun a => .inr (.inl a)) fun a => a.elim .inl fun b => .inr (.inr b), fun h => h.elim (fun a => .inr (.inl a)) fun a => a.elim .inl fun b => .inr (.inr b)⟩
theorem ris_insT {x : Str} : ∀ {l : List Str}, RisT l → RisT (insT x l)
  | [], _ => List.pairwise_singleton _ _
  | y :: r, h => by
    have h1 := List.pairwise_cons.mp h
    unfold insT
    split
    · rename_i e
      refine List.pairwise_cons.mpr ⟨fun z hz => ?_, h⟩
      rcases List.mem_cons.mp hz with q | q
      · rw [q]; exact e
      · exact ltC_trans _ _ _ e (h1.1 z q)
    · split
      · exact h
      · rename_i e1 e2
        refine List.pairwise_cons.mpr ⟨fun z hz => ?_, ris_insT h1.2⟩
        rcases mem_insT.mp hz with q | q
        · rw [q]
          cases g : ltT y x with
          | true => rfl
          | false => exact absurd (ltT_tri (by simpa using e1) g) e2
        · exact h1.1 z q
theorem mem_sortT {z : Str} : ∀ {l : List Str}, z ∈ sortT l ↔ z ∈ l
  | [] => Iff.rfl
  | x :: l => by
    show z ∈ insT x (sortT l) ↔ _
    rw [mem_insT, mem_sortT, List.mem_cons]
theorem ris_sortT : ∀ l : List Str, RisT (sortT l)
  | [] => List.Pairwise.nil
  | x :: l => ris_insT (ris_sortT l)
/-- rising texts with the same members are the same -/
theorem ris_uniq : ∀ {l m : List Str}, RisT l → RisT m → (∀ z, z ∈ l ↔ z ∈ m) → l = m
  | [], [], _, _, _ => rfl
  | [], y :: m, _, _, h => by have := (h y).mpr List.mem_cons_self; cases this
  | x :: l, [], _, _, h => by have := (h x).mp List.mem_cons_self; cases this
  | x :: l, y :: m, hl, hm, h => by
    have h1 := List.pairwise_cons.mp hl
    have h2 := List.pairwise_cons.mp hm
    have e : x = y := by
      rcases List.mem_cons.mp ((h x).mp List.mem_cons_self) with q | q
      · exact q
      rcases List.mem_cons.mp ((h y).mpr List.mem_cons_self) with q' | q'
      · exact q'.symm
      have a := h2.1 x q
      have b := h1.1 y q'
      have c := ltC_trans _ _ _ a b
      rw [ltC_irr] at c
      cases c
    subst e
    rw [ris_uniq h1.2 h2.2 fun z => ?_]
    have nl : x ∉ l := fun q => by have := h1.1 x q; rw [show ltT x x = false from ltC_irr _] at this; cases this
    have nm : x ∉ m := fun q => by have := h2.1 x q; rw [show ltT x x = false from ltC_irr _] at this; cases this
    constructor
    · intro q
      rcases List.mem_cons.mp ((h z).mp (List.mem_cons_of_mem _ q)) with r | r
      · rw [r] at q; exact absurd q nl
      · exact r
    · intro q
      rcases List.mem_cons.mp ((h z).mpr (List.mem_cons_of_mem _ q)) with r | r
      · rw [r] at q; exact absurd q nm
      · exact r
theorem rising_all : ∀ {p : Str} {l : List Str}, risingS p l = true → (∀ x ∈ l, ltT x p = false) ∧ l.Pairwise (fun a b => ltT b a = false)
  | p, [], _ => ⟨fun x h => (nomatch h), List.Pairwise.nil⟩
  | p, x :: r, h => by
    have h' : (!ltCps x.cps.toList p.cps.toList && risingS x r) = true := h
    rw [Bool.and_eq_true, Bool.not_eq_true'] at h'
    obtain ⟨q1, q2⟩ := rising_all h'.2
    refine ⟨fun y hy => ?_, List.pairwise_cons.mpr ⟨q1, q2⟩⟩
    rcases List.mem_cons.mp hy with e | e
    · rw [e]; exact h'.1
    · have a := q1 y e
      cases g : ltT y p with
      | false => rfl
      | true =>
        cases g2 : ltT p x with
        | true => have c := ltC_trans _ _ _ g g2; rw [show ltCps y.cps.toList x.cps.toList = false from a] at c; cases c
        | false =>
          have e2 : p = x := ltT_tri g2 h'.1
          rw [e2] at g
          rw [show ltT y x = false from a] at g
          cases g
theorem ris_of_sorted {l : List Str} (h : sortedS l = true) (nd : l.Nodup) : RisT l := by
  cases l with
  | nil => exact List.Pairwise.nil
  | cons x r =>
    obtain ⟨q1, q2⟩ := rising_all (p := x) (l := r) h
    refine List.Pairwise.imp₂ (fun a b h1 h2 => ?_) (List.pairwise_cons.mpr ⟨q1, q2⟩ : (x :: r).Pairwise fun a b => ltT b a = false) nd
    cases g : ltT a b with
    | true => rfl
    | false => exact absurd (ltT_tri g h1) h2
theorem sortT_eq {l m : List Str} (h : sortedS l = true) (nd : l.Nodup) (hm : ∀ z, z ∈ l ↔ z ∈ m) : l = sortT m := ris_uniq (ris_of_sorted h nd) (ris_sortT m) fun z => (hm z).trans mem_sortT.symm
theorem len_insT {x : Str} : ∀ l : List Str, (insT x l).length ≤ l.length + 1
  | [] => Nat.le_refl _
  | y :: r => by
    unfold insT
    split
    · exact Nat.le_refl _
    · split
      · exact Nat.le_succ _
      · have := len_insT (x := x) r
        rw [List.length_cons, List.length_cons]
        omega
theorem len_sortT : ∀ l : List Str, (sortT l).length ≤ l.length
  | [] => Nat.le_refl _
  | x :: l => by
    have h := len_insT (x := x) (sortT l)
    have g := len_sortT l
    show (insT x (sortT l)).length ≤ _
    rw [List.length_cons]
    omega
theorem IsL.rev {K : PySem.W.Frag} {H : Hp} : ∀ {ds : List D} {vs : List V}, IsL K H ds vs → IsL K H ds.reverse vs.reverse
  | [], _, h => by rw [show _ = [] from h]; rfl
  | d :: ds, _, h => by
    obtain ⟨v, r, h1, h2, h3⟩ := h
    rw [h1, List.reverse_cons, List.reverse_cons]
    exact (IsL.rev h3).app (.one h2)
/-! ### sorted(set(xs)) -/
def SetX (P : Program) (w : World) (a : Addr) (xs : List Str) : HO := .ext fun h => ∃ D ls, h.get? a = some (sO D) ∧ SxOk P w D ls ∧ (∀ j, j ∈ ls ↔ j ∈ xs) ∧ ls.length ≤ xs.length
section
variable {X : Cx}
theorem setX_new {P : Program} {w : World} {H : Hp} {h : Heap} {a : Addr} {xs ls : List Str} {D : SD} (h1 : h.get? a = some (sO D)) (h2 : SxOk P w D ls) (h3 : ∀ j, j ∈ ls ↔ j ∈ xs) (h4 : ls.length ≤ xs.length) : ObjOk P w H h a (SetX P w a xs) :=
  ⟨⟨D, ls, h1, h2, h3, h4⟩, ⟨_, h1⟩, fun _ _ ⟨D', ls', g1, g⟩ k => ⟨D', ls', k _ g1, g⟩⟩
theorem strs_of_vals : ∀ {xs : List Str} {us : List Value}, Vals (xs.map V.str) us → StrsAre us xs
  | [], _, .nil => .nil
  | x :: xs, _, .cons ⟨t, e⟩ r => by rw [e]; exact .cons x t (strs_of_vals r)
theorem vals_of_strs : ∀ {xs : List Str} {us : List Value}, StrsAre us xs → Vals (xs.map V.str) us
  | _, _, .nil => .nil
  | _, _, .cons x t r => .cons ⟨t, rfl⟩ (vals_of_strs r)
def rSetX (K : PySem.W.Frag) (P : Program) (w : World) : List V → Hp → VK → Prop := fun vs H Q => ∃ (l : Addr) (xs : List Str), vs = [V.ref l] ∧ SqL K H l (xs.map V.str) ∧ xs.length < 64 ∧ ∀ a, H a = none → Q (.ref a) (upd H a (SetX P w a xs))
theorem cr_setX (hc : X.calm = true) : CallR X (.type "set") (rSetX X.K X.prog X.w) := by
  intro pins s σ H vs us Q I r h
  obtain ⟨l, xs, rfl, hl, hf, q⟩ := h
  rw [Vals.ref1 r]
  obtain ⟨its, rv, pl, hz⟩ := I.list hl
  refine call_setX (P := X.prog) (w := X.w) xs (I.ok.hd hc) pl.isList (by simpa using strs_of_vals rv) (by unfold scanBound; omega) fun h' tk D ls g1 g2 g3 g4 k => ?_
  exact ⟨.ref s.heap.objs.size, upd H s.heap.objs.size (SetX X.prog X.w s.heap.objs.size xs), I.laid (t' := tk) k (Nat.le_refl _) (setX_new g1 g2 g3 g4), rfl, q _ (I.hok.fresh (Nat.le_refl _))⟩
def rSortX (P : Program) (w : World) : List V → Hp → VK → Prop := fun vs H Q => ∃ (a : Addr) (xs : List Str), vs = [V.ref a] ∧ H a = some (SetX P w a xs) ∧ xs.length < 64 ∧ ∀ p, H p = none → Q (.ref p) (upd H p (.lst ((sortT xs).map V.str)))
theorem cr_sortX (hc : X.calm = true) : CallR X (.builtin "sorted") (rSortX X.prog X.w) := by
  intro pins s σ H vs us Q I r h
  obtain ⟨a, xs, rfl, ha, h64, q⟩ := h
  obtain ⟨D, ls, g1, g2, g3, g4⟩ := (I.hok a _ ha).1
  rw [Vals.ref1 r]
  refine sorted_setX g1 g2 (I.ok.hd hc) (by omega) fun s' p out c ss k g o hp hg hi pm hs => ?_
  have es : ss = sortT xs := sortT_eq hs (pm.nodup_iff.mpr g2.nd) fun z => pm.mem_iff.trans (g3 z)
  subst es
  have hlen : ((sortT xs).map V.str).length ≤ sizeLine := by have := len_sortT xs; rw [List.length_map, sizeLine_eq]; omega
  have hn : H p = none := I.hok.fresh hp
  have J : Inv X pins σ (upd H p (.lst ((sortT xs).map V.str))) { s with heap := s'.heap, gens := s'.gens, drawn := s'.drawn, toks := s'.toks } :=
    I.call (ch := []) (Un.laid k hp hn) (I.hok.laid k hp ⟨hlen, out.toList, c, vals_of_strs hi, hg⟩) (by rw [g]; exact I.bare) (fun _ z => nomatch z)
  have e : s' = { s with heap := s'.heap, gens := s'.gens, drawn := s'.drawn, toks := s'.toks } := by
    cases s'
    cases s
    cases o
    rfl
  rw [e]
  exact ⟨.ref p, _, J, rfl, q p hn⟩
end
section
variable {X : Cx} {gs : List Str} {as : DE} {e : Expr} {xs : List Str} {p p2 pos pos2 : Pos} {i j : Nat}
theorem boot_sorted' : bootBuiltins "sorted" = some (.builtin "sorted") := by first | exact boot_sorted | rfl | kernel_rfl
theorem boot_set' : bootBuiltins "set" = some (.type "set") := by first | exact boot_set | rfl | kernel_rfl
theorem en_sortSet (B : Gls X gs) (hc : X.calm = true) (h1 : At gs "sorted" i) (h2 : At gs "set" j) (m1 : X.mg "sorted" = none) (m2 : X.mg "set" = none) (he : EE X e as (.lst (xs.map D.str))) (hl : xs.length < 64)
    (hs : starEach [e] X.env = (false, eval e X.env) :: starEach [] X.env := by rfl)
    (hs2 : starEach [.Call (.Name "set" p2) [e] [] pos2] X.env = (false, eval (.Call (.Name "set" p2) [e] [] pos2) X.env) :: starEach [] X.env := by rfl) :
    EN X (.Call (.Name "sorted" p) [.Call (.Name "set" p2) [e] [] pos2] [] pos) as (.lst ((sortT xs).map D.str)) := .mk fun σ H0 H hsm hf Q q => by
  obtain ⟨g1, g2, g3⟩ := B.at_ _ _ h1
  obtain ⟨f1, f2, f3⟩ := B.at_ _ _ h2
  refine re_of (pe_callB (cr_sortX hc) g1 m1 boot_sorted' (pa_cons (pe_callTy (cr_setX hc) f1 m2 boot_set' (pa_cons re_pe pa_nil hs) f3 f2 hs rfl) pa_nil hs2) g3 g2 hs2 rfl) ?_
  refine he.run σ H0 H hsm hf _ fun v H1 H' g iv => ?_
  obtain ⟨a, ws, rfl, hq, hv⟩ := iv
  rw [isL_strs hv] at hq
  refine ⟨a, xs, rfl, Same.lst g.sub hq, hl, fun b hb => ?_⟩
  refine ⟨b, xs, rfl, upd_same, hl, fun c hc2 => ?_⟩
  have gg := (g.trans (Grow.made g.sub hb)).trans (Grow.made (o := .lst ((sortT xs).map V.str)) (g.sub.trans (Same.new hb)) hc2)
  exact q c H1 _ gg ((g.trans (Grow.made (o := SetX X.prog X.w b xs) g.sub hb)).all.free hc2) ((g.sub.trans (Same.new hb)).free hc2) ⟨_, upd_same, strs_isL _⟩
/-! ### sorted(d) -/
def keysT (ks : List (Str × D)) : List (Key × D) := ks.map fun k => (Sum.inr k.1, k.2)
theorem en_sortD {ks : List (Str × D)} (B : Gls X gs) (hc : X.calm = true) (h1 : At gs "sorted" i) (m1 : X.mg "sorted" = none) (he : EE X e as (.dct (keysT ks))) (nd : (ks.map (·.1)).Nodup) (hl : ks.length < 64)
    (hs : starEach [e] X.env = (false, eval e X.env) :: starEach [] X.env := by rfl) :
    EN X (.Call (.Name "sorted" p) [e] [] pos) as (.lst ((sortT (ks.map (·.1))).map D.str)) := .mk fun σ H0 H hsm hf Q q => by
  obtain ⟨g1, g2, g3⟩ := B.at_ _ _ h1
  refine re_of (pe_callB (call_sortedD hc) g1 m1 boot_sorted' (pa_cons re_pe pa_nil hs) g3 g2 hs rfl) ?_
  refine he.run σ H0 H hsm hf _ fun v H1 H' g iv => ?_
  obtain ⟨a, kvs, rfl, hq, hv⟩ := iv
  have hk : kvs.map (·.1) = (ks.map (·.1)).map Sum.inr := by
    have : ∀ (ks : List (Str × D)) (kvs : List (Key × V)), IsK X.K H1 (keysT ks) kvs → kvs.map (·.1) = (ks.map (·.1)).map Sum.inr := by
      intro ks
      induction ks with
      | nil => intro kvs h; rw [show kvs = [] from h]; rfl
      | cons k ks ih =>
        intro kvs h
        obtain ⟨w, r, h1, _, h3⟩ := h
        rw [h1, List.map_cons, ih r h3]
        rfl
    exact this ks kvs hv
  refine ⟨a, kvs, ks.map (·.1), rfl, Same.rd g.sub hq, hk, by rw [List.length_map]; exact hl, fun ys b pm hs hb => ?_⟩
  have es : ys = sortT (ks.map (·.1)) := sortT_eq hs (pm.nodup_iff.mpr nd) fun z => pm.mem_iff
  subst es
  exact q b H1 _ (g.trans (Grow.made g.sub hb)) (g.all.free hb) (g.sub.free hb) ⟨_, upd_same, strs_isL _⟩
/-! ### d.get(k, x), k in d -/
variable {k : Key} {d : D} {ks : List (Key × D)} {o f : Expr} {kk : Nat} {apos cpos : Pos}
theorem ee_dget2 {x : D} (hr : Room kk X.A) (ho : EE X o as (.dct ks)) (he : EE X e as (kD k)) (hf : EE X f as x)
    (m : M2 X o "get" apos e f cpos := by exact ⟨rfl, rfl, rfl, rfl⟩) : EE X (.Call (.Attribute o "get" apos) [e, f] [] cpos) as ((valD ks k).getD x) := .mk fun σ H0 H hs hsl Q q => by
  refine re_of (pe_dget2 (by have := hr.units; omega) re_pe re_pe re_pe m) ?_
  refine ho.run σ H0 H hs hsl _ fun v H1 H' g iv => ?_
  obtain ⟨a, kvs, e1, e2, e3⟩ := iv
  refine ⟨a, e1, .inl ⟨kvs, Same.rd g.sub e2⟩, ?_⟩
  refine he.run σ H1 H' g.sub (hsl.mono g.frz) _ fun w H2 H2' g' iw => hf.run σ H2 H2' g'.sub (hsl.mono (g.frz.trans g'.frz)) _ fun z H3 H3' g'' iz => ?_
  have fr := g'.frz.trans g''.frz
  refine ⟨valV kvs k, .inl ⟨kvs, k, Same.rd (fr.trans g''.sub) e2, kD_is iw, rfl⟩, ?_⟩
  have gg := (g.trans g').trans g''
  cases hv : valD ks k with
  | none =>
    rw [(e3.mono fr).noval hv]
    exact q z H3 H3' gg (by rw [hv]; exact iz)
  | some d =>
    obtain ⟨x, hx, ix⟩ := (e3.mono fr).val hv
    rw [hx]
    exact q x H3 H3' gg (by rw [hv]; exact ix)
theorem op_inK (hu : X.A.units + 1 < cLine) : OpR X (compareOp .In) (fun x y H Q => ∃ a kvs k, x = kV k ∧ y = .ref a ∧ Rd H a (.dK kvs) ∧ Q (.bl (valV kvs k).isSome) H) := by
  intro pins s σ H x y v u Q I rx ry h
  obtain ⟨a, kvs, k, rfl, rfl, hr, q⟩ := h
  obtain rfl : u = Value.ref a := ry
  exact d_in hu I (.inl ⟨kvs, k, hr, rfl, rfl⟩) rx fun s3 I3 => ⟨.bl (valV kvs k).isSome, H, I3, rfl, q⟩
theorem op_ninK (hu : X.A.units + 1 < cLine) : OpR X (compareOp .NotIn) (fun x y H Q => ∃ a kvs k, x = kV k ∧ y = .ref a ∧ Rd H a (.dK kvs) ∧ Q (.bl (!(valV kvs k).isSome)) H) := by
  intro pins s σ H x y v u Q I rx ry h
  obtain ⟨a, kvs, k, rfl, rfl, hr, q⟩ := h
  obtain rfl : u = Value.ref a := ry
  exact d_notIn hu I (.inl ⟨kvs, k, hr, rfl, rfl⟩) rx fun s3 I3 => ⟨.bl (!(valV kvs k).isSome), H, I3, rfl, q⟩
theorem IsK.isSome {K : PySem.W.Frag} {H : Hp} {kvs : List (Key × V)} (h : IsK K H ks kvs) : (valV kvs k).isSome = (valD ks k).isSome := by
  cases hv : valD ks k with
  | none => rw [h.noval hv]; rfl
  | some d =>
    obtain ⟨x, hx, _⟩ := h.val hv
    rw [hx]; rfl
theorem oc_inK (hr : Room kk X.A) : OpD X (compareOp .In) (kD k) (.dct ks) (.bl (valD ks k).isSome) := .flat (op_inK (by have := hr.units; omega)) (fun _ => rfl) fun v w H h1 h2 Q q => by
  obtain ⟨a, kvs, e1, e2, e3⟩ := h2
  exact ⟨a, kvs, k, kD_is h1, e1, e2, by rw [e3.isSome]; exact q⟩
theorem oc_ninK (hr : Room kk X.A) : OpD X (compareOp .NotIn) (kD k) (.dct ks) (.bl (!(valD ks k).isSome)) := .flat (op_ninK (by have := hr.units; omega)) (fun _ => rfl) fun v w H h1 h2 Q q => by
  obtain ⟨a, kvs, e1, e2, e3⟩ := h2
  exact ⟨a, kvs, k, kD_is h1, e1, e2, by rw [e3.isSome]; exact q⟩
/-! ### xs[::-1], s + t -/
theorem en_revL {ds : List D} {k0 : Nat} {p1 p3 : Pos} (he : EE X e as (.lst ds)) : EN X (.Subscript e (.Slice none none (some (.UnaryOp .USub (.Constant (.int 1) k0 p1) p2)) p3) pos) as (.lst ds.reverse) := .mk fun σ H0 H hs hf Q q => by
  refine re_of (pe_revL re_pe) ?_
  refine he.run σ H0 H hs hf _ fun v H1 H' g iv => ?_
  obtain ⟨a, vs, rfl, hq, hv⟩ := iv
  refine ⟨a, vs, rfl, Same.lst g.sub hq, fun b hb => q b H1 _ (g.trans (Grow.made g.sub hb)) (g.all.free hb) (g.sub.free hb) ⟨_, upd_same, ?_⟩⟩
  exact IsL.rev hv
/-! ### list(d.items()) -/
theorem pe_itemsR {te : TE} (hc : X.calm = true) (he : PE X o te) (hg : Gl X "list") (hm : X.mg "list" = none) (hbase : attributeBase o "items" X.env (eval o X.env) = eval o X.env := by rfl) (hline : (apos.endLine == cpos.line) = true := by rfl)
    (hs : starEach [.Call (.Attribute o "items" apos) [] [] cpos] X.env = (false, eval (.Call (.Attribute o "items" apos) [] [] cpos) X.env) :: starEach [] X.env := by rfl) :
    PE X (.Call (.Name "list" p) [.Call (.Attribute o "items" apos) [] [] cpos] [] pos) (fun σ H Q => te σ H fun x H1 => ∃ (d : Addr) (kvs : List (Key × V)), x = .ref d ∧ Rd H1 d (.dK kvs) ∧
      ∀ (H' : Hp) (p : Addr) (ts : List Addr), (∀ b o, H1 b = some o → H' b = some o) → H1 p = none → (∀ t ∈ ts, H1 t = none) → p ∉ ts → H' p = some (.lst (ts.map V.ref)) → Paired (fun (t : Addr) (q : Key × V) => H' t = some (.tup [kV q.1, q.2])) ts kvs → Q (.ref p) H') := by
  refine ⟨fun pins s σ H Q I hq => ?_⟩
  refine wpAny_Call_Name_kw (ld_blt I hg hm boot_list ?_)
  refine PyProof.Rows.callWith_type1 ?_ hs rfl
  rw [hs]
  show wpAny _ _ (spliced ((false, eval (.Call (.Attribute o "items" apos) [] [] cpos) X.env) :: backTo pos (starEach [] X.env))) _ _ s
  refine Calls.spliced_cons ?_
  refine wpAny_Call_method (T := "dict") (id := "dict.items") hbase rfl hline PySem.F.plainAttrs_dict PySem.F.slot_dict_items PySem.F.type_dict_items (thn (he.run pins s σ H _ I hq) fun u s1 ⟨x, H1, I1, rx, d, kvs, ex, hd, q⟩ => ?_)
  subst ex
  obtain rfl : u = Value.ref d := rx
  obtain ⟨hz, hs0, vs, kv, hdo⟩ := dk_rd I1.hok hd
  obtain ⟨ep, hat⟩ := hdo.dictAt
  have lk : kvs.length = vs.length := Paired.length kv
  have I2 : Inv X pins σ H1 { s1 with heap := s1.heap.push { cls := .type "dict_items", data := .fields #[.ref d] } } := I1.kept (t' := s1.toks) fun b ob q => Heap.get?_push_of_some _ q
  refine ⟨hdo.typeIs, hdo.mapOf.noDict, ?_⟩
  show wpAny _ _ (callWith cpos (.builtin "dict.items") [.ref d] [] []) _ X.xe s1
  refine method_meetsIn PySem.F.slot_dict_items PySem.F.entry_dict_items rfl (PySem.evalArgs_none ⟨rfl, hdo.typeIs, PySem.F.args_dict_items_1 _, _, meets_dict_items (mixKind X.prog X.w) d hs0, ⟨vs, hdo⟩, ?_⟩)
  refine Calls.spliced_nil ?_
  refine PySem.W.kdx_call (knd := mixKind X.prog X.w) (kvs := vs) (ep := ep) (I1.ok.hd hc) ⟨_, Heap.get?_push_size _ rfl, rfl, rfl⟩ (hat.push _) (by omega) fun h' tk acc c as hk hS hl hG hacc => ?_
  obtain ⟨H', k1, k2, k3, k4, k5, k6, J⟩ := LiI.items_laid (tk := tk) I2 hz kv hk hS hl hG hacc
  exact ⟨.ref _, H', J, rfl, q H' _ as k1 k2 k3 k4 k5 k6⟩
theorem is_items {K : PySem.W.Frag} {H0 H' : Hp} : ∀ {ks : List (Key × D)} {kvs : List (Key × V)} {ts : List Addr}, IsK K H0 ks kvs → Paired (fun (t : Addr) (q : Key × V) => H' t = some (.tup [kV q.1, q.2])) ts kvs → ∀ {H1 : Hp}, Same H0 H1 → (∀ t ∈ ts, H1 t = H' t) →
    IsL K H1 (ks.map fun k => .tup [kD k.1, k.2]) (ts.map V.ref)
  | [], _, _, h, hp, _, _, _ => by
    rw [show _ = [] from h] at hp
    cases hp
    exact rfl
  | (k, d) :: ks, _, _, ⟨v, r, h1, h2, h3⟩, hp, H1, e, ht => by
    subst h1
    cases hp with
    | cons a b =>
      rename_i t ts
      refine ⟨.ref t, _, rfl, ⟨t, _, rfl, SqT.of ((ht t List.mem_cons_self).trans a), kV k, [v], rfl, ?_, v, [], rfl, h2.mono e, rfl⟩, is_items h3 b e fun z hz => ht z (List.mem_cons_of_mem _ hz)⟩
      cases k <;> exact rfl
open Classical in
theorem en_items {ks : List (Key × D)} (B : Gls X gs) (hc : X.calm = true) (h1 : At gs "list" i) (m1 : X.mg "list" = none) (ho : EE X o as (.dct ks))
    (hbase : attributeBase o "items" X.env (eval o X.env) = eval o X.env := by rfl) (hline : (apos.endLine == cpos.line) = true := by rfl)
    (hs : starEach [.Call (.Attribute o "items" apos) [] [] cpos] X.env = (false, eval (.Call (.Attribute o "items" apos) [] [] cpos) X.env) :: starEach [] X.env := by rfl) :
    EN X (.Call (.Name "list" p) [.Call (.Attribute o "items" apos) [] [] cpos] [] pos) as (.lst (ks.map fun k => .tup [kD k.1, k.2])) := .mk fun σ H0 H hsm hf Q q => by
  obtain ⟨g1, g2, g3⟩ := B.at_ _ _ h1
  refine re_of (pe_itemsR hc re_pe g1 m1 hbase hline hs) ?_
  refine ho.run σ H0 H hsm hf _ fun v H1 H' g iv => ?_
  obtain ⟨a, kvs, rfl, hq, hv⟩ := iv
  refine ⟨a, kvs, rfl, Same.rd g.sub hq, fun H2 p ts k hp ht hn hl hpr => ?_⟩
  have hnt : ∀ b ∈ ts, H1 b = none := fun b hb => g.sub.free (ht b hb)
  let HF : Hp := fun b => if b ∈ ts then H2 b else H1 b
  have s1 : Same H1 HF := fun b o e => by
    show (if b ∈ ts then H2 b else H1 b) = some o
    split
    · rename_i hb; rw [hnt b hb] at e; cases e
    · exact e
  have s2 : Same HF H2 := fun b o e => by
    have e' : (if b ∈ ts then H2 b else H1 b) = some o := e
    split at e'
    · exact e'
    · exact k b o (g.sub b o e')
  have gg : Grow H1 H' HF H2 := ⟨s1, k, s2, fun b hb => by
    have e' : (if b ∈ ts then H2 b else H1 b) ≠ none := hb
    split at e'
    · rename_i hm; exact .inr (ht b hm)
    · exact .inl e'⟩
  refine q p HF H2 (g.trans gg) (g.all.free hp) ?_ ⟨_, hl, is_items hv hpr s1 fun t hm => if_pos hm⟩
  show (if p ∈ ts then H2 p else H1 p) = none
  rw [if_neg hn]
  exact g.sub.free hp
theorem od_catT {ds es : List D} (h : ds.length + es.length ≤ sizeLine) : OpD X (binaryOp .Add) (.tup ds) (.tup es) (.tup (ds ++ es)) := ⟨_, op_catA, fun v w H0 H hs h1 h2 Q q => by
  obtain ⟨a, vs, rfl, q1, i1⟩ := id h1
  obtain ⟨b, ws, rfl, q2, i2⟩ := id h2
  refine ⟨a, b, vs, ws, rfl, rfl, Same.tup hs q1, Same.tup hs q2, by rw [i1.len, i2.len]; exact h, fun e => ?_, fun _ e => ?_, fun _ _ p hp => ?_⟩
  · subst e
    have e2 : ds = [] := List.eq_nil_of_length_eq_zero (i1.len.symm.trans rfl)
    subst e2
    exact q _ H0 H (Grow.refl hs) h2
  · subst e
    have e2 : es = [] := List.eq_nil_of_length_eq_zero (i2.len.symm.trans rfl)
    subst e2
    rw [List.append_nil] at q
    exact q _ H0 H (Grow.refl hs) h1
  · exact q _ (upd H0 p (.tup (vs ++ ws))) _ (Grow.laid hs hp) ⟨p, vs ++ ws, rfl, SqT.of upd_same, (i1.app i2).mono (Same.new (hs.free hp))⟩⟩
/-! ### methods of texts, builtins by name -/
variable {z sp : Str} {ds : List D} {x : D}
theorem en_split (ho : EE X o as (.str z)) (he : EE X e as (.str sp)) (hs0 : (sp.length == 0) = false) (hz : z.length + 2 ≤ sizeLine)
    (hbase : attributeBase o "split" X.env (eval o X.env) = eval o X.env := by rfl)
    (hfew : ((backTo cpos (starEach [e] X.env)).all (fun x => !x.1) && (backToKw cpos (keywordEach [] X.env)).all (fun x => x.1.isSome)
      && decide ([e].length + ([] : List Keyword).length + (if ([] : List Keyword).isEmpty then 0 else 1) < 30)) = true := by rfl)
    (hline : (apos.endLine == cpos.line) = true := by rfl) (hs : starEach [e] X.env = (false, eval e X.env) :: starEach [] X.env := by rfl) : EN X (.Call (.Attribute o "split" apos) [e] [] cpos) as (.lst ((Txt.split z sp).map D.str)) :=
  en_bm ho (ea_cons he ea_nil hs) rfl PySem.F.plainAttrs_str PySem.F.slot_str_split PySem.F.type_str_split (cm_split hs0 hz) hbase hfew hline hs rfl
theorem e_part (ho : EE X o as (.str z)) (he : EE X e as (.str sp)) (hs0 : (sp.length == 0) = false) (hz : z.length ≤ sizeLine)
    (hbase : attributeBase o "partition" X.env (eval o X.env) = eval o X.env := by rfl)
    (hfew : ((backTo cpos (starEach [e] X.env)).all (fun x => !x.1) && (backToKw cpos (keywordEach [] X.env)).all (fun x => x.1.isSome)
      && decide ([e].length + ([] : List Keyword).length + (if ([] : List Keyword).isEmpty then 0 else 1) < 30)) = true := by rfl)
    (hline : (apos.endLine == cpos.line) = true := by rfl) (hs : starEach [e] X.env = (false, eval e X.env) :: starEach [] X.env := by rfl) : EE X (.Call (.Attribute o "partition" apos) [e] [] cpos) as (.tup [.str (Txt.partition z sp).1, .str (Txt.partition z sp).2.1, .str (Txt.partition z sp).2.2]) :=
  ee_bm ho (ea_cons he ea_nil hs) rfl PySem.F.plainAttrs_str PySem.F.slot_str_partition PySem.F.type_str_partition (cm_part hs0 hz) hbase hfew hline hs rfl
theorem e_join {ys : List Str} (ho : EE X o as (.str z)) (he : EE X e as (.lst (ys.map D.str))) (hz : (ys.map (·.length)).sum + ys.length * z.length ≤ 16777216)
    (hbase : attributeBase o "join" X.env (eval o X.env) = eval o X.env := by rfl)
    (hfew : ((backTo cpos (starEach [e] X.env)).all (fun x => !x.1) && (backToKw cpos (keywordEach [] X.env)).all (fun x => x.1.isSome)
      && decide ([e].length + ([] : List Keyword).length + (if ([] : List Keyword).isEmpty then 0 else 1) < 30)) = true := by rfl)
    (hline : (apos.endLine == cpos.line) = true := by rfl) (hs : starEach [e] X.env = (false, eval e X.env) :: starEach [] X.env := by rfl) : EE X (.Call (.Attribute o "join" apos) [e] [] cpos) as (.str (Txt.join z ys)) :=
  ee_bm ho (ea_cons he ea_nil hs) rfl PySem.F.plainAttrs_str PySem.F.slot_str_join PySem.F.type_str_join (cm_joinL hz) hbase hfew hline hs rfl
theorem e_all {bs : List Bool} (B : Gls X gs) (hc : X.calm = true) (h : At gs "all" i) (hm : X.mg "all" = none) (he : EE X e as (.lst (bs.map D.bl))) (hs : starEach [e] X.env = (false, eval e X.env) :: starEach [] X.env := by rfl) : EE X (.Call (.Name "all" p) [e] [] pos) as (.bl (bs.all id)) :=
  let ⟨h1, h2, h3⟩ := B.at_ _ _ h
  ee_callB (ea_cons he ea_nil hs) (ca_all hc) h1 hm boot_all h3 h2 hs rfl
theorem e_sum {ns : List Int} (B : Gls X gs) (hc : X.calm = true) (h : At gs "sum" i) (hm : X.mg "sum" = none) (he : EE X e as (.lst (ns.map D.int))) (hs : starEach [e] X.env = (false, eval e X.env) :: starEach [] X.env := by rfl) : EE X (.Call (.Name "sum" p) [e] [] pos) as (.int ns.sum) :=
  let ⟨h1, h2, h3⟩ := B.at_ _ _ h
  ee_callB (ea_cons he ea_nil hs) (ca_sum hc) h1 hm boot_sum h3 h2 hs rfl
theorem e_max2 {a b : Int} (B : Gls X gs) (hc : X.calm = true) (h : At gs "max" i) (hm : X.mg "max" = none) (he : EE X e as (.int a)) (hf : EE X f as (.int b)) (hs : starEach [e, f] X.env = (false, eval e X.env) :: starEach [f] X.env := by rfl) (hs2 : starEach [f] X.env = (false, eval f X.env) :: starEach [] X.env := by rfl)
    (hpl : (backTo pos (starEach [f] X.env)).any (·.1) = false := by rfl) : EE X (.Call (.Name "max" p) [e, f] [] pos) as (.int (if b > a then b else a)) :=
  let ⟨h1, h2, h3⟩ := B.at_ _ _ h
  ee_callB (ea_cons he (ea_cons hf ea_nil hs2) hs) (ca_max2 hc) h1 hm boot_max h3 h2 hs hpl
theorem e_tupL (B : Gls X gs) (h : At gs "tuple" i) (hm : X.mg "tuple" = none) (he : EE X e as (.lst ds)) (hs : starEach [e] X.env = (false, eval e X.env) :: starEach [] X.env := by rfl) : EE X (.Call (.Name "tuple" p) [e] [] pos) as (.tup ds) :=
  let ⟨h1, h2, h3⟩ := B.at_ _ _ h
  ee_callTy (ea_cons he ea_nil hs) ca_tupL h1 hm boot_tuple h3 h2 hs rfl
theorem n_listT (B : Gls X gs) (h : At gs "list" i) (hm : X.mg "list" = none) (he : EE X e as (.tup ds)) (hs : starEach [e] X.env = (false, eval e X.env) :: starEach [] X.env := by rfl) : EN X (.Call (.Name "list" p) [e] [] pos) as (.lst ds) :=
  let ⟨h1, h2, h3⟩ := B.at_ _ _ h
  en_callTy (ea_cons he ea_nil hs) cn_listT h1 hm boot_list h3 h2 hs rfl
theorem n_listL (B : Gls X gs) (h : At gs "list" i) (hm : X.mg "list" = none) (he : EE X e as (.lst ds)) (hs : starEach [e] X.env = (false, eval e X.env) :: starEach [] X.env := by rfl) : EN X (.Call (.Name "list" p) [e] [] pos) as (.lst ds) :=
  let ⟨h1, h2, h3⟩ := B.at_ _ _ h
  en_callTy (ea_cons he ea_nil hs) cn_listL h1 hm boot_list h3 h2 hs rfl
end
end Mw
set_option maxHeartbeats 4000000
/-! what is known outside a comprehension is known within -/
namespace Mw
open PySem PySem.Spec PyProof.Rows L2
section
variable {X Y : Cx} {gs : List Str} {n : Str} {d : D} {k : Nat} {dds : List D} {S : FS} {u : Option Value}
theorem cst_in (_ : Gls Y gs) (c : CstD X n d) (hk : Y.K = X.K := by rfl) (hm : Y.mg = X.mg := by rfl) : CstD Y n d := by
  show CstE Y.K Y.mg n d
  rw [hk, hm]
  exact c
theorem mg_in (_ : Gls Y gs) (c : X.mg n = u) (hm : Y.mg = X.mg := by rfl) : Y.mg n = u := by
  rw [hm]
  exact c
theorem fn_in (_ : Gls Y gs) (F : FnD X k n dds S) (h1 : Y.prog = X.prog := by rfl) (h2 : Y.w = X.w := by rfl) (hk : Y.K = X.K := by rfl) (hm : Y.mg = X.mg := by rfl) (hb : Y.base = X.base := by rfl) : FnD Y k n dds S := by
  show FnE Y.prog Y.w Y.K Y.mg Y.base k n dds S
  rw [h1, h2, hk, hm, hb]
  exact F
theorem room_in (_ : Gls Y gs) (h : Room k X.A) (hA : Y.A = X.A := by rfl) : Room k Y.A := by
  rw [hA]
  exact h
end
theorem cdivL {i j : Int} (h : 0 < j) (hs : j.natAbs < 2 ^ 32) : CDivW i j := wide_div h hs (by decide) (by decide)
end Mw
set_option maxHeartbeats 4000000
/-! name = [..]: a comprehension stored in a name at once; n[k] = e of what is flat -/
namespace Mw
open PySem PySem.Spec PyProof.Rows L2
section
variable {X : Cx} {N L gs : List Str} {k : Nat} {sc : Scope} {scope : Scope} {as : DE} {tg iter elt : Expr} {ifs : List Expr} {ds : List D} {pos : Pos}
theorem lc_run (own : List (Str × Nat)) (N' : List (Option Str)) (gs' : List Str) (w : D → Sto) (f : D → D) (pr : D → Bool) (B : Body X N L gs k sc) (hw : IW X tg iter as ds)
    (hok : blkC N sc scope own = true) (hN' : (decide (N'.length ≤ N.length) && seesB scope N N' && gs'.all (glbOk scope)) = true) (hz : ds.length < sizeLine) (how : ∀ (j : Nat) (d : D), ds[j]? = some d → ∀ q ∈ w d, q.1 ∈ own.map (·.2))
    (ht : ∀ (s : Shared) (H : Hp) (cl : List (Str × Addr)) (C : Addr) (fp : List Addr), NmsB (X.blk s H scope (compEnvC scope cl C X.env) fp) N' → ∀ (j : Nat) (d : D), ds[j]? = some d → TgD (X.blk s H scope (compEnvC scope cl C X.env) fp) tg d (w d))
    (hb : ∀ (s : Shared) (H : Hp) (cl : List (Str × Addr)) (C : Addr) (fp : List Addr), NmsB (X.blk s H scope (compEnvC scope cl C X.env) fp) N' → Gls (X.blk s H scope (compEnvC scope cl C X.env) fp) gs' → ∀ (j : Nat) (d : D), ds[j]? = some d →
      ETs (X.blk s H scope (compEnvC scope cl C X.env) fp) ifs (stoE (w d) (wipeE as (own.map (·.2)))) (pr d) ∧ (pr d = true → EE (X.blk s H scope (compEnvC scope cl C X.env) fp) elt (stoE (w d) (wipeE as (own.map (·.2)))) (f d)))
    : ∃ (wi : TI) (g : TG) (tt : TT) (te : TE), PI X tg iter wi ∧ (∀ (s : Shared) (H : Hp) (C : Addr) (cl : List (Str × Addr)) (fp : List Addr), PG (X.blk s H scope (compEnvC scope cl C X.env) fp) tg g) ∧
      (∀ (s : Shared) (H : Hp) (C : Addr) (cl : List (Str × Addr)) (fp : List Addr), PTs (X.blk s H scope (compEnvC scope cl C X.env) fp) ifs tt) ∧ (∀ (s : Shared) (H : Hp) (C : Addr) (cl : List (Str × Addr)) (fp : List Addr), PE (X.blk s H scope (compEnvC scope cl C X.env) fp) elt te) ∧
      ∀ (σ : L2.St) (H0 H : Hp), σ.length = X.N.length → Same H0 H → SlF X.K H0 σ as → ∀ Q : VK, (∀ a H0' H', Grow H0 H H0' H' → H a = none → H0' a = none → Own X.K H0' H' a (.lst ((ds.filter pr).map f)) → Q (.ref a) H') → tLc wi g tt te (own.map (·.2)) σ H Q := by
  obtain ⟨wi, hpi, hwi⟩ := hw.run
  simp only [Bool.and_eq_true, decide_eq_true_eq] at hN'
  obtain ⟨⟨n1, n2⟩, n3⟩ := hN'
  let g : TG := fun v σ H Q => ∀ (s' : Shared) (H' : Hp) (C : Addr) (cl : List (Str × Addr)) (fp : List Addr), rg (X.blk s' H' scope (compEnvC scope cl C X.env) fp) tg v σ H Q
  let tt : TT := fun σ H Q => ∀ (s' : Shared) (H' : Hp) (C : Addr) (cl : List (Str × Addr)) (fp : List Addr), rts (X.blk s' H' scope (compEnvC scope cl C X.env) fp) ifs σ H Q
  let te : TE := fun σ H Q => ∀ (s' : Shared) (H' : Hp) (C : Addr) (cl : List (Str × Addr)) (fp : List Addr), re (X.blk s' H' scope (compEnvC scope cl C X.env) fp) elt σ H Q
  refine ⟨wi, g, tt, te, hpi, fun s' H' C cl fp => ⟨fun pins s σ H v u Q I r h => h s' H' C cl fp pins s u I r⟩, fun s' H' C cl fp => ⟨fun pins s σ H Q I h => h s' H' C cl fp pins s I⟩, fun s' H' C cl fp => ⟨fun pins s σ H Q I h => h s' H' C cl fp pins s I⟩, fun σ H0 H hlen hs hf Q q => ?_⟩
  refine hwi σ H0 H hs hf _ fun J H1 H' gr wk Dl hDl => ?_
  -- W: behind i turns the list holds what was made
  refine ⟨fun i m H2 => m = ds.length - i ∧ i ≤ ds.length ∧ ∃ H3 vs, Grow H1 (upd H' Dl (.lst [])) H3 (upd H2 Dl (.lst [])) ∧ H3 Dl = none ∧ H2 Dl = some (.lst vs) ∧ IsL X.K H3 (((ds.take i).filter pr).map f) vs ∧ (∀ b o, b ≠ Dl → H' b = some o → H2 b = some o), ⟨ds.length, by simp, Nat.zero_le _, H1, [], ?_, gr.sub.free hDl, upd_same, rfl, fun b o hb e => by rw [upd_ne hb]; exact e⟩, ?_⟩
  · rw [upd_upd]
    exact Grow.refl (gr.sub.trans (Same.new hDl))
  rintro i m H2 ⟨rfl, hi, H3, vs, g3, h3D, h2D, hv, hk⟩
  have s32 : Same H3 H2 := fun b o e => by
    have e' := g3.sub b o e
    have hb : b ≠ Dl := fun z => by rw [z, h3D] at e; cases e
    rw [upd_ne hb] at e'
    exact e'
  by_cases hlt : i < ds.length
  · have hd : ds[i]? = some ds[i] := List.getElem?_eq_getElem hlt
    refine .inr ⟨wk.go i H2 hlt (g3.frz.trans s32), fun H4 => ∃ H5 vs', Grow H1 (upd H' Dl (.lst [])) H5 (upd H4 Dl (.lst [])) ∧ H5 Dl = none ∧ H4 Dl = some (.lst vs') ∧ IsL X.K H5 (((ds.take (i + 1)).filter pr).map f) vs' ∧ (∀ b o, b ≠ Dl → H' b = some o → H4 b = some o), fun H4 ⟨H5, vs', a1, a2, a3, a4, a5⟩ => ⟨ds.length - (i + 1), by omega, rfl, hlt, H5, vs', a1, a2, a3, a4, a5⟩, fun x H4 hy => ?_⟩
    obtain ⟨H5, g5, i5⟩ := wk.yld i ds[i] H3 H2 x H4 hd g3.frz s32 hy
    have more : ∀ {Ha Hb Ha' Hb' : Hp}, Grow Ha Hb Ha' Hb' → Ha Dl = none → Hb Dl = some (.lst vs) → Ha' Dl = none ∧ Hb' Dl = some (.lst vs) ∧ Grow Ha (upd Hb Dl (.lst [])) Ha' (upd Hb' Dl (.lst [])) := fun {Ha Hb Ha' Hb'} gg e1 e2 => by
      have e3 : Ha' Dl = none := by
        cases z : Ha' Dl with
        | none => rfl
        | some u =>
          rcases gg.new Dl (by rw [z]; simp) with w | w
          · exact absurd e1 w
          · rw [e2] at w; cases w
      refine ⟨e3, gg.all _ _ e2, gg.frz, fun b o e => ?_, fun b o e => ?_, fun b hb => ?_⟩
      · by_cases z : b = Dl
        · rw [z, upd_same] at e ⊢; exact e
        · rw [upd_ne z] at e ⊢; exact gg.all b o e
      · have z : b ≠ Dl := fun z => by rw [z, e3] at e; cases e
        rw [upd_ne z]
        exact gg.sub b o e
      · rcases gg.new b hb with w | w
        · exact .inl w
        · have z : b ≠ Dl := fun z => by rw [z, e2] at w; cases w
          exact .inr (by rw [upd_ne z]; exact w)
    obtain ⟨d5, d4, gg5⟩ := more g5 h3D h2D
    intro s' Hs C cl fp
    refine (ht s' Hs cl C fp (blk_nms B n1 n2) i ds[i] hd).run _ H5 H4 x g5.sub i5 _ fun ws hp => ?_
    have hmem : ∀ q ∈ ws, q.1 ∈ own.map (·.2) := fun q hq => by
      obtain ⟨a, ha1, ha2⟩ := paired_mem hp q hq
      rw [← ha2.1]
      exact how i ds[i] hd a ha1
    refine ⟨by rw [wipe_sto hmem, wipe_wipe fun _ h => h], ?_⟩
    have hsl : SlF X.K H5 (stoV ws (wipe σ (own.map (·.2)))) (stoE (w ds[i]) (wipeE as (own.map (·.2)))) := SlF.sto (((hf.mono gr.frz).mono (g3.frz.trans g5.frz)).wipe _) (by rw [wipe_length]; exact hlen) hp
    intro s1 Hs1 C1 cl1 fp1
    have bb := hb s1 Hs1 cl1 C1 fp1 (blk_nms B n1 n2) (blk_gls n3) i ds[i] hd
    refine bb.1.run _ H5 H4 g5.sub hsl _ fun H6 H7 g6 => ?_
    obtain ⟨d6, d7, gg6⟩ := more g6 d5 d4
    have tk : ds.take (i + 1) = ds.take i ++ [ds[i]] := by rw [List.take_add_one, hd]; rfl
    cases hpr : pr ds[i] with
    | false =>
      rw [if_neg Bool.false_ne_true]
      refine ⟨H6, vs, (g3.trans gg5).trans gg6, d6, d7, ?_, fun b o hb' e => g6.all b o (g5.all b o (hk b o hb' e))⟩
      rw [tk, List.filter_append, List.filter_cons, if_neg (by rw [hpr]; exact Bool.false_ne_true), List.filter_nil, List.append_nil]
      exact hv.mono (g5.frz.trans g6.frz)
    | true =>
      rw [if_pos rfl]
      intro s2 Hs2 C2 cl2 fp2
      have bb2 := hb s2 Hs2 cl2 C2 fp2 (blk_nms B n1 n2) (blk_gls n3) i ds[i] hd
      refine (bb2.2 hpr).run _ H6 H7 g6.sub (hsl.mono g6.frz) _ fun y H8 H9 g8 i8 => ?_
      obtain ⟨d8, d9, gg8⟩ := more g8 d6 d7
      refine ⟨vs, d9, ?_, H8, vs ++ [y], ?_, d8, upd_same, ?_, fun b o hb' e => by rw [upd_ne hb']; exact g8.all b o (g6.all b o (g5.all b o (hk b o hb' e)))⟩
      · have l1 := hv.len
        rw [l1, List.length_map]
        have l2 := List.length_filter_le pr (ds.take i)
        rw [List.length_take] at l2
        omega
      · rw [upd_upd]
        exact ((g3.trans gg5).trans gg6).trans gg8
      · rw [tk, List.filter_append, List.filter_cons, if_pos hpr, List.filter_nil, List.map_append]
        exact (hv.mono ((g5.frz.trans g6.frz).trans g8.frz)).app (.one i8)
  · have e : i = ds.length := by omega
    subst e
    refine .inl ⟨wk.stop H2 (g3.frz.trans s32), ?_⟩
    rw [List.take_length] at hv
    have g4 : Grow H1 H' H3 H2 := by
      refine ⟨g3.frz, fun b o e => hk b o (fun z => by rw [z, hDl] at e; cases e) e, s32, fun b hb => ?_⟩
      rcases g3.new b hb with w | w
      · exact .inl w
      · have z : b ≠ Dl := fun z => hb (by rw [z]; exact h3D)
        rw [upd_ne z] at w
        exact .inr w
    exact q Dl H3 H2 (gr.trans g4) (gr.all.free hDl) h3D ⟨vs, h2D, hv⟩
end
section
variable {X : Cx} {N L gs : List Str} {k : Nat} {sc : Scope} {n y : Str} {i : Nat} {Gs G : Hp} {as as1 : AS} {F : Fin} {scope : Scope} {tg iter elt : Expr} {ifs : List Expr} {ds : List D} {pos py spos : Pos} {d : D}
theorem t_setLc (own : List (Str × Nat)) (N' : List (Option Str)) (gs' : List Str) (w : D → Sto) (f : D → D) (pr : D → Bool) (B : Body X N L gs k sc) (h : At L y i) (hyl : sc.names.lookup y = some .local) (hw : IW X tg iter (hid as) ds)
    (hok : blkC N sc scope own = true) (hN' : (decide (N'.length ≤ N.length) && seesB scope N N' && gs'.all (glbOk scope)) = true) (hz : ds.length < sizeLine) (how : ∀ (j : Nat) (d : D), ds[j]? = some d → ∀ q ∈ w d, q.1 ∈ own.map (·.2))
    (ht : ∀ (s : Shared) (H : Hp) (cl : List (Str × Addr)) (C : Addr) (fp : List Addr), NmsB (X.blk s H scope (compEnvC scope cl C X.env) fp) N' → ∀ (j : Nat) (d : D), ds[j]? = some d → TgD (X.blk s H scope (compEnvC scope cl C X.env) fp) tg d (w d))
    (hb : ∀ (s : Shared) (H : Hp) (cl : List (Str × Addr)) (C : Addr) (fp : List Addr), NmsB (X.blk s H scope (compEnvC scope cl C X.env) fp) N' → Gls (X.blk s H scope (compEnvC scope cl C X.env) fp) gs' → ∀ (j : Nat) (d : D), ds[j]? = some d →
      ETs (X.blk s H scope (compEnvC scope cl C X.env) fp) ifs (stoE (w d) (wipeE (hid as) (own.map (·.2)))) (pr d) ∧ (pr d = true → EE (X.blk s H scope (compEnvC scope cl C X.env) fp) elt (stoE (w d) (wipeE (hid as) (own.map (·.2)))) (f d)))
    (hsw : swapsWith (.ListComp elt [⟨tg, iter, ifs, 0⟩] scope pos) (some (.Name y py)) spos.line X.env = pure true) (ha : SetA as i (.ow (.lst ((ds.filter pr).map f))) as1) (q : F.nx as1)
    (hss : ∀ x, foldedSetIterable iter X.env x = pure x := by intro _; rfl) : S1 X Gs G (.Assign [.Name y py] (.ListComp elt [⟨tg, iter, ifs, 0⟩] scope pos) spos) as F := .mk fun σ H H0 S E ok => by
  obtain ⟨h1, h2, _, _⟩ := B.locs h
  obtain ⟨wi, g, tt, te, hpi, p1, p2, p3, hr⟩ := lc_run own N' gs' w f pr B hw hok hN' hz how ht hb
  refine rs_len fun hl => rs_of (ps_setLc B.calm B.ndX h1 (by rw [B.hsc]; exact hyl) hsw hpi (by rw [B.hN, B.hsc]; exact blkOk_by hok) p1 p2 p3 hss) ?_
  refine hr σ H0 H hl S.grow.sub S.hid _ fun a H1 H' gg ha' h0 ho => ?_
  refine ok.nx _ H' _ H1 gg.frz ((S.more gg).setO (by rw [hl]; exact (List.getElem?_eq_some_iff.mp h1).1) h0 ?_ ho fun j d' e1 e2 => ?_) (by rw [ha.eq]; exact q)
  · exact S.grow.all.free ha'
  · obtain ⟨b, q1, q2, q3, q4⟩ := S.ow j d' e1
    rw [e2] at q1
    cases q1
    obtain ⟨o, e4⟩ := q4.some
    rw [ha'] at e4
    cases e4
theorem t_setLc1 {p : Pos} (j : Nat) (N' : List (Option Str)) (gs' : List Str) (f : D → D) (pr : D → Bool) (B : Body X N L gs k sc) (h : At L y i) (hw : IW X (.Name n p) iter (hid as) ds) (hc : chk1 N sc scope n j N' gs' = true) (hy : (sc.names.lookup y == some .local && !(scope.names.any fun (m, k) => m == y && (k == .local || k == .cell))) = true) (hln : (py.line == pos.line) = true) (hz : ds.length < sizeLine)
    (hb : ∀ (s : Shared) (H : Hp) (cl : List (Str × Addr)) (C : Addr) (fp : List Addr), NmsB (X.blk s H scope (compEnvC scope cl C X.env) fp) N' → Gls (X.blk s H scope (compEnvC scope cl C X.env) fp) gs' → ∀ (m : Nat) (d : D), ds[m]? = some d →
      ETs (X.blk s H scope (compEnvC scope cl C X.env) fp) ifs (((hid as).set j none).set j (some d)) (pr d) ∧ (pr d = true → EE (X.blk s H scope (compEnvC scope cl C X.env) fp) elt (((hid as).set j none).set j (some d)) (f d)))
    (ha : SetA as i (.ow (.lst ((ds.filter pr).map f))) as1) (q : F.nx as1)
    (hss : ∀ x, foldedSetIterable iter X.env x = pure x := by intro _; rfl) : S1 X Gs G (.Assign [.Name y py] (.ListComp elt [⟨.Name n p, iter, ifs, 0⟩] scope pos) spos) as F := by
  unfold chk1 at hc
  rw [Bool.and_eq_true, Bool.and_eq_true] at hc
  obtain ⟨⟨c1, c2⟩, c3⟩ := hc
  rw [Bool.and_eq_true, Bool.not_eq_true'] at hy
  have hyl := nk_beq hy.1
  have hi : N[j]? = some n := (blkOk_by c1).ix (n, j) (List.mem_singleton.mpr rfl)
  refine t_setLc [(n, j)] N' gs' (fun d => [(j, d)]) f pr B h hyl hw c1 c2 hz (fun m d _ q hq => ?_) (fun s H cl C fp _ m d _ => ?_) hb (sw_true (by rw [B.hsc]; exact B.kind) (by rw [B.hsc]; exact hyl) hln hy.2) ha q hss
  · have e : q = (j, d) := List.mem_singleton.mp hq
    rw [e]
    exact List.mem_singleton.mpr rfl
  · exact tg_name' B.ndX (by show X.N[j]? = _; rw [B.hN]; exact hi) (.inl (blk_own c3)) (.inr (blk_own c3))
theorem t_setLc2 {m : Str} {p p2 p3 : Pos} {k2 : Nat} (j l : Nat) (N' : List (Option Str)) (gs' : List Str) (f : D → D) (pr : D → Bool) (B : Body X N L gs k sc) (h : At L y i) (hw : IW X (.Tuple [.Name n p, .Name m p2] k2 p3) iter (hid as) ds) (hc : chk2 N sc scope n m j l N' gs' = true) (hy : (sc.names.lookup y == some .local && !(scope.names.any fun (m, k) => m == y && (k == .local || k == .cell))) = true) (hln : (py.line == pos.line) = true) (hz : ds.length < sizeLine)
    (h2 : ∀ (t : Nat) (d : D), ds[t]? = some d → ∃ x y, d = .tup [x, y])
    (hb : ∀ (s : Shared) (H : Hp) (cl : List (Str × Addr)) (C : Addr) (fp : List Addr), NmsB (X.blk s H scope (compEnvC scope cl C X.env) fp) N' → Gls (X.blk s H scope (compEnvC scope cl C X.env) fp) gs' → ∀ (t : Nat) (x y : D), ds[t]? = some (.tup [x, y]) →
      ETs (X.blk s H scope (compEnvC scope cl C X.env) fp) ifs (((((hid as).set l none).set j none).set j (some x)).set l (some y)) (pr (.tup [x, y])) ∧ (pr (.tup [x, y]) = true → EE (X.blk s H scope (compEnvC scope cl C X.env) fp) elt (((((hid as).set l none).set j none).set j (some x)).set l (some y)) (f (.tup [x, y]))))
    (ha : SetA as i (.ow (.lst ((ds.filter pr).map f))) as1) (q : F.nx as1)
    (hss : ∀ x, foldedSetIterable iter X.env x = pure x := by intro _; rfl) : S1 X Gs G (.Assign [.Name y py] (.ListComp elt [⟨.Tuple [.Name n p, .Name m p2] k2 p3, iter, ifs, 0⟩] scope pos) spos) as F := by
  unfold chk2 at hc
  obtain ⟨h12, h34⟩ := Bool.and_eq_true_iff.mp hc
  obtain ⟨c1, c2⟩ := Bool.and_eq_true_iff.mp h12
  obtain ⟨c3, c4⟩ := Bool.and_eq_true_iff.mp h34
  rw [Bool.and_eq_true, Bool.not_eq_true'] at hy
  have hyl := nk_beq hy.1
  have hi : N[j]? = some n := (blkOk_by c1).ix (n, j) List.mem_cons_self
  have hj : N[l]? = some m := (blkOk_by c1).ix (m, l) (List.mem_cons_of_mem _ List.mem_cons_self)
  refine t_setLc [(n, j), (m, l)] N' gs' (two j l) f pr B h hyl hw c1 c2 hz (fun t d hd q hq => ?_) (fun s H cl C fp _ t d hd => ?_) (fun s H cl C fp nb gb t d hd => ?_) (sw_true (by rw [B.hsc]; exact B.kind) (by rw [B.hsc]; exact hyl) hln hy.2) ha q hss
  · obtain ⟨x, y, rfl⟩ := h2 t d hd
    have hq' : q ∈ [(j, x), (l, y)] := hq
    rcases List.mem_cons.mp hq' with e | e
    · rw [e]; exact List.mem_cons_self
    · rw [List.mem_singleton.mp e]; exact List.mem_cons_of_mem _ List.mem_cons_self
  · obtain ⟨x, y, rfl⟩ := h2 t d hd
    exact tg_two' B.calm B.ndX (by show X.N[j]? = _; rw [B.hN]; exact hi) (.inl (blk_own c3)) (.inr (blk_own c3)) (by show X.N[l]? = _; rw [B.hN]; exact hj) (.inl (blk_own c4)) (.inr (blk_own c4))
  · obtain ⟨x, y, rfl⟩ := h2 t d hd
    exact hb s H cl C fp nb gb t x y hd
/-- n[k] = e: what is stored is flat; it may read what is owned -/
theorem t_dputV {kk : Nat} {key : Key} {ks : List (Key × D)} {p pos' : Pos} {e ie : Expr} (B : Body X N L gs kk sc) (h : At L n i) (ha : as[i]? = some (.ow (.dct ks))) (he : EE X e (vis as) d) (hd : flatD d = true) (hk : EE X ie (vis as) (kD key)) (hz : ks.length < sizeLine) (hst : SetA as i (.ow (.dct (putKD ks key d))) as1) (q : F.nx as1)
    (hs : swapsWith e (some (.Subscript (.Name n p) ie pos')) pos.line X.env = pure false := by rfl) : S1 X Gs G (.Assign [.Subscript (.Name n p) ie pos'] e pos) as F := .mk fun σ H H0 S E ok => by
  obtain ⟨a1, a2, a3, a4⟩ := B.locs h
  obtain ⟨l, s1, s2, s3, kvs, hu, hi⟩ := S.ow i _ ha
  refine rs_of (ps_dput (by have := B.room.units; omega) (pe_var a1 (loc_vis a2) a3 a4) re_pe re_pe hs) ?_
  refine he.run σ H H (Same.refl _) S.vis _ fun v H1 H' g iv => ⟨_, s1, ?_⟩
  refine hk.run σ H1 H' g.sub (S.vis.mono g.frz) _ fun w H2 H2' g' iw => ?_
  have gg := g.trans g'
  have e2 := gg.all _ _ hu
  refine ⟨l, _, rfl, .inl ⟨kvs, key, e2, kD_is iw, by rw [hi.len]; exact hz, rfl⟩, ?_⟩
  exact ok.nx σ _ _ H0 (Same.refl _) ((S.tmp gg.all).write (d := .dct ks) (d' := .dct (putKD ks key d)) ha s1 ⟨_, upd_same, hi.put (iv.flat hd)⟩) (by rw [hst.eq]; exact q)
/-- a, b, c = e -/
theorem t_three {n1 n2 n3 : Str} {i1 i2 i3 k2 : Nat} {x1 x2 x3 : D} {as2 as3 : AS} {p p2 p3 p4 : Pos} {e : Expr} (B : Body X N L gs k sc) (h1 : At L n1 i1) (h2 : At L n2 i2) (h3 : At L n3 i3) (he : EE X e (hid as) (.tup [x1, x2, x3]))
    (hs : swapsWithSole [.Tuple [.Name n1 p, .Name n2 p2, .Name n3 p4] k2 p3] e pos.line X.env = pure false := by rfl) (hw : swappedStores [.Tuple [.Name n1 p, .Name n2 p2, .Name n3 p4] k2 p3] e X.env = pure none := by rfl) (ha1 : SetA as i1 (.fz x1) as1) (ha2 : SetA as1 i2 (.fz x2) as2) (ha3 : SetA as2 i3 (.fz x3) as3) (q : F.nx as3) : S1 X Gs G (.Assign [.Tuple [.Name n1 p, .Name n2 p2, .Name n3 p4] k2 p3] e pos) as F := .mk fun σ H H0 S E ok => by
  obtain ⟨a1, a2, _, _⟩ := B.locs h1
  obtain ⟨b1, b2, _, _⟩ := B.locs h2
  obtain ⟨c1, c2, _, _⟩ := B.locs h3
  refine rs_len fun hl => rs_of (ps_asg re_pe (pg_tup B.calm (pgs_cons (pg_name B.ndX a1 a2 (.inl (B.fn n1))) (pgs_cons (pg_name B.ndX b1 b2 (.inl (B.fn n2))) (pgs_cons (pg_name B.ndX c1 c2 (.inl (B.fn n3))) pgs_nil)))) hs hw) ?_
  refine he.run σ H0 H S.grow.sub S.hid _ fun v H1 H' g iv => ?_
  obtain ⟨a, vs, rfl, hq, hv⟩ := iv
  obtain ⟨v1, v2, v3, e1, j1, j2, j3⟩ := is3 hv
  subst e1
  refine ⟨a, _, rfl, Same.tup g.sub hq, rfl, v1, [v2, v3], rfl, v2, [v3], rfl, v3, [], rfl, rfl, ?_⟩
  have il : i1 < σ.length := by rw [hl]; exact (List.getElem?_eq_some_iff.mp a1).1
  have jl : i2 < (σ.set i1 (some v1)).length := by rw [List.length_set, hl]; exact (List.getElem?_eq_some_iff.mp b1).1
  have ll : i3 < ((σ.set i1 (some v1)).set i2 (some v2)).length := by rw [List.length_set, List.length_set, hl]; exact (List.getElem?_eq_some_iff.mp c1).1
  exact ok.nx _ H' _ H1 g.frz ((((S.more g).setF il j1).setF jl j2).setF ll j3) (by rw [ha1.eq, ha2.eq, ha3.eq]; exact q)
end
end Mw
set_option maxHeartbeats 4000000
/-! tests that raise -/
namespace Mw
open PySem PySem.Spec PyProof.Rows L2
/-- the test e raises x -/
structure ETX (X : Cx) (e : Expr) (as : DE) (x : Exn) : Prop where
  run : ∀ (σ : L2.St) (H0 H : Hp), Same H0 H → SlF X.K H0 σ as → ∀ Q : Bool → Hp → Prop, (∀ c dd H0' H', Grow H0 H H0' H' → IsX X.K H0' H' c dd x → wx X c dd σ H') → rt X e σ H Q
/-- .. whatever whole is -/
structure EWX (X : Cx) (e : Expr) (as : DE) (x : Exn) : Prop where
  run : ∀ (σ : L2.St) (H0 H : Hp), Same H0 H → SlF X.K H0 σ as → ∀ Q : Bool → Hp → Prop, (∀ c dd H0' H', Grow H0 H H0' H' → IsX X.K H0' H' c dd x → wx X c dd σ H') → rw_ X e σ H Q
section
variable {X : Cx} {a b c e : Expr} {es : List Expr} {as : DE} {x : Exn} {d y : D} {k l : Bool} {pos : Pos} {Gs G : Hp} {st : AS} {F : Fin} {t u : List Stmt}
theorem EWX.et (h : EWX X e as x) : ETX X e as x := .mk fun σ H0 H hs hf Q q pins s I => h.run σ H0 H hs hf Q q _ pins s I
theorem etx_val (h : EX X e as x) (he : ∀ whole, isTrue e X.env whole = (do let v ← whole; standAt e.pos; holding [v] (truthy v)) := by intro _; rfl) : ETX X e as x := .mk fun σ H0 H hs hf Q q =>
  rt_of (pt_val re_pe he) (h.run σ H0 H hs hf _ q)
theorem etx_cmp {op : CmpOp} {z : D} (h : EX X a as x) (ho : OpD X (compareOp op) y z (.bl k)) (hm : behindInMarks op b = false) : ETX X (.Compare a [op] [b] pos) as x := .mk fun σ H0 H hs hf Q q => by
  obtain ⟨r, ho, hr⟩ := ho
  exact rt_of (pt_cmpR ho re_pe re_pe hm) (h.run σ H0 H hs hf _ q)
theorem etx_cmp2 {op : CmpOp} {z : D} (ha : EE X a as d) (h : EX X b as x) (ho : OpD X (compareOp op) y z (.bl k)) (hm : behindInMarks op b = false) : ETX X (.Compare a [op] [b] pos) as x := .mk fun σ H0 H hs hf Q q => by
  obtain ⟨r, ho, hr⟩ := ho
  exact rt_of (pt_cmpR ho re_pe re_pe hm) (ha.run σ H0 H hs hf _ fun v H1 H' g i => h.run σ H1 H' g.sub (hf.mono g.frz) _ fun c dd _ _ g' i' => q c dd _ _ (g.trans g') i')
theorem etx_not (h : ETX X a as x) : ETX X (.UnaryOp .Not a pos) as x := .mk fun σ H0 H hs hf Q q =>
  rt_of (pt_not rt_pt) (h.run σ H0 H hs hf _ q)
theorem ewx_or (h : ETX X a as x) : EWX X (.BoolOp .Or (a :: b :: es) pos) as x := .mk fun σ H0 H hs hf Q q =>
  rw_of (pw_or rt_pt rw_pw) (h.run σ H0 H hs hf _ q)
theorem ewx_or1 (h : ETX X a as x) : EWX X (.BoolOp .Or [a] pos) as x := .mk fun σ H0 H hs hf Q q =>
  rw_of (pw_or1 rt_pt) (h.run σ H0 H hs hf _ q)
theorem ewx_orF (h : ET X a as false) (h2 : EWX X (.BoolOp .Or (b :: es) pos) as x) : EWX X (.BoolOp .Or (a :: b :: es) pos) as x := .mk fun σ H0 H hs hf Q q =>
  rw_of (pw_or rt_pt rw_pw) (h.run σ H0 H hs hf _ fun H1 H' g => by
    rw [if_neg Bool.false_ne_true]
    exact h2.run σ H1 H' g.sub (hf.mono g.frz) _ fun c dd _ _ g' i' => q c dd _ _ (g.trans g') i')
theorem ewx_and (h : ETX X a as x) : EWX X (.BoolOp .And (a :: b :: es) pos) as x := .mk fun σ H0 H hs hf Q q =>
  rw_of (pw_and rt_pt rw_pw) (h.run σ H0 H hs hf _ q)
theorem s1_ifXT (h : ETX X c (vis st) x) (q : F.ex x (frz st)) : S1 X Gs G (.If c t u pos) st F := by
  refine s1_frz ⟨fun σ H H0 S E ok => ?_⟩
  refine rs_of (ps_if rt_pt rss_pss rss_pss) ?_
  have sf := S.hid
  rw [vis_frz] at sf
  exact h.run σ H0 H S.grow.sub sf _ fun c dd H1 H' g iv => ok.ex c dd σ H' x _ H1 g.frz (S.more g) iv q
end
end Mw
set_option maxHeartbeats 4000000
/-! ways that meet -/
namespace Mw
open PySem PySem.Spec PyProof.Rows L2
section
variable {X : Cx} {Gs G : Hp} {st : Stmt} {as as1 : AS} {F : Fin}
/-- all ways lead to the slots as1 -/
theorem s1_mid (h : S1 X Gs G st as { F with nx := fun a => a = as1 }) (q : F.nx as1) : S1 X Gs G st as F := h.imp (fun _ e => e ▸ q) (fun _ z => z) (fun _ z => z) (fun _ z => z) fun _ _ z => z
end
end Mw
set_option maxHeartbeats 4000000
/-! the head: what the top has written, by tests of the text; the law's end -/
namespace Mw
open PySem PySem.Spec PyProof.Rows L2
abbrev Kf := PySem.W.Frag
/-! ### tests -/
abbrev Chk := Kf → Bool
def cGlo (x : Str) : Chk := fun K => (He.Fa.glo x).ok K
def cFree (x : Str) : Chk := fun K => (He.Fa.free x).ok K
def cExc (x : Str) : Chk := fun K => (He.Fa.exc x).ok K
def cExm (x y : Str) (b : Bool) : Chk := fun K => (He.Fa.exm x y b).ok K
def cNo (x f : Str) : Chk := fun K => (He.Fa.noat x f).ok K
def cKit (x y : Str) (b : Bool) : Chk := fun K => decide (PySem.W.kitOne K (.ref (He.ga K x)) (.ref (He.ga K y)) = some b)
def cKitT (x : Str) (T : String) (b : Bool) : Chk := fun K => decide (PySem.W.kitOne K (.ref (He.ga K x)) (.type T) = some b)
def cXf (x : Str) : Chk := fun K => xfB K (He.ga K x)
def cEc (x : Str) : Chk := fun K =>
  He.eqO (PySem.W.findIn K (.ref (He.ga K x)) "__getattribute__") (some (some (.builtin "BaseException.__getattribute__"))) && (He.eqO (PySem.W.findIn K (.ref (He.ga K x)) "__getattr__") (some none) &&
  (decide (PySem.W.subIn K (.ref (He.ga K x)) (.type "BaseException") = some true) && (PySem.W.hasDictIn K (He.ga K x) && (He.eqO (PySem.W.findIn K (.ref (He.ga K x)) "__class__") (some (some (.builtin "object.__class__"))) &&
  (He.eqO (PySem.W.specialIn K (.builtin "object.__class__") "__get__") (some (some (.builtin "getset_descriptor.__get__"))) && (decide (PySem.W.takesIn K (.builtin "object.__class__") = some true) && decide (PySem.W.mroIn K (He.ga K x) (.type "object") = some true)))))))
theorem cEc_ok {K : Kf} {x : Str} (h : cEc x K = true) : ExcC K (He.ga K x) := by
  obtain ⟨h1, h⟩ := Bool.and_eq_true_iff.mp h
  obtain ⟨h2, h⟩ := Bool.and_eq_true_iff.mp h
  obtain ⟨h3, h⟩ := Bool.and_eq_true_iff.mp h
  obtain ⟨h4, h⟩ := Bool.and_eq_true_iff.mp h
  obtain ⟨h5, h⟩ := Bool.and_eq_true_iff.mp h
  obtain ⟨h6, h⟩ := Bool.and_eq_true_iff.mp h
  obtain ⟨h7, h8⟩ := Bool.and_eq_true_iff.mp h
  exact ⟨He.eqO_ok h1, He.eqO_ok h2, of_decide_eq_true h3, h4, He.eqO_ok h5, He.eqO_ok h6, of_decide_eq_true h7, of_decide_eq_true h8⟩
/-- an own exception with an own __init__ -/
def oexB (K : Kf) (C : Addr) : Bool := match K.lookup C with
  | some ⟨.type "type", _, .cls cd, sl⟩ => (match cd.mro, sl.toList with
    | .ref C' :: bm, [_, _, _, _, some (.builtin n), _] => C' == C && n == "ValueError.__new__" && !cd.hasDel && PySem.HandSPX.refsVE bm && cd.hasDict
    | _, _ => false)
  | _ => false
theorem oexB_ok {K : Kf} {C : Addr} (q : oexB K C = true) : ∃ nm q N bs bm sn sub ab col dd k0 k1 k2 k3 k5, K.lookup C = some (excClassObj nm q C N bs bm true sn sub ab col dd k0 k1 k2 k3 k5 "ValueError.__new__") ∧ PySem.HandSPX.refsVE bm = true := by
  unfold oexB at q
  split at q
  · rename_i dd cd sl ho
    split at q
    · rename_i C' bm k0 k1 k2 k3 n k5 hm hs
      simp only [Bool.and_eq_true, beq_iff_eq, Bool.not_eq_true'] at q
      obtain ⟨⟨⟨⟨rfl, rfl⟩, hdel⟩, ht⟩, hd⟩ := q
      obtain ⟨nm, bs, mro, ns, qn, hd', sn, sub, ab, col, del⟩ := cd
      dsimp only at hm hdel hd
      subst hm hdel hd
      have hsl : sl = #[k0, k1, k2, k3, some (.builtin "ValueError.__new__"), k5] := by
        obtain ⟨l⟩ := sl
        simp only at hs
        rw [hs]
      subst hsl
      exact ⟨nm, qn, ns, bs, bm, sn, sub, ab, col, dd, k0, k1, k2, k3, k5, ho, ht⟩
    · cases q
  · cases q
def cOex (x : Str) : Chk := fun K => oexB K (He.ga K x) && (He.eqO (PySem.W.findIn K (.ref (He.ga K x)) "__setattr__") (some (some (.builtin "object.__setattr__"))) &&
  (decide (PySem.W.subIn K (.ref (He.ga K x)) (.type "BaseException") = some true) && (decide (PySem.W.typeIn K (.ref (He.ga K x)) = some (.type "type")) && PySem.W.keepIn K (.ref (He.ga K x)))))
theorem cOex_ok {K : Kf} {x : Str} (h : cOex x K = true) : OexC K (He.ga K x) := by
  obtain ⟨h1, h⟩ := Bool.and_eq_true_iff.mp h
  obtain ⟨h2, h⟩ := Bool.and_eq_true_iff.mp h
  obtain ⟨h3, h⟩ := Bool.and_eq_true_iff.mp h
  obtain ⟨h4, h5⟩ := Bool.and_eq_true_iff.mp h
  exact ⟨oexB_ok h1, He.eqO_ok h2, of_decide_eq_true h3, of_decide_eq_true h4, h5⟩
/-- C's __init__ is a def of the text -/
def cIni (x : Str) : Chk := fun K => He.eqO (PySem.W.findIn K (.ref (He.ga K x)) "__init__") (some (some (.ref (He.ma K (He.ga K x) "__init__")))) && decide (PySem.W.typeIn K (.ref (He.ma K (He.ga K x) "__init__")) = some (.type "function"))
/-- B.__init__ is ValueError's -/
def cBase (x : Str) : Chk := fun K => PySem.W.readsIn K (He.ga K x) (.type "type") && (He.eqO (PySem.W.specialIn K (.ref (He.ga K x)) "__getattribute__") (some (some (.builtin "type.__getattribute__"))) &&
  (match PySem.W.findCls K (.ref (He.ga K x)) (.type "type") "__init__" with
  | some (.val (.builtin n)) => decide (n = "ValueError.__init__")
  | _ => false))
theorem cBase_ok {K : Kf} {mg : Str → Option Value} {x : Str} (g : mg x = some (.ref (He.ga K x))) (h : cBase x K = true) : BaseI K mg x (He.ga K x) := by
  obtain ⟨h1, h⟩ := Bool.and_eq_true_iff.mp h
  obtain ⟨h2, h3⟩ := Bool.and_eq_true_iff.mp h
  refine ⟨g, _, ⟨h1, He.eqO_ok h2⟩, ?_⟩
  split at h3
  · rename_i n e
    rw [e, of_decide_eq_true h3]
  · cases h3
/-! ### the Hook -/
def obsM (cs : List Chk) (fn : List He.DefD) (K : Kf) : He.AlD := ((cs.all fun f => f K) && fn.all fun d => d.ok K, fn.map fun d => He.fnW K d.at_)
def SaysM (cs : List Chk) (fn : List He.DefD) (K : Kf) : Prop := obsM cs fn K = He.valD fn
def obsMG (n : Nat) (cs : List Chk) (fn : List He.DefD) (g : Addr → Option Obj) : He.AlD := obsM cs fn (He.frG g (PySem.cStatics :: He.asD g n))
def hookM (n : Nat) (cs : List Chk) (fn : List He.DefD) : PySem.W.Hook where
  α := He.AlD
  obs := fun s => obsMG n cs fn s.heap.get?
  val := fun _ => He.valD fn
  says := fun _ h => ∃ K : Kf, K.In h ∧ SaysM cs fn K
  of := fun _ _ e => ⟨_, He.frG_in, e⟩
  keeps := fun _ _ _ ⟨K, hK, c⟩ k => ⟨K, PySem.W.Frag.In.keeps hK k, c⟩
theorem obsMG_eq {n : Nat} {cs : List Chk} {fn : List He.DefD} {g : Addr → Option Obj} {s : Shared} (h : ∀ a, g a = s.heap.get? a) : obsMG n cs fn g = (hookM n cs fn).obs s := by
  have e : g = s.heap.get? := funext h
  rw [e] <;> rfl
section
variable {cs : List Chk} {fn : List He.DefD} {K : Kf}
theorem SaysM.chk (c : SaysM cs fn K) (i : Nat) {f : Chk} (h : cs[i]? = some f := by rfl) : f K = true := by
  have c1 := (Bool.and_eq_true_iff.mp (show ((cs.all fun f => f K) && fn.all fun d => d.ok K) = true from congrArg (fun z : He.AlD => z.1) c)).1
  exact List.all_eq_true.mp c1 f (List.mem_of_getElem? h)
theorem SaysM.def_ (c : SaysM cs fn K) (i : Nat) {d : He.DefD} (h : fn[i]? = some d := by rfl) : ∃ fd, FunD K d.name d.qual d.params d.body d.scope (d.dvs K) (d.kws K) (He.fAd K d.at_) fd := by
  have c2 := (Bool.and_eq_true_iff.mp (show ((cs.all fun f => f K) && fn.all fun d => d.ok K) = true from congrArg (fun z : He.AlD => z.1) c)).2
  have e : fn.map (fun d => He.fnW K d.at_) = fn.map He.DefD.val := congrArg (fun z : He.AlD => z.2) c
  have e2 : (fn.map fun d => He.fnW K d.at_)[i]? = (fn.map He.DefD.val)[i]? := by rw [e]
  rw [List.getElem?_map, List.getElem?_map, h] at e2
  exact He.DefD.funD (Option.some.inj e2) (List.all_eq_true.mp c2 d (List.mem_of_getElem? h))
end
/-! ### defs' promises -/
section
variable {P : Program} {w : World} {K : Kf} {mg : Str → Option Value} {base : Heap}
theorem fn_okF {x qual : Str} {params : Arguments} {st : Stmt} {dvs : List V} {kws : List (Str × V)} {f : Addr} {fd : FuncData} {N L ps gs : List Str} {k : Nat} {S : FS} (F : FunD K x qual params (defBody st) (defScope st) dvs kws f fd) (C : BodyOk N L ps gs (defScope st)) (len : ∀ ds r, S ds r → ds.length = ps.length)
    (body : ∀ X : Cx, X.prog = P → X.w = w → X.K = K → X.mg = mg → X.base = base → Body X N L gs k (defScope st) → ∀ (Gs G : Hp) (ds : List D) (r : Except Exn D), S ds r → SS X Gs G (defBody st) (startA N ds) { nx := fun _ => r = .ok .non, rt := fun d => r = .ok d, ex := fun x _ => r = .error x }) :
    FnOk P w K mg base (L2.CX P w) (k + 1) f fd ps (spOf K S) := by
  refine F.ok C.fs (fun vs H Q E h => ?_) (fun cdv A outer s H vs Q E hr h => ?_)
  · obtain ⟨H0, ds, r, _, h1, h2, _⟩ := h
    rw [h1.len]
    exact len ds r h2
  · obtain ⟨H0, ds, r, hs, hi, hS, post⟩ := h
    refine ⟨_, rss_pss, ?_⟩
    have BX : Body (cxOf (L2.CX P w) P w K mg base N qual (defScope st) f cdv A outer s H E) N L gs k (defScope st) := ⟨rfl, rfl, C.fs.nd, C.pre, C.loc, C.gl, C.fs.kind, C.fs.nofree, fun _ => rfl, hr, rfl, passes_of rfl, rfl, rfl⟩
    refine (body _ rfl rfl rfl rfl rfl BX H0 H ds r hS).run _ H H0 ⟨Grow.refl hs, fun i d e => ?_, fun i d e => ?_, fun i j a d d' e => ?_⟩ _ ⟨fun σ' H' as' H1 _ S' z => ?_, fun v H' d H1 _ g i z => ?_, fun _ _ _ _ _ _ z => z.elim, fun _ _ _ _ _ _ z => z.elim, fun c dd σ' H' x as' H1 _ S' i z => ?_⟩
    · rcases startA_at e with ⟨d', e1, e2⟩ | e1
      · cases e1
        obtain ⟨v, q1, q2⟩ := hi.get e2
        exact ⟨v, start_get q1, q2⟩
      · cases e1
    · rcases startA_at e with ⟨d', e1, e2⟩ | e1 <;> cases e1
    · rcases startA_at e with ⟨d', e1, e2⟩ | e1 <;> cases e1
    · have z' : r = .ok .non := z
      subst z'
      exact post .non H1 H' S'.grow rfl
    · have z' : r = .ok d := z
      subst z'
      exact post v H1 H' g i
    · have z' : r = .error x := z
      subst z'
      exact wx_of (takes_of (E := E) rfl rfl rfl rfl) (post c dd H1 H' S'.grow i)
theorem fn_okJ {x qual : Str} {params : Arguments} {st : Stmt} {dvs : List V} {kws : List (Str × V)} {f C : Addr} {fd : FuncData} {N L ps gs fs : List Str} {k : Nat} (F : FunD K x qual params (defBody st) (defScope st) dvs kws f fd) (W : BodyOk N L ps gs (defScope st)) (len : ps.length = fs.length + 1)
    (body : ∀ X : Cx, X.prog = P → X.w = w → X.K = K → X.mg = mg → X.base = base → Body X N L gs k (defScope st) → ∀ (a : Addr) (ys : List V) (H : Hp) (Q : VK), ys.length = fs.length → H a = some (exo a C none) →
      (∀ (dx : Addr) (H' : Hp), H dx = none → dx ≠ a → H' a = some (exo a C (some dx)) → H' dx = some (exd dx (putF fs ys)) → (∀ b, b ≠ a → b ≠ dx → H' b = H b) → Q .non H') →
      rss X (defBody st) { nx := fun _ H' => Q .non H', rt := Q } (L2.start N (.ref a :: ys)) H) : FnOk P w K mg base (L2.CX P w) (k + 1) f fd ps (spInit C fs) := by
  refine F.ok W.fs (fun vs H Q E h => ?_) (fun cdv A outer s H vs Q E hr h => ?_)
  · obtain ⟨a, ys, rfl, h1, _⟩ := h
    rw [List.length_cons, h1, len]
  · obtain ⟨a, ys, rfl, h1, h2, h3⟩ := h
    have BX : Body (cxOf (L2.CX P w) P w K mg base N qual (defScope st) f cdv A outer s H E) N L gs k (defScope st) := ⟨rfl, rfl, W.fs.nd, W.pre, W.loc, W.gl, W.fs.kind, W.fs.nofree, fun _ => rfl, hr, rfl, passes_of rfl, rfl, rfl⟩
    exact ⟨_, rss_pss, body _ rfl rfl rfl rfl rfl BX a ys H Q h1 h2 h3⟩
/-- a def without defaults, to its callers -/
theorem fnE_of {x : Str} {f : Addr} {fd : FuncData} {ps : List Str} {k : Nat} {S : FS} (h : FnOk P w K mg base (L2.CX P w) k f fd ps (spOf K S)) (g : mg x = some (.ref f)) (kp : PySem.W.keepIn K (.ref f) = true) (b : Binds K fd ps []) : FnE P w K mg base k x [] S :=
  ⟨f, fd, ps, [], [], h, g, kp, b, .nil⟩
theorem isL_v {K : Kf} {H : Hp} : ∀ {ds : List D} {vs : List V}, IsL K H ds vs → IsL K H ds vs := fun h => h
/-- .. with its defaults filled up -/
theorem fnE_dfl {x : Str} {f : Addr} {fd : FuncData} {ps : List Str} {k : Nat} {S : FS} {dds : List D} {dvs : List V} (h : FnOk P w K mg base (L2.CX P w) k f fd ps (spOf K S)) (g : mg x = some (.ref f)) (kp : PySem.W.keepIn K (.ref f) = true) (b : ∃ ds, Vals dvs ds ∧ Binds K fd ps ds) (hd : ∀ H, IsL K H dds dvs) : FnE P w K mg base k x dds S := by
  obtain ⟨ds, h1, h2⟩ := b
  exact ⟨f, fd, ps, dvs, ds, h, g, kp, h2, ⟨h1, hd⟩⟩
/-- .. all written -/
theorem fnE_all {x : Str} {f : Addr} {fd : FuncData} {ps : List Str} {k : Nat} {S : FS} (h : FnOk P w K mg base (L2.CX P w) k f fd ps (spOf K S)) (g : mg x = some (.ref f)) (kp : PySem.W.keepIn K (.ref f) = true) (b : ∃ ds, Vals [] ds ∧ Binds K fd ps ds) : FnE P w K mg base k x [] S := by
  obtain ⟨ds, h1, h2⟩ := b
  cases h1
  exact fnE_of h g kp h2
/-- a class with an own __init__, to its callers -/
theorem mkE_of {x : Str} {fd : FuncData} {ps fs : List Str} {k : Nat} (oc : cOex x K = true) (ic : cIni x K = true) (g : mg x = some (.ref (He.ga K x))) (nn : fs ≠ []) (h : FnOk P w K mg base (L2.CX P w) k (He.ma K (He.ga K x) "__init__") fd ps (spInit (He.ga K x) fs)) (b : Binds K fd ps []) : MkE P w K mg base k x (He.ga K x) fs := by
  obtain ⟨h1, h2⟩ := Bool.and_eq_true_iff.mp ic
  exact ⟨cOex_ok oc, nn, ⟨_, fd, ps, He.eqO_ok h1, of_decide_eq_true h2, h, b⟩, g⟩
theorem excE_of {x : Str} (c : cExc x K = true) (g : mg x = some (.ref (He.ga K x))) : ExcE K mg x (He.ga K x) := by
  obtain ⟨h1, h2, h3, h4⟩ := He.exc_ok c
  exact ⟨g, h1, h2, h3, h4⟩
end
/-- the law's end -/
theorem walk_M {l : PySem.W.OpenLaw} {n k : Nat} {q : Program} {loose : List Str} {XP : (Str → Option Value) → Heap → Prop} {YP : World → Heap → Prop} {d : DefRec} {x : Str} {S : FS}
    (hn : l.most = some n) (hn2 : n ≤ sizeLine) (hdf : d.params.defaults = []) (hr : Room k callerA)
    (F : ∀ (w : World) (mg : Str → Option Value) (fa : Addr) (h : Heap), YP w h → h.Ns mainGlobals mg → mg d.name = some (.ref fa) →
      ∃ (K : Kf) (fd : FuncData), K.In h ∧ (∀ (s : Shared) (u : Value), BindsTo s fd ⟨[u], []⟩ [(x, u)]) ∧ ∀ base : Heap, K.In base → base.Ns mainGlobals mg → FnOk l.prog w K mg base (L2.CX l.prog w) k fa fd [x] (spOf K S))
    (hS : ∀ ns : List Int, ns.length ≤ n → (∀ i ∈ ns, Builtin.Int.intBits i ≤ 1048576) → S [.lst (ns.map D.int)] (.ok (.bl true))) :
    PySem.W.WalkO q loose XP YP l.row.toRowW d [] (fun f vs => PySem.call f vs) := by
  refine Att.attach_callB hn hdf fun w s₀ s₁ mg mb fa o pm cd doc a vs ns G Y ho hd hcd hmg hobj hints hlen hbits hg => ?_
  obtain ⟨K, fd, KX, hb, hF⟩ := F w mg fa _ Y G.T.g hmg
  refine law_call KX G.T.g G.T.b G.T.builtins G.T.nolimit hg hobj hints (Nat.le_trans hlen hn2) hr hF hb (fun H _ h => ?_) fun H e s' z => by obtain ⟨_, _, _, _, _, _, _, _, _, _, _, _, z⟩ := z; exact z
  exact ⟨H, [.lst (ns.map D.int)], .ok (.bl true), Same.refl H, ⟨.ref a, [], rfl, ⟨a, ns.map V.int, rfl, h, IsL.map_int⟩, rfl⟩, hS ns hlen hbits, fun v _ _ _ i => i⟩
/-! ### objects, constants -/
def cCls (x : Str) : Chk := fun K => (He.Fa.cls x).ok K
def cMeth (x m : Str) : Chk := fun K => (He.Fa.meth x m).ok K
def cInt (x : Str) (i : Int) : Chk := fun K => (He.Fa.int x i).ok K
def cStr (x z : Str) : Chk := fun K => (He.Fa.str x z).ok K
def cNew0 (x : Str) : Chk := fun K => PySem.W.makesIn K (He.ga K x) && (He.eqO (PySem.W.findIn K (.ref (He.ga K x)) "__init__") (some (some (.builtin "object.__init__"))) && (PySem.W.keepIn K (.ref (He.ga K x)) && decide (PySem.W.mroIn K (He.ga K x) (.type "object") = some true)))
theorem cNew0_ok {K : Kf} {mg : Str → Option Value} {x : Str} (g : mg x = some (.ref (He.ga K x))) (h : cNew0 x K = true) : New0 K mg x (He.ga K x) := by
  obtain ⟨h1, h⟩ := Bool.and_eq_true_iff.mp h
  obtain ⟨h2, h⟩ := Bool.and_eq_true_iff.mp h
  obtain ⟨h3, h4⟩ := Bool.and_eq_true_iff.mp h
  exact ⟨h1, He.eqO_ok h2, h3, of_decide_eq_true h4, g⟩
def cIns (x : Str) : Chk := fun K => He.eqO (PySem.W.findIn K (.ref (He.ga K x)) "__class__") (some (some (.builtin "object.__class__"))) && (He.eqO (PySem.W.specialIn K (.builtin "object.__class__") "__get__") (some (some (.builtin "getset_descriptor.__get__"))) &&
  (decide (PySem.W.takesIn K (.builtin "object.__class__") = some true) && decide (PySem.W.mroIn K (He.ga K x) (.type "object") = some true)))
theorem cIns_ok {K : Kf} {x : Str} (c : cCls x K = true) (h : cIns x K = true) : InsE K (He.ga K x) := by
  obtain ⟨h1, h⟩ := Bool.and_eq_true_iff.mp h
  obtain ⟨h2, h⟩ := Bool.and_eq_true_iff.mp h
  obtain ⟨h3, h4⟩ := Bool.and_eq_true_iff.mp h
  exact ⟨He.cls_ok c, He.eqO_ok h1, He.eqO_ok h2, of_decide_eq_true h3, of_decide_eq_true h4⟩
theorem cst_int {K : Kf} {h : Heap} {mg : Str → Option Value} {x : Str} {i : Int} (X : K.In h) (G : h.Ns mainGlobals mg) (c : cInt x i K = true) : CstE K mg x (.int i) := by
  obtain ⟨t, e⟩ := He.int_ok X G c
  exact ⟨_, .int i, e, ⟨t, rfl⟩, fun _ => rfl⟩
theorem cst_str {K : Kf} {h : Heap} {mg : Str → Option Value} {x z : Str} (X : K.In h) (G : h.Ns mainGlobals mg) (c : cStr x z K = true) : CstE K mg x (.str z) := by
  obtain ⟨t, e⟩ := He.str_ok X G c
  exact ⟨_, .str z, e, ⟨t, rfl⟩, fun _ => rfl⟩
theorem metE_of {P : Program} {w : World} {K : Kf} {mg : Str → Option Value} {base : Heap} {x m : Str} {fd : FuncData} {ps : List Str} {k : Nat} {S : FS} (c : cCls x K = true) (cm : cMeth x m K = true) (h : FnOk P w K mg base (L2.CX P w) k (He.ma K (He.ga K x) m) fd ps (spOf K S)) (b : Binds K fd ps []) : MetE P w K mg base k (He.ga K x) m [] S :=
  ⟨He.cls_ok c, _, fd, ps, [], [], He.meth_ok cm, h, b, .nil⟩
end Mw
set_option maxHeartbeats 4000000
/-! the head: a tuple of texts as a constant -/
namespace Mw
open PySem PySem.Spec PyProof.Rows L2
def cTupS (x : Str) (zs : List Str) : Chk := fun K => He.tupB K x (zs.map He.Dv.str)
theorem IsL.map_dv {K : Kf} {H : Hp} : ∀ {zs : List Str}, IsL K H (zs.map D.str) ((zs.map He.Dv.str).map (He.Dv.v K))
  | [] => rfl
  | _ :: _ => ⟨_, _, rfl, rfl, IsL.map_dv⟩
theorem cst_tupS {K : Kf} {mg : Str → Option Value} {x : Str} {zs : List Str} (g : mg x = some (.ref (He.ga K x))) (c : cTupS x zs K = true) : CstE K mg x (.tup (zs.map D.str)) :=
  ⟨_, .ref (He.ga K x), g, rfl, fun H => ⟨_, _, rfl, He.tupB_ok c H, IsL.map_dv⟩⟩
end Mw
set_option maxHeartbeats 4000000
/-! a dict that is walked: it is locked meanwhile -/
namespace Mw
open PySem PySem.Spec PyProof.Rows L2
/-- what H tells is read alike in H', but that a dict may be locked, or not -/
structure Se (H H' : Hp) : Prop where
  rd : ∀ a w, (∀ o' w', w ≠ .frz o' w') → Rd H a w → Rd H' a w
  eq : ∀ a o, H a = some o → (∀ kvs, o ≠ .dK kvs) → (∀ o' w, o ≠ .frz o' w) → H' a = some o
theorem Se.tup {K : PySem.W.Frag} {H H' : Hp} {a : Addr} {xs : List V} (e : Se H H') (h : SqT K H a xs) : SqT K H' a xs := by
  rcases h with h | h
  · exact Or.inl (e.rd _ _ (fun _ _ z => nomatch z) h)
  · exact Or.inr h
theorem Se.lst {K : PySem.W.Frag} {H H' : Hp} {a : Addr} {xs : List V} (e : Se H H') (h : SqL K H a xs) : SqL K H' a xs := by
  rcases h with h | h
  · exact Or.inl (e.rd _ _ (fun _ _ z => nomatch z) h)
  · exact Or.inr h
section
variable {K : PySem.W.Frag} {H H' : Hp}
mutual
theorem Is.se (e : Se H H') : ∀ {d : D} {v : V}, Is K H d v → Is K H' d v
  | .non, _, h => h
  | .bl _, _, h => h
  | .int _, _, h => h
  | .str _, _, h => h
  | .ty _, _, h => h
  | .cls _, _, h => h
  | .tup ds, _, h => by
    obtain ⟨a, vs, h1, h2, h3⟩ := h
    exact ⟨a, vs, h1, Se.tup e h2, IsL.se e h3⟩
  | .lst ds, _, h => by
    obtain ⟨a, vs, h1, h2, h3⟩ := h
    exact ⟨a, vs, h1, Se.lst e h2, IsL.se e h3⟩
  | .dct ds, _, h => by
    obtain ⟨a, vs, h1, h2, h3⟩ := h
    exact ⟨a, vs, h1, e.rd _ _ (fun _ _ z => nomatch z) h2, IsK.se e h3⟩
  | .obj C fs, _, h => by
    obtain ⟨a, dx, vs, h1, h2, h3⟩ := h
    exact ⟨a, dx, vs, h1, e.eq _ _ h2 (fun _ z => nomatch z) (fun _ _ z => nomatch z), IsF.se e h3⟩
  | .xc a dd fs, _, h => by
    obtain ⟨vs, h1, h2, h3⟩ := h
    exact ⟨vs, h1, e.eq _ _ h2 (fun _ z => nomatch z) (fun _ _ z => nomatch z), IsF.se e h3⟩
  | .exv C fs, _, h => by
    obtain ⟨a, dx, vs, h1, h2, h3, h4⟩ := h
    exact ⟨a, dx, vs, h1, e.eq _ _ h2 (fun _ z => nomatch z) (fun _ _ z => nomatch z), e.eq _ _ h3 (fun _ z => nomatch z) (fun _ _ z => nomatch z), IsF.se e h4⟩
theorem IsL.se (e : Se H H') : ∀ {ds : List D} {vs : List V}, IsL K H ds vs → IsL K H' ds vs
  | [], _, h => h
  | d :: ds, _, h => by
    obtain ⟨v, r, h1, h2, h3⟩ := h
    exact ⟨v, r, h1, Is.se e h2, IsL.se e h3⟩
theorem IsK.se (e : Se H H') : ∀ {ds : List (Key × D)} {vs : List (Key × V)}, IsK K H ds vs → IsK K H' ds vs
  | [], _, h => h
  | (k, d) :: ds, _, h => by
    obtain ⟨v, r, h1, h2, h3⟩ := h
    exact ⟨v, r, h1, Is.se e h2, IsK.se e h3⟩
theorem IsF.se (e : Se H H') : ∀ {ds : List (Str × D)} {vs : List (Str × V)}, IsF K H ds vs → IsF K H' ds vs
  | [], _, h => h
  | (k, d) :: ds, _, h => by
    obtain ⟨v, r, h1, h2, h3⟩ := h
    exact ⟨v, r, h1, Is.se e h2, IsF.se e h3⟩
end
theorem Own.se (e : Se H H') {G G' : Hp} {a : Addr} (h2 : ∀ o, G a = Option.some o → G' a = Option.some o) : ∀ {d : D}, Own K H G a d → Own K H' G' a d
  | .lst ds, ⟨vs, h1, h⟩ => ⟨vs, h2 _ h1, h.se e⟩
  | .dct ks, ⟨vs, h1, h⟩ => ⟨vs, h2 _ h1, h.se e⟩
  | .obj C fs, ⟨dx, gs, h1, h⟩ => ⟨dx, gs, h2 _ h1, h.se e⟩
  | .non, h => h.elim
  | .bl _, h => h.elim
  | .int _, h => h.elim
  | .str _, h => h.elim
  | .ty _, h => h.elim
  | .cls _, h => h.elim
  | .tup _, h => h.elim
  | .xc _ _ _, h => h.elim
  | .exv _ _, h => h.elim
theorem IsK.get : ∀ {ks : List (Key × D)} {kvs : List (Key × V)} {i : Nat} {k : Key} {d : D}, IsK K H ks kvs → ks[i]? = some (k, d) → ∃ v, kvs[i]? = some (k, v) ∧ Is K H d v
  | [], _, _, _, _, _, e => by simp at e
  | (k', d') :: ks, _, 0, k, d, h, e => by
    obtain ⟨v, r, h1, h2, h3⟩ := h
    rw [List.getElem?_cons_zero] at e
    cases e
    exact ⟨v, by rw [h1]; rfl, h2⟩
  | (k', d') :: ks, _, i + 1, k, d, h, e => by
    obtain ⟨v, r, h1, h2, h3⟩ := h
    rw [List.getElem?_cons_succ] at e
    obtain ⟨u, q1, q2⟩ := IsK.get h3 e
    exact ⟨u, by rw [h1, List.getElem?_cons_succ]; exact q1, q2⟩
end
/-- H, d locked where it stands -/
def lkH (d : Addr) (od : Obj) (u : HO) (H : Hp) : Hp := fun a => if a = d then (H d).map fun _ => .frz od u else H a
section
variable {K : PySem.W.Frag} {d : Addr} {od : Obj} {kvs : List (Key × V)} {H H' H0 H1 Gs G : Hp} {u : HO}
theorem lkH_upd (h : H d = some u) : lkH d od u H = upd H d (.frz od u) := by
  funext a
  unfold lkH upd
  by_cases e : a = d
  · rw [if_pos e, if_pos e, h]; rfl
  · rw [if_neg e, if_neg e]
theorem lkH_ne {a : Addr} (h : a ≠ d) : lkH d od u H a = H a := by unfold lkH; rw [if_neg h]
theorem lkH_none {a : Addr} : lkH d od u H a = none ↔ H a = none := by
  unfold lkH
  by_cases e : a = d
  · rw [if_pos e, e]
    cases z : H d with
    | none => simp
    | some w => simp
  · rw [if_neg e]
theorem lkH_at {w : HO} (h : H d = some w) : lkH d od u H d = some (.frz od u) := by unfold lkH; rw [if_pos rfl, h]; rfl
theorem lk_same (h : Same H H') : Same (lkH d od u H) (lkH d od u H') := fun a o e => by
  by_cases z : a = d
  · subst z
    cases y : H a with
    | none => rw [lkH_none.mpr y] at e; cases e
    | some w =>
      rw [lkH_at y] at e
      rw [lkH_at (h a w y)]
      exact e
  · rw [lkH_ne z] at e ⊢
    exact h a o e
theorem lk_grow (g : Grow Gs G H0 H) : Grow (lkH d od u Gs) (lkH d od u G) (lkH d od u H0) (lkH d od u H) :=
  ⟨lk_same g.frz, lk_same g.all, lk_same g.sub, fun a x => by
    rcases g.new a (fun z => x (lkH_none.mpr z)) with q | q
    · exact .inl fun z => q (lkH_none.mp z)
    · exact .inr (lkH_none.mpr q)⟩
theorem lk_se (h : H d = some (.dK kvs)) : Se H (lkH d od (.dK kvs) H) := by
  refine ⟨fun a w nf r => ?_, fun a o e n1 n2 => ?_⟩
  · by_cases z : a = d
    · subst z
      rcases r with r | ⟨o, r⟩
      · rw [h] at r
        cases r
        exact .inr ⟨od, lkH_at h⟩
      · rw [h] at r; cases r
    · unfold Rd
      rw [lkH_ne z]
      exact r
  · have z : a ≠ d := fun z => by
      rw [z, h] at e
      cases e
      exact n1 _ rfl
    rw [lkH_ne z]
    exact e
theorem un_se (h : H d = some (.frz od (.dK kvs))) : Se H (upd H d (.dK kvs)) := by
  refine ⟨fun a w nf r => ?_, fun a o e n1 n2 => ?_⟩
  · by_cases z : a = d
    · subst z
      rcases r with r | ⟨o, r⟩
      · rw [h] at r
        cases r
        exact absurd rfl (nf _ _)
      · rw [h] at r
        cases r
        exact .inl upd_same
    · unfold Rd
      rw [upd_ne z]
      exact r
  · have z : a ≠ d := fun z => by
      rw [z, h] at e
      cases e
      exact n2 _ _ rfl
    rw [upd_ne z]
    exact e
end
section
variable {K : PySem.W.Frag} {d : Addr} {od : Obj} {kvs : List (Key × V)} {H H' H0 H1 Gs G : Hp} {σ : L2.St} {as : AS}
theorem un_same (h : H d = some (.dK kvs)) (q : Same (lkH d od (.dK kvs) H) H') : Same H (upd H' d (.dK kvs)) := fun a o e => by
  by_cases z : a = d
  · subst z
    rw [h] at e
    rw [upd_same]
    exact e
  · rw [upd_ne z]
    exact q a o (by rw [lkH_ne z]; exact e)
/-- where H may have nothing at d, or just this -/
theorem un_same' (h : ∀ w, H d = some w → w = .dK kvs) (q : Same (lkH d od (.dK kvs) H) H') : Same H (upd H' d (.dK kvs)) := fun a o e => by
  by_cases z : a = d
  · subst z
    rw [h _ e, upd_same]
  · rw [upd_ne z]
    exact q a o (by rw [lkH_ne z]; exact e)
theorem un_sub (q : Same H H') : Same (upd H d (.dK kvs)) (upd H' d (.dK kvs)) := fun a o e => by
  by_cases z : a = d
  · subst z
    rw [upd_same] at e ⊢
    exact e
  · rw [upd_ne z] at e ⊢
    exact q a o e
theorem un_grow (g0 : Grow Gs G H0 H) (hd : H0 d = some (.dK kvs)) (g : Grow (lkH d od (.dK kvs) Gs) (lkH d od (.dK kvs) G) H1 H') : Grow Gs G (upd H1 d (.dK kvs)) (upd H' d (.dK kvs)) := by
  refine ⟨un_same' (fun w e => ?_) g.frz, un_same' (fun w e => ?_) g.all, un_sub g.sub, fun a x => ?_⟩
  · have := g0.frz d w e
    rw [hd] at this
    cases this
    rfl
  · have := g0.all d w e
    rw [g0.sub d _ hd] at this
    cases this
    rfl
  · by_cases z : a = d
    · rw [z]
      exact g0.new d (by rw [hd]; simp)
    · rw [upd_ne z] at x
      rcases g.new a x with q | q
      · exact .inl fun y => q (lkH_none.mpr y)
      · exact .inr (lkH_none.mp q)
theorem StH.lk (S : StH K Gs G σ H as H0) (hd : H0 d = some (.dK kvs)) : StH K (lkH d od (.dK kvs) Gs) (lkH d od (.dK kvs) G) σ (lkH d od (.dK kvs) H) as (lkH d od (.dK kvs) H0) := by
  refine ⟨lk_grow S.grow, fun i x e => ?_, fun i x e => ?_, S.dis⟩
  · obtain ⟨v, h1, h2⟩ := S.fz i x e
    exact ⟨v, h1, h2.se (lk_se hd)⟩
  · obtain ⟨a, h1, h2, h3, h4⟩ := S.ow i x e
    refine ⟨a, h1, lkH_none.mpr h2, lkH_none.mpr h3, h4.se (lk_se hd) fun o q => ?_⟩
    have z : a ≠ d := fun z => by rw [z, hd] at h2; cases h2
    rw [lkH_ne z]
    exact q
theorem StH.un {σ' : L2.St} {as' : AS} (S : StH K Gs G σ H as H0) (hd : H0 d = some (.dK kvs)) (q : Same (lkH d od (.dK kvs) H0) H1) (S' : StH K (lkH d od (.dK kvs) Gs) (lkH d od (.dK kvs) G) σ' H' as' H1) : StH K Gs G σ' (upd H' d (.dK kvs)) as' (upd H1 d (.dK kvs)) := by
  have h1d : H1 d = some (.frz od (.dK kvs)) := q d _ (lkH_at hd)
  refine ⟨un_grow S.grow hd S'.grow, fun i x e => ?_, fun i x e => ?_, S'.dis⟩
  · obtain ⟨v, h1, h2⟩ := S'.fz i x e
    exact ⟨v, h1, h2.se (un_se h1d)⟩
  · obtain ⟨a, h1, h2, h3, h4⟩ := S'.ow i x e
    have z : a ≠ d := fun z => by rw [z, h1d] at h2; cases h2
    exact ⟨a, h1, by rw [upd_ne z]; exact h2, lkH_none.mp h3, h4.se (un_se h1d) fun o q => by rw [upd_ne z]; exact q⟩
theorem wx_un {X : Cx} {c : Value} {dd : Option Addr} (h : H' d = some (.frz od (.dK kvs))) (hn : ∀ o' u', X.H_0 d ≠ some (.frz o' u')) (w : wx X c dd σ (upd H' d (.dK kvs))) : wx X c dd σ H' := by
  obtain ⟨W, t, w⟩ := w
  refine ⟨fun c' dd' σ' H'' => H'' d = some (.frz od (.dK kvs)) ∧ W c' dd' σ' (upd H'' d (.dK kvs)), fun u s' ⟨a, B, sI, pins, σ, H, cls, d', e, I, nb, up, sky, na, os, ag, hh, w⟩ => ?_, h, w⟩
  exact t u s' ⟨a, B, sI, pins, σ, _, cls, d', e, I.unlock hh hn, nb, up, sky, by rw [upd_ne (fun z => by rw [z, hh] at na; cases na)]; exact na, os, ag, w⟩
theorem IsX.un {H1 : Hp} {c : Value} {dd : Option Addr} {x : Exn} (h : H1 d = some (.frz od (.dK kvs))) (i : IsX K H1 H' c dd x) : IsX K (upd H1 d (.dK kvs)) (upd H' d (.dK kvs)) c dd x := by
  refine ⟨i.1, i.2.imp id fun ⟨n, d', gs, e1, e2, e3⟩ => ⟨n, d', gs, e1, ?_, e3.se (un_se h)⟩⟩
  exact (un_se h).eq _ _ e2 (fun _ z => nomatch z) (fun _ _ z => nomatch z)
end
/-- the dict in slot i is locked -/
def LockAt (K : PySem.W.Frag) (i : Nat) (ks : List (Key × D)) (σ : L2.St) (H0 : Hp) : Prop := ∃ d o kvs, σ[i]? = some (some (.ref d)) ∧ H0 d = some (.frz o (.dK kvs)) ∧ IsK K H0 ks kvs
section
variable {X : Cx} {Gs G : Hp} {st : Stmt} {as : AS} {F : Fin} {i : Nat} {ks : List (Key × D)}
theorem s1_lock (ha : as[i]? = some (.fz (.dct ks))) (h : ∀ (Gs G : Hp) (σ : L2.St) (H H0 : Hp), StH X.K Gs G σ H as H0 → LockAt X.K i ks σ H0 → ∀ E : Ends, EndsOk X Gs G H0 F E → rs X st E σ H) : S1 X Gs G st as F := .mk fun σ H H0 S E ok => by
  obtain ⟨v, e1, iv⟩ := S.fz i _ ha
  obtain ⟨d, kvs, rfl, hd, hk⟩ := iv
  rcases hd with hd | ⟨od, hd⟩
  · intro pins s I
    obtain ⟨od, I1⟩ := I.lock (S.grow.sub d _ hd) trivial
    have hn := I.nofrz (S.grow.sub d _ hd) trivial
    rw [← lkH_upd (S.grow.sub d _ hd)] at I1
    have l0 : lkH d od (.dK kvs) H0 d = some (.frz od (.dK kvs)) := lkH_at hd
    let E' : Ends := ⟨fun σ' H' => H' d = some (.frz od (.dK kvs)) ∧ E.nx σ' (upd H' d (.dK kvs)), fun v H' => H' d = some (.frz od (.dK kvs)) ∧ E.rt v (upd H' d (.dK kvs)), fun σ' H' => H' d = some (.frz od (.dK kvs)) ∧ E.bk σ' (upd H' d (.dK kvs)), fun σ' H' => H' d = some (.frz od (.dK kvs)) ∧ E.ct σ' (upd H' d (.dK kvs))⟩
    have r := h _ _ σ _ _ (S.lk (od := od) hd) ⟨d, od, kvs, e1, l0, hk.se (lk_se hd)⟩ E'
      ⟨fun σ' H' as' H1 q S' z => ⟨S'.grow.sub d _ (q d _ l0), ok.nx σ' _ as' _ (un_same hd q) (S.un hd q S') z⟩,
       fun v H' x H1 q g i z => ⟨g.sub d _ (q d _ l0), ok.rt v _ x _ (un_same hd q) (un_grow S.grow hd g) (i.se (un_se (q d _ l0))) z⟩,
       fun σ' H' as' H1 q S' z => ⟨S'.grow.sub d _ (q d _ l0), ok.bk σ' _ as' _ (un_same hd q) (S.un hd q S') z⟩,
       fun σ' H' as' H1 q S' z => ⟨S'.grow.sub d _ (q d _ l0), ok.ct σ' _ as' _ (un_same hd q) (S.un hd q S') z⟩,
       fun c dd σ' H' x as' H1 q S' i z => wx_un (S'.grow.sub d _ (q d _ l0)) hn (ok.ex c dd σ' _ x as' _ (un_same hd q) (S.un hd q S') (i.un (q d _ l0)) z)⟩
    refine thn (r pins s I1) fun f s1 q => ?_
    cases f with
    | next => obtain ⟨σ', H', I2, e, q⟩ := q; exact ⟨σ', _, I2.unlock e hn, q⟩
    | brk => obtain ⟨σ', H', I2, e, q⟩ := q; exact ⟨σ', _, I2.unlock e hn, q⟩
    | cont => obtain ⟨σ', H', I2, e, q⟩ := q; exact ⟨σ', _, I2.unlock e hn, q⟩
    | ret v => obtain ⟨x, σ', H', I2, r, e, q⟩ := q; exact ⟨x, σ', _, I2.unlock e hn, r, q⟩
  · exact h Gs G σ H H0 S ⟨d, od, kvs, e1, hd, hk⟩ E ok
end
section
variable {X : Cx} {as : DE} {e : Expr} {i : Nat} {ks : List (Key × D)} {x : D}
theorem en_lock (ha : as[i]? = some (some (.dct ks))) (h : ∀ (σ : L2.St) (H0 H : Hp), Same H0 H → SlF X.K H0 σ as → LockAt X.K i ks σ H0 → ∀ Q : VK, (∀ a H0' H', Grow H0 H H0' H' → H a = none → H0' a = none → Own X.K H0' H' a x → Q (.ref a) H') → re X e σ H Q) : EN X e as x := .mk fun σ H0 H hs hf Q q => by
  obtain ⟨v, e1, iv⟩ := hf i _ ha
  obtain ⟨d, kvs, rfl, hd, hk⟩ := iv
  rcases hd with hd | ⟨od, hd⟩
  · intro pins s I
    obtain ⟨od, I1⟩ := I.lock (hs d _ hd) trivial
    have hn := I.nofrz (hs d _ hd) trivial
    rw [← lkH_upd (hs d _ hd)] at I1
    have l0 : lkH d od (.dK kvs) H0 d = some (.frz od (.dK kvs)) := lkH_at hd
    have hf' : SlF X.K (lkH d od (.dK kvs) H0) σ as := fun j y ej => let ⟨v, a, b⟩ := hf j y ej; ⟨v, a, b.se (lk_se hd)⟩
    have r := h σ _ _ (lk_same hs) hf' ⟨d, od, kvs, e1, l0, hk.se (lk_se hd)⟩ (fun v H' => H' d = some (.frz od (.dK kvs)) ∧ Q v (upd H' d (.dK kvs))) fun a H0' H' g n1 n2 o => by
      have h1d : H0' d = some (.frz od (.dK kvs)) := g.frz d _ l0
      have z : a ≠ d := fun z => by rw [z, h1d] at n2; cases n2
      refine ⟨g.sub d _ h1d, q a (upd H0' d (.dK kvs)) (upd H' d (.dK kvs)) (un_grow (Grow.refl hs) hd g) (lkH_none.mp n1) (by rw [upd_ne z]; exact n2) (o.se (un_se h1d) fun o q => by rw [upd_ne z]; exact q)⟩
    refine thn (r pins s I1) fun v s1 ⟨y, H1, I2, rr, e2, q⟩ => ?_
    exact ⟨y, _, I2.unlock e2 hn, rr, q⟩
  · exact h σ H0 H hs hf ⟨d, od, kvs, e1, hd, hk⟩ Q q
end
/-- as IW, where P holds -/
structure IWP (X : Cx) (P : L2.St → Hp → Prop) (tg iter : Expr) (as : DE) (ds : List D) : Prop where
  run : ∃ wi, PI X tg iter wi ∧ ∀ (σ : L2.St) (H0 H : Hp), Same H0 H → SlF X.K H0 σ as → P σ H0 → ∀ R : It → Hp → Prop, (∀ J H0' H', Grow H0 H H0' H' → Walks X.K J H0' ds → R J H') → wi σ H R
def entD (kv : Key × D) : D := .tup [kD kv.1, kv.2]
section
variable {X : Cx} {N L gs : List Str} {k : Nat} {sc : Scope} {n : Str} {i k2 : Nat} {ks : List (Key × D)} {as : DE} {elts : List Expr} {p ap cp tp : Pos} {tg : Expr}
theorem iwp_items (B : Body X N L gs k sc) (h : At L n i) (hbase : attributeBase (.Name n p) "items" X.env (eval (.Name n p) X.env) = eval (.Name n p) X.env := by rfl) (hline : (ap.endLine == cp.line) = true := by rfl) :
    IWP X (LockAt X.K i ks) (.Tuple elts k2 tp) (.Call (.Attribute (.Name n p) "items" ap) [] [] cp) as (ks.map entD) := by
  obtain ⟨a1, a2, a3, a4⟩ := B.locs h
  refine ⟨_, pi_items (pe_var a1 (loc_vis a2) a3 a4) hbase hline, fun σ H0 H hs hf hp R q => ?_⟩
  obtain ⟨d, o, kvs, e1, hd, hk⟩ := hp
  have hl := hk.len
  refine ⟨_, e1, d, o, kvs, rfl, hs d _ hd, q _ H0 H (Grow.refl hs) ⟨fun H2 e => ⟨e d _ hd, by rw [List.length_map]; omega⟩, fun i H2 hi e => ⟨e d _ hd, by rw [List.length_map] at hi; omega⟩, fun i x H2 H3 v H4 hx e1 e2 hy => ?_⟩⟩
  obtain ⟨T, kk, u, hkv, rfl, hT, rfl⟩ := hy
  rw [List.getElem?_map] at hx
  cases z : ks[i]? with
  | none => rw [z] at hx; cases hx
  | some kv =>
    rw [z] at hx
    cases hx
    obtain ⟨k', d'⟩ := kv
    obtain ⟨u', e3, iu⟩ := hk.get z
    rw [hkv] at e3
    cases e3
    refine ⟨_, Grow.laid e2 hT, T, _, rfl, .inl (.inl upd_same), _, _, rfl, ?_, .one (iu.mono (e1.trans (Same.new (e2.free hT))))⟩
    cases kk <;> exact rfl
theorem iwp_values (B : Body X N L gs k sc) (h : At L n i) (hbase : attributeBase (.Name n p) "values" X.env (eval (.Name n p) X.env) = eval (.Name n p) X.env := by rfl) (hline : (ap.endLine == cp.line) = true := by rfl) :
    IWP X (LockAt X.K i ks) tg (.Call (.Attribute (.Name n p) "values" ap) [] [] cp) as (ks.map (·.2)) := by
  obtain ⟨a1, a2, a3, a4⟩ := B.locs h
  refine ⟨_, pi_values (pe_var a1 (loc_vis a2) a3 a4) hbase hline, fun σ H0 H hs hf hp R q => ?_⟩
  obtain ⟨d, o, kvs, e1, hd, hk⟩ := hp
  have hl := hk.len
  refine ⟨_, e1, d, o, kvs, rfl, hs d _ hd, q _ H0 H (Grow.refl hs) ⟨fun H2 e => ⟨e d _ hd, by rw [List.length_map]; omega⟩, fun i H2 hi e => ⟨e d _ hd, by rw [List.length_map] at hi; omega⟩, fun i x H2 H3 v H4 hx e1 e2 hy => ?_⟩⟩
  obtain ⟨rfl, kk, hkv⟩ := hy
  rw [List.getElem?_map] at hx
  cases z : ks[i]? with
  | none => rw [z] at hx; cases hx
  | some kv =>
    rw [z] at hx
    cases hx
    obtain ⟨k', d'⟩ := kv
    obtain ⟨u', e3, iu⟩ := hk.get z
    rw [hkv] at e3
    cases e3
    exact ⟨_, Grow.refl e2, iu.mono e1⟩
theorem iwp_keys (B : Body X N L gs k sc) (h : At L n i) : IWP X (LockAt X.K i ks) tg (.Name n p) as (ks.map fun kv => kD kv.1) := by
  obtain ⟨a1, a2, a3, a4⟩ := B.locs h
  refine ⟨_, pi_keys (pe_var a1 (loc_vis a2) a3 a4), fun σ H0 H hs hf hp R q => ?_⟩
  obtain ⟨d, o, kvs, e1, hd, hk⟩ := hp
  have hl := hk.len
  refine ⟨_, e1, d, o, rfl, .inl ⟨kvs, hs d _ hd, q _ H0 H (Grow.refl hs) ⟨fun H2 e => ⟨e d _ hd, by rw [List.length_map]; omega⟩, fun i H2 hi e => ⟨e d _ hd, by rw [List.length_map] at hi; omega⟩, fun i x H2 H3 v H4 hx e1 e2 hy => ?_⟩⟩⟩
  obtain ⟨rfl, kk, u, hkv, rfl⟩ := hy
  rw [List.getElem?_map] at hx
  cases z : ks[i]? with
  | none => rw [z] at hx; cases hx
  | some kv =>
    rw [z] at hx
    cases hx
    obtain ⟨k', d'⟩ := kv
    obtain ⟨u', e3, iu⟩ := hk.get z
    rw [hkv] at e3
    cases e3
    exact ⟨_, Grow.refl e2, by cases kk <;> exact rfl⟩
end
/-! for over a dict that is frozen: it is locked meanwhile, so that the body is asked of any entry -/
section
variable {X : Cx} {N L gs : List Str} {k : Nat} {sc : Scope} {Gs G : Hp} {as : AS} {F : Fin} {tg iter : Expr} {body : List Stmt} {ds : List D} {pos : Pos} {i : Nat} {ks : List (Key × D)}
theorem t_forP (B : Body X N L gs k sc) (w : D → Sto) (ha : as[i]? = some (.fz (.dct ks))) (hw : IWP X (LockAt X.K i ks) tg iter (hid as) ds) (I : Nat → AS → Prop) (h0 : I 0 as) (ht : ∀ (j : Nat) (d : D), ds[j]? = some d → TgD X tg d (w d))
    (hs : ∀ (Gs G : Hp) (j : Nat) (d : D) (as' : AS), ds[j]? = some d → I j as' → SS X Gs G body (stoS (w d) as') { F with nx := I (j + 1), ct := I (j + 1), bk := F.nx }) (hd : ∀ as', I ds.length as' → F.nx as')
    (hss : ∀ x, foldedSetIterable iter X.env x = pure x := by intro _; rfl) : S1 X Gs G (.For tg iter body [] pos) as F := s1_lock ha fun Gs G σ H H0 S lk E ok => by
  obtain ⟨wi, hpi, hwi⟩ := hw.run
  refine rs_of (ps_for B.pown B.calm hpi rg_pg rss_pss hss) ?_
  refine hwi σ H0 H S.grow.sub S.hid lk _ fun J H1 H' g wk => ?_
  refine ⟨fun i m σ' H2 => m = ds.length - i ∧ i ≤ ds.length ∧ ∃ as' H3, Same H1 H3 ∧ StH X.K Gs G σ' H2 as' H3 ∧ I i as', ⟨ds.length, by simp, Nat.zero_le _, as, H1, Same.refl _, S.more g, h0⟩, ?_⟩
  rintro i m σ' H2 ⟨rfl, hi, as', H3, q, S', ij⟩
  by_cases hlt : i < ds.length
  · refine .inr ⟨wk.go i H2 hlt (q.trans S'.grow.sub), fun σ4 H4 => ∃ as4 H5, Same H1 H5 ∧ StH X.K Gs G σ4 H4 as4 H5 ∧ I (i + 1) as4, fun σ4 H4 ⟨as4, H5, a1, a2, a3⟩ => ⟨ds.length - (i + 1), by omega, rfl, hlt, as4, H5, a1, a2, a3⟩, fun x H4 hy => ?_⟩
    have hd' : ds[i]? = some ds[i] := List.getElem?_eq_getElem hlt
    obtain ⟨H5, g5, i5⟩ := wk.yld i ds[i] H3 H2 x H4 hd' q S'.grow.sub hy
    have S5 := S'.more g5
    refine (ht i ds[i] hd').run σ' H5 H4 x g5.sub i5 _ fun vs hp => ?_
    refine rss_len fun hl => ?_
    rw [stoV_len] at hl
    refine (hs Gs G i ds[i] as' hd' ij).run _ H4 H5 (S5.sto hl hp) _ ⟨fun σ6 H6 as6 H7 r S6 z => ⟨as6, H7, (q.trans g5.frz).trans r, S6, z⟩, (ok.more (g.frz.trans (q.trans g5.frz))).rt, (ok.more (g.frz.trans (q.trans g5.frz))).nx, fun σ6 H6 as6 H7 r S6 z => ⟨as6, H7, (q.trans g5.frz).trans r, S6, z⟩, (ok.more (g.frz.trans (q.trans g5.frz))).ex⟩
  · have e : i = ds.length := by omega
    subst e
    exact .inl ⟨wk.stop H2 (q.trans S'.grow.sub), ok.nx σ' H2 as' H3 (g.frz.trans q) S' (hd as' ij)⟩
end
section
variable {X : Cx} {N L gs : List Str} {k : Nat} {sc : Scope} {scope : Scope} {as : DE} {tg iter elt : Expr} {ifs : List Expr} {ds : List D} {pos : Pos}
theorem lc_runP (P : L2.St → Hp → Prop) (own : List (Str × Nat)) (N' : List (Option Str)) (gs' : List Str) (w : D → Sto) (f : D → D) (pr : D → Bool) (B : Body X N L gs k sc) (hw : IWP X P tg iter as ds)
    (hok : blkC N sc scope own = true) (hN' : (decide (N'.length ≤ N.length) && seesB scope N N' && gs'.all (glbOk scope)) = true) (hz : ds.length < sizeLine) (how : ∀ (j : Nat) (d : D), ds[j]? = some d → ∀ q ∈ w d, q.1 ∈ own.map (·.2))
    (ht : ∀ (s : Shared) (H : Hp) (cl : List (Str × Addr)) (C : Addr) (fp : List Addr), NmsB (X.blk s H scope (compEnvC scope cl C X.env) fp) N' → ∀ (j : Nat) (d : D), ds[j]? = some d → TgD (X.blk s H scope (compEnvC scope cl C X.env) fp) tg d (w d))
    (hb : ∀ (s : Shared) (H : Hp) (cl : List (Str × Addr)) (C : Addr) (fp : List Addr), NmsB (X.blk s H scope (compEnvC scope cl C X.env) fp) N' → Gls (X.blk s H scope (compEnvC scope cl C X.env) fp) gs' → ∀ (j : Nat) (d : D), ds[j]? = some d →
      ETs (X.blk s H scope (compEnvC scope cl C X.env) fp) ifs (stoE (w d) (wipeE as (own.map (·.2)))) (pr d) ∧ (pr d = true → EE (X.blk s H scope (compEnvC scope cl C X.env) fp) elt (stoE (w d) (wipeE as (own.map (·.2)))) (f d)))
    : ∃ (wi : TI) (g : TG) (tt : TT) (te : TE), PI X tg iter wi ∧ (∀ (s : Shared) (H : Hp) (C : Addr) (cl : List (Str × Addr)) (fp : List Addr), PG (X.blk s H scope (compEnvC scope cl C X.env) fp) tg g) ∧
      (∀ (s : Shared) (H : Hp) (C : Addr) (cl : List (Str × Addr)) (fp : List Addr), PTs (X.blk s H scope (compEnvC scope cl C X.env) fp) ifs tt) ∧ (∀ (s : Shared) (H : Hp) (C : Addr) (cl : List (Str × Addr)) (fp : List Addr), PE (X.blk s H scope (compEnvC scope cl C X.env) fp) elt te) ∧
      ∀ (σ : L2.St) (H0 H : Hp), σ.length = X.N.length → Same H0 H → SlF X.K H0 σ as → P σ H0 → ∀ Q : VK, (∀ a H0' H', Grow H0 H H0' H' → H a = none → H0' a = none → Own X.K H0' H' a (.lst ((ds.filter pr).map f)) → Q (.ref a) H') → tLc wi g tt te (own.map (·.2)) σ H Q := by
  obtain ⟨wi, hpi, hwi⟩ := hw.run
  simp only [Bool.and_eq_true, decide_eq_true_eq] at hN'
  obtain ⟨⟨n1, n2⟩, n3⟩ := hN'
  let g : TG := fun v σ H Q => ∀ (s' : Shared) (H' : Hp) (C : Addr) (cl : List (Str × Addr)) (fp : List Addr), rg (X.blk s' H' scope (compEnvC scope cl C X.env) fp) tg v σ H Q
  let tt : TT := fun σ H Q => ∀ (s' : Shared) (H' : Hp) (C : Addr) (cl : List (Str × Addr)) (fp : List Addr), rts (X.blk s' H' scope (compEnvC scope cl C X.env) fp) ifs σ H Q
  let te : TE := fun σ H Q => ∀ (s' : Shared) (H' : Hp) (C : Addr) (cl : List (Str × Addr)) (fp : List Addr), re (X.blk s' H' scope (compEnvC scope cl C X.env) fp) elt σ H Q
  refine ⟨wi, g, tt, te, hpi, fun s' H' C cl fp => ⟨fun pins s σ H v u Q I r h => h s' H' C cl fp pins s u I r⟩, fun s' H' C cl fp => ⟨fun pins s σ H Q I h => h s' H' C cl fp pins s I⟩, fun s' H' C cl fp => ⟨fun pins s σ H Q I h => h s' H' C cl fp pins s I⟩, fun σ H0 H hlen hs hf hP Q q => ?_⟩
  refine hwi σ H0 H hs hf hP _ fun J H1 H' gr wk Dl hDl => ?_
  -- W: behind i turns the list holds what was made
  refine ⟨fun i m H2 => m = ds.length - i ∧ i ≤ ds.length ∧ ∃ H3 vs, Grow H1 (upd H' Dl (.lst [])) H3 (upd H2 Dl (.lst [])) ∧ H3 Dl = none ∧ H2 Dl = some (.lst vs) ∧ IsL X.K H3 (((ds.take i).filter pr).map f) vs ∧ (∀ b o, b ≠ Dl → H' b = some o → H2 b = some o), ⟨ds.length, by simp, Nat.zero_le _, H1, [], ?_, gr.sub.free hDl, upd_same, rfl, fun b o hb e => by rw [upd_ne hb]; exact e⟩, ?_⟩
  · rw [upd_upd]
    exact Grow.refl (gr.sub.trans (Same.new hDl))
  rintro i m H2 ⟨rfl, hi, H3, vs, g3, h3D, h2D, hv, hk⟩
  have s32 : Same H3 H2 := fun b o e => by
    have e' := g3.sub b o e
    have hb : b ≠ Dl := fun z => by rw [z, h3D] at e; cases e
    rw [upd_ne hb] at e'
    exact e'
  by_cases hlt : i < ds.length
  · have hd : ds[i]? = some ds[i] := List.getElem?_eq_getElem hlt
    refine .inr ⟨wk.go i H2 hlt (g3.frz.trans s32), fun H4 => ∃ H5 vs', Grow H1 (upd H' Dl (.lst [])) H5 (upd H4 Dl (.lst [])) ∧ H5 Dl = none ∧ H4 Dl = some (.lst vs') ∧ IsL X.K H5 (((ds.take (i + 1)).filter pr).map f) vs' ∧ (∀ b o, b ≠ Dl → H' b = some o → H4 b = some o), fun H4 ⟨H5, vs', a1, a2, a3, a4, a5⟩ => ⟨ds.length - (i + 1), by omega, rfl, hlt, H5, vs', a1, a2, a3, a4, a5⟩, fun x H4 hy => ?_⟩
    obtain ⟨H5, g5, i5⟩ := wk.yld i ds[i] H3 H2 x H4 hd g3.frz s32 hy
    have more : ∀ {Ha Hb Ha' Hb' : Hp}, Grow Ha Hb Ha' Hb' → Ha Dl = none → Hb Dl = some (.lst vs) → Ha' Dl = none ∧ Hb' Dl = some (.lst vs) ∧ Grow Ha (upd Hb Dl (.lst [])) Ha' (upd Hb' Dl (.lst [])) := fun {Ha Hb Ha' Hb'} gg e1 e2 => by
      have e3 : Ha' Dl = none := by
        cases z : Ha' Dl with
        | none => rfl
        | some u =>
          rcases gg.new Dl (by rw [z]; simp) with w | w
          · exact absurd e1 w
          · rw [e2] at w; cases w
      refine ⟨e3, gg.all _ _ e2, gg.frz, fun b o e => ?_, fun b o e => ?_, fun b hb => ?_⟩
      · by_cases z : b = Dl
        · rw [z, upd_same] at e ⊢; exact e
        · rw [upd_ne z] at e ⊢; exact gg.all b o e
      · have z : b ≠ Dl := fun z => by rw [z, e3] at e; cases e
        rw [upd_ne z]
        exact gg.sub b o e
      · rcases gg.new b hb with w | w
        · exact .inl w
        · have z : b ≠ Dl := fun z => by rw [z, e2] at w; cases w
          exact .inr (by rw [upd_ne z]; exact w)
    obtain ⟨d5, d4, gg5⟩ := more g5 h3D h2D
    intro s' Hs C cl fp
    refine (ht s' Hs cl C fp (blk_nms B n1 n2) i ds[i] hd).run _ H5 H4 x g5.sub i5 _ fun ws hp => ?_
    have hmem : ∀ q ∈ ws, q.1 ∈ own.map (·.2) := fun q hq => by
      obtain ⟨a, ha1, ha2⟩ := paired_mem hp q hq
      rw [← ha2.1]
      exact how i ds[i] hd a ha1
    refine ⟨by rw [wipe_sto hmem, wipe_wipe fun _ h => h], ?_⟩
    have hsl : SlF X.K H5 (stoV ws (wipe σ (own.map (·.2)))) (stoE (w ds[i]) (wipeE as (own.map (·.2)))) := SlF.sto (((hf.mono gr.frz).mono (g3.frz.trans g5.frz)).wipe _) (by rw [wipe_length]; exact hlen) hp
    intro s1 Hs1 C1 cl1 fp1
    have bb := hb s1 Hs1 cl1 C1 fp1 (blk_nms B n1 n2) (blk_gls n3) i ds[i] hd
    refine bb.1.run _ H5 H4 g5.sub hsl _ fun H6 H7 g6 => ?_
    obtain ⟨d6, d7, gg6⟩ := more g6 d5 d4
    have tk : ds.take (i + 1) = ds.take i ++ [ds[i]] := by rw [List.take_add_one, hd]; rfl
    cases hpr : pr ds[i] with
    | false =>
      rw [if_neg Bool.false_ne_true]
      refine ⟨H6, vs, (g3.trans gg5).trans gg6, d6, d7, ?_, fun b o hb' e => g6.all b o (g5.all b o (hk b o hb' e))⟩
      rw [tk, List.filter_append, List.filter_cons, if_neg (by rw [hpr]; exact Bool.false_ne_true), List.filter_nil, List.append_nil]
      exact hv.mono (g5.frz.trans g6.frz)
    | true =>
      rw [if_pos rfl]
      intro s2 Hs2 C2 cl2 fp2
      have bb2 := hb s2 Hs2 cl2 C2 fp2 (blk_nms B n1 n2) (blk_gls n3) i ds[i] hd
      refine (bb2.2 hpr).run _ H6 H7 g6.sub (hsl.mono g6.frz) _ fun y H8 H9 g8 i8 => ?_
      obtain ⟨d8, d9, gg8⟩ := more g8 d6 d7
      refine ⟨vs, d9, ?_, H8, vs ++ [y], ?_, d8, upd_same, ?_, fun b o hb' e => by rw [upd_ne hb']; exact g8.all b o (g6.all b o (g5.all b o (hk b o hb' e)))⟩
      · have l1 := hv.len
        rw [l1, List.length_map]
        have l2 := List.length_filter_le pr (ds.take i)
        rw [List.length_take] at l2
        omega
      · rw [upd_upd]
        exact ((g3.trans gg5).trans gg6).trans gg8
      · rw [tk, List.filter_append, List.filter_cons, if_pos hpr, List.filter_nil, List.map_append]
        exact (hv.mono ((g5.frz.trans g6.frz).trans g8.frz)).app (.one i8)
  · have e : i = ds.length := by omega
    subst e
    refine .inl ⟨wk.stop H2 (g3.frz.trans s32), ?_⟩
    rw [List.take_length] at hv
    have g4 : Grow H1 H' H3 H2 := by
      refine ⟨g3.frz, fun b o e => hk b o (fun z => by rw [z, hDl] at e; cases e) e, s32, fun b hb => ?_⟩
      rcases g3.new b hb with w | w
      · exact .inl w
      · have z : b ≠ Dl := fun z => hb (by rw [z]; exact h3D)
        rw [upd_ne z] at w
        exact .inr w
    exact q Dl H3 H2 (gr.trans g4) (gr.all.free hDl) h3D ⟨vs, h2D, hv⟩
/-- a comprehension over two names, of a dict that is locked meanwhile -/
theorem en_lc2P {n m : Str} {p p2 p3 : Pos} {k2 : Nat} {ii : Nat} {ks : List (Key × D)} (i j : Nat) (N' : List (Option Str)) (gs' : List Str) (f : D → D) (pr : D → Bool) (B : Body X N L gs k sc) (hd : as[ii]? = some (some (.dct ks))) (hw : IWP X (LockAt X.K ii ks) (.Tuple [.Name n p, .Name m p2] k2 p3) iter as ds) (hc : chk2 N sc scope n m i j N' gs' = true) (hz : ds.length < sizeLine)
    (h2 : ∀ (t : Nat) (d : D), ds[t]? = some d → ∃ x y, d = .tup [x, y])
    (hb : ∀ (s : Shared) (H : Hp) (cl : List (Str × Addr)) (C : Addr) (fp : List Addr), NmsB (X.blk s H scope (compEnvC scope cl C X.env) fp) N' → Gls (X.blk s H scope (compEnvC scope cl C X.env) fp) gs' → ∀ (t : Nat) (x y : D), ds[t]? = some (.tup [x, y]) →
      ETs (X.blk s H scope (compEnvC scope cl C X.env) fp) ifs ((((as.set j none).set i none).set i (some x)).set j (some y)) (pr (.tup [x, y])) ∧ (pr (.tup [x, y]) = true → EE (X.blk s H scope (compEnvC scope cl C X.env) fp) elt ((((as.set j none).set i none).set i (some x)).set j (some y)) (f (.tup [x, y]))))
    (hss : ∀ x, foldedSetIterable iter X.env x = pure x := by intro _; rfl) : EN X (.ListComp elt [⟨.Tuple [.Name n p, .Name m p2] k2 p3, iter, ifs, 0⟩] scope pos) as (.lst ((ds.filter pr).map f)) := by
  unfold chk2 at hc
  obtain ⟨h12, h34⟩ := Bool.and_eq_true_iff.mp hc
  obtain ⟨c1, c2⟩ := Bool.and_eq_true_iff.mp h12
  obtain ⟨c3, c4⟩ := Bool.and_eq_true_iff.mp h34
  have hi : N[i]? = some n := (blkOk_by c1).ix (n, i) List.mem_cons_self
  have hj : N[j]? = some m := (blkOk_by c1).ix (m, j) (List.mem_cons_of_mem _ List.mem_cons_self)
  refine en_lock hd fun σ H0 H hs hf hP Q q => ?_
  have r := lc_runP (LockAt X.K ii ks) [(n, i), (m, j)] N' gs' (two i j) f pr B hw c1 c2 hz (fun t d hd q hq => by
    obtain ⟨x, y, rfl⟩ := h2 t d hd
    have hq' : q ∈ [(i, x), (j, y)] := hq
    rcases List.mem_cons.mp hq' with e | e
    · rw [e]; exact List.mem_cons_self
    · rw [List.mem_singleton.mp e]; exact List.mem_cons_of_mem _ List.mem_cons_self) (fun s H cl C fp _ t d hd => by
    obtain ⟨x, y, rfl⟩ := h2 t d hd
    exact tg_two' B.calm B.ndX (by show X.N[i]? = _; rw [B.hN]; exact hi) (.inl (blk_own c3)) (.inr (blk_own c3)) (by show X.N[j]? = _; rw [B.hN]; exact hj) (.inl (blk_own c4)) (.inr (blk_own c4))) (fun s H cl C fp nb gb t d hd => by
    obtain ⟨x, y, rfl⟩ := h2 t d hd
    exact hb s H cl C fp nb gb t x y hd)
  obtain ⟨wi, g, tt, te, hpi, p1, p2, p3, hr⟩ := r
  refine rs_lenE fun hlen => re_of (pe_lc (own := [(n, i), (m, j)]) B.calm B.ndX hpi (by rw [B.hN, B.hsc]; exact blkOk_by c1) p1 p2 p3 hss) ?_
  exact hr σ H0 H hlen hs hf hP Q q
end
end Mw
set_option maxHeartbeats 4000000
/-! defs that run where no repr is under way (the law, and what it calls): str(..) of lists, tuples, dicts -/
namespace Mw
open PySem PySem.Spec PyProof.Rows L2
/-- a def's promise, asked only where no repr is under way -/
structure FnG (P : Program) (w : World) (K : PySem.W.Frag) (mg : Str → Option Value) (base : Heap) (k : Nat) (f : Addr) (fd : FuncData) (ps : List Str) (S : FS) : Prop where
  len : ∀ ds r, S ds r → ds.length = ps.length
  run : ∀ (A : Around) (out : List Env) (s : Shared) (H : Hp) (us : List Value) (vs : List V) (Q : VK) (E : XK), A.guards = some [] → Room k A → Env0 P w K mg base A out s H → BindsTo s fd ⟨us, []⟩ (ps.zip us) → Vals vs us → spOf K S vs H Q E →
    codeAny (model P w) A (.call (.ref f) ⟨us, []⟩) (CR (L2.CX P w) out P w H s Q E) s
section
variable {P : Program} {w : World} {K : PySem.W.Frag} {mg : Str → Option Value} {base : Heap}
theorem fn_okG {x qual : Str} {params : Arguments} {st : Stmt} {dvs : List V} {kws : List (Str × V)} {f : Addr} {fd : FuncData} {N L ps gs : List Str} {k : Nat} {S : FS} (F : FunD K x qual params (defBody st) (defScope st) dvs kws f fd) (C : BodyOk N L ps gs (defScope st)) (len : ∀ ds r, S ds r → ds.length = ps.length)
    (body : ∀ X : Cx, X.prog = P → X.w = w → X.K = K → X.mg = mg → X.base = base → Body X N L gs k (defScope st) → X.A.guards = some [] → ∀ (Gs G : Hp) (ds : List D) (r : Except Exn D), S ds r → SS X Gs G (defBody st) (startA N ds) { nx := fun _ => r = .ok .non, rt := fun d => r = .ok d, ex := fun x _ => r = .error x }) :
    FnG P w K mg base (k + 1) f fd ps S := by
  obtain ⟨oc, od, dV, kV, doc, pm, an, cdv, ct, osl, rfl, lk, hcd, _, _⟩ := F.ex
  refine ⟨len, fun A out s H us vs Q E hg hr e0 hb rv hsp => ?_⟩
  obtain ⟨H0, ds, r, hs, hi, hS, post⟩ := hsp
  have ln : vs.length = ps.length := by rw [hi.len]; exact len ds r hS
  have kx : K.In s.heap := e0.mod.kin.keeps fun b o e => (e0.bs b o e).1
  have lim : s.heap.NoLimit := e0.mod.nolimit.keeps fun b o e => (e0.bs b o e).1
  have S0 := C.fs
  have par : ∀ z ∈ ps.zip us, (defScope st).names.lookup z.1 = some .local ∨ ((defScope st).names.lookup z.1 = some .cell ∧ ((cellsFrom (s.heap.objs.size + 1) (defScope st).names []).lookup z.1).isSome = true) := fun ⟨n, v⟩ hy =>
    (S0.par n (List.of_mem_zip hy).1).imp id fun q => ⟨q, PySem.W.cellsFrom_some _ _ _ (.inl q)⟩
  refine codeAny_call_function hr.depth (kx _ _ lk) rfl S0.co S0.gen rfl (PySem.W.codeRec_of kx hcd) (hb _ _ _ _ ?_)
  refine wpAny_newFunctionEnv_cells S0.kind par fun env he s1 x => ?_
  subst he
  refine ⟨lim.keeps x.toInCall.keep, codeAny_func ?_⟩
  let XX : Cx := cxOf (L2.CX P w) P w K mg base N qual (defScope st) f cdv A out s H E
  have I : Inv XX [] (L2.start N vs) H s1 := inv_start S0 hr.hd e0 ln rv x
  have BX : Body XX N L gs k (defScope st) := ⟨rfl, rfl, S0.nd, C.pre, C.loc, C.gl, S0.kind, S0.nofree, fun _ => rfl, hr.deeper _, rfl, passes_of rfl, rfl, rfl⟩
  have gx : XX.A.guards = some [] := hg
  have bd := body XX rfl rfl rfl rfl rfl BX gx H0 H ds r hS
  have st0 : StH K H0 H (L2.start N vs) H (startA N ds) H0 := by
    refine ⟨Grow.refl hs, fun i d e => ?_, fun i d e => ?_, fun i j a d d' e => ?_⟩
    · rcases startA_at e with ⟨d', e1, e2⟩ | e1
      · cases e1
        obtain ⟨v, q1, q2⟩ := hi.get e2
        exact ⟨v, start_get q1, q2⟩
      · cases e1
    · rcases startA_at e with ⟨d', e1, e2⟩ | e1 <;> cases e1
    · rcases startA_at e with ⟨d', e1, e2⟩ | e1 <;> cases e1
  have run := bd.run (L2.start N vs) H H0 st0 { nx := fun _ H' => Q .non H', rt := Q } (by
    refine ⟨fun σ' H' as' H1 _ S' z => ?_, fun v H' d H1 _ g i z => ?_, fun _ _ _ _ _ _ z => z.elim, fun _ _ _ _ _ _ z => z.elim, fun c dd σ' H' x as' H1 _ S' i z => ?_⟩
    · have z' : r = .ok .non := z
      subst z'
      exact post .non H1 H' S'.grow rfl
    · have z' : r = .ok d := z
      subst z'
      exact post v H1 H' g i
    · have z' : r = .error x := z
      subst z'
      exact wx_of (takes_of (E := E) rfl rfl rfl rfl) (post c dd H1 H' S'.grow i))
  refine wpAny_mono (run [] s1 I) (fun fl s' hs => ?_) fun e s' hs => hs
  have fin : ∀ {σ' : L2.St} {H' : Hp} {v : V} {u : Value}, Inv XX [] σ' H' s' → RelV v u → Q v H' → CE out P w H s Q u s' :=
    fun {σ' H' v u} J rv q => ⟨v, H', J.os, J.bare, J.base, J.hok, rv, q⟩
  cases fl with
  | next => obtain ⟨_, _, J, q⟩ := hs; exact fin (v := V.non) (u := Value.none) J rfl q
  | ret u => obtain ⟨_, _, _, J, rv, q⟩ := hs; exact fin J rv q
  | brk => obtain ⟨_, _, _, q⟩ := hs; exact q.elim
  | cont => obtain ⟨_, _, _, q⟩ := hs; exact q.elim
/-- what a caller has of such a def -/
structure FnH (P : Program) (w : World) (K : PySem.W.Frag) (mg : Str → Option Value) (base : Heap) (k : Nat) (x : Str) (S : FS) : Prop where
  ex : ∃ (f : Addr) (fd : FuncData) (ps : List Str), FnG P w K mg base k f fd ps S ∧ mg x = some (.ref f) ∧ PySem.W.keepIn K (.ref f) = true ∧ Binds K fd ps []
end
section
variable {X : Cx} {k i : Nat} {S : FS} {x : Str} {p pos : Pos} {e : Expr} {es : List Expr} {as : DE} {ds : List D} {d : D} {gs : List Str}
theorem e_callG (B : Gls X gs) (F : FnH X.prog X.w X.K X.mg X.base k x S) (hg : X.A.guards = some []) (h : At gs x i) (hr : Room k X.A) (ha : EA X (e :: es) as ds) (hS : S ds (.ok d)) (he : starEach (e :: es) X.env = (false, eval e X.env) :: starEach es X.env := by rfl) (hpl : (backTo pos (starEach es X.env)).any (·.1) = false := by rfl) :
    EE X (.Call (.Name x p) (e :: es) [] pos) as d := .mk fun σ H0 H hs hf Q q => by
  intro pins s I
  obtain ⟨f, fd, ps, F, hm, hk, hb⟩ := F.ex
  obtain ⟨g1, g2, _⟩ := B.at_ _ _ h
  refine wpAny_Call_Name_kw (ld_glob I g1 hm ?_ g2)
  refine PySem.W.callWith_K (h₀ := X.base) I.ok.mod.kin hk (thn (ra_pa.run pos pins s σ H (fun vs H' => ∃ H0', Grow H0 H H0' H' ∧ IsL X.K H0' ds vs) I (ha.run σ H0 H hs hf _ fun vs H1 H' g i => ⟨H1, g, i⟩)) fun us s1 ⟨vs, H1, I1, r1, H0', g, iv⟩ => ⟨I1.kIn, ?_⟩) he hpl
  have ln : us.length = ps.length := by rw [← r1.length, iv.len]; exact F.len _ _ hS
  have bb := hb s1 us I1.kIn (by rw [List.append_nil]; exact ln)
  rw [List.append_nil] at bb
  refine wpAny_call (codeAny_mono (F.run X.A X.stack s1 H1 us vs Q (fun _ _ _ => False) hg hr I1.env0 bb r1 ⟨H0', ds, .ok d, g.sub, iv, hS, fun v _ _ g' i' => q v _ _ (g.trans g') i'⟩) fun r s' hq => ?_)
  cases r with
  | error e => obtain ⟨_, _, _, _, _, _, _, _, _, _, _, _, z⟩ := hq; exact z.elim
  | ok fl =>
    cases fl with
    | ret u => exact I1.after hq
    | next => exact hq.elim
    | brk => exact hq.elim
    | cont => exact hq.elim
end
/-! ### the law's end, for such a law -/
theorem law_callG {P : Program} {w : World} {K : Kf} {mg mb : Str → Option Value} {k : Nat} {fa a : Addr} {fd : FuncData} {x : Str} {S : FS} {s₁ : Shared} {vs : List Value} {ns : List Int}
    (KX : K.In s₁.heap) (hns : s₁.heap.Ns mainGlobals mg) (hb : s₁.heap.Ns builtinsNs mb) (hbb : ∀ x : Str, x ≠ "__name__" → mb x = bootBuiltins x) (hlim : s₁.heap.NoLimit) (hg : s₁.gens = #[])
    (ha : s₁.heap.get? a = some { cls := .type "list", data := .seq vs.toArray }) (hi : IntsAre vs ns) (hl : ns.length ≤ sizeLine) (hr : Room k callerA)
    (F : ∀ base : Heap, K.In base → base.Ns mainGlobals mg → FnG P w K mg base k fa fd [x] S) (hbind : ∀ (s : Shared) (u : Value), BindsTo s fd ⟨[u], []⟩ [(x, u)]) (hS : S [.lst (ns.map D.int)] (.ok (.bl true))) :
    codeAny (model P w) callerA (.call (.ref fa) ⟨[.ref a], []⟩) (fun r s' => r = .ok (.ret (.bool true)) ∧ OldK s₁.heap s'.heap ∧ s'.os = s₁.os ∧ AllBare s'.gens) s₁ := by
  have rv := vals_ints hi
  have ln : vs.length = ns.length := by rw [← rv.length, List.length_map]
  have key : ∀ T : Hp, Only T → SqL K T a (ns.map V.int) → HOk P w T s₁.heap → (∀ b, T b ≠ none → b = a ∧ K.lookup a = none) → codeAny (model P w) callerA (.call (.ref fa) ⟨[.ref a], []⟩) (fun r s' => r = .ok (.ret (.bool true)) ∧ OldK s₁.heap s'.heap ∧ s'.os = s₁.os ∧ AllBare s'.gens) s₁ := by
    intro T o1 sq ok only
    have free : ∀ b, (b = a → False) → T b = none := fun b n => by
      cases z : T b with
      | none => rfl
      | some u => exact (n (only b (by rw [z]; simp)).1).elim
    have ns' : ∀ {b : Addr} {m : Str → Option Value}, s₁.heap.Ns b m → (hidT s₁.heap T).Ns b m := fun {b m} ⟨o, es, ep, e, d, r⟩ =>
      ⟨o, es, ep, hidT_get e (free b fun z => by rw [z, ha] at e; cases e; cases d), d, r⟩
    have kb : K.In (hidT s₁.heap T) := fun b o e => hidT_get (KX b o e) (by
      cases z : T b with
      | none => rfl
      | some u =>
        obtain ⟨y1, y2⟩ := only b (by rw [z]; simp)
        rw [y1, y2] at e
        cases e)
    obtain ⟨mc, l1, l2⟩ := hlim
    have e0 : Env0 P w K mg (hidT s₁.heap T) callerA [] s₁ T :=
      ⟨rfl, ⟨kb, ns' hns, ⟨mb, ns' hb, hbb⟩, ⟨mc, ns' l1, l2⟩⟩, fun b o e => of_hidT e, by rw [hidT_size]; exact Nat.le_refl _, trivial, (fun b hb => nomatch hb), ok, .of_eq hg⟩
    have rn := (F _ kb (ns' hns)).run callerA [] s₁ T [.ref a] [.ref a] (fun v _ => v = .bl true) (fun _ _ _ => False) rfl hr e0 (hbind s₁ (.ref a)) (.cons rfl .nil)
      ⟨T, [.lst (ns.map D.int)], .ok (.bl true), Same.refl T, ⟨.ref a, [], rfl, ⟨a, ns.map V.int, rfl, sq, IsL.map_int⟩, rfl⟩, hS, fun v _ _ _ i => i⟩
    refine codeAny_mono rn fun r s' q => ?_
    match r, q with
    | .error e, q => obtain ⟨_, _, _, _, _, _, _, _, _, _, _, _, z⟩ := q; exact z.elim
    | .ok (.ret u), ⟨v, T', os, bare, un, ok', rr, e⟩ =>
      cases (show v = .bl true from e)
      cases (show u = Value.bool true from rr)
      refine ⟨rfl, OldK.of_keep fun b o eb => ?_, os, bare⟩
      rcases o1 b with z | ⟨oo, xs, z⟩
      · exact un.keep b o eb z (fun y => nomatch y) (fun y => nomatch y)
      · have h1 := (ok b _ z).1
        rw [eb] at h1
        cases h1
        exact (ok' b _ (un.frzs b _ _ z)).1
  cases hk : K.lookup a with
  | some o =>
    have e := (KX a o hk).symm.trans ha
    cases e
    exact key (fun _ => none) (fun _ => .inl rfl) (.inr ⟨_, vs.toArray, _, hk, rfl, rfl, rfl, by rw [List.size_toArray, ln]; exact hl, by simpa using rv⟩) (fun b u z => nomatch z) fun b z => absurd rfl z
  | none =>
    refine key (fun b => if b = a then some (.frz { cls := .type "list", data := .seq vs.toArray } (.lst (ns.map V.int))) else none) (fun b => ?_) (.inl (.inr ⟨_, if_pos rfl⟩)) (fun b u z => ?_) fun b z => ?_
    · by_cases y : b = a
      · exact .inr ⟨_, _, if_pos y⟩
      · exact .inl (if_neg y)
    · by_cases y : b = a
      · subst y
        have z2 := (if_pos rfl).symm.trans z
        cases z2
        exact ⟨ha, by rw [List.length_map]; exact hl, vs, _, rv, ha⟩
      · have z2 := (if_neg y).symm.trans z
        cases z2
    · by_cases y : b = a
      · exact ⟨y, hk⟩
      · exact absurd (if_neg y) z
theorem walk_G {l : PySem.W.OpenLaw} {n k : Nat} {q : Program} {loose : List Str} {XP : (Str → Option Value) → Heap → Prop} {YP : World → Heap → Prop} {d : DefRec} {x : Str} {S : FS}
    (hn : l.most = some n) (hn2 : n ≤ sizeLine) (hdf : d.params.defaults = []) (hr : Room k callerA)
    (F : ∀ (w : World) (mg : Str → Option Value) (fa : Addr) (h : Heap), YP w h → h.Ns mainGlobals mg → mg d.name = some (.ref fa) →
      ∃ (K : Kf) (fd : FuncData), K.In h ∧ (∀ (s : Shared) (u : Value), BindsTo s fd ⟨[u], []⟩ [(x, u)]) ∧ ∀ base : Heap, K.In base → base.Ns mainGlobals mg → FnG l.prog w K mg base k fa fd [x] S)
    (hS : ∀ ns : List Int, ns.length ≤ n → (∀ i ∈ ns, Builtin.Int.intBits i ≤ 1048576) → S [.lst (ns.map D.int)] (.ok (.bl true))) :
    PySem.W.WalkO q loose XP YP l.row.toRowW d [] (fun f vs => PySem.call f vs) := by
  refine Att.attach_callB hn hdf fun w s₀ s₁ mg mb fa o pm cd doc a vs ns G Y ho hd hcd hmg hobj hints hlen hbits hg => ?_
  obtain ⟨K, fd, KX, hb, hF⟩ := F w mg fa _ Y G.T.g hmg
  exact law_callG KX G.T.g G.T.b G.T.builtins G.T.nolimit hg hobj hints (Nat.le_trans hlen hn2) hr hF hb (hS ns hlen hbits)
end Mw
set_option maxHeartbeats 4000000
/-! str(..) of data, where no repr is under way -/
namespace Mw
open PySem PySem.Spec PyProof.Rows L2
def toPk : Key → PyData
  | .inl i => .int i
  | .inr z => .str z
def toKvs (ks : List (Key × D)) : List (PyData × PyData) := ks.map fun kv => (toPk kv.1, toPy kv.2)
def shownD : D → Str
  | .str z => z
  | .non => "None"
  | .int i => toString i
  | .dct ks => (PyData.dict (toKvs ks)).shown
  | d => (toPy d).shown
/-- what may be shown -/
def ShowOk : D → Prop
  | .str _ => True
  | .non => True
  | .int i => i.natAbs.log2 < 1920
  | .dct ks => (∀ kv ∈ ks, plain kv.2 = true) ∧ (PyData.dict (toKvs ks)).showable = true ∧ (PyData.dict (toKvs ks)).depth ≤ 64 ∧ (PyData.dict (toKvs ks)).shown.length ≤ sizeLine
  | .tup l => plains l = true ∧ (toPy (.tup l)).showable = true ∧ (toPy (.tup l)).depth ≤ 64 ∧ (toPy (.tup l)).shown.length ≤ sizeLine
  | .lst l => plains l = true ∧ (toPy (.lst l)).showable = true ∧ (toPy (.lst l)).depth ≤ 64 ∧ (toPy (.lst l)).shown.length ≤ sizeLine
  | _ => False
section
variable {X : Cx} {pins : List (Addr × Obj)} {σ : L2.St} {H : Hp} {s : Shared}
theorem reads_kvs (I : Inv X pins σ H s) : ∀ {ks : List (Key × D)} {kvs : List (Key × V)} {vs : List (Key × Value)} {es : List DictEntry}, (∀ kv ∈ ks, plain kv.2 = true) → IsK X.K H ks kvs → KV kvs vs → Pairs (mixKind X.prog X.w) es vs →
    (∃ as, ReadsAll s.heap (es.map (·.key)) ((toKvs ks).map (·.1)) as) ∧ ∃ bs, ReadsAll s.heap (es.map (·.val)) ((toKvs ks).map (·.2)) bs
  | [], _, _, _, _, hk, kv, pr => by
    have e : _ = [] := hk
    subst e
    cases kv
    cases pr
    exact ⟨⟨_, .nil⟩, ⟨_, .nil⟩⟩
  | (k, d) :: ks, _, _, _, hp, hk, kv, pr => by
    obtain ⟨v, r, rfl, h2, h3⟩ := hk
    cases kv with
    | cons hh kt =>
      obtain ⟨e1, rv⟩ := hh
      cases pr with
      | cons ek ev pt =>
        obtain ⟨⟨as, q1⟩, ⟨bs, q2⟩⟩ := reads_kvs I (fun kv hm => hp kv (List.mem_cons_of_mem _ hm)) h3 kt pt
        obtain ⟨cs, q3⟩ := Dp.reads I _ _ _ (h2.dp (hp (k, d) List.mem_cons_self)) rv
        rw [← ev] at q3
        rw [← e1] at ek
        refine ⟨?_, ⟨_, .cons q3 q2⟩⟩
        rcases keyIs_shape (show keyIs k _ = true from ek) with ⟨i, t, e, e'⟩ | ⟨x, t, e, e'⟩
        · subst e
          refine ⟨[] ++ as, ?_⟩
          rw [List.map_cons, e']
          exact .cons (.int i t) q1
        · subst e
          refine ⟨[] ++ as, ?_⟩
          rw [List.map_cons, e']
          exact .cons (.str x t) q1
theorem noDictAll {ds : List D} (h : plains ds = true) : PyData.hasDictAll (toPys ds) = false := PyData.hasDictAll_of_canLayAll _ (canLays_plain h)
theorem toKvs_vals : ∀ ks : List (Key × D), (toKvs ks).map (·.2) = toPys (ks.map (·.2))
  | [] => rfl
  | kv :: ks => by
    show toPy kv.2 :: (toKvs ks).map (·.2) = toPy kv.2 :: toPys (ks.map (·.2))
    rw [toKvs_vals ks]
theorem plains_of : ∀ {ds : List D}, (∀ d ∈ ds, plain d = true) → plains ds = true
  | [], _ => rfl
  | d :: ds, h => by
    show (plain d && plains ds) = true
    rw [h d List.mem_cons_self, plains_of fun x hx => h x (List.mem_cons_of_mem _ hx)] <;> rfl
theorem noDict_keys : ∀ ks : List (Key × D), PyData.hasDictAll ((toKvs ks).map (·.1)) = false
  | [] => rfl
  | (.inl i, _) :: ks => by
    show (false || PyData.hasDictAll ((toKvs ks).map (·.1))) = false
    rw [noDict_keys ks] <;> rfl
  | (.inr i, _) :: ks => by
    show (false || PyData.hasDictAll ((toKvs ks).map (·.1))) = false
    rw [noDict_keys ks] <;> rfl
/-- str(d), d a dict of plain data -/
theorem str_dct {h₀ : Heap} {prog : Program} {w : World} {A : Around} {E : Value → Shared → Prop} {s : Shared} {Q : Value → Shared → Prop} {a : Addr} {o : Obj} {es : Array DictEntry} {n : Nat} {kvs : List (PyData × PyData)} {as bs : List Addr}
    (h1 : h₀.get? a = some o) (h2 : o.cls = .type "dict") (h3 : o.data = .dict es n) (r1 : ReadsAll h₀ (es.toList.map (·.key)) (kvs.map (·.1)) as) (r2 : ReadsAll h₀ (es.toList.map (·.val)) (kvs.map (·.2)) bs) (hsys : (a == sysModules) = false)
    (n1 : PyData.hasDictAll (kvs.map (·.1)) = false) (n2 : PyData.hasDictAll (kvs.map (·.2)) = false) (hs : (PyData.dict kvs).showable = true) (hz : (PyData.dict kvs).shown.length ≤ sizeLine) (hg : A.guards = some []) (hu : A.units + ((PyData.dict kvs).depth + 3) < cLine)
    (hk0 : ∀ b o, h₀.get? b = some o → s.heap.get? b = some o) (hQ : ∀ h' u tk, (∀ b o, s.heap.get? b = some o → h'.get? b = some o) → Q (.str (PyData.dict kvs).shown u) { s with heap := h', toks := tk }) : wpAny (model prog w) A (call (.type "str") [.ref a]) Q E s := by
  have r : Reads h₀ (.ref a) (.dict kvs) _ := .dict h1 h2 h3 r1 r2
  have hz' : (dictText (PyData.shownKv kvs)).length ≤ sizeLine := by simpa only [PyData.shown] using hz
  obtain ⟨hs1, hs2⟩ := PyData.showableKv_split kvs (by simpa [PyData.showable] using hs)
  simp only [PyData.depth] at hu
  simp only [PyData.shown, PyData.shownKv_eq] at hQ
  refine callType_new PySem.F.called_str (by decide) (PySem.F.typeCall_str_1 _) (PySem.F.newCall_str_1 _) (fun obj => F.args_object_init_2 obj _) PySem.F.entry_str_new
    (meets_str_new (S := fun A' R s' => A'.guards = some [] ∧ A'.units + (PyData.depthKv kvs + 3) < cLine ∧ (∀ b o, h₀.get? b = some o → s'.heap.get? b = some o) ∧
        ∀ h' u tk, (∀ b o, s'.heap.get? b = some o → h'.get? b = some o) → R (.ok (.ret (.str (dictText (PyData.shownKv kvs)) u))) { s' with heap := h', toks := tk }) fun prog' w' A' R s' h => ?_)
    ⟨hg, by show A.units + 1 + (PyData.depthKv kvs + 3) < cLine; omega, hk0, fun h' u tk hk => ⟨typeIs_str _ _ _, by rw [PyData.shownKv_eq]; exact hQ h' u tk hk⟩⟩
  obtain ⟨g1, g2, g3, g4⟩ := h
  obtain ⟨b1, hb1, k1⟩ := ReprAllK.of_readsAll (prog := prog') (w := w') r1 hs1 (fun z => by rw [n1] at z; cases z) (fun t ht => let ⟨p, hp, hl⟩ := PyData.shownKv_key_le kvs t ht; Nat.le_trans hl (Nat.le_trans (dictText_mem_le hp) hz'))
  obtain ⟨b2, hb2, k2⟩ := ReprAllK.of_readsAll (prog := prog') (w := w') r2 hs2 (fun z => by rw [n2] at z; cases z) (fun t ht => let ⟨p, hp, hl⟩ := PyData.shownKv_val_le kvs t ht; Nat.le_trans hl (Nat.le_trans (dictText_mem_le hp) hz'))
  have hb : ReadAtMost h₀ (PyData.depthKv kvs) (b1 ++ b2) := (hb1.mono (PyData.depthAll_keys_le kvs)).append (hb2.mono (PyData.depthAll_vals_le kvs))
  have hna : a ∉ b1 ++ b2 := not_mem_of_deeper r (by simp only [PyData.depth]; omega) hb
  refine wpAny_strOf_slot rfl (by show A'.units + 1 + 1 < cLine; omega) ⟨o, g3 _ _ h1, h2⟩ F.slot_dict_str F.slot_dict_repr ?_
  refine call_dict_reprK h1 h2 h3 hsys hna (ReprEntriesK.of_two es.toList _ _ (k1.more_le (fun b hb => List.mem_append_left _ hb) (PyData.depthAll_keys_le kvs)) (k2.more_le (fun b hb => List.mem_append_right _ hb) (PyData.depthAll_vals_le kvs))) (g := []) g1 (fun b _ => Clear.nil b)
    (by show A'.units + 1 + 1 + (PyData.depthKv kvs + 1) < cLine; omega) g3 (fun h' u tk hk' => ⟨_, u, rfl, ?_⟩) (by rw [← PyData.shownKv_eq]; exact hz')
  rw [← PyData.shownKv_eq]
  exact g4 h' u tk hk'
/-- str(d) -/
theorem call_strD (hg : X.A.guards = some []) (hu : X.A.units + 100 < cLine) {d : D} (hd : ShowOk d) : CallR X (.type "str") (fun xs H Q => ∃ v, xs = [v] ∧ Is X.K H d v ∧ Q (.str (shownD d)) H) := by
  intro pins s σ H xs us Q I r h
  obtain ⟨v, rfl, iv, q⟩ := h
  obtain ⟨u, rfl, rv⟩ := vals1 r
  cases d with
  | str z =>
    cases (show v = .str z from iv)
    obtain ⟨t, rfl⟩ := rv
    exact PySem.P.str_of_str ⟨.str z, H, I, ⟨t, rfl⟩, q⟩
  | non =>
    cases (show v = .non from iv)
    cases rv
    exact PySem.P.str_of_none ⟨.str "None", H, I.tok _, ⟨_, rfl⟩, q⟩
  | int i =>
    cases (show v = .int i from iv)
    obtain ⟨t, rfl⟩ := rv
    exact PySem.P.str_of_int hd ⟨.str _, H, I.tok _, ⟨_, rfl⟩, q⟩
  | tup l =>
    obtain ⟨h1, h2, h3, h4⟩ := hd
    obtain ⟨as, rd⟩ := Dp.reads I _ _ _ (Is.dp (d := .tup l) h1 iv) rv
    obtain ⟨a, _, rfl, _⟩ := iv
    cases rv
    exact PySem.str_of_reads rd h2 (PyData.noDict_hsm (PyData.hasDict_of_canLay _ (canLay_plain (d := .tup l) h1))) hg (by omega) (fun _ _ e => e) (fun h' u tk hk => ⟨.str _, H, I.kept (t' := tk) hk, ⟨u, rfl⟩, q⟩) h4
  | lst l =>
    obtain ⟨h1, h2, h3, h4⟩ := hd
    obtain ⟨as, rd⟩ := Dp.reads I _ _ _ (Is.dp (d := .lst l) h1 iv) rv
    obtain ⟨a, _, rfl, _⟩ := iv
    cases rv
    exact PySem.str_of_reads rd h2 (PyData.noDict_hsm (PyData.hasDict_of_canLay _ (canLay_plain (d := .lst l) h1))) hg (by omega) (fun _ _ e => e) (fun h' u tk hk => ⟨.str _, H, I.kept (t' := tk) hk, ⟨u, rfl⟩, q⟩) h4
  | dct ks =>
    obtain ⟨h1, h2, h3, h4⟩ := hd
    obtain ⟨a, kvs, rfl, hr, hk⟩ := iv
    cases rv
    obtain ⟨hz, hs, vs, kv, o, es, ep, ho, hx, hda, hks, hpr, nd⟩ := dk_rd I.hok hr
    obtain ⟨⟨as, r1⟩, ⟨bs, r2⟩⟩ := reads_kvs I h1 hk kv hpr
    refine str_dct ho hx.1 hda r1 r2 hs (noDict_keys ks) ?_ h2 h4 hg (by omega) (fun _ _ e => e) fun h' u tk hk => ⟨.str _, H, I.kept (t' := tk) hk, ⟨u, rfl⟩, q⟩
    rw [toKvs_vals]
    refine noDictAll (plains_of fun d hd => ?_)
    obtain ⟨x, hx, rfl⟩ := List.mem_map.mp hd
    exact h1 x hx
  | bl b => exact hd.elim
  | ty n => exact hd.elim
  | cls n => exact hd.elim
  | obj C fs => exact hd.elim
  | xc a dd fs => exact hd.elim
  | exv C fs => exact hd.elim
theorem ca_strD (hg : X.A.guards = some []) (hu : X.A.units + 100 < cLine) {d : D} (hd : ShowOk d) : CaD X (.type "str") [d] (.str (shownD d)) := ⟨_, call_strD hg hu hd, fun vs H0 H hs hv Q q => by
  obtain ⟨v, rfl, iv⟩ := is1 hv
  exact ⟨v, rfl, iv.mono hs, q _ H0 H (Grow.refl hs) rfl⟩⟩
end
end Mw
set_option maxHeartbeats 4000000
/-! more of dicts: dict(d), dict(pairs), ==, pop, len, enumerate -/
namespace Mw
open PySem PySem.Spec PyProof.Rows L2
section
variable {X : Cx} {gs : List Str} {i : Nat} {e : Expr} {as : DE} {p pos : Pos} {ks : List (Key × D)} {kk : Nat}
/-! ### dict(..) -/
theorem cn_dictC : CaN X (.type "dict") [.dct ks] (.dct ks) := ⟨_, call_dictD, fun vs H0 H hs hv Q q => by
  obtain ⟨v, rfl, a, kvs, rfl, hr, hk⟩ := is1 hv
  exact ⟨a, kvs, rfl, Same.rd hs hr, fun p hp => q p H0 _ (Grow.made hs hp) hp (hs.free hp) ⟨kvs, upd_same, hk⟩⟩⟩
theorem n_dictC (B : Gls X gs) (h : At gs "dict" i) (hm : X.mg "dict" = none) (he : EE X e as (.dct ks)) (hs : starEach [e] X.env = (false, eval e X.env) :: starEach [] X.env := by rfl) : EN X (.Call (.Name "dict" p) [e] [] pos) as (.dct ks) :=
  let ⟨h1, h2, h3⟩ := B.at_ _ _ h
  en_callTy (ea_cons he ea_nil hs) cn_dictC h1 hm boot_dict h3 h2 hs rfl
theorem is_pairs {K : PySem.W.Frag} {H : Hp} : ∀ {ps : List (Key × D)} {vs : List V}, IsL K H (ps.map entD) vs → ∃ (qs : List Addr) (kvs : List (Key × V)), vs = qs.map V.ref ∧ Paired (fun q (kv : Key × V) => SqT K H q [kV kv.1, kv.2]) qs kvs ∧ IsK K H ps kvs
  | [], _, h => ⟨[], [], show _ = [] from h, .nil, rfl⟩
  | (k, d) :: ps, _, h => by
    obtain ⟨v, r, rfl, h2, h3⟩ := h
    obtain ⟨qs, kvs, rfl, e2, e3⟩ := is_pairs h3
    obtain ⟨a, us, rfl, g1, g2⟩ := h2
    obtain ⟨v1, v2, rfl, i1, i2⟩ := is2 g2
    rw [kD_is i1] at g1
    exact ⟨a :: qs, (k, v2) :: kvs, rfl, .cons g1 e2, v2, kvs, rfl, i2, e3⟩
theorem Same.pairs {K : PySem.W.Frag} {H H' : Hp} (e : Same H H') : ∀ {qs : List Addr} {kvs : List (Key × V)}, Paired (fun q (kv : Key × V) => SqT K H q [kV kv.1, kv.2]) qs kvs → Paired (fun q (kv : Key × V) => SqT K H' q [kV kv.1, kv.2]) qs kvs
  | _, _, .nil => .nil
  | _, _, .cons h t => .cons (Same.tup e h) (Same.pairs e t)
theorem cn_dictP (hc : X.calm = true) : CaN X (.type "dict") [.lst (ks.map entD)] (.dct (mergeKD [] ks)) := ⟨_, call_dictP hc, fun vs H0 H hs hv Q q => by
  obtain ⟨v, rfl, a, us, rfl, hr, hk⟩ := is1 hv
  obtain ⟨qs, kvs, rfl, e2, e3⟩ := is_pairs hk
  exact ⟨a, qs, kvs, rfl, Same.lst hs hr, Same.pairs hs e2, fun p hp => q p H0 _ (Grow.made hs hp) hp (hs.free hp) ⟨_, upd_same, e3.merge (ks := []) rfl⟩⟩⟩
theorem n_dictP (B : Gls X gs) (hc : X.calm = true) (h : At gs "dict" i) (hm : X.mg "dict" = none) (he : EE X e as (.lst (ks.map entD))) (hs : starEach [e] X.env = (false, eval e X.env) :: starEach [] X.env := by rfl) : EN X (.Call (.Name "dict" p) [e] [] pos) as (.dct (mergeKD [] ks)) :=
  let ⟨h1, h2, h3⟩ := B.at_ _ _ h
  en_callTy (ea_cons he ea_nil hs) (cn_dictP hc) h1 hm boot_dict h3 h2 hs rfl
/-! ### len(d) -/
theorem call_lenK : CallR X (.builtin "len") (fun xs H Q => ∃ a kvs, xs = [V.ref a] ∧ Rd H a (.dK kvs) ∧ Q (.int kvs.length) H) := by
  intro pins s σ H xs us Q I r h
  obtain ⟨a, kvs, rfl, hr, q⟩ := h
  obtain ⟨u, rfl, ru⟩ := vals1 r
  cases ru
  exact d_len I hr fun t s' I' => ⟨.int kvs.length, H, I', ⟨t, rfl⟩, q⟩
theorem ca_lenK : CaD X (.builtin "len") [.dct ks] (.int (ks.length : Nat)) := ⟨_, call_lenK, fun vs H0 H hs hv Q q => by
  obtain ⟨v, rfl, a, kvs, rfl, hr, hk⟩ := is1 hv
  refine ⟨a, kvs, rfl, Same.rd hs hr, ?_⟩
  rw [hk.len]
  exact q _ H0 H (Grow.refl hs) rfl⟩
/-! ### == of dicts that are alike -/
theorem valD_nd {k : Key} {d : D} : ∀ {ks : List (Key × D)}, (ks.map (·.1)).Nodup → (k, d) ∈ ks → valD ks k = some d
  | [], _, h => nomatch h
  | (j, x) :: ks, nd, h => by
    rw [List.map_cons, List.nodup_cons] at nd
    unfold valD
    rw [List.find?_cons]
    by_cases e : j = k
    · rcases List.mem_cons.mp h with z | z
      · cases z
        rw [decide_eq_true (show (k, d).1 = k from rfl)]
        rfl
      · exact absurd (List.mem_map.mpr ⟨(k, d), z, rfl⟩) (by rw [← e]; exact nd.1)
    · rw [decide_eq_false (show ¬ (j, x).1 = k from e)]
      rcases List.mem_cons.mp h with z | z
      · cases z
        exact absurd rfl e
      · exact valD_nd nd.2 z
theorem hits_same {pins : List (Addr × Obj)} {σ : L2.St} {H : Hp} {s : Shared} (I : Inv X pins σ H s) {A : Around} (hu : A.units + 64 < cLine) {ks : List (Key × D)} {kvs' : List (Key × V)} {vb : List (Key × Value)} (nd : (ks.map (·.1)).Nodup) (hb : IsK X.K H ks kvs') (rb : KV kvs' vb) :
    ∀ {ls : List (Key × D)} {kvs : List (Key × V)} {va : List (Key × Value)}, (∀ kv ∈ ls, kv ∈ ks ∧ pyOk kv.2 = true) → IsK X.K H ls kvs → KV kvs va → PySem.W.KeqHits A s vb va true
  | [], _, _, _, h, ra => by
    cases (show _ = [] from h)
    cases ra
    exact .nil
  | (k, d) :: ls, _, _, hm, h, ra => by
    obtain ⟨v, r, rfl, h2, h3⟩ := h
    cases ra with
    | cons hh t =>
      rename_i q qs
      obtain ⟨k', u⟩ := q
      obtain ⟨e1, rv⟩ := hh
      cases (show k = k' from e1)
      obtain ⟨m1, m2'⟩ := hm (k, d) List.mem_cons_self
      have m2 : pyOk d = true := m2'
      obtain ⟨v', hv', iv'⟩ := hb.val (valD_nd nd m1)
      have rr : RelO (some v') (valueAt vb k) := by rw [← hv']; exact rb.val k
      obtain ⟨y, hy, ry⟩ := rr.some_of
      obtain ⟨c1, r1⟩ := Dp.reads I _ _ _ (h2.dp (pyOk.plain m2)) rv
      obtain ⟨c2, r2⟩ := Dp.reads I _ _ _ (iv'.dp (pyOk.plain m2)) ry
      have cl := canLay_plain (pyOk.plain m2)
      have dp : (toPy d).depth ≤ 64 := SeqAt.depth_of_shaped (pyOk.shaped m2)
      have eq := SeqAt.eqAt_reads _ _ A s _ _ _ _ r1 r2 cl cl (by omega)
      have tr : PyData.eqv (toPy d) (toPy d) = true := SeqAt.eqv_refl (toPy d) cl
      rw [tr] at eq
      exact .hit hy eq (hits_same I hu nd hb rb (fun kv h => hm kv (List.mem_cons_of_mem _ h)) h3 t)
theorem oc_eqK (hr : Room kk X.A) (nd : (ks.map (·.1)).Nodup) (hp : ∀ kv ∈ ks, pyOk kv.2 = true) : OpD X (compareOp .Eq) (.dct ks) (.dct ks) (.bl true) := ⟨fun x y H Q => Is X.K H (.dct ks) x ∧ Is X.K H (.dct ks) y ∧ Q (.bl true) H, fun pins s σ H x y v u Q I rx ry h => by
  obtain ⟨⟨a, kvs, rfl, ha, ia⟩, ⟨b, kvs', rfl, hb, ib⟩, q⟩ := h
  cases rx
  cases ry
  obtain ⟨_, ya, va, ra, da⟩ := dk_rd I.hok ha
  obtain ⟨_, yb, vb, rb, db⟩ := dk_rd I.hok hb
  have hl : va.length = vb.length := by rw [← Paired.length ra, ← Paired.length rb, ia.len, ib.len]
  have un := hr.units
  exact PySem.W.keq_eq (knd := mixKind X.prog X.w) (r := true) ya yb da db (by omega) (fun _ => hits_same I (by show X.A.units + 1 + 64 < cLine; have := hr.un; omega) nd ib rb (fun kv h => ⟨h, hp kv h⟩) ia ra) ⟨.bl true, H, I, by rw [hl]; simp; rfl, q⟩,
  fun v w H0 H hs h1 h2 Q q => ⟨h1.mono hs, h2.mono hs, q _ H0 H (Grow.refl hs) rfl⟩⟩
theorem oc_neK (hr : Room kk X.A) (nd : (ks.map (·.1)).Nodup) (hp : ∀ kv ∈ ks, pyOk kv.2 = true) : OpD X (compareOp .NotEq) (.dct ks) (.dct ks) (.bl false) := ⟨fun x y H Q => Is X.K H (.dct ks) x ∧ Is X.K H (.dct ks) y ∧ Q (.bl false) H, fun pins s σ H x y v u Q I rx ry h => by
  obtain ⟨⟨a, kvs, rfl, ha, ia⟩, ⟨b, kvs', rfl, hb, ib⟩, q⟩ := h
  cases rx
  cases ry
  obtain ⟨_, ya, va, ra, da⟩ := dk_rd I.hok ha
  obtain ⟨_, yb, vb, rb, db⟩ := dk_rd I.hok hb
  have hl : va.length = vb.length := by rw [← Paired.length ra, ← Paired.length rb, ia.len, ib.len]
  have un := hr.units
  exact PySem.W.keq_ne (knd := mixKind X.prog X.w) (r := true) ya yb da db (by omega) (fun _ => hits_same I (by show X.A.units + 1 + 64 < cLine; have := hr.un; omega) nd ib rb (fun kv h => ⟨h, hp kv h⟩) ia ra) ⟨.bl false, H, I, by rw [hl]; simp; rfl, q⟩,
  fun v w H0 H hs h1 h2 Q q => ⟨h1.mono hs, h2.mono hs, q _ H0 H (Grow.refl hs) rfl⟩⟩
/-! ### enumerate -/
def enumD : Nat → List D → List D
  | _, [] => []
  | n, d :: ds => .tup [.int (n : Nat), d] :: enumD (n + 1) ds
theorem enumD_len : ∀ (n : Nat) (ds : List D), (enumD n ds).length = ds.length
  | _, [] => rfl
  | n, d :: ds => by
    show (enumD (n + 1) ds).length + 1 = ds.length + 1
    rw [enumD_len]
theorem enumD_get : ∀ {n i : Nat} {ds : List D} {x : D}, (enumD n ds)[i]? = some x → ∃ d, ds[i]? = some d ∧ x = .tup [.int ((n + i : Nat) : Int), d]
  | n, _, [], x, h => by cases (show none = some x by simpa [enumD] using h)
  | n, 0, d :: ds, x, h => by
    cases (show some (D.tup [.int (n : Nat), d]) = some x from h)
    exact ⟨d, rfl, rfl⟩
  | n, i + 1, d :: ds, x, h => by
    obtain ⟨y, h1, h2⟩ := enumD_get (n := n + 1) (i := i) (ds := ds) (x := x) h
    exact ⟨y, h1, by rw [h2, show n + 1 + i = n + (i + 1) by omega]⟩
theorem iw_enum {elts : List Expr} {k2 : Nat} {tp : Pos} {ds : List D} (B : Gls X gs) (h : At gs "enumerate" i) (hm : X.mg "enumerate" = none) (he : EE X e as (.lst ds)) (hs : starEach [e] X.env = [(false, eval e X.env)] := by rfl) : IW X (.Tuple elts k2 tp) (.Call (.Name "enumerate" p) [e] [] pos) as (enumD 0 ds) :=
  ⟨_, pi_enum (B.at_ _ _ h).1 hm (ra_pa (es := [e])) hs, fun σ H0 H hsm hf R q => (ea_cons he ea_nil hs).run σ H0 H hsm hf _ fun vs H1 H' g iv => by
    obtain ⟨v, rfl, a, us, rfl, hq, hv⟩ := is1 iv
    have hl := hv.len
    refine ⟨a, us, rfl, Same.lst g.sub hq, q _ H1 H' g ⟨fun H2 e => ⟨us, Same.lst e hq, by rw [enumD_len]; omega⟩, fun i H2 hi e => ?_, fun i d H2 H3 x H4 hd e1 e2 hy => ?_⟩⟩
    · rw [enumD_len] at hi
      exact ⟨us, us[i]'(by omega), Same.lst e hq, List.getElem?_eq_getElem _⟩
    · obtain ⟨T, y, rfl, hT, rfl, hx⟩ := hy
      obtain ⟨d', h1, rfl⟩ := enumD_get hd
      obtain ⟨u, q1, q2⟩ := hv.get h1
      have e3 := hx us (Same.lst (e1.trans e2) hq)
      rw [q1] at e3
      cases e3
      exact ⟨_, Grow.laid e2 hT, T, _, rfl, .inl (.inl upd_same), _, _, rfl, by rw [Nat.zero_add]; exact rfl, .one (q2.mono (e1.trans (Same.new (e2.free hT))))⟩⟩
end
/-! ### n.pop(k), for what it does -/
def dropKD (ks : List (Key × D)) (k : Key) : List (Key × D) := ks.filter fun kv => decide (kv.1 ≠ k)
theorem IsK.drop {K : PySem.W.Frag} {H : Hp} {k : Key} : ∀ {ks : List (Key × D)} {kvs : List (Key × V)}, IsK K H ks kvs → IsK K H (dropKD ks k) (dropK kvs k)
  | [], _, h => by rw [show _ = [] from h]; exact rfl
  | (j, x) :: ks, _, h => by
    obtain ⟨v, r, rfl, h2, h3⟩ := h
    unfold dropKD dropK
    rw [List.filter_cons, List.filter_cons]
    by_cases e : j = k
    · rw [if_neg (by simpa using e), if_neg (by simpa using e)]
      exact IsK.drop h3
    · rw [if_pos (by simpa using e), if_pos (by simpa using e)]
      exact ⟨v, _, rfl, h2, IsK.drop h3⟩
section
variable {X : Cx} {N L gs : List Str} {kk : Nat} {sc : Scope} {n : Str} {i : Nat} {Gs G : Hp} {as as1 : AS} {F : Fin} {ks : List (Key × D)} {k : Key} {d : D} {e : Expr} {p ap cp pos : Pos}
theorem t_dpop (B : Body X N L gs kk sc) (h : At L n i) (ha : as[i]? = some (.ow (.dct ks))) (hk : EE X e (hid as) (kD k)) (hv : valD ks k = some d) (hst : SetA as i (.ow (.dct (dropKD ks k))) as1) (q : F.nx as1)
    (m : M1 X (.Name n p) "pop" ap e cp := by exact ⟨rfl, rfl, rfl, rfl⟩) (hs : swapsWith (.Call (.Attribute (.Name n p) "pop" ap) [e] [] cp) none pos.line X.env = pure false := by rfl) : S1 X Gs G (.Expr (.Call (.Attribute (.Name n p) "pop" ap) [e] [] cp) pos) as F := .mk fun σ H H0 S E ok => by
  obtain ⟨a1, a2, a3, a4⟩ := B.locs h
  obtain ⟨l, s1, s2, s3, kvs, hu, hi⟩ := S.ow i _ ha
  refine rs_of (ps_expr (pe_dpop1 (pe_var a1 (loc_vis a2) a3 a4) re_pe m) hs) ?_
  refine ⟨_, s1, l, rfl, .inl ⟨kvs, .inl hu⟩, hk.run σ H0 H S.grow.sub S.hid _ fun w H1 H' g iw => ?_⟩
  have S' := S.more g
  have hi' := hi.mono g.frz
  obtain ⟨v, hv1, iv⟩ := hi'.val hv
  refine ⟨kvs, k, v, g.all _ _ hu, kD_is iw, hv1, ?_⟩
  exact ok.nx σ _ _ H1 g.frz (S'.write (d := .dct ks) (d' := .dct (dropKD ks k)) ha s1 ⟨_, upd_same, hi'.drop⟩) (by rw [hst.eq]; exact q)
end
end Mw
set_option maxHeartbeats 4000000
namespace Mw
open PySem PySem.Spec PyProof.Rows L2
local macro_rules | `(tactic| nest_cls) => `(tactic| (repeat (first | (with_reducible exact Mw.At.here) | (with_reducible apply Mw.At.there))))
local macro_rules | `(tactic| ktu_offL) => `(tactic| (repeat (first | (with_reducible exact Mw.SetA.here) | (with_reducible apply Mw.SetA.there))))
local macro_rules | `(tactic| k_allIn) => `(tactic| (with_reducible first | apply Mw.ca_isI | apply Mw.ca_isB | apply Mw.ca_isS | apply Mw.ca_isT | apply Mw.ca_isL | apply Mw.ca_isDc | apply Mw.ca_lenS | apply Mw.ca_lenT | apply Mw.ca_lenL | exact Mw.ca_intI | exact Mw.ca_intB | apply Mw.ca_intS | apply Mw.ca_strI))
local macro_rules | `(tactic| lcg_sub) => `(tactic| (with_reducible first
  | exact Mw.od_addI | exact Mw.od_subI | exact Mw.oc_eqI | exact Mw.oc_neI | exact Mw.oc_lt | exact Mw.oc_le | exact Mw.oc_gt | exact Mw.oc_ge | exact Mw.oc_isN | exact Mw.oc_notN | exact Mw.oc_isB | exact Mw.oc_notB | exact Mw.oc_eqS | exact Mw.oc_neS
  | apply Mw.od_mod | apply Mw.od_fdiv | apply Mw.od_mul | apply Mw.od_pow | apply Mw.od_addS
  | apply Mw.od_catL | apply Mw.od_mulS
  | apply Mw.oc_inT | apply Mw.oc_inL | apply Mw.oc_ninT | apply Mw.oc_ninL | exact Mw.oc_inS | exact Mw.oc_ninS
  | (apply Mw.oc_eqD; (with_reducible first | assumption | exact Mw.Body.room (by assumption) | exact L2.Room.mono (Mw.Body.room (by assumption)) (by with_unfolding_all decide))) | (apply Mw.oc_neD; (with_reducible first | assumption | exact Mw.Body.room (by assumption) | exact L2.Room.mono (Mw.Body.room (by assumption)) (by with_unfolding_all decide)))))
local macro_rules | `(tactic| k_clsL) => `(tactic| (with_reducible first | exact boot_int | exact boot_bool | exact boot_str | exact boot_tuple | exact boot_list | exact boot_dict))
local macro_rules | `(tactic| lcg_off) => `(tactic| (first
  | with_reducible exact Mw.ee_int | with_reducible exact Mw.ee_str
  | (with_reducible apply Mw.e_name; (with_reducible assumption); nest_cls; with_unfolding_all rfl)
  | (with_reducible apply Mw.e_nameB; (with_reducible assumption); (repeat (first | (with_reducible exact Mw.AtB.here) | (with_reducible apply Mw.AtB.there))); with_unfolding_all rfl)
  | with_reducible apply Mw.ee_bin
  | with_reducible apply Mw.ee_cmp
  | with_reducible apply Mw.ee_chain
  | (with_reducible apply Mw.e_call; (with_reducible assumption); (with_reducible assumption); nest_cls; (with_reducible first | assumption | exact Mw.Body.room (by assumption) | exact L2.Room.mono (Mw.Body.room (by assumption)) (by with_unfolding_all decide)))
  | with_reducible exact Mw.ee_bl | with_reducible exact Mw.ee_non
  | (with_reducible apply Mw.e_isi; (with_reducible assumption); nest_cls; (with_reducible assumption))
  | (with_reducible apply Mw.e_ty; (with_reducible assumption); nest_cls; (with_reducible assumption); k_clsL)
  | (with_reducible apply Mw.e_abs; (with_reducible assumption); nest_cls; (with_reducible assumption))
  | (with_reducible apply Mw.e_len; (with_reducible assumption); nest_cls; (with_reducible assumption))
  | (with_reducible apply Mw.e_divmod; (with_reducible assumption); nest_cls; (with_reducible assumption))
  | (with_reducible apply Mw.e_int; (with_reducible assumption); nest_cls; (with_reducible assumption))
  | (with_reducible apply Mw.e_strc; (with_reducible assumption); nest_cls; (with_reducible assumption))
  | (with_reducible apply Mw.e_cls; (with_reducible assumption); nest_cls; (with_reducible assumption))
  | (with_reducible apply Mw.e_cst; (with_reducible assumption); (with_reducible assumption); nest_cls)
  | with_reducible apply Mw.ee_neg
  | with_reducible apply Mw.ee_not
  | with_reducible apply Mw.ee_one
  | (with_reducible apply Mw.ee_and) | (with_reducible apply Mw.ee_or)
  | with_reducible apply Mw.ee_tup
  | (with_reducible apply Mw.EN.ee; with_reducible apply Mw.en_lst)
  | (with_reducible apply Mw.EN.ee; with_reducible exact Mw.en_dnew)
  | with_reducible apply Mw.ee_slS
  | with_reducible apply Mw.ee_sub
  | (with_reducible apply Mw.e_new0; (with_reducible assumption); (with_reducible assumption); nest_cls)
  | with_reducible apply Mw.e_zfill
  | with_reducible apply Mw.e_meth
  | (with_reducible apply Mw.e_mk; (with_reducible assumption); (with_reducible assumption); nest_cls; (with_reducible first | assumption | exact Mw.Body.room (by assumption) | exact L2.Room.mono (Mw.Body.room (by assumption)) (by with_unfolding_all decide)))
  | with_reducible apply Mw.e_xv
  | with_reducible apply Mw.ee_joined | with_reducible apply Mw.ee_fmt))
local macro_rules | `(tactic| k_memK) => `(tactic| (first
  | (with_reducible change Mw.EE _ _ _ _; lcg_off)
  | (with_reducible change Mw.EA _ _ _ _; (first | with_reducible exact Mw.ea_nil | with_reducible apply Mw.ea_cons))
  | (with_reducible change Mw.OpD _ _ _ _ _; lcg_sub)
  | (with_reducible change Mw.CaD _ _ _ _; k_allIn)
  | (with_reducible change Mw.ET _ _ _ _; (first | with_reducible apply Mw.et_cmp | with_reducible apply Mw.et_chain | with_reducible apply Mw.et_not | (with_reducible apply Mw.EW.et; with_reducible first | apply Mw.ew_and | apply Mw.ew_or) | with_reducible apply Mw.et_val))
  | (with_reducible change Mw.EW _ _ _ _; (with_reducible first | apply Mw.ew_and1 | apply Mw.ew_or1 | apply Mw.ew_and | apply Mw.ew_or))
  | (with_reducible change Mw.EN _ _ _ _; (with_reducible apply Mw.en_lst))
  | (with_reducible change Mw.ETs _ _ _ _; (with_reducible first | exact Mw.ets_nil | apply Mw.ets_one))
  | (with_reducible change (PySem.starEach _ _ = _); with_unfolding_all rfl)
  | (with_reducible change (PySem.behindInMarks _ _ = _); with_unfolding_all rfl)
  | (with_reducible change (PySem.lastMarks _ _ = _); with_unfolding_all rfl)
  | (with_reducible change (List.any _ _ = _); with_unfolding_all rfl)
  | (with_reducible change (PySem.swapsWith _ _ _ _ = _); with_unfolding_all rfl)
  | (with_reducible change (PySem.swapsWithSole _ _ _ _ = _); with_unfolding_all rfl)
  | (with_reducible change (PySem.swappedStores _ _ _ = _); with_unfolding_all rfl)
  | (with_reducible change Mw.SubD _ _ _ _ _; (with_reducible first | apply Mw.sub_T | apply Mw.sub_L))
  | (with_reducible change Mw.FmD _ _; (with_reducible first | (apply Mw.FmD.int; assumption) | apply Mw.FmD.int | apply Mw.FmD.str))
  | (with_reducible change Mw.EJ _ _ _ _ _; (with_reducible first | exact Mw.EJ.nil | apply Mw.EJ.cons))
  | (with_reducible change (L2.atI _ _ = _); with_unfolding_all rfl)
  | (with_reducible change (PySem.attributeBase _ _ _ _ = _); with_unfolding_all rfl)
  | (with_reducible change Mw.EO _ _ _ _; (with_reducible first | exact Mw.eo_none | apply Mw.eo_some))
  | (with_reducible change Mw.MetE _ _ _ _ _ _ _ _ _ _; with_reducible assumption)
  | (with_reducible change L2.Room _ _; (with_reducible first | assumption | exact Mw.Body.room (by assumption) | exact L2.Room.mono (Mw.Body.room (by assumption)) (by with_unfolding_all decide)))
  | (with_reducible change (List.lookup _ _ = none); with_unfolding_all rfl)
  | (with_reducible change (PySem.eval _ _ = _); with_unfolding_all rfl)
  | (with_reducible change (BEq.beq _ _ = true); with_unfolding_all rfl)
  | (with_reducible change ((_ && _) = true); with_unfolding_all rfl)
  | (with_reducible change Mw.IpD _ _ _ _ _; (with_reducible first | exact Mw.ip_addI | exact Mw.ip_subI))
  | (with_reducible change Mw.XvC _ _; with_reducible assumption)
  | (with_reducible change Mw.NoAt _ _ _; with_reducible assumption)
  | (with_reducible change (List.lookup _ _ = some _); with_unfolding_all rfl)
  | (with_reducible change (List.length _ = List.length _); with_unfolding_all rfl)
  | (with_reducible change (List.length _ ≤ 1000); exact Nat.le_of_ble_eq_true (by with_unfolding_all rfl))
  | (with_reducible change (Mw.isThing _ = true); (first | with_reducible assumption | with_unfolding_all rfl))
  | (with_reducible change (L2.PlainIx _); with_unfolding_all exact fun _ _ => rfl)
  | (with_reducible change (_ ≤ sizeLine); with_reducible assumption)
  | (with_reducible change (_ < sizeLine); with_reducible assumption)
  | (with_reducible change (L2.CMulW _ _); with_reducible assumption)
  | (with_reducible change (L2.CDivW _ _); exact Mw.cdivL (by decide) (by decide))
  | (with_reducible change ((0 : Int) < _); decide)
  | (with_reducible change (L2.CPow _ _); with_unfolding_all exact ⟨by decide, by decide, by decide⟩)
  | (with_reducible change (_ ≤ sizeLine); exact Mw.len_le (by with_unfolding_all rfl))
  | (with_reducible change (∀ _, PySem.isTrue _ _ _ = _); with_unfolding_all (intro _; rfl))
  | (with_reducible change (_ = true → Mw.EE _ _ _ _); intro _)
  | (with_reducible change (_ = false → Mw.EE _ _ _ _); intro _)
  | (with_reducible change (_ = true → Mw.EW _ _ _ _); intro _)
  | (with_reducible change (_ = false → Mw.EW _ _ _ _); intro _)
  | (with_reducible change (Mw.SetA _ _ _ _); ktu_offL)))
local macro_rules | `(tactic| ktu_offI) => `(tactic| ((conv => (arg 4; whnf)); have _nm := Mw.Body.nms (by assumption); have _gl := Mw.Body.glb (by assumption); simp only [Mw.startA, List.map_cons, List.map_nil, List.length_cons, List.length_nil, List.cons_append, List.nil_append, List.replicate_succ, List.replicate_zero, Nat.reduceAdd, Nat.reduceSub]))
local macro_rules | `(tactic| k_subL) => `(tactic| (first
  | with_reducible apply Mw.ss_one
  | with_reducible apply Mw.ss_cons
  | with_reducible apply Mw.ss_nil
  | with_reducible apply Mw.s1_ret
  | with_reducible apply Mw.s1_retN
  | with_reducible apply Mw.s1_pass
  | (with_reducible apply Mw.t_set; (with_reducible assumption); nest_cls)
  | (with_reducible apply Mw.h_set; (with_reducible assumption); nest_cls)
  | (with_reducible apply Mw.t_two; (with_reducible assumption); nest_cls; nest_cls)
  | (with_reducible apply Mw.t_raise; (with_reducible assumption); (with_reducible assumption); nest_cls)))
local macro_rules | `(tactic| ktu_off1L) => `(tactic| (repeat k_memK))
local macro_rules | `(tactic| k_places) => `(tactic| (repeat (first | k_subL | k_memK)))
local macro_rules | `(tactic| l_intsW) => `(tactic| (first
  | (with_reducible apply Mw.x_call; (with_reducible assumption); (with_reducible assumption); nest_cls; (with_reducible first | assumption | exact Mw.Body.room (by assumption) | exact L2.Room.mono (Mw.Body.room (by assumption)) (by with_unfolding_all decide)))))
def topS (i : Nat) : Stmt := PySem.Challenge.pw_measurewise_k03_measures.main.body.getD i (.Pass ⟨0, 0, 0, 0⟩)
abbrev s_is_whole : Stmt := topS 9
abbrev N_is_whole : List Str := ["thing"]
abbrev L_is_whole : List Str := ["thing"]
abbrev G_is_whole : List Str := ["isinstance", "int", "bool"]
theorem bk_is_whole : BodyOk N_is_whole L_is_whole ["thing"] G_is_whole (defScope s_is_whole) := ⟨⟨rfl, rfl, rfl, by decide +kernel, rfl, by decide +kernel, by decide +kernel⟩, rfl, by decide +kernel, by decide +kernel⟩
abbrev s_need_whole : Stmt := topS 10
abbrev N_need_whole : List Str := ["thing", "least", "most"]
abbrev L_need_whole : List Str := ["thing", "least", "most"]
abbrev G_need_whole : List Str := ["is_whole", "BadNumber"]
theorem bk_need_whole : BodyOk N_need_whole L_need_whole ["thing", "least", "most"] G_need_whole (defScope s_need_whole) := ⟨⟨rfl, rfl, rfl, by decide +kernel, rfl, by decide +kernel, by decide +kernel⟩, rfl, by decide +kernel, by decide +kernel⟩
abbrev s_is_name : Stmt := topS 11
abbrev N_is_name : List Str := ["thing", "sign"]
abbrev L_is_name : List Str := ["thing"]
abbrev G_is_name : List Str := ["isinstance", "str", "len", "MOST_NAME", "WORDS", "all"]
theorem bk_is_name : BodyOk N_is_name L_is_name ["thing"] G_is_name (defScope s_is_name) := ⟨⟨rfl, rfl, rfl, by decide +kernel, rfl, by decide +kernel, by decide +kernel⟩, rfl, by decide +kernel, by decide +kernel⟩
abbrev s_common : Stmt := topS 13
abbrev N_common : List Str := ["one", "other", "whole", "rest"]
abbrev L_common : List Str := ["one", "other", "whole", "rest"]
abbrev G_common : List Str := ["divmod"]
theorem bk_common : BodyOk N_common L_common ["one", "other"] G_common (defScope s_common) := ⟨⟨rfl, rfl, rfl, by decide +kernel, rfl, by decide +kernel, by decide +kernel⟩, rfl, by decide +kernel, by decide +kernel⟩
abbrev s_fraction : Stmt := topS 14
abbrev N_fraction : List Str := ["above", "below", "shared"]
abbrev L_fraction : List Str := ["above", "below", "shared"]
abbrev G_fraction : List Str := ["is_whole", "BadNumber", "need_whole", "common", "abs"]
theorem bk_fraction : BodyOk N_fraction L_fraction ["above", "below"] G_fraction (defScope s_fraction) := ⟨⟨rfl, rfl, rfl, by decide +kernel, rfl, by decide +kernel, by decide +kernel⟩, rfl, by decide +kernel, by decide +kernel⟩
abbrev s_is_fraction : Stmt := topS 15
abbrev N_is_fraction : List Str := ["thing"]
abbrev L_is_fraction : List Str := ["thing"]
abbrev G_is_fraction : List Str := ["isinstance", "tuple", "len", "is_whole", "common", "abs"]
theorem bk_is_fraction : BodyOk N_is_fraction L_is_fraction ["thing"] G_is_fraction (defScope s_is_fraction) := ⟨⟨rfl, rfl, rfl, by decide +kernel, rfl, by decide +kernel, by decide +kernel⟩, rfl, by decide +kernel, by decide +kernel⟩
abbrev s_product_of : Stmt := topS 16
abbrev N_product_of : List Str := ["one", "other"]
abbrev L_product_of : List Str := ["one", "other"]
abbrev G_product_of : List Str := ["fraction"]
theorem bk_product_of : BodyOk N_product_of L_product_of ["one", "other"] G_product_of (defScope s_product_of) := ⟨⟨rfl, rfl, rfl, by decide +kernel, rfl, by decide +kernel, by decide +kernel⟩, rfl, by decide +kernel, by decide +kernel⟩
abbrev s_turned_over : Stmt := topS 17
abbrev N_turned_over : List Str := ["one"]
abbrev L_turned_over : List Str := ["one"]
abbrev G_turned_over : List Str := []
theorem bk_turned_over : BodyOk N_turned_over L_turned_over ["one"] G_turned_over (defScope s_turned_over) := ⟨⟨rfl, rfl, rfl, by decide +kernel, rfl, by decide +kernel, by decide +kernel⟩, rfl, by decide +kernel, by decide +kernel⟩
abbrev s_power_of : Stmt := topS 18
abbrev N_power_of : List Str := ["one", "exponent", "base", "above", "below", "turn"]
abbrev L_power_of : List Str := ["one", "exponent", "base", "above", "below", "turn"]
abbrev G_power_of : List Str := ["is_whole", "BadNumber", "turned_over", "range", "abs"]
theorem bk_power_of : BodyOk N_power_of L_power_of ["one", "exponent"] G_power_of (defScope s_power_of) := ⟨⟨rfl, rfl, rfl, by decide +kernel, rfl, by decide +kernel, by decide +kernel⟩, rfl, by decide +kernel, by decide +kernel⟩
abbrev s_is_pair : Stmt := topS 20
abbrev N_is_pair : List Str := ["thing"]
abbrev L_is_pair : List Str := ["thing"]
abbrev G_is_pair : List Str := ["isinstance", "tuple", "len", "is_name", "is_whole"]
theorem bk_is_pair : BodyOk N_is_pair L_is_pair ["thing"] G_is_pair (defScope s_is_pair) := ⟨⟨rfl, rfl, rfl, by decide +kernel, rfl, by decide +kernel, by decide +kernel⟩, rfl, by decide +kernel, by decide +kernel⟩
abbrev s_unit_of : Stmt := topS 21
abbrev N_unit_of : List Str := ["pairs", "found", "name", "exponent", "pair"]
abbrev L_unit_of : List Str := ["pairs", "found", "name", "exponent"]
abbrev G_unit_of : List Str := ["isinstance", "list", "all", "BadUnit", "tuple", "sorted"]
theorem bk_unit_of : BodyOk N_unit_of L_unit_of ["pairs"] G_unit_of (defScope s_unit_of) := ⟨⟨rfl, rfl, rfl, by decide +kernel, rfl, by decide +kernel, by decide +kernel⟩, rfl, by decide +kernel, by decide +kernel⟩
abbrev s_joined : Stmt := topS 22
abbrev N_joined : List Str := ["one", "other"]
abbrev L_joined : List Str := ["one", "other"]
abbrev G_joined : List Str := ["unit_of", "list"]
theorem bk_joined : BodyOk N_joined L_joined ["one", "other"] G_joined (defScope s_joined) := ⟨⟨rfl, rfl, rfl, by decide +kernel, rfl, by decide +kernel, by decide +kernel⟩, rfl, by decide +kernel, by decide +kernel⟩
abbrev s_powered : Stmt := topS 23
abbrev N_powered : List Str := ["unit", "exponent", "name", "own"]
abbrev L_powered : List Str := ["unit", "exponent"]
abbrev G_powered : List Str := ["unit_of"]
theorem bk_powered : BodyOk N_powered L_powered ["unit", "exponent"] G_powered (defScope s_powered) := ⟨⟨rfl, rfl, rfl, by decide +kernel, rfl, by decide +kernel, by decide +kernel⟩, rfl, by decide +kernel, by decide +kernel⟩
abbrev s_need_rates : Stmt := topS 24
abbrev N_need_rates : List Str := ["rates", "name", "rate"]
abbrev L_need_rates : List Str := ["rates", "name", "rate"]
abbrev G_need_rates : List Str := ["isinstance", "dict", "BadRate", "is_name", "is_fraction"]
theorem bk_need_rates : BodyOk N_need_rates L_need_rates ["rates"] G_need_rates (defScope s_need_rates) := ⟨⟨rfl, rfl, rfl, by decide +kernel, rfl, by decide +kernel, by decide +kernel⟩, rfl, by decide +kernel, by decide +kernel⟩
abbrev s_measure_of : Stmt := topS 25
abbrev N_measure_of : List Str := ["unit", "rates", "found", "name", "exponent"]
abbrev L_measure_of : List Str := ["unit", "rates", "found", "name", "exponent"]
abbrev G_measure_of : List Str := ["need_rates", "BadRate", "product_of", "power_of"]
theorem bk_measure_of : BodyOk N_measure_of L_measure_of ["unit", "rates"] G_measure_of (defScope s_measure_of) := ⟨⟨rfl, rfl, rfl, by decide +kernel, rfl, by decide +kernel, by decide +kernel⟩, rfl, by decide +kernel, by decide +kernel⟩
abbrev s__law_mixed : Stmt := topS 27
abbrev N__law_mixed : List Str := ["_law_number_here", "_law_k"]
abbrev L__law_mixed : List Str := ["_law_number_here", "_law_k"]
abbrev G__law_mixed : List Str := []
theorem bk__law_mixed : BodyOk N__law_mixed L__law_mixed ["_law_number_here", "_law_k"] G__law_mixed (defScope s__law_mixed) := ⟨⟨rfl, rfl, rfl, by decide +kernel, rfl, by decide +kernel, by decide +kernel⟩, rfl, by decide +kernel, by decide +kernel⟩
abbrev s__law_number : Stmt := topS 28
abbrev N__law_number : List Str := ["_law_script", "_law_k"]
abbrev L__law_number : List Str := ["_law_script", "_law_k"]
abbrev G__law_number : List Str := ["_law_mixed", "len"]
theorem bk__law_number : BodyOk N__law_number L__law_number ["_law_script", "_law_k"] G__law_number (defScope s__law_number) := ⟨⟨rfl, rfl, rfl, by decide +kernel, rfl, by decide +kernel, by decide +kernel⟩, rfl, by decide +kernel, by decide +kernel⟩
abbrev s__law_unit : Stmt := topS 29
abbrev N__law_unit : List Str := ["_law_number_here", "_law_names", "_law_most", "_law_found", "_law_k", "_law_more"]
abbrev L__law_unit : List Str := ["_law_number_here", "_law_names", "_law_most", "_law_found", "_law_k", "_law_more"]
abbrev G__law_unit : List Str := ["range", "_law_mixed", "unit_of"]
theorem bk__law_unit : BodyOk N__law_unit L__law_unit ["_law_number_here", "_law_names", "_law_most"] G__law_unit (defScope s__law_unit) := ⟨⟨rfl, rfl, rfl, by decide +kernel, rfl, by decide +kernel, by decide +kernel⟩, rfl, by decide +kernel, by decide +kernel⟩
abbrev s__law_rates : Stmt := topS 30
abbrev N__law_rates : List Str := ["_law_number_here", "_law_names", "_law_found", "_law_k", "_law_name", "_law_more", "_law_size"]
abbrev L__law_rates : List Str := ["_law_number_here", "_law_names", "_law_found", "_law_k", "_law_name", "_law_more", "_law_size"]
abbrev G__law_rates : List Str := ["enumerate", "_law_mixed", "fraction"]
theorem bk__law_rates : BodyOk N__law_rates L__law_rates ["_law_number_here", "_law_names"] G__law_rates (defScope s__law_rates) := ⟨⟨rfl, rfl, rfl, by decide +kernel, rfl, by decide +kernel, by decide +kernel⟩, rfl, by decide +kernel, by decide +kernel⟩
abbrev s__law_product : Stmt := topS 31
abbrev N__law_product : List Str := ["_law_unit_here", "_law_rates_here", "_law_above", "_law_below", "_law_name", "_law_exponent", "_law_turn"]
abbrev L__law_product : List Str := ["_law_unit_here", "_law_rates_here", "_law_above", "_law_below", "_law_name", "_law_exponent", "_law_turn"]
abbrev G__law_product : List Str := ["range", "abs", "int"]
theorem bk__law_product : BodyOk N__law_product L__law_product ["_law_unit_here", "_law_rates_here"] G__law_product (defScope s__law_product) := ⟨⟨rfl, rfl, rfl, by decide +kernel, rfl, by decide +kernel, by decide +kernel⟩, rfl, by decide +kernel, by decide +kernel⟩
abbrev s__law_is : Stmt := topS 32
abbrev N__law_is : List Str := ["_law_found", "_law_due"]
abbrev L__law_is : List Str := ["_law_found", "_law_due"]
abbrev G__law_is : List Str := ["isinstance", "tuple", "len", "fraction"]
theorem bk__law_is : BodyOk N__law_is L__law_is ["_law_found", "_law_due"] G__law_is (defScope s__law_is) := ⟨⟨rfl, rfl, rfl, by decide +kernel, rfl, by decide +kernel, by decide +kernel⟩, rfl, by decide +kernel, by decide +kernel⟩
abbrev s__law_refused : Stmt := topS 33
abbrev N__law_refused : List Str := ["_law_unit_here", "_law_rates_here", "_law_kept", "e", "_law_good"]
abbrev L__law_refused : List Str := ["_law_unit_here", "_law_rates_here", "_law_kept", "e", "_law_good"]
abbrev G__law_refused : List Str := ["str", "measure_of", "MeasureError", "isinstance", "BadRate", "ValueError", "BadUnit"]
theorem bk__law_refused : BodyOk N__law_refused L__law_refused ["_law_unit_here", "_law_rates_here"] G__law_refused (defScope s__law_refused) := ⟨⟨rfl, rfl, rfl, by decide +kernel, rfl, by decide +kernel, by decide +kernel⟩, rfl, by decide +kernel, by decide +kernel⟩
abbrev s__law_wrong : Stmt := topS 34
abbrev N__law_wrong : List Str := ["_law_number_here", "_law_rates_here", "_law_name", "_law_bad", "_law_wrong_here", "_law_other"]
abbrev L__law_wrong : List Str := ["_law_number_here", "_law_rates_here", "_law_name", "_law_bad", "_law_wrong_here", "_law_other"]
abbrev G__law_wrong : List Str := ["dict", "sorted", "len"]
theorem bk__law_wrong : BodyOk N__law_wrong L__law_wrong ["_law_number_here", "_law_rates_here", "_law_name"] G__law_wrong (defScope s__law_wrong) := ⟨⟨rfl, rfl, rfl, by decide +kernel, rfl, by decide +kernel, by decide +kernel⟩, rfl, by decide +kernel, by decide +kernel⟩
abbrev s_law : Stmt := topS 35
abbrev N_law : List Str := ["_law_script", "_law_names", "_law_rates_here", "_law_kept", "_law_one", "_law_other", "_law_found", "_law_exponent", "_law_over", "_law_wrong_here", "_law_name", "_law_rate"]
abbrev L_law : List Str := ["_law_script", "_law_names", "_law_rates_here", "_law_kept", "_law_one", "_law_other", "_law_found", "_law_exponent", "_law_over", "_law_wrong_here"]
abbrev G_law : List Str := ["_law_number", "_law_rates", "dict", "_law_unit", "measure_of", "_law_is", "_law_product", "joined", "product_of", "powered", "_law_wrong", "_law_refused"]
theorem bk_law : BodyOk N_law L_law ["_law_script"] G_law (defScope s_law) := ⟨⟨rfl, rfl, rfl, by decide +kernel, rfl, by decide +kernel, by decide +kernel⟩, rfl, by decide +kernel, by decide +kernel⟩
/-! ### what the defs do: numbers, fractions -/
section
variable {X : Cx} {Gs G : Hp} {ds : List D} {r : Except Exn D} {C : Addr}
abbrev finOf (r : Except Exn D) : Fin := { nx := fun _ => r = .ok .non, rt := fun d => r = .ok d, ex := fun x _ => r = .error x }
def isWhole : D → Bool
  | .int _ => true
  | _ => false
theorem isWhole_int {d : D} (h : isWhole d = true) : ∃ i, d = .int i := by
  cases d <;> first | exact ⟨_, rfl⟩ | cases h
def S_is_whole : FS := fun ds r => ∃ d, ds = [d] ∧ isThing d = true ∧ r = .ok (.bl (isWhole d))
/-- a whole number between the bounds -/
def needOk (d : D) (lo : Int) (m : Option Int) : Bool :=
  match d with
  | .int i => decide (lo ≤ i) && (match m with | none => true | some hi => decide (i ≤ hi))
  | _ => false
def optD : Option Int → D
  | none => .non
  | some i => .int i
def S_need_whole (C : Addr) : FS := fun ds r => ∃ d lo m, ds = [d, .int lo, optD m] ∧ isThing d = true ∧ r = if needOk d lo m = true then .ok d else .error ⟨C, []⟩
/-- of natural numbers, for the greatest common divisor -/
def S_common : FS := fun ds r => ∃ a b : Nat, ds = [.int a, .int b] ∧ b < 2 ^ 8000 ∧ r = .ok (.int (Nat.gcd a b : Nat))
/-- a number of less than 2 ^ n in size -/
abbrev Sm (n : Nat) (i : Int) : Prop := i.natAbs < 2 ^ n
theorem sm_div {i : Int} (h : 0 < i) (hs : Sm 8000 i) : CDivW i i := wide_div h hs (by decide) (by decide)
theorem cdivW_of {i j : Int} (h : 0 < j) (hs : Sm 8000 j) : CDivW i j := wide_div h hs (by decide) (by decide)
theorem cmulW_of {i j : Int} {n m : Nat} (hi : Sm n i) (hj : Sm m j) (h0 : 0 < n) (h1 : 0 < m) (h : n + m ≤ 1000000) : CMulW i j := wide_mul hi hj h0 h1 h
theorem Sm.mul {i j : Int} {n m : Nat} (hi : Sm n i) (hj : Sm m j) : Sm (n + m) (i * j) := wide_lt hi hj
theorem Sm.mono {i : Int} {n m : Nat} (h : Sm n i) (hm : n ≤ m) : Sm m i := Nat.lt_of_lt_of_le h (Nat.pow_le_pow_right (by decide) hm)
theorem Sm.add {i j : Int} {n : Nat} (hi : Sm n i) (hj : Sm n j) : Sm (n + 1) (i + j) := by
  unfold Sm at *
  rw [Nat.pow_succ]
  omega
theorem Sm.neg {i : Int} {n : Nat} (hi : Sm n i) : Sm n (-i) := by
  unfold Sm at *
  omega
theorem abs_if (i : Int) : (if i < 0 then -i else i) = (i.natAbs : Int) := by split <;> omega
/-- the fraction of a over b, told shortest -/
def fracD (a b : Int) : D := .tup [.int (a / (Nat.gcd a.natAbs b.natAbs : Nat)), .int (b / (Nat.gcd a.natAbs b.natAbs : Nat))]
def S_fraction (C : Addr) : FS := fun ds r => ∃ x y, ds = [x, y] ∧ isThing x = true ∧ isThing y = true ∧ (∀ b, y = .int b → Sm 8000 b) ∧
  ((∃ a b, x = .int a ∧ y = .int b ∧ 0 < b ∧ r = .ok (fracD a b)) ∨ ((isWhole x = false ∨ needOk y 1 none = false) ∧ r = .error ⟨C, []⟩))
/-- two parts that are things -/
def pairOk (d : D) : Prop := ∀ x y, d = .tup [x, y] → isThing x = true ∧ isThing y = true ∧ ∀ b, y = .int b → Sm 8000 b
def isFrac : D → Bool
  | .tup [.int a, .int b] => decide (0 < b) && decide (Nat.gcd a.natAbs b.natAbs = 1)
  | _ => false
def S_is_fraction : FS := fun ds r => ∃ d, ds = [d] ∧ isThing d = true ∧ pairOk d ∧ r = .ok (.bl (isFrac d))
theorem isFrac_tup {l : List D} (h : l.length ≠ 2) : isFrac (.tup l) = false := by
  match l, h with
  | [], _ => rfl
  | [x], _ => cases x <;> rfl
  | [_, _], h => exact absurd rfl h
  | x :: y :: _ :: _, _ => cases x <;> first | rfl | (cases y <;> rfl)
end
section
/-- a fraction with parts of less than 2 ^ n -/
def Fr2 (n : Nat) (d : D) (a b : Int) : Prop := d = .tup [.int a, .int b] ∧ 0 < b ∧ Sm n a ∧ Sm n b
def S_sum_of : FS := fun ds r => ∃ a b c d, ds = [.tup [.int a, .int b], .tup [.int c, .int d]] ∧ 0 < b ∧ 0 < d ∧ Sm 3000 a ∧ Sm 3000 b ∧ Sm 3000 c ∧ Sm 3000 d ∧ r = .ok (fracD (a * d + c * b) (b * d))
def S_product_of : FS := fun ds r => ∃ a b c d, ds = [.tup [.int a, .int b], .tup [.int c, .int d]] ∧ 0 < b ∧ 0 < d ∧ Sm 3000 a ∧ Sm 3000 b ∧ Sm 3000 c ∧ Sm 3000 d ∧ r = .ok (fracD (a * c) (b * d))
def S_is_less : FS := fun ds r => ∃ a b c d, ds = [.tup [.int a, .int b], .tup [.int c, .int d]] ∧ Sm 3000 a ∧ Sm 3000 b ∧ Sm 3000 c ∧ Sm 3000 d ∧ r = .ok (.bl (decide (a * d < c * b)))
/-- one over a / b -/
def overD (a b : Int) : Int × Int := if a < 0 then (0 - b, 0 - a) else (b, a)
def S_turned_over : FS := fun ds r => ∃ a b, ds = [.tup [.int a, .int b]] ∧ r = .ok (.tup [.int (overD a b).1, .int (overD a b).2])
/-- a power's two parts -/
def powP (a b e : Int) : Int × Int := if e < 0 then overD a b else (a, b)
def powD (a b e : Int) : D := .tup [.int ((powP a b e).1 ^ e.natAbs), .int ((powP a b e).2 ^ e.natAbs)]
def S_power_of (C : Addr) : FS := fun ds r => ∃ a b y, ds = [.tup [.int a, .int b], y] ∧ isThing y = true ∧
  ((∃ e n, y = .int e ∧ (e < 0 → a ≠ 0) ∧ 0 < n ∧ Sm n a ∧ Sm n b ∧ (e.natAbs + 1) * n ≤ 900000 ∧ r = .ok (powD a b e)) ∨ ((isWhole y = false ∨ (∃ e, y = .int e ∧ e < 0 ∧ a = 0)) ∧ r = .error ⟨C, []⟩))
theorem Sm.pow {i : Int} {n : Nat} (h : Sm n i) : ∀ k : Nat, Sm (k * n + 1) (i ^ k)
  | 0 => by show (i ^ 0).natAbs < 2 ^ (0 * n + 1); simp
  | k + 1 => by
    have ih := Sm.pow h k
    have q := Sm.mul ih h
    rw [Int.pow_succ]
    exact q.mono (by rw [Nat.succ_mul]; omega)
end
section
variable {X : Cx} {Gs G : Hp} {ds : List D} {r : Except Exn D} {C : Addr}
theorem b_is_whole (B : Body X N_is_whole L_is_whole G_is_whole 1 (defScope s_is_whole)) (m1 : X.mg "isinstance" = none) (m2 : X.mg "int" = none) (m3 : X.mg "bool" = none) (h : S_is_whole ds r) :
    SS X Gs G (defBody s_is_whole) (startA N_is_whole ds) (finOf r) := by
  obtain ⟨d, rfl, hd, rfl⟩ := h
  ktu_offI
  k_places
  change (Except.ok _ : Except Exn D) = Except.ok _
  cases d <;> rfl
end
section
variable {X : Cx} {Gs G : Hp} {ds : List D} {r : Except Exn D} {C : Addr}
theorem b_need_whole (B : Body X N_need_whole L_need_whole G_need_whole 3 (defScope s_need_whole)) (F1 : FnD X 2 "is_whole" [] S_is_whole) (E1 : ExcOk X "BadNumber" C) (h : S_need_whole C ds r) :
    SS X Gs G (defBody s_need_whole) (startA N_need_whole ds) (finOf r) := by
  obtain ⟨d, lo, m, rfl, hd, rfl⟩ := h
  ktu_offI
  k_subL
  cases hw : isWhole d with
  | false =>
    have hn : needOk d lo m = false := by cases d <;> first | rfl | cases hw
    rw [hn, if_neg Bool.false_ne_true]
    refine s1_ifT (EW.et (ew_orT (et_is (k := !isWhole d) ?_ (by rw [hw]; rfl)))) ?_
    · ktu_off1L
      exact ⟨d, rfl, hd, rfl⟩
      ktu_off1L
    · k_places
      rfl
  | true =>
    obtain ⟨i, rfl⟩ := isWhole_int hw
    by_cases h1 : lo ≤ i
    · refine s1_ifF (EW.et (ew_is (k := !isWhole (.int i) || decide (i < lo)) ?_ (by simp [hw]; omega))) ?_
      · ktu_off1L
        exact ⟨_, rfl, rfl, rfl⟩
        ktu_off1L
      k_places
      cases m with
      | none =>
        refine s1_ifF (EW.et (ew_andF (et_is (k := !isNon (optD none)) ?_ rfl))) ?_
        · ktu_off1L
        k_places
        change (if needOk _ _ _ = true then _ else _) = _
        rw [if_pos (by show (decide (lo ≤ i) && true) = true; rw [decide_eq_true h1] <;> rfl)]
      | some hi =>
        by_cases h2 : i ≤ hi
        · refine s1_ifF (EW.et (ew_andT (et_is (k := !isNon (optD (some hi))) ?_ rfl) (ew_is (k := decide (hi < i)) ?_ (by simp; omega)))) ?_
          · ktu_off1L
          · show EW X _ (vis [.fz (.int i), .fz (.int lo), .fz (.int hi)]) _
            ktu_off1L
          k_places
          change (if needOk _ _ _ = true then _ else _) = _
          rw [if_pos (by show (decide (lo ≤ i) && decide (i ≤ hi)) = true; rw [decide_eq_true h1, decide_eq_true h2] <;> rfl)]
        · refine s1_ifT (EW.et (ew_andT (et_is (k := !isNon (optD (some hi))) ?_ rfl) (ew_is (k := decide (hi < i)) ?_ (by simp; omega)))) ?_
          · ktu_off1L
          · show EW X _ (vis [.fz (.int i), .fz (.int lo), .fz (.int hi)]) _
            ktu_off1L
          k_places
          change (if needOk _ _ _ = true then _ else _) = _
          rw [if_neg (by show ¬ (decide (lo ≤ i) && decide (i ≤ hi)) = true; simp; omega)]
    · refine s1_ifT (EW.et (ew_is (k := !isWhole (.int i) || decide (i < lo)) ?_ (by simp; omega))) ?_
      · ktu_off1L
        exact ⟨_, rfl, rfl, rfl⟩
        ktu_off1L
      k_places
      change (if needOk _ _ _ = true then _ else _) = _
      rw [if_neg (by cases m <;> simp [needOk] <;> omega)]
end
section
variable {X : Cx} {Gs G : Hp} {ds : List D} {r : Except Exn D} {C : Addr}
theorem b_common (B : Body X N_common L_common G_common 1 (defScope s_common)) (m1 : X.mg "divmod" = none) (h : S_common ds r) :
    SS X Gs G (defBody s_common) (startA N_common ds) (finOf r) := by
  obtain ⟨a, b, rfl, hb, rfl⟩ := h
  ktu_offI
  k_subL
  refine s1_while (fun m as' => ∃ (x y : Nat) (s3 s4 : Sl), as' = [.fz (.int x), .fz (.int y), s3, s4] ∧ y < 2 ^ 8000 ∧ m = y ∧ Nat.gcd x y = Nat.gcd a b) b ⟨a, b, _, _, rfl, hb, rfl, rfl⟩ B.pown ?_
  rintro m as' ⟨x, y, s3, s4, rfl, hy, rfl, hg⟩
  refine ⟨!decide ((m : Int) = 0), by ktu_off1L, fun hn => ?_, fun hn => ?_⟩
  · have hy0 : m ≠ 0 := by simpa using hn
    k_places
    · exact ⟨by omega, PyProof.noPylong_of_log2 (PySem.Flt.log2_lt_of (k := 9000) (by decide) (Nat.lt_of_lt_of_le (by simpa using hy) (Nat.pow_le_pow_right (by decide) (by decide))))⟩
    k_places
    refine ⟨x % m, Nat.mod_lt _ (by omega), m, x % m, _, _, rfl, Nat.lt_trans (Nat.mod_lt _ (by omega)) hy, rfl, ?_⟩
    rw [← hg, Nat.gcd_comm m, ← Nat.gcd_rec, Nat.gcd_comm]
  · have hy0 : m = 0 := by simpa using hn
    subst hy0
    k_places
    change (Except.ok _ : Except Exn D) = Except.ok _
    rw [← hg, Nat.gcd_zero_right]
end
section
variable {X : Cx} {Gs G : Hp} {ds : List D} {r : Except Exn D} {C : Addr}
theorem b_fraction (B : Body X N_fraction L_fraction G_fraction 5 (defScope s_fraction)) (F1 : FnD X 2 "is_whole" [] S_is_whole) (F2 : FnD X 4 "need_whole" [.non] (S_need_whole C)) (F3 : FnD X 2 "common" [] S_common) (E1 : ExcOk X "BadNumber" C) (m1 : X.mg "abs" = none) (h : S_fraction C ds r) :
    SS X Gs G (defBody s_fraction) (startA N_fraction ds) (finOf r) := by
  obtain ⟨x, y, rfl, hx, hy, hsm, h⟩ := h
  ktu_offI
  k_subL
  rcases h with ⟨a, b, rfl, rfl, hb, rfl⟩ | ⟨hbad, rfl⟩
  · have hs := hsm b rfl
    refine s1_ifF (et_is (k := !isWhole (.int a)) ?_ rfl) ?_
    · ktu_off1L
      exact ⟨_, rfl, rfl, rfl⟩
      ktu_off1L
    k_places
    apply s1_expr
    · ktu_off1L
      exact ⟨.int b, 1, none, rfl, rfl, by rw [if_pos (by show (decide (1 ≤ b) && true) = true; simp; omega)]⟩
      ktu_off1L
    · ktu_off1L
    · k_places
      · rw [abs_if]
        have e : b = (b.natAbs : Int) := by omega
        exact ⟨a.natAbs, b.natAbs, by rw [← e]; rfl, hs, rfl⟩
      k_places
      · have hp : 0 < Nat.gcd a.natAbs b.natAbs := Nat.gcd_pos_of_pos_right _ (by omega)
        exact cdivW_of (by omega) (Nat.lt_of_le_of_lt (by simpa using Nat.gcd_le_right _ (by omega)) hs)
      k_places
      · have hp : 0 < Nat.gcd a.natAbs b.natAbs := Nat.gcd_pos_of_pos_right _ (by omega)
        exact cdivW_of (by omega) (Nat.lt_of_le_of_lt (by simpa using Nat.gcd_le_right _ (by omega)) hs)
      k_places
      rfl
  · cases hw : isWhole x with
    | false =>
      refine s1_ifT (et_is (k := !isWhole x) ?_ (by rw [hw]; rfl)) ?_
      · ktu_off1L
        exact ⟨_, rfl, hx, rfl⟩
        ktu_off1L
      k_places
      rfl
    | true =>
      have hn : needOk y 1 none = false := hbad.resolve_left (by rw [hw]; decide)
      refine s1_ifF (et_is (k := !isWhole x) ?_ (by rw [hw]; rfl)) ?_
      · ktu_off1L
        exact ⟨_, rfl, hx, rfl⟩
        ktu_off1L
      k_places
      apply s1_exprX
      · l_intsW; ktu_off1L
        exact ⟨y, 1, none, rfl, hy, by rw [hn, if_neg Bool.false_ne_true]⟩
        ktu_off1L
      · ktu_off1L
      · rfl
end
section
variable {X : Cx} {Gs G : Hp} {ds : List D} {r : Except Exn D} {C : Addr}
theorem b_is_fraction (B : Body X N_is_fraction L_is_fraction G_is_fraction 3 (defScope s_is_fraction)) (F1 : FnD X 2 "is_whole" [] S_is_whole) (F3 : FnD X 2 "common" [] S_common) (m1 : X.mg "abs" = none) (m2 : X.mg "isinstance" = none) (m3 : X.mg "tuple" = none) (m4 : X.mg "len" = none) (h : S_is_fraction ds r) :
    SS X Gs G (defBody s_is_fraction) (startA N_is_fraction ds) (finOf r) := by
  obtain ⟨d, rfl, hd, hp, rfl⟩ := h
  ktu_offI
  k_subL
  cases ht : isTyT d with
  | false =>
    refine s1_ifT (EW.et (ew_orT (et_is (k := !isTyT d) ?_ (by rw [ht]; rfl)))) ?_
    · ktu_off1L
    · k_places
      change (Except.ok _ : Except Exn D) = Except.ok _
      cases d <;> first | rfl | cases ht
  | true =>
    obtain ⟨l, rfl⟩ : ∃ l, d = .tup l := by cases d <;> first | exact ⟨_, rfl⟩ | cases ht
    by_cases hl : l.length = 2
    · obtain ⟨x, y, rfl⟩ : ∃ x y, l = [x, y] := by
        match l, hl with
        | [x, y], _ => exact ⟨x, y, rfl⟩
      obtain ⟨hx, hy, hs⟩ := hp x y rfl
      refine s1_if (EW.et (ew_is (k := !isTyT (.tup [x, y]) || (!decide ((([x, y].length : Nat) : Int) = 2) || (!isWhole x || !isWhole y))) ?_ rfl)) (fun hb => ?_) fun hb => ?_
      · ktu_off1L
        exact ⟨x, rfl, hx, rfl⟩
        ktu_off1L
        exact ⟨y, rfl, hy, rfl⟩
        ktu_off1L
      · have hb' : (!isWhole x || !isWhole y) = true := hb
        k_places
        change (Except.ok _ : Except Exn D) = Except.ok _
        cases x <;> first | rfl | (cases y <;> first | rfl | cases hb')
      · have hb' : (!isWhole x || !isWhole y) = false := hb
        rw [Bool.or_eq_false_iff] at hb'
        obtain ⟨a, rfl⟩ := isWhole_int (by simpa using hb'.1)
        obtain ⟨b, rfl⟩ := isWhole_int (by simpa using hb'.2)
        have hs := hs b rfl
        k_subL
        k_subL
        refine s1_ret (d := .bl (decide (0 < b) && decide (Nat.gcd a.natAbs b.natAbs = 1))) ?_ ?_
        rotate_left
        · rfl
        by_cases hb0 : 0 < b
        · rw [decide_eq_true hb0, Bool.true_and]
          refine ee_andT (ee_is (d := .bl (decide (0 < b))) ?_ (by rw [decide_eq_true hb0])) (ee_is (d := .bl (decide (((Nat.gcd a.natAbs b.natAbs : Nat) : Int) = 1))) ?_ ?_)
          · ktu_off1L
          · ktu_off1L
            rw [abs_if]
            exact ⟨a.natAbs, b.natAbs, by rw [show ((b.natAbs : Nat) : Int) = b by omega]; rfl, hs, rfl⟩
            ktu_off1L
          · congr 1
            exact dec_iff (by omega)
        · rw [decide_eq_false hb0, Bool.false_and]
          refine ee_andF (ee_is (d := .bl (decide (0 < b))) ?_ (by rw [decide_eq_false hb0]))
          ktu_off1L
    · refine s1_ifT (EW.et (ew_orF (et_is (k := !isTyT (.tup l)) ?_ rfl) (ew_orT (et_is (k := !decide (((l.length : Nat) : Int) = 2)) ?_ ?_)))) ?_
      · ktu_off1L
      · ktu_off1L
      · rw [decide_eq_false (by omega)] <;> rfl
      · k_places
        change (Except.ok _ : Except Exn D) = Except.ok _
        rw [isFrac_tup hl]
end
section
variable {X : Cx} {Gs G : Hp} {ds : List D} {r : Except Exn D} {C : Addr}
theorem b_product_of (B : Body X N_product_of L_product_of G_product_of 7 (defScope s_product_of)) (F1 : FnD X 6 "fraction" [] (S_fraction C)) (h : S_product_of ds r) :
    SS X Gs G (defBody s_product_of) (startA N_product_of ds) (finOf r) := by
  obtain ⟨a, b, c, d, rfl, hb, hd, s1, s2, s3, s4, rfl⟩ := h
  ktu_offI
  k_places
  · exact cmulW_of s1 s3 (by decide) (by decide) (by decide)
  k_places
  · exact cmulW_of s2 s4 (by decide) (by decide) (by decide)
  k_places
  · refine ⟨_, _, rfl, rfl, rfl, fun x hx => ?_, .inl ⟨_, _, rfl, rfl, Int.mul_pos hb hd, rfl⟩⟩
    cases hx
    exact (s2.mul s4).mono (by decide)
  k_places
  rfl
end
section
variable {X : Cx} {Gs G : Hp} {ds : List D} {r : Except Exn D} {C : Addr}
theorem b_turned_over (B : Body X N_turned_over L_turned_over G_turned_over 1 (defScope s_turned_over)) (h : S_turned_over ds r) :
    SS X Gs G (defBody s_turned_over) (startA N_turned_over ds) (finOf r) := by
  obtain ⟨a, b, rfl, rfl⟩ := h
  ktu_offI
  k_subL
  refine s1_if (b := decide (a < 0)) (by ktu_off1L) (fun hb => ?_) fun hb => ?_
  · have h0 : a < 0 := by simpa using hb
    k_places
    change (Except.ok _ : Except Exn D) = Except.ok _
    rw [overD, if_pos h0]
  · have h0 : ¬ a < 0 := by simpa using hb
    k_places
    change (Except.ok _ : Except Exn D) = Except.ok _
    rw [overD, if_neg h0]
end
section
variable {X : Cx} {Gs G : Hp} {ds : List D} {r : Except Exn D} {C : Addr}
theorem b_power_of (B : Body X N_power_of L_power_of G_power_of 3 (defScope s_power_of)) (F1 : FnD X 2 "is_whole" [] S_is_whole) (F2 : FnD X 2 "turned_over" [] S_turned_over) (E1 : ExcOk X "BadNumber" C) (m1 : X.mg "range" = none) (m2 : X.mg "abs" = none) (h : S_power_of C ds r) :
    SS X Gs G (defBody s_power_of) (startA N_power_of ds) (finOf r) := by
  obtain ⟨a, b, y, rfl, hy, h⟩ := h
  ktu_offI
  k_subL
  rcases h with ⟨e, n, rfl, he, hn, sa, sb, hk, rfl⟩ | ⟨hbad, rfl⟩
  · refine s1_ifF (EW.et (ew_orF (et_is (k := !isWhole (.int e)) ?_ rfl) ?_)) ?_
    · ktu_off1L
      exact ⟨_, rfl, rfl, rfl⟩
      ktu_off1L
    · refine ew_is (k := decide (e < 0) && decide (a = 0)) ?_ (by by_cases h0 : e < 0 <;> simp [h0, he])
      ktu_off1L
    k_subL
    k_subL
    refine t_set (as1 := [.fz (.tup [.int a, .int b]), .fz (.int e), .fz (.tup [.int (powP a b e).1, .int (powP a b e).2]), .un, .un, .un]) B (by nest_cls) (ee_is (ee_if (k := decide (e < 0)) (d1 := .tup [.int (overD a b).1, .int (overD a b).2]) (d2 := .tup [.int a, .int b]) ?_ (fun _ => ?_) fun _ => ?_) ?_) ?_ (by ktu_offL) ?_
    · ktu_off1L
    · ktu_off1L
      exact ⟨a, b, rfl, rfl⟩
      ktu_off1L
    · ktu_off1L
    · by_cases h0 : e < 0
      · rw [powP, if_pos h0, decide_eq_true h0, if_pos rfl]
      · rw [powP, if_neg h0, decide_eq_false h0, if_neg Bool.false_ne_true]
    · ktu_off1L
    · k_places
      have hp : Sm n (powP a b e).1 ∧ Sm n (powP a b e).2 := by
        unfold powP overD
        split
        · split
          · exact ⟨by show Sm n (0 - b); rw [Int.zero_sub]; exact sb.neg, by show Sm n (0 - a); rw [Int.zero_sub]; exact sa.neg⟩
          · exact ⟨sb, sa⟩
        · exact ⟨sa, sb⟩
      generalize hu : (powP a b e).1 = u at hp
      generalize hv : (powP a b e).2 = v at hp
      refine t_forR (z := (e.natAbs : Int)) B (by nest_cls) (by nest_cls) (by assumption) (ee_is (d := .int (if e < 0 then -e else e)) ?_ (by rw [abs_if])) ?_ (fun t as' => ∃ s, as' = [.fz (.tup [.int a, .int b]), .fz (.int e), .fz (.tup [.int u, .int v]), .fz (.int (u ^ t)), .fz (.int (v ^ t)), s]) ⟨.un, by rw [Int.pow_zero, Int.pow_zero]⟩ ?_ ?_
      · ktu_off1L
      · have : e.natAbs ≤ 900000 := Nat.le_trans (Nat.le_trans (Nat.le_succ _) (Nat.le_mul_of_pos_right _ hn)) hk
        omega
      · rintro t as' ht ⟨s, rfl⟩
        refine ⟨_, by ktu_offL, ?_⟩
        have bd : t * n + 1 + n ≤ 1000000 := by
          have h1 : t * n ≤ e.natAbs * n := Nat.mul_le_mul_right n (by omega)
          rw [Nat.succ_mul] at hk
          omega
        k_places
        · exact cmulW_of (hp.1.pow t) hp.1 (by omega) hn bd
        k_places
        · exact cmulW_of (hp.2.pow t) hp.2 (by omega) hn bd
        k_places
        exact ⟨_, by rw [Int.pow_succ, Int.pow_succ]⟩
      · rintro as' ⟨s, rfl⟩
        k_places
        change (Except.ok _ : Except Exn D) = Except.ok _
        rw [powD, hu, hv]
        simp
  · rcases hbad with hw | ⟨e, rfl, h1, rfl⟩
    · refine s1_ifT (EW.et (ew_orT (et_is (k := !isWhole y) ?_ (by rw [hw]; rfl)))) ?_
      · ktu_off1L
        exact ⟨_, rfl, hy, rfl⟩
        ktu_off1L
      · k_places
        rfl
    · refine s1_ifT (EW.et (ew_orF (et_is (k := !isWhole (.int e)) ?_ rfl) ?_)) ?_
      · ktu_off1L
        exact ⟨_, rfl, rfl, rfl⟩
        ktu_off1L
      · refine ew_is (k := decide (e < 0) && decide ((0 : Int) = 0)) ?_ (by simp [h1])
        ktu_off1L
      · k_places
        rfl
end
/-! ### names and texts -/
section
variable {X : Cx} {Gs G : Hp} {ds : List D} {r : Except Exn D} {C : Addr}
mutual
/-- what may be handed in: texts not too long, of things -/
def dOk : D → Bool
  | .non => true
  | .bl _ => true
  | .int _ => true
  | .str z => decide (z.length ≤ 5000)
  | .tup l => dOks l
  | .lst l => dOks l
  | .dct l => decide (l.length = 0)
  | _ => false
def dOks : List D → Bool
  | [] => true
  | d :: l => dOk d && dOks l
end
theorem dOk.thing : ∀ {d : D}, dOk d = true → isThing d = true
  | .non, _ => rfl
  | .bl _, _ => rfl
  | .int _, _ => rfl
  | .str _, _ => rfl
  | .tup _, _ => rfl
  | .lst _, _ => rfl
  | .dct _, _ => rfl
  | .ty _, h => nomatch h
  | .cls _, h => nomatch h
  | .obj _ _, h => nomatch h
  | .xc _ _ _, h => nomatch h
  | .exv _ _, h => nomatch h
theorem dOks.mem : ∀ {l : List D}, dOks l = true → ∀ d ∈ l, dOk d = true
  | [], _, d, hd => nomatch hd
  | e :: l, h, d, hd => by
    have h' : (dOk e && dOks l) = true := h
    rw [Bool.and_eq_true] at h'
    rcases List.mem_cons.mp hd with q | q
    · rw [q]; exact h'.1
    · exact dOks.mem h'.2 d q
theorem dOks.of : ∀ {l : List D}, (∀ d ∈ l, dOk d = true) → dOks l = true
  | [], _ => rfl
  | e :: l, h => by
    show (dOk e && dOks l) = true
    rw [h e List.mem_cons_self, dOks.of fun d hd => h d (List.mem_cons_of_mem _ hd)] <;> rfl
abbrev lettersS : Str := "abcdefghijklmnopqrstuvwxyz"
abbrev signsS : Str := " !\"#$&'()*+,-./0123456789:;<=>?@ABCDEFGHIJKLMNOPQRSTUVWXYZ[\\]^_`abcdefghijklmnopqrstuvwxyz{|}~\n"
abbrev wordsL : List Str := ["unit", "take", "let", "fun", "show", "if", "then", "else", "loop", "for", "do"]
def isNameS (z : Str) : Bool := (decide (1 ≤ z.length) && decide (z.length ≤ 8)) && !(decide (z ∈ wordsL)) && z.cps.toList.all fun c => decide (c ∈ lettersS.cps.toList)
def isNameD : D → Bool
  | .str z => isNameS z
  | _ => false
theorem isNameD_str {d : D} (h : isNameD d = true) : ∃ z, d = .str z ∧ isNameS z = true := by
  cases d with
  | str z => exact ⟨z, rfl, h⟩
  | _ => cases h
theorem isNameS.len {z : Str} (h : isNameS z = true) : 1 ≤ z.length ∧ z.length ≤ 8 := by
  unfold isNameS at h
  simp only [Bool.and_eq_true, decide_eq_true_eq] at h
  exact h.1.1
def isTextS (z : Str) : Bool := decide (z.length ≤ 4000) && z.cps.toList.all fun c => decide (c ∈ signsS.cps.toList)
def isTextD : D → Bool
  | .str z => isTextS z
  | _ => false
def S_is_name : FS := fun ds r => ∃ d, ds = [d] ∧ dOk d = true ∧ r = .ok (.bl (isNameD d))
def S_need_name (C : Addr) : FS := fun ds r => ∃ d, ds = [d] ∧ dOk d = true ∧ r = if isNameD d = true then .ok d else .error ⟨C, []⟩
def S_is_text : FS := fun ds r => ∃ d, ds = [d] ∧ dOk d = true ∧ r = .ok (.bl (isTextD d))
theorem inD_strs {z : Str} : ∀ {l : List Str}, inD (.str z) (l.map D.str) = decide (z ∈ l)
  | [] => by simp [inD, inV]
  | y :: l => by
    have ih := inD_strs (z := z) (l := l)
    unfold inD at ih ⊢
    rw [List.map_cons, List.map_cons]
    unfold inV at ih ⊢
    rw [List.any_cons, ih]
    by_cases e : z = y
    · subst e
      simp [toV, eqV]
    · have e2 : ¬ y = z := fun q => e q.symm
      simp [toV, eqV, e, e2]
/-- all signs of a text in another one -/
def inB (t : Str) : D → D
  | .str z => .bl (match z.cps.toList with | [c] => decide (c ∈ t.cps.toList) | _ => false)
  | _ => .bl false
theorem signs_map (z t : Str) : ((signsD z).filter fun _ => true).map (inB t) = (z.cps.toList.map fun c => decide (c ∈ t.cps.toList)).map D.bl := by
  rw [List.filter_eq_self.mpr fun _ _ => rfl]
  unfold signsD
  rw [List.map_map, List.map_map]
  rfl
theorem signs_all (z t : Str) : (z.cps.toList.map fun c => decide (c ∈ t.cps.toList)).all id = z.cps.toList.all fun c => decide (c ∈ t.cps.toList) := by
  rw [List.all_map]
  rfl
theorem b_is_name (B : Body X N_is_name L_is_name G_is_name 1 (defScope s_is_name)) (c1 : CstD X "MOST_NAME" (.int 8)) (c2 : CstD X "WORDS" (.tup (wordsL.map D.str))) (c3 : CstD X "LETTERS" (.str lettersS)) (m1 : X.mg "isinstance" = none) (m2 : X.mg "str" = none) (m3 : X.mg "len" = none) (m4 : X.mg "all" = none) (h : S_is_name ds r) :
    SS X Gs G (defBody s_is_name) (startA N_is_name ds) (finOf r) := by
  obtain ⟨d, rfl, hd, rfl⟩ := h
  have ht := dOk.thing hd
  ktu_offI
  k_subL
  cases hs : isTyS d with
  | false =>
    refine s1_ifT (EW.et (ew_orT (et_is (k := !isTyS d) ?_ (by rw [hs]; rfl)))) ?_
    · ktu_off1L
    · k_places
      change (Except.ok _ : Except Exn D) = Except.ok _
      cases d <;> first | rfl | cases hs
  | true =>
    obtain ⟨z, rfl⟩ : ∃ z, d = .str z := by cases d <;> first | exact ⟨_, rfl⟩ | cases hs
    have hz : z.length ≤ sizeLine := Nat.le_trans (of_decide_eq_true hd) (by decide)
    refine s1_if (b := !(decide (1 ≤ z.length) && decide (z.length ≤ 8)) || decide (z ∈ wordsL)) (EW.et (ew_is (k := !isTyS (.str z) || (!(decide ((1 : Int) ≤ (z.length : Nat)) && decide (((z.length : Nat) : Int) ≤ 8)) || inD (.str z) (wordsL.map D.str))) ?_ ?_)) (fun hb => ?_) fun hb => ?_
    · ktu_off1L
      · rfl
      · rfl
      ktu_off1L
    · rw [inD_strs]
      have e1 : decide ((1 : Int) ≤ (z.length : Nat)) = decide (1 ≤ z.length) := dec_iff (by omega)
      have e2 : decide (((z.length : Nat) : Int) ≤ 8) = decide (z.length ≤ 8) := dec_iff (by omega)
      rw [e1, e2]
      rfl
    · k_places
      change (Except.ok _ : Except Exn D) = Except.ok _
      show Except.ok (D.bl (isNameS z)) = _
      unfold isNameS
      cases h1 : (decide (1 ≤ z.length) && decide (z.length ≤ 8)) with
      | false => rfl
      | true =>
        rw [h1] at hb
        rw [show decide (z ∈ wordsL) = true from hb]
        rfl
    · k_subL
      k_subL
      refine s1_ret (d := .bl (z.cps.toList.all fun c => decide (c ∈ lettersS.cps.toList))) ?_ ?_
      · refine ee_is (e_all (bs := z.cps.toList.map fun c => decide (c ∈ lettersS.cps.toList)) (by assumption) B.calm (by nest_cls) (by assumption) (ee_is (EN.ee (en_lc1 (ds := signsD z) 1 [none, some "sign"] ["LETTERS"] (inB lettersS) (fun _ => true) B (iw_str ?_) (by decide +kernel) ?_ ?_)) ?_)) ?_
        · ktu_off1L
        · unfold signsD
          rw [List.length_map, Array.length_toList]
          exact Nat.lt_of_le_of_lt (of_decide_eq_true hd) (by decide)
        · intro s H cl C fp nb gb j d hd'
          obtain ⟨c, rfl⟩ : ∃ c, d = .str ⟨#[c]⟩ := by
            unfold signsD at hd'
            obtain ⟨c, _, e⟩ := map_at hd'
            exact ⟨c, e.symm⟩
          refine ⟨ets_nil, fun _ => ?_⟩
          have c3' := cst_in gb c3
          refine ee_is (d := .bl (decide (c ∈ lettersS.cps.toList))) ?_ rfl
          ktu_off1L
        · rw [signs_map]
        · rw [signs_all]
      · change (Except.ok _ : Except Exn D) = Except.ok _
        show Except.ok (D.bl (isNameS z)) = _
        unfold isNameS
        rw [Bool.or_eq_false_iff] at hb
        have h1 : (decide (1 ≤ z.length) && decide (z.length ≤ 8)) = true := by simpa using hb.1
        rw [h1, hb.2]
        rfl
end
/-! ### units: plain -/
section
mutual
/-- without True and False: what is equal is the same -/
def noB : D → Bool
  | .non => true
  | .int _ => true
  | .str _ => true
  | .tup l => noBs l
  | .lst l => noBs l
  | _ => false
def noBs : List D → Bool
  | [] => true
  | d :: l => noB d && noBs l
end
mutual
theorem eqv_same : ∀ {x y : D}, noB x = true → noB y = true → PyData.eqv (toPy x) (toPy y) = true → x = y
  | .non, .non, _, _, _ => rfl
  | .int i, .int j, _, _, h => by rw [eq_of_beq (show (i == j) = true from h)]
  | .str i, .str j, _, _, h => by rw [eq_of_beq (show (i == j) = true from h)]
  | .tup l, .tup m, a, b, h => by rw [eqvs_same (l := l) (m := m) a b h]
  | .lst l, .lst m, a, b, h => by rw [eqvs_same (l := l) (m := m) a b h]
  | .non, .int _, _, _, h => nomatch h
  | .non, .str _, _, _, h => nomatch h
  | .non, .tup _, _, _, h => nomatch h
  | .non, .lst _, _, _, h => nomatch h
  | .int _, .non, _, _, h => nomatch h
  | .int _, .str _, _, _, h => nomatch h
  | .int _, .tup _, _, _, h => nomatch h
  | .int _, .lst _, _, _, h => nomatch h
  | .str _, .non, _, _, h => nomatch h
  | .str _, .int _, _, _, h => nomatch h
  | .str _, .tup _, _, _, h => nomatch h
  | .str _, .lst _, _, _, h => nomatch h
  | .tup _, .non, _, _, h => nomatch h
  | .tup _, .int _, _, _, h => nomatch h
  | .tup _, .str _, _, _, h => nomatch h
  | .tup _, .lst _, _, _, h => nomatch h
  | .lst _, .non, _, _, h => nomatch h
  | .lst _, .int _, _, _, h => nomatch h
  | .lst _, .str _, _, _, h => nomatch h
  | .lst _, .tup _, _, _, h => nomatch h
  | .bl _, _, a, _, _ => nomatch a
  | .ty _, _, a, _, _ => nomatch a
  | .cls _, _, a, _, _ => nomatch a
  | .dct _, _, a, _, _ => nomatch a
  | .obj _ _, _, a, _, _ => nomatch a
  | .xc _ _ _, _, a, _, _ => nomatch a
  | .exv _ _, _, a, _, _ => nomatch a
  | .non, .bl _, _, b, _ => nomatch b
  | .non, .ty _, _, b, _ => nomatch b
  | .non, .cls _, _, b, _ => nomatch b
  | .non, .dct _, _, b, _ => nomatch b
  | .non, .obj _ _, _, b, _ => nomatch b
  | .non, .xc _ _ _, _, b, _ => nomatch b
  | .non, .exv _ _, _, b, _ => nomatch b
  | .int _, .bl _, _, b, _ => nomatch b
  | .int _, .ty _, _, b, _ => nomatch b
  | .int _, .cls _, _, b, _ => nomatch b
  | .int _, .dct _, _, b, _ => nomatch b
  | .int _, .obj _ _, _, b, _ => nomatch b
  | .int _, .xc _ _ _, _, b, _ => nomatch b
  | .int _, .exv _ _, _, b, _ => nomatch b
  | .str _, .bl _, _, b, _ => nomatch b
  | .str _, .ty _, _, b, _ => nomatch b
  | .str _, .cls _, _, b, _ => nomatch b
  | .str _, .dct _, _, b, _ => nomatch b
  | .str _, .obj _ _, _, b, _ => nomatch b
  | .str _, .xc _ _ _, _, b, _ => nomatch b
  | .str _, .exv _ _, _, b, _ => nomatch b
  | .tup _, .bl _, _, b, _ => nomatch b
  | .tup _, .ty _, _, b, _ => nomatch b
  | .tup _, .cls _, _, b, _ => nomatch b
  | .tup _, .dct _, _, b, _ => nomatch b
  | .tup _, .obj _ _, _, b, _ => nomatch b
  | .tup _, .xc _ _ _, _, b, _ => nomatch b
  | .tup _, .exv _ _, _, b, _ => nomatch b
  | .lst _, .bl _, _, b, _ => nomatch b
  | .lst _, .ty _, _, b, _ => nomatch b
  | .lst _, .cls _, _, b, _ => nomatch b
  | .lst _, .dct _, _, b, _ => nomatch b
  | .lst _, .obj _ _, _, b, _ => nomatch b
  | .lst _, .xc _ _ _, _, b, _ => nomatch b
  | .lst _, .exv _ _, _, b, _ => nomatch b
theorem eqvs_same : ∀ {l m : List D}, noBs l = true → noBs m = true → PyData.eqvAll (toPys l) (toPys m) = true → l = m
  | [], [], _, _, _ => rfl
  | [], _ :: _, _, _, h => nomatch h
  | _ :: _, [], _, _, h => nomatch h
  | x :: l, y :: m, a, b, h => by
    have a' : (noB x && noBs l) = true := a
    have b' : (noB y && noBs m) = true := b
    have h' : (PyData.eqv (toPy x) (toPy y) && PyData.eqvAll (toPys l) (toPys m)) = true := h
    rw [Bool.and_eq_true] at a' b' h'
    rw [eqv_same a'.1 b'.1 h'.1, eqvs_same a'.2 b'.2 h'.2]
end
theorem eqD_ne {x y : D} (hx : noB x = true) (hy : noB y = true) (h : x ≠ y) : eqD x y = false := by
  cases q : eqD x y with
  | false => rfl
  | true => exact absurd (eqv_same hx hy q) h
theorem eqD_refl {d : D} (h : pyOk d = true) : eqD d d = true := PySem.SeqAt.eqv_refl (toPy d) (canLay_plain (pyOk.plain h))
/-! ### pairs, units -/
abbrev UP := Str × Int
def pairD (p : UP) : D := .tup [.str p.1, .int p.2]
def unitD (u : List UP) : D := .tup (u.map pairD)
theorem pairD_inj {p q : UP} (h : pairD p = pairD q) : p = q := by
  unfold pairD at h
  injection h with h
  injection h with h1 h
  injection h1 with h1
  injection h with h2 _
  injection h2 with h2
  exact Prod.ext h1 h2
theorem pairs_inj : ∀ {u v : List UP}, u.map pairD = v.map pairD → u = v
  | [], [], _ => rfl
  | [], _ :: _, h => nomatch h
  | _ :: _, [], h => nomatch h
  | p :: u, q :: v, h => by
    rw [List.map_cons, List.map_cons] at h
    injection h with h1 h2
    rw [pairD_inj h1, pairs_inj h2]
theorem unitD_inj {u v : List UP} (h : unitD u = unitD v) : u = v := by
  unfold unitD at h
  injection h with h
  exact pairs_inj h
def isPairD : D → Bool
  | .tup [x, y] => isNameD x && isWhole y
  | _ => false
theorem isPairD_tup {l : List D} (h : l.length ≠ 2) : isPairD (.tup l) = false := by
  match l, h with
  | [], _ => rfl
  | [x], _ => rfl
  | [_, _], h => exact absurd rfl h
  | x :: y :: _ :: _, _ => rfl
theorem isPairD_of {d : D} (h : isPairD d = true) : ∃ p : UP, d = pairD p ∧ isNameS p.1 = true := by
  match d, h with
  | .tup [x, y], h =>
    have h' : (isNameD x && isWhole y) = true := h
    rw [Bool.and_eq_true] at h'
    obtain ⟨z, rfl, hz⟩ := isNameD_str h'.1
    obtain ⟨i, rfl⟩ := isWhole_int h'.2
    exact ⟨(z, i), rfl, hz⟩
theorem isPairD_pair {p : UP} (h : isNameS p.1 = true) : isPairD (pairD p) = true := by
  show (isNameS p.1 && true) = true
  rw [h]
  rfl
theorem pairs_of : ∀ {l : List D}, l.all isPairD = true → ∃ ps : List UP, l = ps.map pairD ∧ ∀ p ∈ ps, isNameS p.1 = true
  | [], _ => ⟨[], rfl, fun p hp => nomatch hp⟩
  | d :: l, h => by
    rw [List.all_cons, Bool.and_eq_true] at h
    obtain ⟨p, rfl, hp⟩ := isPairD_of h.1
    obtain ⟨ps, rfl, hps⟩ := pairs_of h.2
    refine ⟨p :: ps, rfl, fun q hq => ?_⟩
    rcases List.mem_cons.mp hq with e | e
    · rw [e]; exact hp
    · exact hps q e
/-- the second is not nought -/
def nzD : D → Bool
  | .tup [_, .int e] => !decide (e = 0)
  | _ => false
def fstD : D → D
  | .tup (x :: _) => x
  | _ => .non
def txtD : D → Str
  | .str z => z
  | _ => ""
/-- the sum of a name's exponents -/
def sumAt (ps : List UP) (z : Str) : Int := ((ps.filter fun p => decide (p.1 = z)).map (·.2)).sum
def unitOf (ps : List UP) : List UP := ((sortT (ps.map (·.1))).map fun z => (z, sumAt ps z)).filter fun p => !decide (p.2 = 0)
def isUnitL (u : List UP) : Bool := u.all (fun p => isNameS p.1 && !decide (p.2 = 0)) && decide (u.map (·.1) = sortT (u.map (·.1)))
/-- a unit: rising names, exponents not nought -/
structure UnitOk (u : List UP) : Prop where
  nm : ∀ p ∈ u, isNameS p.1 = true
  nz : ∀ p ∈ u, p.2 ≠ 0
  ris : RisT (u.map (·.1))
def isUnitD : D → Bool
  | .tup l => l.all (fun d => isPairD d && nzD d) && eqD (.lst (l.map fstD)) (.lst ((sortT ((l.map fstD).map txtD)).map D.str))
  | _ => false
def S_is_pair : FS := fun ds r => ∃ d, ds = [d] ∧ dOk d = true ∧ r = .ok (.bl (isPairD d))
def S_is_unit : FS := fun ds r => ∃ d, ds = [d] ∧ dOk d = true ∧ (∀ l, d = .tup l → l.length < 64) ∧ r = .ok (.bl (isUnitD d))
/-- a list of pairs; no such list -/
def S_unit_of (C : Addr) : FS := fun ds r => (∃ ps : List UP, ds = [.lst (ps.map pairD)] ∧ (∀ p ∈ ps, isNameS p.1 = true) ∧ ps.length < 64 ∧ r = .ok (unitD (unitOf ps))) ∨
  (∃ d, ds = [d] ∧ dOk d = true ∧ (∀ l, d = .lst l → l.length < 64 ∧ l.all isPairD = false) ∧ r = .error ⟨C, []⟩)
def S_joined : FS := fun ds r => ∃ u v : List UP, ds = [unitD u, unitD v] ∧ (∀ p ∈ u, isNameS p.1 = true) ∧ (∀ p ∈ v, isNameS p.1 = true) ∧ u.length + v.length < 64 ∧ r = .ok (unitD (unitOf (u ++ v)))
def S_powered : FS := fun ds r => ∃ (u : List UP) (e : Int), ds = [unitD u, .int e] ∧ (∀ p ∈ u, isNameS p.1 = true ∧ Sm 1000 p.2) ∧ Sm 1000 e ∧ u.length < 64 ∧ r = .ok (unitD (unitOf (u.map fun p => (p.1, p.2 * e))))
def wordU (p : UP) : Str := if p.2 = 1 then p.1 else (Str.empty ++ p.1 ++ "^") ++ toString p.2
def shownU (u : List UP) : Str := Txt.join " " (u.map wordU)
def S_shown_unit : FS := fun ds r => ∃ u : List UP, ds = [unitD u] ∧ (∀ p ∈ u, p.1.length ≤ 8 ∧ p.2.natAbs < 2 ^ 1000) ∧ u.length < 64 ∧ r = .ok (.str (shownU u))
/-- the exponent that a text writes -/
def expOf (z : Str) : Option Int := match z.cps.toList with
  | [c] => if 50 ≤ c ∧ c ≤ 57 then some ((c : Int) - 48) else none
  | [m, c] => if m = 45 ∧ 49 ≤ c ∧ c ≤ 57 then some (48 - (c : Int)) else none
  | _ => none
def optI : Option Int → D
  | some i => .int i
  | none => .non
def S_exponent_of : FS := fun ds r => ∃ z : Str, ds = [.str z] ∧ z.length ≤ 5000 ∧ r = .ok (optI (expOf z))
/-- a word's name and exponent -/
def wordRead (w : Str) : Option UP :=
  let p := Txt.partition w "^"
  match (if p.2.1 = "" then some 1 else expOf p.2.2) with
  | some e => if isNameS p.1 = true then some (p.1, e) else none
  | none => none
def wordsRead : List Str → List UP → Option (List UP)
  | [], acc => some acc
  | w :: ws, acc => match wordRead w with
    | some p => if p.1 ∈ acc.map (·.1) then none else wordsRead ws (acc ++ [p])
    | none => none
def wordsOf (z : Str) : List Str := if z = "" then [] else Txt.split z " "
def readU : D → Option (List UP)
  | .str z => if isTextS z = true then (wordsRead (wordsOf z) []).map unitOf else none
  | _ => none
def S_read_unit (C : Addr) : FS := fun ds r => ∃ d, ds = [d] ∧ dOk d = true ∧ (∀ z, d = .str z → (wordsOf z).length < 64) ∧ r = match readU d with | some u => .ok (unitD u) | none => .error ⟨C, []⟩
end
section
variable {X : Cx} {Gs G : Hp} {ds : List D} {r : Except Exn D} {C : Addr}
theorem b_is_pair (B : Body X N_is_pair L_is_pair G_is_pair 3 (defScope s_is_pair)) (F1 : FnD X 2 "is_name" [] S_is_name) (F2 : FnD X 2 "is_whole" [] S_is_whole) (m1 : X.mg "isinstance" = none) (m2 : X.mg "tuple" = none) (m3 : X.mg "len" = none) (h : S_is_pair ds r) :
    SS X Gs G (defBody s_is_pair) (startA N_is_pair ds) (finOf r) := by
  obtain ⟨d, rfl, hd, rfl⟩ := h
  have ht := dOk.thing hd
  ktu_offI
  k_subL
  refine s1_ret (d := .bl (isPairD d)) ?_ rfl
  cases hs : isTyT d with
  | false =>
    refine ee_is (ee_andF (ee_is (d := .bl (isTyT d)) ?_ (by rw [hs]))) ?_
    · ktu_off1L
    · cases d <;> first | rfl | cases hs
  | true =>
    obtain ⟨l, rfl⟩ : ∃ l, d = .tup l := by cases d <;> first | exact ⟨_, rfl⟩ | cases hs
    by_cases hl : l.length = 2
    · obtain ⟨x, y, rfl⟩ : ∃ x y, l = [x, y] := by
        match l, hl with
        | [x, y], _ => exact ⟨x, y, rfl⟩
      have hx : dOk x = true := dOks.mem (l := [x, y]) hd x List.mem_cons_self
      have hy : dOk y = true := dOks.mem (l := [x, y]) hd y (List.mem_cons_of_mem _ List.mem_cons_self)
      refine ee_is (d := .bl (isTyT (.tup [x, y]) && (decide ((([x, y].length : Nat) : Int) = 2) && (isNameD x && isWhole y)))) ?_ rfl
      ktu_off1L
      · exact ⟨x, rfl, hx, rfl⟩
      ktu_off1L
      · exact ⟨y, rfl, dOk.thing hy, rfl⟩
      ktu_off1L
    · refine ee_is (ee_andT (ee_is (d := .bl (isTyT (.tup l))) ?_ rfl) (ee_andF (ee_is (d := .bl (decide (((l.length : Nat) : Int) = 2))) ?_ ?_))) ?_
      · ktu_off1L
      · ktu_off1L
      · rw [decide_eq_false (by omega)]
      · rw [isPairD_tup hl]
end
theorem all_map_bl (l : List D) (f : D → Bool) : (l.map fun d => D.bl (f d)) = (l.map f).map D.bl := by rw [List.map_map]; rfl
theorem all_id_map {α : Type} (l : List α) (f : α → Bool) : (l.map f).all id = l.all f := by rw [List.all_map]; rfl
theorem filter_true {α : Type} (l : List α) : (l.filter fun _ => true) = l := List.filter_eq_self.mpr fun _ _ => rfl
/-! ### unit_of -/
section
def getU (a : List UP) (z : Str) : Int := ((a.find? fun p => decide (p.1 = z)).map (·.2)).getD 0
def putU (a : List UP) (z : Str) (i : Int) : List UP := if (a.any fun p => decide (p.1 = z)) = true then a.map (fun p => if p.1 = z then (p.1, i) else p) else a ++ [(z, i)]
def dictOf (ps : List UP) : List UP := ps.foldl (fun a p => putU a p.1 (getU a p.1 + p.2)) []
theorem dictOf_snoc (ps : List UP) (p : UP) : dictOf (ps ++ [p]) = putU (dictOf ps) p.1 (getU (dictOf ps) p.1 + p.2) := by
  unfold dictOf
  rw [List.foldl_append]
  rfl
def kvU (a : List UP) : List (Key × D) := keysT (a.map fun p => (p.1, D.int p.2))
theorem kvU_cons (p : UP) (a : List UP) : kvU (p :: a) = (.inr p.1, .int p.2) :: kvU a := rfl
theorem inr_dec (x z : Str) : decide ((Sum.inr x : Key) = Sum.inr z) = decide (x = z) := dec_iff ⟨fun h => Sum.inr.inj h, fun h => by rw [h]⟩
theorem valD_kvU (z : Str) : ∀ a : List UP, valD (kvU a) (.inr z) = (a.find? fun p => decide (p.1 = z)).map fun p => D.int p.2
  | [] => rfl
  | p :: a => by
    have ih := valD_kvU z a
    unfold valD at ih ⊢
    rw [kvU_cons, List.find?_cons, List.find?_cons, inr_dec]
    cases decide (p.1 = z) with
    | true => rfl
    | false => exact ih
theorem getU_D (a : List UP) (z : Str) : (valD (kvU a) (.inr z)).getD (.int 0) = .int (getU a z) := by
  rw [valD_kvU]
  unfold getU
  cases a.find? fun p => decide (p.1 = z) <;> rfl
theorem any_kvU (z : Str) : ∀ a : List UP, ((kvU a).any fun kv => decide (kv.1 = Sum.inr z)) = a.any fun p => decide (p.1 = z)
  | [] => rfl
  | p :: a => by rw [kvU_cons, List.any_cons, List.any_cons, any_kvU z a, inr_dec]
theorem map_kvU (z : Str) (i : Int) : ∀ a : List UP, ((kvU a).map fun kv => if kv.1 = Sum.inr z then (kv.1, D.int i) else kv) = kvU (a.map fun p => if p.1 = z then (p.1, i) else p)
  | [] => rfl
  | p :: a => by
    rw [kvU_cons, List.map_cons, List.map_cons, kvU_cons, map_kvU z i a]
    by_cases e : p.1 = z
    · rw [if_pos (by rw [e]), if_pos e]
    · rw [if_neg (fun h => e (Sum.inr.inj h)), if_neg e]
theorem put_kvU (a : List UP) (z : Str) (i : Int) : putKD (kvU a) (.inr z) (.int i) = kvU (putU a z i) := by
  unfold putKD putU
  rw [any_kvU]
  split
  · exact map_kvU z i a
  · unfold kvU keysT
    rw [List.map_append, List.map_append]
    rfl
theorem find_putU_same (z : Str) (i : Int) : ∀ a : List UP, getU (putU a z i) z = i := by
  intro a
  unfold putU
  split
  · rename_i h
    induction a with
    | nil => simp at h
    | cons p a ih =>
      by_cases e : p.1 = z
      · simp [getU, List.find?_cons, e]
      · rw [List.any_cons, decide_eq_false e, Bool.false_or] at h
        have q := ih h
        unfold getU at q ⊢
        rw [List.map_cons, if_neg e, List.find?_cons, decide_eq_false e]
        exact q
  · rename_i h
    have h0 : a.find? (fun p => decide (p.1 = z)) = none := by
      rw [List.find?_eq_none]
      intro p hp hq
      exact h (List.any_eq_true.mpr ⟨p, hp, hq⟩)
    unfold getU
    rw [List.find?_append, h0]
    simp
theorem find_putU_ne {y z : Str} (i : Int) (hy : y ≠ z) : ∀ a : List UP, getU (putU a z i) y = getU a y := by
  intro a
  unfold putU
  split
  · rename_i h
    clear h
    induction a with
    | nil => rfl
    | cons p a ih =>
      unfold getU at ih ⊢
      rw [List.map_cons, List.find?_cons, List.find?_cons]
      by_cases e : p.1 = z
      · rw [if_pos e, decide_eq_false (by rw [e]; exact fun h => hy h.symm)]
        exact ih
      · rw [if_neg e]
        cases decide (p.1 = y) with
        | true => rfl
        | false => exact ih
  · unfold getU
    rw [List.find?_append]
    cases a.find? fun p => decide (p.1 = y) with
    | some p => rfl
    | none =>
      rw [List.find?_cons, decide_eq_false (fun h : z = y => hy h.symm)]
      rfl
theorem names_putU (z : Str) (i : Int) (a : List UP) : (putU a z i).map (·.1) = if z ∈ a.map (·.1) then a.map (·.1) else a.map (·.1) ++ [z] := by
  have e : (a.any fun p => decide (p.1 = z)) = decide (z ∈ a.map (·.1)) := by
    rw [Bool.eq_iff_iff, List.any_eq_true, decide_eq_true_eq, List.mem_map]
    exact ⟨fun ⟨p, h1, h2⟩ => ⟨p, h1, of_decide_eq_true h2⟩, fun ⟨p, h1, h2⟩ => ⟨p, h1, decide_eq_true h2⟩⟩
  unfold putU
  rw [e]
  by_cases h : z ∈ a.map (·.1)
  · rw [if_pos (decide_eq_true h), if_pos h, List.map_map]
    refine List.map_congr_left fun p _ => ?_
    show (if p.1 = z then (p.1, i) else p).1 = p.1
    split <;> rfl
  · rw [if_neg (by rw [decide_eq_false h]; exact Bool.false_ne_true), if_neg h, List.map_append]
    rfl
theorem sumAt_snoc (ps : List UP) (p : UP) (z : Str) : sumAt (ps ++ [p]) z = sumAt ps z + (if p.1 = z then p.2 else 0) := by
  unfold sumAt
  rw [List.filter_append, List.map_append, List.sum_append]
  congr 1
  by_cases e : p.1 = z
  · simp [e]
  · simp [e]
theorem snoc_ind {α : Type} {P : List α → Prop} (h0 : P []) (h1 : ∀ l x, P l → P (l ++ [x])) (l : List α) : P l := by
  have h : ∀ m : List α, P m.reverse := by
    intro m
    induction m with
    | nil => exact h0
    | cons x m ih => rw [List.reverse_cons]; exact h1 _ x ih
  have := h l.reverse
  rwa [List.reverse_reverse] at this
/-- what the dict has behind the pairs -/
theorem dictOf_ok : ∀ ps : List UP, (∀ z, getU (dictOf ps) z = sumAt ps z) ∧ ((dictOf ps).map (·.1)).Nodup ∧ (∀ z, z ∈ (dictOf ps).map (·.1) ↔ z ∈ ps.map (·.1)) ∧ (dictOf ps).length ≤ ps.length := by
  refine snoc_ind ⟨fun z => rfl, List.nodup_nil, fun z => Iff.rfl, Nat.le_refl _⟩ fun ps p ih => ?_
  obtain ⟨h1, h2, h3, h4⟩ := ih
  have hn := names_putU p.1 (getU (dictOf ps) p.1 + p.2) (dictOf ps)
  rw [dictOf_snoc]
  refine ⟨fun z => ?_, ?_, fun z => ?_, ?_⟩
  · rw [sumAt_snoc]
    by_cases e : z = p.1
    · subst e
      rw [find_putU_same, h1, if_pos rfl]
    · rw [find_putU_ne _ e, h1, if_neg (fun h => e h.symm), Int.add_zero]
  · rw [hn]
    split
    · exact h2
    · rename_i h
      rw [List.nodup_append]
      refine ⟨h2, by simp, fun a ha b hb e => ?_⟩
      rw [List.mem_singleton.mp hb] at e
      rw [e] at ha
      exact h ha
  · rw [hn, List.map_append]
    split
    · rename_i h
      rw [h3, List.mem_append]
      refine ⟨.inl, fun q => q.elim id fun q => ?_⟩
      rw [List.map_cons, List.map_nil, List.mem_singleton] at q
      rw [q]
      exact (h3 p.1).mp h
    · rw [List.mem_append, List.mem_append, h3]
      rfl
  · have e1 := congrArg List.length hn
    rw [List.length_map] at e1
    rw [e1, List.length_append, List.length_singleton]
    split
    · rw [List.length_map]; omega
    · rw [List.length_append, List.length_map, List.length_singleton]; omega
theorem unitOf_made (ps : List UP) : (((sortT ((dictOf ps).map (·.1))).map D.str).filter fun d => match d with | .str z => !decide (getU (dictOf ps) z = 0) | _ => false).map (fun d => match d with | .str z => pairD (z, getU (dictOf ps) z) | _ => .non) = (unitOf ps).map pairD := by
  obtain ⟨h1, h2, h3, _⟩ := dictOf_ok ps
  have es : sortT ((dictOf ps).map (·.1)) = sortT (ps.map (·.1)) := ris_uniq (ris_sortT _) (ris_sortT _) fun z => by rw [mem_sortT, mem_sortT, h3]
  rw [es]
  unfold unitOf
  rw [List.filter_map, List.map_map, List.filter_map, List.map_map]
  have e2 : (fun z : Str => !decide (getU (dictOf ps) z = 0)) = fun z => !decide (sumAt ps z = 0) := funext fun z => by rw [h1]
  show List.map _ (List.filter (fun z : Str => !decide (getU (dictOf ps) z = 0)) _) = List.map _ (List.filter (fun z => !decide (sumAt ps z = 0)) _)
  rw [e2]
  refine List.map_congr_left fun z _ => ?_
  show pairD (z, getU (dictOf ps) z) = pairD (z, sumAt ps z)
  rw [h1]
end
section
variable {X : Cx} {Gs G : Hp} {ds : List D} {r : Except Exn D} {C : Addr}
theorem dOks_pairs {ps : List UP} (h : ∀ p ∈ ps, isNameS p.1 = true) : dOk (.lst (ps.map pairD)) = true := by
  refine dOks.of fun d hd => ?_
  obtain ⟨p, hp, rfl⟩ := List.mem_map.mp hd
  have := isNameS.len (h p hp)
  show (decide (p.1.length ≤ 5000) && (true && true)) = true
  rw [decide_eq_true (by omega)]
  rfl
theorem all_pairs {ps : List UP} (h : ∀ p ∈ ps, isNameS p.1 = true) : (ps.map pairD).all isPairD = true := by
  rw [List.all_map]
  exact List.all_eq_true.mpr fun p hp => isPairD_pair (h p hp)
theorem b_unit_of (B : Body X N_unit_of L_unit_of G_unit_of 5 (defScope s_unit_of)) (F1 : FnD X 4 "is_pair" [] S_is_pair) (E1 : ExcOk X "BadUnit" C) (m1 : X.mg "isinstance" = none) (m2 : X.mg "list" = none) (m3 : X.mg "all" = none) (m4 : X.mg "sorted" = none) (m5 : X.mg "tuple" = none) (h : S_unit_of C ds r) :
    SS X Gs G (defBody s_unit_of) (startA N_unit_of ds) (finOf r) := by
  rcases h with ⟨ps, rfl, hn, h64, rfl⟩ | ⟨d, rfl, hd, hb, rfl⟩
  · have hd := dOks_pairs hn
    have hlen : (ps.map pairD).length < sizeLine := by rw [List.length_map, sizeLine_eq]; omega
    ktu_offI
    k_subL
    refine s1_ifF (EW.et (ew_is (k := !isTyL (.lst (ps.map pairD)) || !((ps.map pairD).map isPairD).all id) (ew_or ?_ fun _ => ew_or1 (et_not (et_val (e_all (by assumption) B.calm (by nest_cls) (by assumption) (ee_is (EN.ee (en_lc1 (ds := ps.map pairD) 4 [none, none, none, none, some "pair"] ["is_pair"] (fun d => .bl (isPairD d)) (fun _ => true) B (iw_list ?_) (by decide +kernel) hlen ?_)) ?_)) ?_))) ?_)) ?_
    · ktu_off1L
    · ktu_off1L
    · intro s H cl C fp nb gb j d hj
      have hdd : dOk d = true := dOks.mem hd d (List.mem_of_getElem? hj)
      refine ⟨ets_nil, fun _ => ?_⟩
      have F1' := fn_in gb F1
      have r4 := room_in gb (B.room.mono (show 4 ≤ 5 by decide))
      ktu_off1L
      · exact ⟨d, rfl, hdd, rfl⟩
      ktu_off1L
    · rw [filter_true, all_map_bl]
    · ktu_off1L
    · show (false || !((ps.map pairD).map isPairD).all id) = false
      rw [all_id_map, all_pairs hn]
      rfl
    · k_subL
      k_subL
      refine t_setN (as1 := [.fz (.lst (ps.map pairD)), .ow (.dct []), .un, .un, .un]) B (by nest_cls) en_dnew (by ktu_off1L) (by ktu_offL) ?_
      k_subL
      refine t_for B (two 2 3) (iw_list (ds := ps.map pairD) ?_) (fun j as' => ∃ s2 s3, as' = [.fz (.lst (ps.map pairD)), .ow (.dct (kvU (dictOf (ps.take j)))), s2, s3, .un]) ⟨_, _, rfl⟩ ?_ ?_ ?_
      · ktu_off1L
      · intro j d hj
        obtain ⟨p, _, rfl⟩ := map_at hj
        exact tg_two B (by nest_cls) (by nest_cls)
      · rintro j d as' hj ⟨s2, s3, rfl⟩
        obtain ⟨p, hp, rfl⟩ := map_at hj
        show SS X Gs G _ [.fz (.lst (ps.map pairD)), .ow (.dct (kvU (dictOf (ps.take j)))), .fz (.str p.1), .fz (.int p.2), .un] _
        have ez : (kvU (dictOf (ps.take j))).length < sizeLine := by
          have := (dictOf_ok (ps.take j)).2.2.2
          unfold kvU keysT
          rw [List.length_map, List.length_map, sizeLine_eq]
          rw [List.length_take] at this
          omega
        k_subL
        refine t_dputV (key := .inr p.1) (d := .int (getU (dictOf (ps.take j)) p.1 + p.2)) (as1 := [.fz (.lst (ps.map pairD)), .ow (.dct (kvU (dictOf (ps.take (j + 1))))), .fz (.str p.1), .fz (.int p.2), .un]) B (by nest_cls) rfl (ee_bin (x := .int (getU (dictOf (ps.take j)) p.1)) (y := .int p.2) (ee_is (ee_dget2 (k := .inr p.1) (x := .int 0) B.room ?_ ?_ ?_) (getU_D _ _)) ?_ ?_) rfl ?_ ez ?_ ?_
        · ktu_off1L
        · show EE X _ _ (.str p.1)
          ktu_off1L
        · ktu_off1L
        · ktu_off1L
        · ktu_off1L
        · show EE X _ _ (.str p.1)
          ktu_off1L
        · rw [put_kvU, List.take_add_one, hp]
          show SetA _ _ _ [_, .ow (.dct (kvU (dictOf (ps.take j ++ [p])))), _, _, _]
          rw [dictOf_snoc]
          ktu_offL
        · exact ⟨_, _, rfl⟩
      · rintro as' ⟨s2, s3, rfl⟩
        rw [List.length_map, List.take_length]
        obtain ⟨_, d2, d3, d4⟩ := dictOf_ok ps
        have ks : ((dictOf ps).map fun p => (p.1, D.int p.2)).map (·.1) = (dictOf ps).map (·.1) := by
          rw [List.map_map]
          rfl
        k_subL
        refine s1_ret (d := .tup ((unitOf ps).map pairD)) (e_tupL (by assumption) (by nest_cls) (by assumption) (ee_is (EN.ee (en_lc1 (ds := (sortT ((dictOf ps).map (·.1))).map D.str) 2 [none, some "found", some "name"] [] (fun d => match d with | .str z => pairD (z, getU (dictOf ps) z) | _ => .non) (fun d => match d with | .str z => !decide (getU (dictOf ps) z = 0) | _ => false) B (iw_list (ee_is (EN.ee (en_sortD (ks := (dictOf ps).map fun p => (p.1, D.int p.2)) (by assumption) B.calm (by nest_cls) (by assumption) ?_ ?_ ?_ ?_)) ?_)) (by decide +kernel) ?_ ?_)) ?_) ?_) ?_
        · exact e_name (by assumption) (by nest_cls) rfl
        · rw [ks]; exact d2
        · rw [List.length_map]; omega
        · ktu_off1L
        · rw [ks]
        · have := len_sortT ((dictOf ps).map (·.1))
          rw [List.length_map] at this
          rw [List.length_map, sizeLine_eq]
          omega
        · intro s H cl C fp nb gb j d hj
          obtain ⟨z, hz, rfl⟩ := map_at hj
          have hm : z ∈ (dictOf ps).map (·.1) := mem_sortT.mp (List.mem_of_getElem? hz)
          have hv : valD (kvU (dictOf ps)) (.inr z) = some (.int (getU (dictOf ps) z)) := by
            rw [valD_kvU]
            unfold getU
            cases hf : (dictOf ps).find? fun p => decide (p.1 = z) with
            | some p => rfl
            | none =>
              obtain ⟨p, hp, e⟩ := List.mem_map.mp hm
              have := List.find?_eq_none.mp hf p hp
              rw [decide_eq_true e] at this
              exact absurd rfl this
          have r5 := room_in gb B.room
          refine ⟨ets_one (et_cmp (x := .int (getU (dictOf ps) z)) (y := .int 0) (ee_dget (k := .inr z) (ks := kvU (dictOf ps)) r5 ?_ ?_ hv) ?_ oc_neI ?_), fun _ => ?_⟩
          · ktu_off1L
          · show EE _ _ _ (.str z)
            ktu_off1L
          · ktu_off1L
          · ktu_off1L
          · show EE _ _ _ (.tup [.str z, .int (getU (dictOf ps) z)])
            refine ee_tup (ea_cons ?_ (ea_cons (ee_dget (k := .inr z) (ks := kvU (dictOf ps)) r5 ?_ ?_ hv) ea_nil ?_) ?_) (len_le (by rfl))
            · ktu_off1L
            · ktu_off1L
            · show EE _ _ _ (.str z)
              ktu_off1L
            · ktu_off1L
            · ktu_off1L
        · rw [unitOf_made]
        · ktu_off1L
        · rfl
  · have ht := dOk.thing hd
    ktu_offI
    k_subL
    cases hs : isTyL d with
    | false =>
      refine s1_ifT (EW.et (ew_orT (et_is (k := !isTyL d) ?_ (by rw [hs]; rfl)))) ?_
      · ktu_off1L
      · k_places
        rfl
    | true =>
      obtain ⟨l, rfl⟩ : ∃ l, d = .lst l := by cases d <;> first | exact ⟨_, rfl⟩ | cases hs
      obtain ⟨h64, hall⟩ := hb l rfl
      have hlen : l.length < sizeLine := by rw [sizeLine_eq]; omega
      refine s1_ifT (EW.et (ew_is (k := !isTyL (.lst l) || !(l.map isPairD).all id) (ew_or ?_ fun _ => ew_or1 (et_not (et_val (e_all (by assumption) B.calm (by nest_cls) (by assumption) (ee_is (EN.ee (en_lc1 (ds := l) 4 [none, none, none, none, some "pair"] ["is_pair"] (fun d => .bl (isPairD d)) (fun _ => true) B (iw_list ?_) (by decide +kernel) hlen ?_)) ?_)) ?_))) ?_)) ?_
      · ktu_off1L
      · ktu_off1L
      · intro s H cl C fp nb gb j d hj
        have hdd : dOk d = true := dOks.mem hd d (List.mem_of_getElem? hj)
        refine ⟨ets_nil, fun _ => ?_⟩
        have F1' := fn_in gb F1
        have r4 := room_in gb (B.room.mono (show 4 ≤ 5 by decide))
        ktu_off1L
        · exact ⟨d, rfl, hdd, rfl⟩
        ktu_off1L
      · rw [filter_true, all_map_bl]
      · ktu_off1L
      · show (false || !(l.map isPairD).all id) = true
        rw [all_id_map, hall]
        rfl
      · k_places
        rfl
end
section
variable {X : Cx} {Gs G : Hp} {ds : List D} {r : Except Exn D} {C : Addr}
theorem b_joined (B : Body X N_joined L_joined G_joined 7 (defScope s_joined)) (F1 : FnD X 6 "unit_of" [] (S_unit_of C)) (m1 : X.mg "list" = none) (h : S_joined ds r) :
    SS X Gs G (defBody s_joined) (startA N_joined ds) (finOf r) := by
  obtain ⟨u, v, rfl, hu, hv, hl, rfl⟩ := h
  have hsz : (u.map pairD).length + (v.map pairD).length ≤ sizeLine := by rw [List.length_map, List.length_map, sizeLine_eq]; omega
  ktu_offI
  k_subL
  refine s1_ret (d := unitD (unitOf (u ++ v))) (e_call (ds := [.lst (u.map pairD ++ v.map pairD)]) (by assumption) F1 (by nest_cls) (by (with_reducible first | assumption | exact Mw.Body.room (by assumption) | exact L2.Room.mono (Mw.Body.room (by assumption)) (by with_unfolding_all decide))) (ea_cons (ee_bin (EN.ee (n_listT (by assumption) (by nest_cls) (by assumption) ?_ ?_)) (EN.ee (n_listT (by assumption) (by nest_cls) (by assumption) ?_ ?_)) (od_catL hsz)) ea_nil ?_) ?_ ?_ ?_) rfl
  · exact e_name (as := vis [.fz (unitD u), .fz (unitD v)]) (by assumption) (by nest_cls) rfl
  · ktu_off1L
  · exact e_name (as := vis [.fz (unitD u), .fz (unitD v)]) (by assumption) (by nest_cls) rfl
  · ktu_off1L
  · ktu_off1L
  · rw [List.append_nil]
    refine .inl ⟨u ++ v, by rw [List.map_append], fun p hp => ?_, by rw [List.length_append]; exact hl, rfl⟩
    rcases List.mem_append.mp hp with q | q
    · exact hu p q
    · exact hv p q
  · ktu_off1L
  · ktu_off1L
theorem b_powered (B : Body X N_powered L_powered G_powered 7 (defScope s_powered)) (F1 : FnD X 6 "unit_of" [] (S_unit_of C)) (h : S_powered ds r) :
    SS X Gs G (defBody s_powered) (startA N_powered ds) (finOf r) := by
  obtain ⟨u, e, rfl, hu, he, hl, rfl⟩ := h
  have hlen : (u.map pairD).length < sizeLine := by rw [List.length_map, sizeLine_eq]; omega
  ktu_offI
  k_subL
  refine s1_ret (d := unitD (unitOf (u.map fun p => (p.1, p.2 * e)))) (e_call (ds := [.lst ((u.map fun p => (p.1, p.2 * e)).map pairD)]) (by assumption) F1 (by nest_cls) (by (with_reducible first | assumption | exact Mw.Body.room (by assumption) | exact L2.Room.mono (Mw.Body.room (by assumption)) (by with_unfolding_all decide))) (ea_cons (ee_is (EN.ee (en_lc2 (ds := u.map pairD) 2 3 [none, some "exponent", some "name", some "own"] [] (fun d => match d with | .tup [x, .int i] => .tup [x, .int (i * e)] | _ => .non) (fun _ => true) B (iw_tup ?_) (by decide +kernel) hlen ?_ ?_)) ?_) ea_nil ?_) ?_ ?_ ?_) rfl
  · exact e_name (by assumption) (by nest_cls) rfl
  · intro t d hd
    obtain ⟨p, _, rfl⟩ := map_at hd
    exact ⟨_, _, rfl⟩
  · intro s H cl C fp nb gb t x y hd
    obtain ⟨p, hp, e1⟩ := map_at hd
    unfold pairD at e1
    injection e1 with e1
    injection e1 with ex e1
    injection e1 with ey _
    subst ex ey
    have hm := hu p (List.mem_of_getElem? hp)
    have hc : CMulW p.2 e := cmulW_of hm.2 he (by decide) (by decide) (by decide)
    refine ⟨ets_nil, fun _ => ?_⟩
    show EE _ _ _ (.tup [.str p.1, .int (p.2 * e)])
    ktu_off1L
  · rw [filter_true, List.map_map, List.map_map]
    rfl
  · ktu_off1L
  · rw [List.append_nil]
    refine .inl ⟨_, rfl, fun p hp => ?_, by rw [List.length_map]; exact hl, rfl⟩
    obtain ⟨q, hq, rfl⟩ := List.mem_map.mp hp
    exact (hu q hq).1
  · ktu_off1L
  · ktu_off1L
end
section
theorem atI_pick {l : List D} {i : Int} {d : D} (h0 : 0 ≤ i) (h1 : i < l.length) (h : l.getD i.toNat .non = d) : atI l i = some d := by
  rw [show i = ((i.toNat : Nat) : Int) by omega]
  refine atI_nat ?_
  have hl : i.toNat < l.length := by omega
  rw [List.getElem?_eq_getElem hl, ← h, List.getD_eq_getElem?_getD, List.getElem?_eq_getElem hl]
  rfl
theorem getD_ints {l : List Int} {i : Nat} {e : Int} (h : i < l.length) : (l.map D.int).getD i .non = .int (l.getD i e) := by
  rw [List.getD_eq_getElem?_getD, List.getD_eq_getElem?_getD, List.getElem?_map, List.getElem?_eq_getElem h]
  rfl
theorem getD_all {α : Type} {P : α → Prop} {l : List α} {d : α} (h : ∀ x ∈ l, P x) (h0 : P d) (i : Nat) : P (l.getD i d) := by
  rw [List.getD_eq_getElem?_getD]
  cases e : l[i]? with
  | none => exact h0
  | some x => exact h x (List.mem_of_getElem? e)
theorem frac_parts {a b : Int} (hb : 0 < b) : ∃ p q : Int, fracD a b = .tup [.int p, .int q] ∧ 0 < q ∧ Nat.gcd p.natAbs q.natAbs = 1 ∧ p * b = a * q ∧ p.natAbs ≤ a.natAbs ∧ q.natAbs ≤ b.natAbs := by
  have hg : 0 < Nat.gcd a.natAbs b.natAbs := Nat.gcd_pos_of_pos_right _ (by omega)
  have d1 : ((Nat.gcd a.natAbs b.natAbs : Nat) : Int) ∣ a := Int.ofNat_dvd_left.mpr (Nat.gcd_dvd_left _ _)
  have d2 : ((Nat.gcd a.natAbs b.natAbs : Nat) : Int) ∣ b := Int.ofNat_dvd_left.mpr (Nat.gcd_dvd_right _ _)
  have ee : fracD a b = .tup [.int (a / (Nat.gcd a.natAbs b.natAbs : Nat)), .int (b / (Nat.gcd a.natAbs b.natAbs : Nat))] := rfl
  refine ⟨_, _, ee, ?_⟩
  have e1 := Int.mul_ediv_cancel' d1
  have e2 := Int.mul_ediv_cancel' d2
  generalize hG : Nat.gcd a.natAbs b.natAbs = g at *
  generalize hp : a / (g : Int) = p at *
  generalize hq : b / (g : Int) = q at *
  have n1 : a.natAbs = g * p.natAbs := by rw [← e1, Int.natAbs_mul] <;> rfl
  have n2 : b.natAbs = g * q.natAbs := by rw [← e2, Int.natAbs_mul] <;> rfl
  refine ⟨?_, ?_, ?_, ?_, ?_⟩
  · rcases Int.lt_trichotomy q 0 with h | h | h
    · have := Int.mul_neg_of_pos_of_neg (show (0 : Int) < g by omega) h
      omega
    · rw [h, Int.mul_zero] at e2; omega
    · exact h
  · have h := hG
    rw [n1, n2, Nat.gcd_mul_left] at h
    exact Nat.eq_of_mul_eq_mul_left hg (by rw [h, Nat.mul_one])
  · rw [← e1, ← e2, Int.mul_comm p, Int.mul_assoc, Int.mul_assoc, Int.mul_comm q p]
  · rw [n1]; exact Nat.le_mul_of_pos_left _ hg
  · rw [n2]; exact Nat.le_mul_of_pos_left _ hg
theorem frac_one (a : Int) : fracD a 1 = .tup [.int a, .int 1] := by
  have e : Nat.gcd a.natAbs (1 : Int).natAbs = 1 := Nat.gcd_one_right _
  unfold fracD
  rw [e]
  simp
theorem pick_in {l : List D} {i : Int} (h0 : 0 ≤ i) (h1 : i < l.length) : ∃ d, atI l i = some d ∧ d ∈ l := by
  obtain ⟨j, rfl⟩ : ∃ j : Nat, i = j := ⟨i.toNat, by omega⟩
  have hl : j < l.length := by omega
  exact ⟨l[j], atI_nat (List.getElem?_eq_getElem hl), List.getElem_mem hl⟩
end
/-! ### k03: rates, plain -/
section
/-- a rate's power: what goes above, what goes below -/
def pwA (ab : Int × Int) (e : Int) : Int := if e < 0 then ab.2 ^ e.natAbs else ab.1 ^ e.natAbs
def pwB (ab : Int × Int) (e : Int) : Int := if e < 0 then ab.1 ^ e.natAbs else ab.2 ^ e.natAbs
def prA (r : Str → Int × Int) : List UP → Int
  | [] => 1
  | p :: u => pwA (r p.1) p.2 * prA r u
def prB (r : Str → Int × Int) : List UP → Int
  | [] => 1
  | p :: u => pwB (r p.1) p.2 * prB r u
def RPos (r : Str → Int × Int) : Prop := ∀ z, 0 < (r z).1 ∧ 0 < (r z).2
theorem pow_pos' {a : Int} (h : 0 < a) (n : Nat) : 0 < a ^ n := Int.pow_pos h
theorem pwA_pos {ab : Int × Int} (h : 0 < ab.1 ∧ 0 < ab.2) (e : Int) : 0 < pwA ab e := by
  unfold pwA
  split
  · exact Int.pow_pos h.2
  · exact Int.pow_pos h.1
theorem pwB_pos {ab : Int × Int} (h : 0 < ab.1 ∧ 0 < ab.2) (e : Int) : 0 < pwB ab e := by
  unfold pwB
  split
  · exact Int.pow_pos h.1
  · exact Int.pow_pos h.2
theorem pwA_zero (ab : Int × Int) : pwA ab 0 = 1 := by
  unfold pwA
  rw [if_neg (by decide)]
  exact Int.pow_zero _
theorem pwB_zero (ab : Int × Int) : pwB ab 0 = 1 := by
  unfold pwB
  rw [if_neg (by decide)]
  exact Int.pow_zero _
theorem prA_pos {r : Str → Int × Int} (h : RPos r) : ∀ u, 0 < prA r u
  | [] => by show (0 : Int) < 1; decide
  | p :: u => Int.mul_pos (pwA_pos (h p.1) p.2) (prA_pos h u)
theorem prB_pos {r : Str → Int × Int} (h : RPos r) : ∀ u, 0 < prB r u
  | [] => by show (0 : Int) < 1; decide
  | p :: u => Int.mul_pos (pwB_pos (h p.1) p.2) (prB_pos h u)
theorem prA_snoc (r : Str → Int × Int) (p : UP) : ∀ u, prA r (u ++ [p]) = prA r u * pwA (r p.1) p.2
  | [] => by show pwA (r p.1) p.2 * 1 = 1 * pwA (r p.1) p.2; rw [Int.mul_one, Int.one_mul]
  | q :: u => by
    show pwA (r q.1) q.2 * prA r (u ++ [p]) = pwA (r q.1) q.2 * prA r u * pwA (r p.1) p.2
    rw [prA_snoc r p u, Int.mul_assoc]
theorem prB_snoc (r : Str → Int × Int) (p : UP) : ∀ u, prB r (u ++ [p]) = prB r u * pwB (r p.1) p.2
  | [] => by show pwB (r p.1) p.2 * 1 = 1 * pwB (r p.1) p.2; rw [Int.mul_one, Int.one_mul]
  | q :: u => by
    show pwB (r q.1) q.2 * prB r (u ++ [p]) = pwB (r q.1) q.2 * prB r u * pwB (r p.1) p.2
    rw [prB_snoc r p u, Int.mul_assoc]
theorem prA_app (r : Str → Int × Int) (v : List UP) : ∀ u, prA r (u ++ v) = prA r u * prA r v
  | [] => by show prA r v = 1 * prA r v; rw [Int.one_mul]
  | q :: u => by
    show pwA (r q.1) q.2 * prA r (u ++ v) = pwA (r q.1) q.2 * prA r u * prA r v
    rw [prA_app r v u, Int.mul_assoc]
theorem prB_app (r : Str → Int × Int) (v : List UP) : ∀ u, prB r (u ++ v) = prB r u * prB r v
  | [] => by show prB r v = 1 * prB r v; rw [Int.one_mul]
  | q :: u => by
    show pwB (r q.1) q.2 * prB r (u ++ v) = pwB (r q.1) q.2 * prB r u * prB r v
    rw [prB_app r v u, Int.mul_assoc]
theorem pw_nat (ab : Int × Int) (m n : Nat) : pwA ab ((m : Int) - n) * (ab.2 ^ m * ab.1 ^ n) = (ab.1 ^ m * ab.2 ^ n) * pwB ab ((m : Int) - n) := by
  obtain ⟨a, b⟩ := ab
  unfold pwA pwB
  by_cases h : ((m : Int) - n) < 0
  · rw [if_pos h, if_pos h]
    obtain ⟨k, rfl⟩ : ∃ k, n = m + k := ⟨n - m, by omega⟩
    rw [show ((m : Int) - (m + k : Nat)).natAbs = k by omega]
    show b ^ k * (b ^ m * a ^ (m + k)) = a ^ m * b ^ (m + k) * a ^ k
    rw [Int.pow_add, Int.pow_add]
    ac_rfl
  · rw [if_neg h, if_neg h]
    obtain ⟨k, rfl⟩ : ∃ k, m = n + k := ⟨m - n, by omega⟩
    rw [show (((n + k : Nat) : Int) - n).natAbs = k by omega]
    show a ^ k * (b ^ (n + k) * a ^ n) = a ^ (n + k) * b ^ n * b ^ k
    rw [Int.pow_add, Int.pow_add]
    ac_rfl
/-- an exponent as a difference -/
theorem pw_split (ab : Int × Int) (e : Int) : ∃ m n : Nat, e = (m : Int) - n ∧ pwA ab e = ab.1 ^ m * ab.2 ^ n ∧ pwB ab e = ab.2 ^ m * ab.1 ^ n := by
  unfold pwA pwB
  by_cases h : e < 0
  · exact ⟨0, e.natAbs, by omega, by rw [if_pos h, Int.pow_zero, Int.one_mul], by rw [if_pos h, Int.pow_zero, Int.one_mul]⟩
  · exact ⟨e.natAbs, 0, by omega, by rw [if_neg h, Int.pow_zero, Int.mul_one], by rw [if_neg h, Int.pow_zero, Int.mul_one]⟩
theorem pw_add (ab : Int × Int) (i j : Int) : pwA ab (i + j) * (pwB ab i * pwB ab j) = (pwA ab i * pwA ab j) * pwB ab (i + j) := by
  obtain ⟨m, n, h1, h2, h3⟩ := pw_split ab i
  obtain ⟨m', n', g1, g2, g3⟩ := pw_split ab j
  have q := pw_nat ab (m + m') (n + n')
  rw [show i + j = ((m + m' : Nat) : Int) - (n + n' : Nat) by omega, h2, h3, g2, g3]
  rw [Int.pow_add, Int.pow_add, Int.pow_add, Int.pow_add] at q
  rw [show ab.2 ^ m * ab.1 ^ n * (ab.2 ^ m' * ab.1 ^ n') = ab.2 ^ m * ab.2 ^ m' * (ab.1 ^ n * ab.1 ^ n') by ac_rfl, q]
  ac_rfl
/-- over a row of names -/
def vA (r : Str → Int × Int) (s : Str → Int) (L : List Str) : Int := prA r (L.map fun z => (z, s z))
def vB (r : Str → Int × Int) (s : Str → Int) (L : List Str) : Int := prB r (L.map fun z => (z, s z))
theorem v_add (r : Str → Int × Int) (s t : Str → Int) : ∀ L, vA r (fun z => s z + t z) L * (vB r s L * vB r t L) = (vA r s L * vA r t L) * vB r (fun z => s z + t z) L
  | [] => rfl
  | z :: L => by
    have ih := v_add r s t L
    have h := pw_add (r z) (s z) (t z)
    show pwA (r z) (s z + t z) * vA r (fun z => s z + t z) L * (pwB (r z) (s z) * vB r s L * (pwB (r z) (t z) * vB r t L)) = pwA (r z) (s z) * vA r s L * (pwA (r z) (t z) * vA r t L) * (pwB (r z) (s z + t z) * vB r (fun z => s z + t z) L)
    generalize vA r (fun z => s z + t z) L = a1 at *
    generalize vB r (fun z => s z + t z) L = b1 at *
    generalize vA r s L = a2 at *
    generalize vB r s L = b2 at *
    generalize vA r t L = a3 at *
    generalize vB r t L = b3 at *
    generalize pwA (r z) (s z + t z) = c1 at *
    generalize pwB (r z) (s z + t z) = d1 at *
    generalize pwA (r z) (s z) = c2 at *
    generalize pwB (r z) (s z) = d2 at *
    generalize pwA (r z) (t z) = c3 at *
    generalize pwB (r z) (t z) = d3 at *
    rw [show c1 * a1 * (d2 * b2 * (d3 * b3)) = (c1 * (d2 * d3)) * (a1 * (b2 * b3)) by ac_rfl, h, ih]
    ac_rfl
theorem v_zero (r : Str → Int × Int) {s : Str → Int} : ∀ {L : List Str}, (∀ z ∈ L, s z = 0) → vA r s L = 1 ∧ vB r s L = 1
  | [], _ => ⟨rfl, rfl⟩
  | z :: L, h => by
    obtain ⟨h1, h2⟩ := v_zero r fun y hy => h y (List.mem_cons_of_mem _ hy)
    have h0 := h z List.mem_cons_self
    refine ⟨?_, ?_⟩
    · show pwA (r z) (s z) * vA r s L = 1
      rw [h0, h1, pwA_zero]
      rfl
    · show pwB (r z) (s z) * vB r s L = 1
      rw [h0, h2, pwB_zero]
      rfl
theorem v_one (r : Str → Int × Int) (p : UP) : ∀ {L : List Str}, L.Nodup → p.1 ∈ L → vA r (fun z => if p.1 = z then p.2 else 0) L = pwA (r p.1) p.2 ∧ vB r (fun z => if p.1 = z then p.2 else 0) L = pwB (r p.1) p.2
  | [], _, h => nomatch h
  | z :: L, nd, h => by
    rw [List.nodup_cons] at nd
    by_cases e : p.1 = z
    · obtain ⟨h1, h2⟩ := v_zero r (s := fun y => if p.1 = y then p.2 else 0) (L := L) fun y hy => by
        show (if p.1 = y then p.2 else 0) = 0
        rw [if_neg]
        rintro e2
        exact nd.1 (by rw [← e, e2]; exact hy)
      refine ⟨?_, ?_⟩
      · show pwA (r z) (if p.1 = z then p.2 else 0) * vA r (fun z => if p.1 = z then p.2 else 0) L = _
        rw [h1, if_pos e, e, Int.mul_one]
      · show pwB (r z) (if p.1 = z then p.2 else 0) * vB r (fun z => if p.1 = z then p.2 else 0) L = _
        rw [h2, if_pos e, e, Int.mul_one]
    · obtain ⟨h1, h2⟩ := v_one r p nd.2 ((List.mem_cons.mp h).resolve_left e)
      refine ⟨?_, ?_⟩
      · show pwA (r z) (if p.1 = z then p.2 else 0) * vA r (fun z => if p.1 = z then p.2 else 0) L = _
        rw [h1, if_neg e, pwA_zero, Int.one_mul]
      · show pwB (r z) (if p.1 = z then p.2 else 0) * vB r (fun z => if p.1 = z then p.2 else 0) L = _
        rw [h2, if_neg e, pwB_zero, Int.one_mul]
theorem sumAt_cons (p : UP) (ps : List UP) (z : Str) : sumAt (p :: ps) z = (if p.1 = z then p.2 else 0) + sumAt ps z := by
  unfold sumAt
  rw [List.filter_cons]
  by_cases e : p.1 = z
  · rw [if_pos (decide_eq_true e), if_pos e, List.map_cons, List.sum_cons]
  · rw [if_neg (by simpa using e), if_neg e, Int.zero_add]
theorem v_pairs {r : Str → Int × Int} (hr : RPos r) {L : List Str} (nd : L.Nodup) : ∀ ps : List UP, (∀ p ∈ ps, p.1 ∈ L) → vA r (sumAt ps) L * prB r ps = prA r ps * vB r (sumAt ps) L
  | [], _ => by
    obtain ⟨h1, h2⟩ := v_zero r (s := sumAt []) (L := L) fun z _ => rfl
    rw [h1, h2]
    rfl
  | p :: ps, hm => by
    have ih := v_pairs hr nd ps fun q hq => hm q (List.mem_cons_of_mem _ hq)
    obtain ⟨h1, h2⟩ := v_one r p nd (hm p List.mem_cons_self)
    have ha := v_add r (fun z => if p.1 = z then p.2 else 0) (sumAt ps) L
    have ef : sumAt (p :: ps) = fun z => (if p.1 = z then p.2 else 0) + sumAt ps z := funext fun z => sumAt_cons p ps z
    rw [h1, h2] at ha
    rw [ef]
    show _ * (pwB (r p.1) p.2 * prB r ps) = pwA (r p.1) p.2 * prA r ps * _
    have pos : 0 < vB r (sumAt ps) L := prB_pos hr _
    generalize vA r (fun z => (if p.1 = z then p.2 else 0) + sumAt ps z) L = a1 at *
    generalize vB r (fun z => (if p.1 = z then p.2 else 0) + sumAt ps z) L = b1 at *
    generalize vA r (sumAt ps) L = a2 at *
    generalize vB r (sumAt ps) L = b2 at *
    generalize pwA (r p.1) p.2 = c at *
    generalize pwB (r p.1) p.2 = d at *
    generalize prA r ps = e at *
    generalize prB r ps = f at *
    refine Int.eq_of_mul_eq_mul_right (Int.ne_of_gt pos) ?_
    rw [show a1 * (d * f) * b2 = a1 * (d * b2) * f by ac_rfl, ha, show c * a2 * b1 * f = c * b1 * (a2 * f) by ac_rfl, ih]
    ac_rfl
theorem ris_nodup {l : List Str} (h : RisT l) : l.Nodup := h.imp fun {a b} hab e => by
  rw [e, show ltT b b = ltCps b.cps.toList b.cps.toList from rfl, ltC_irr] at hab
  cases hab
theorem pr_filter (r : Str → Int × Int) : ∀ u : List UP, prA r (u.filter fun p => !decide (p.2 = 0)) = prA r u ∧ prB r (u.filter fun p => !decide (p.2 = 0)) = prB r u
  | [] => ⟨rfl, rfl⟩
  | p :: u => by
    obtain ⟨h1, h2⟩ := pr_filter r u
    rw [List.filter_cons]
    by_cases e : p.2 = 0
    · rw [if_neg (by simp [e]), h1, h2]
      refine ⟨?_, ?_⟩
      · show _ = pwA (r p.1) p.2 * prA r u
        rw [e, pwA_zero, Int.one_mul]
      · show _ = pwB (r p.1) p.2 * prB r u
        rw [e, pwB_zero, Int.one_mul]
    · rw [if_pos (by simp [e])]
      refine ⟨?_, ?_⟩
      · show pwA (r p.1) p.2 * _ = _
        rw [h1]
        rfl
      · show pwB (r p.1) p.2 * _ = _
        rw [h2]
        rfl
/-- the unit of pairs is worth as much as the pairs -/
theorem pr_unitOf {r : Str → Int × Int} (hr : RPos r) (ps : List UP) : prA r (unitOf ps) * prB r ps = prA r ps * prB r (unitOf ps) := by
  unfold unitOf
  obtain ⟨h1, h2⟩ := pr_filter r ((sortT (ps.map (·.1))).map fun z => (z, sumAt ps z))
  rw [h1, h2]
  exact v_pairs hr (ris_nodup (ris_sortT _)) ps fun p hp => mem_sortT.mpr (List.mem_map.mpr ⟨p, hp, rfl⟩)
/-- rates turned over -/
theorem pr_over (r r' : Str → Int × Int) (h : ∀ z, r' z = ((r z).2, (r z).1)) : ∀ u, prA r' u = prB r u ∧ prB r' u = prA r u
  | [] => ⟨rfl, rfl⟩
  | p :: u => by
    obtain ⟨h1, h2⟩ := pr_over r r' h u
    refine ⟨?_, ?_⟩
    · show pwA (r' p.1) p.2 * prA r' u = pwB (r p.1) p.2 * prB r u
      rw [h1]
      unfold pwA pwB
      rw [h]
    · show pwB (r' p.1) p.2 * prB r' u = pwA (r p.1) p.2 * prA r u
      rw [h2]
      unfold pwA pwB
      rw [h]
theorem pr_over_on (r r' : Str → Int × Int) : ∀ {u : List UP}, (∀ p ∈ u, r' p.1 = ((r p.1).2, (r p.1).1)) → prA r' u = prB r u ∧ prB r' u = prA r u
  | [], _ => ⟨rfl, rfl⟩
  | p :: u, h => by
    obtain ⟨h1, h2⟩ := pr_over_on r r' fun q hq => h q (List.mem_cons_of_mem _ hq)
    have h0 := h p List.mem_cons_self
    refine ⟨?_, ?_⟩
    · show pwA (r' p.1) p.2 * prA r' u = pwB (r p.1) p.2 * prB r u
      rw [h1]
      unfold pwA pwB
      rw [h0]
    · show pwB (r' p.1) p.2 * prB r' u = pwA (r p.1) p.2 * prA r u
      rw [h2]
      unfold pwA pwB
      rw [h0]
theorem one_pow' : ∀ n : Nat, (1 : Int) ^ n = 1
  | 0 => rfl
  | n + 1 => by rw [Int.pow_succ, one_pow' n]; rfl
theorem pr_ones (r : Str → Int × Int) : ∀ {u : List UP}, (∀ p ∈ u, r p.1 = (1, 1)) → prA r u = 1 ∧ prB r u = 1
  | [], _ => ⟨rfl, rfl⟩
  | p :: u, h => by
    obtain ⟨h1, h2⟩ := pr_ones r fun q hq => h q (List.mem_cons_of_mem _ hq)
    have h0 := h p List.mem_cons_self
    refine ⟨?_, ?_⟩
    · show pwA (r p.1) p.2 * prA r u = 1
      rw [h1]
      unfold pwA
      rw [h0]
      simp [one_pow']
    · show pwB (r p.1) p.2 * prB r u = 1
      rw [h2]
      unfold pwB
      rw [h0]
      simp [one_pow']
/-! sizes -/
def wt (u : List UP) : Nat := (u.map fun p => p.2.natAbs).sum
theorem pw_small {ab : Int × Int} {n : Nat} (h1 : Sm n ab.1) (h2 : Sm n ab.2) (e : Int) : Sm (e.natAbs * n + 1) (pwA ab e) ∧ Sm (e.natAbs * n + 1) (pwB ab e) := by
  unfold pwA pwB
  split
  · exact ⟨h2.pow _, h1.pow _⟩
  · exact ⟨h1.pow _, h2.pow _⟩
theorem pr_small {r : Str → Int × Int} {n : Nat} (h : ∀ z, Sm n (r z).1 ∧ Sm n (r z).2) : ∀ u : List UP, Sm (wt u * n + u.length + 1) (prA r u) ∧ Sm (wt u * n + u.length + 1) (prB r u)
  | [] => by
    refine ⟨?_, ?_⟩ <;> (show Sm (0 * n + 0 + 1) 1; exact (show Sm 1 1 by decide).mono (by omega))
  | p :: u => by
    obtain ⟨h1, h2⟩ := pr_small h u
    obtain ⟨g1, g2⟩ := pw_small (h p.1).1 (h p.1).2 p.2
    have e : wt (p :: u) * n = p.2.natAbs * n + wt u * n := by
      unfold wt
      rw [List.map_cons, List.sum_cons, Nat.add_mul]
    refine ⟨(g1.mul h1).mono ?_, (g2.mul h2).mono ?_⟩ <;> (rw [e, List.length_cons]; omega)
/-! fractions -/
theorem frac_cross {a b c d : Int} (hb : 0 < b) (hd : 0 < d) (h : a * d = c * b) : fracD a b = fracD c d := by
  obtain ⟨p, q, e1, q0, g1, c1, _, _⟩ := frac_parts (a := a) hb
  obtain ⟨p', q', e2, q0', g2, c2, _, _⟩ := frac_parts (a := c) hd
  have key : p * q' = p' * q := by
    have hbd : b * d ≠ 0 := Int.ne_of_gt (Int.mul_pos hb hd)
    refine Int.eq_of_mul_eq_mul_right hbd ?_
    rw [show p * q' * (b * d) = p * b * q' * d by ac_rfl, c1, show p' * q * (b * d) = p' * d * q * b by ac_rfl, c2, show a * q * q' * d = a * d * q * q' by ac_rfl, h]
    ac_rfl
  have kn : p.natAbs * q'.natAbs = p'.natAbs * q.natAbs := by rw [← Int.natAbs_mul, ← Int.natAbs_mul, key]
  have d1 : q.natAbs ∣ q'.natAbs := by
    have : q.natAbs ∣ p.natAbs * q'.natAbs := ⟨p'.natAbs, by rw [kn, Nat.mul_comm]⟩
    exact Nat.Coprime.dvd_of_dvd_mul_left (show Nat.Coprime q.natAbs p.natAbs by unfold Nat.Coprime; rw [Nat.gcd_comm]; exact g1) this
  have d2 : q'.natAbs ∣ q.natAbs := by
    have : q'.natAbs ∣ p'.natAbs * q.natAbs := ⟨p.natAbs, by rw [← kn, Nat.mul_comm]⟩
    exact Nat.Coprime.dvd_of_dvd_mul_left (show Nat.Coprime q'.natAbs p'.natAbs by unfold Nat.Coprime; rw [Nat.gcd_comm]; exact g2) this
  have eq : q.natAbs = q'.natAbs := Nat.dvd_antisymm d1 d2
  have eq' : q = q' := by omega
  subst eq'
  have ep : p = p' := Int.eq_of_mul_eq_mul_right (Int.ne_of_gt q0) key
  rw [e1, e2, ep]
/-- a shortest fraction, told again -/
theorem frac_same {p q : Int} (hq : 0 < q) (h : Nat.gcd p.natAbs q.natAbs = 1) : fracD p q = .tup [.int p, .int q] := by
  show D.tup [.int (p / (Nat.gcd p.natAbs q.natAbs : Nat)), .int (q / (Nat.gcd p.natAbs q.natAbs : Nat))] = _
  rw [h, Int.ofNat_one, Int.ediv_one, Int.ediv_one]
/-- the fraction turned over -/
theorem frac_over {a b p q : Int} (ha : 0 < a) (hb : 0 < b) (h : fracD a b = .tup [.int p, .int q]) : fracD b a = .tup [.int q, .int p] := by
  obtain ⟨p', q', e1, q0, g1, c1, _, _⟩ := frac_parts (a := a) hb
  rw [e1] at h
  cases h
  have hp : 0 < p := by
    rcases Int.lt_trichotomy p 0 with z | z | z
    · have := Int.mul_neg_of_neg_of_pos z hb
      have := Int.mul_pos ha q0
      omega
    · rw [z, Int.zero_mul] at c1
      have := Int.mul_pos ha q0
      omega
    · exact z
  rw [← frac_same hp (show Nat.gcd q.natAbs p.natAbs = 1 by rw [Nat.gcd_comm]; exact g1)]
  exact frac_cross ha hp (by rw [Int.mul_comm b p, c1, Int.mul_comm])
end
/-! ### rates -/
section
abbrev RT := Str × Int × Int
def rateD (r : RT) : Key × D := (.inr r.1, .tup [.int r.2.1, .int r.2.2])
def ratesK (rs : List RT) : List (Key × D) := rs.map rateD
def rateOf (rs : List RT) (z : Str) : Int × Int := ((rs.find? fun r => decide (r.1 = z)).map (·.2)).getD (1, 1)
structure RatesOk (rs : List RT) : Prop where
  nm : ∀ r ∈ rs, isNameS r.1 = true
  pos : ∀ r ∈ rs, 0 < r.2.1 ∧ 0 < r.2.2
  sh : ∀ r ∈ rs, Nat.gcd r.2.1.natAbs r.2.2.natAbs = 1
  sm : ∀ r ∈ rs, Sm 20 r.2.1 ∧ Sm 20 r.2.2
  nd : (rs.map (·.1)).Nodup
  len : rs.length ≤ 10
def posF : D → Bool
  | .tup (.int a :: _) => decide (1 ≤ a)
  | _ => false
def goodKV (kv : Key × D) : Bool := isNameD (kD kv.1) && (isFrac kv.2 && posF kv.2)
def goodR : D → Bool
  | .dct ks => ks.all goodKV
  | _ => false
def RIn (d : D) : Prop := isThing d = true ∧ ∀ ks, d = .dct ks → ks.length ≤ 100 ∧ ∀ kv ∈ ks, dOk (kD kv.1) = true ∧ isThing kv.2 = true ∧ pairOk kv.2
def S_need_rates (C : Addr) : FS := fun ds r => ∃ d, ds = [d] ∧ RIn d ∧ r = if goodR d = true then .ok .non else .error ⟨C, []⟩
theorem isFrac_of {d : D} (h : isFrac d = true) : ∃ a b, d = .tup [.int a, .int b] ∧ 0 < b ∧ Nat.gcd a.natAbs b.natAbs = 1 := by
  match d, h with
  | .tup [.int a, .int b], h =>
    have h' : (decide (0 < b) && decide (Nat.gcd a.natAbs b.natAbs = 1)) = true := h
    rw [Bool.and_eq_true, decide_eq_true_eq, decide_eq_true_eq] at h'
    exact ⟨a, b, rfl, h'⟩
theorem all_take_false {α : Type} {f : α → Bool} {l : List α} {j : Nat} {x : α} (h : l[j]? = some x) (hf : f x = false) : l.all f = false := by
  cases e : l.all f with
  | false => rfl
  | true =>
    have := List.all_eq_true.mp e x (List.mem_of_getElem? h)
    rw [hf] at this
    cases this
theorem all_take_snoc {α : Type} {f : α → Bool} {l : List α} {j : Nat} {x : α} (h : l[j]? = some x) (hf : f x = true) (ha : (l.take j).all f = true) : (l.take (j + 1)).all f = true := by
  rw [List.take_add_one, h, List.all_append, ha]
  show (true && (f x && true)) = true
  rw [hf] <;> rfl
variable {X : Cx} {Gs G : Hp} {ds : List D} {r : Except Exn D} {C : Addr}
theorem b_need_rates (B : Body X N_need_rates L_need_rates G_need_rates 5 (defScope s_need_rates)) (F1 : FnD X 2 "is_name" [] S_is_name) (F2 : FnD X 4 "is_fraction" [] S_is_fraction) (E1 : ExcOk X "BadRate" C) (m1 : X.mg "isinstance" = none) (m2 : X.mg "dict" = none) (h : S_need_rates C ds r) :
    SS X Gs G (defBody s_need_rates) (startA N_need_rates ds) (finOf r) := by
  obtain ⟨d, rfl, ⟨hd, hk⟩, rfl⟩ := h
  ktu_offI
  k_subL
  cases hs : isTyDc d with
  | false =>
    refine s1_ifT (et_is (k := !isTyDc d) ?_ (by rw [hs]; rfl)) ?_
    · ktu_off1L
    · k_places
      change (if goodR d = true then _ else _) = _
      cases d <;> first | rfl | cases hs
  | true =>
    obtain ⟨ks, rfl⟩ : ∃ ks, d = .dct ks := by cases d <;> first | exact ⟨_, rfl⟩ | cases hs
    obtain ⟨hl, hk⟩ := hk ks rfl
    refine s1_ifF (et_is (k := !isTyDc (.dct ks)) ?_ rfl) ?_
    · ktu_off1L
    k_subL
    k_subL
    refine t_forP B (two 1 2) (i := 0) (ks := ks) rfl (iwp_items B (by nest_cls)) (fun j as' => ∃ s1 s2, as' = [.fz (.dct ks), s1, s2] ∧ (ks.take j).all goodKV = true) ⟨_, _, rfl, rfl⟩ ?_ ?_ ?_
    · intro j d hj
      obtain ⟨kv, _, rfl⟩ := map_at hj
      exact tg_two B (by nest_cls) (by nest_cls)
    · rintro Gs G j d as' hj ⟨s1, s2, rfl, hall⟩
      obtain ⟨⟨k, v⟩, hj2, rfl⟩ := map_at hj
      show SS X Gs G _ [.fz (.dct ks), .fz (kD k), .fz v] _
      obtain ⟨q1, q2, q3⟩ := hk (k, v) (List.mem_of_getElem? hj2)
      k_subL
      refine s1_if (b := !goodKV (k, v)) (EW.et (ew_is (k := !isNameD (kD k) || (!isFrac v || !posF v)) (ew_or ?_ fun hn => ew_or ?_ fun hf => ew_or1 ?_) ?_)) (fun hb => ?_) fun hb => ?_
      · ktu_off1L
        · exact ⟨kD k, rfl, q1, rfl⟩
        ktu_off1L
      · ktu_off1L
        · exact ⟨v, rfl, q2, q3, rfl⟩
        ktu_off1L
      · obtain ⟨a, b, rfl, _, _⟩ := isFrac_of (d := v) (by simpa using hf)
        refine et_is (k := decide (a < 1)) ?_ ?_
        · ktu_off1L
        · show decide (a < 1) = !decide (1 ≤ a)
          by_cases h1 : a < 1
          · rw [decide_eq_true h1, decide_eq_false (by omega)] <;> rfl
          · rw [decide_eq_false h1, decide_eq_true (by omega)] <;> rfl
      · unfold goodKV
        cases isNameD (kD k) <;> cases isFrac v <;> cases posF v <;> rfl
      · k_places
        change (if goodR (.dct ks) = true then _ else _) = _
        rw [if_neg]
        rw [show goodR (.dct ks) = ks.all goodKV from rfl, all_take_false hj2 (by simpa using hb)]
        exact Bool.false_ne_true
      · k_subL
        exact ⟨_, _, rfl, all_take_snoc hj2 (by simpa using hb) hall⟩
    · rintro as' ⟨s1, s2, rfl, hall⟩
      rw [List.length_map, List.take_length] at hall
      change (if goodR (.dct ks) = true then _ else _) = _
      rw [if_pos (show goodR (.dct ks) = true from hall)]
end
section
/-- measure_of: what are no rates; a name that lacks; the product -/
def S_measure_of (C : Addr) : FS := fun ds r => ∃ (u : List UP) (d : D), ds = [unitD u, d] ∧ RIn d ∧ u.length < 64 ∧
  ((goodR d = false ∧ r = .error ⟨C, []⟩) ∨ (∃ (rs : List RT) (p : UP), d = .dct (ratesK rs) ∧ RatesOk rs ∧ u = [p] ∧ p.1 ∉ rs.map (·.1) ∧ r = .error ⟨C, []⟩) ∨
    (∃ rs : List RT, d = .dct (ratesK rs) ∧ RatesOk rs ∧ (∀ p ∈ u, p.1 ∈ rs.map (·.1)) ∧ wt u ≤ 100 ∧ r = .ok (fracD (prA (rateOf rs) u) (prB (rateOf rs) u))))
theorem goodR_rates {rs : List RT} (h : RatesOk rs) : goodR (.dct (ratesK rs)) = true := by
  show (ratesK rs).all goodKV = true
  unfold ratesK
  rw [List.all_map]
  refine List.all_eq_true.mpr fun r hr => ?_
  show (isNameS r.1 && ((decide (0 < r.2.2) && decide (Nat.gcd r.2.1.natAbs r.2.2.natAbs = 1)) && decide (1 ≤ r.2.1))) = true
  have := h.pos r hr
  rw [h.nm r hr, decide_eq_true this.2, decide_eq_true (h.sh r hr), decide_eq_true (show (1 : Int) ≤ r.2.1 by omega)] <;> rfl
theorem valD_rates (z : Str) : ∀ rs : List RT, valD (ratesK rs) (.inr z) = (rs.find? fun r => decide (r.1 = z)).map fun r => D.tup [.int r.2.1, .int r.2.2]
  | [] => rfl
  | r :: rs => by
    have ih := valD_rates z rs
    unfold valD ratesK at ih ⊢
    rw [List.map_cons, List.find?_cons, List.find?_cons]
    show (match decide ((Sum.inr r.1 : Key) = .inr z) with | true => _ | false => _ : Option (Key × D)).map _ = _
    rw [inr_dec]
    cases decide (r.1 = z) with
    | true => rfl
    | false => exact ih
theorem rate_in {rs : List RT} {z : Str} (h : z ∈ rs.map (·.1)) : ∃ r ∈ rs, r.1 = z ∧ rateOf rs z = r.2 ∧ valD (ratesK rs) (.inr z) = some (.tup [.int r.2.1, .int r.2.2]) := by
  rw [valD_rates]
  unfold rateOf
  cases hf : rs.find? fun r => decide (r.1 = z) with
  | some r =>
    refine ⟨r, List.mem_of_find?_eq_some hf, ?_, rfl, rfl⟩
    have := List.find?_some hf
    simpa using this
  | none =>
    obtain ⟨r, hr, e⟩ := List.mem_map.mp h
    have := List.find?_eq_none.mp hf r hr
    rw [decide_eq_true e] at this
    exact absurd rfl this
theorem rate_out {rs : List RT} {z : Str} (h : z ∉ rs.map (·.1)) : valD (ratesK rs) (.inr z) = none := by
  rw [valD_rates]
  cases hf : rs.find? fun r => decide (r.1 = z) with
  | none => rfl
  | some r =>
    have := List.find?_some hf
    exact absurd (List.mem_map.mpr ⟨r, List.mem_of_find?_eq_some hf, by simpa using this⟩) h
theorem rate_pos {rs : List RT} (h : RatesOk rs) : RPos (rateOf rs) := fun z => by
  by_cases hz : z ∈ rs.map (·.1)
  · obtain ⟨r, hr, _, e, _⟩ := rate_in hz
    rw [e]
    exact h.pos r hr
  · unfold rateOf
    rw [List.find?_eq_none.mpr fun r hr => by
      intro e
      exact hz (List.mem_map.mpr ⟨r, hr, by simpa using e⟩)]
    exact ⟨by decide, by decide⟩
theorem rate_sm {rs : List RT} (h : RatesOk rs) : ∀ z, Sm 20 (rateOf rs z).1 ∧ Sm 20 (rateOf rs z).2 := fun z => by
  by_cases hz : z ∈ rs.map (·.1)
  · obtain ⟨r, hr, _, e, _⟩ := rate_in hz
    rw [e]
    exact h.sm r hr
  · unfold rateOf
    rw [List.find?_eq_none.mpr fun r hr => by
      intro e
      exact hz (List.mem_map.mpr ⟨r, hr, by simpa using e⟩)]
    exact ⟨by decide, by decide⟩
theorem wt_take {u : List UP} (j : Nat) : wt (u.take j) ≤ wt u := by
  unfold wt
  have := List.take_append_drop j u
  conv => rhs; rw [← this, List.map_append, List.sum_append]
  exact Nat.le_add_right _ _
theorem wt_mem {u : List UP} {p : UP} (h : p ∈ u) : p.2.natAbs ≤ wt u := by
  induction u with
  | nil => cases h
  | cons q u ih =>
    show _ ≤ ((q :: u).map fun p => p.2.natAbs).sum
    rw [List.map_cons, List.sum_cons]
    rcases List.mem_cons.mp h with e | e
    · rw [e]; exact Nat.le_add_right _ _
    · exact Nat.le_trans (ih e) (Nat.le_add_left _ _)
theorem pw_powD {a b : Int} (ha : 0 < a) (e : Int) : powD a b e = .tup [.int (pwA (a, b) e), .int (pwB (a, b) e)] := by
  unfold powD powP overD pwA pwB
  by_cases h : e < 0
  · rw [if_pos h, if_neg (by omega), if_pos h, if_pos h]
  · rw [if_neg h, if_neg h, if_neg h]
variable {X : Cx} {Gs G : Hp} {ds : List D} {r : Except Exn D} {C C2 : Addr}
theorem b_measure_of (B : Body X N_measure_of L_measure_of G_measure_of 9 (defScope s_measure_of)) (F1 : FnD X 6 "need_rates" [] (S_need_rates C)) (F2 : FnD X 8 "product_of" [] S_product_of) (F3 : FnD X 4 "power_of" [] (S_power_of C2)) (E1 : ExcOk X "BadRate" C) (h : S_measure_of C ds r) :
    SS X Gs G (defBody s_measure_of) (startA N_measure_of ds) (finOf r) := by
  obtain ⟨u, d, rfl, hd, hl, h⟩ := h
  ktu_offI
  k_subL
  rcases h with ⟨hg, rfl⟩ | ⟨rs, p, rfl, hR, rfl, hp, rfl⟩ | ⟨rs, rfl, hR, hu, hw, rfl⟩
  · apply s1_exprX
    · l_intsW; ktu_off1L
      · exact ⟨d, rfl, hd, by rw [hg, if_neg Bool.false_ne_true]⟩
      ktu_off1L
    · ktu_off1L
    · rfl
  · apply s1_expr
    · ktu_off1L
      · exact ⟨_, rfl, hd, by rw [goodR_rates hR, if_pos rfl]⟩
      ktu_off1L
    · ktu_off1L
    k_places
    refine t_for B (two 3 4) (iw_tup (ds := [p].map pairD) ?_) (fun j as' => j = 0 ∧ ∃ s3 s4, as' = [.fz (unitD [p]), .fz (.dct (ratesK rs)), .fz (.tup [.int 1, .int 1]), s3, s4]) ⟨rfl, _, _, rfl⟩ ?_ ?_ ?_
    · exact e_name (by assumption) (by nest_cls) rfl
    · intro j d hj
      obtain ⟨p, _, rfl⟩ := map_at hj
      exact tg_two B (by nest_cls) (by nest_cls)
    · rintro j d as' hj ⟨rfl, s3, s4, rfl⟩
      cases hj
      show SS X Gs G _ [.fz (unitD [p]), .fz (.dct (ratesK rs)), .fz (.tup [.int 1, .int 1]), .fz (.str p.1), .fz (.int p.2)] _
      k_subL
      refine s1_ifT (et_is (k := !(valD (ratesK rs) (.inr p.1)).isSome) (et_cmp (x := .str p.1) (y := .dct (ratesK rs)) ?_ ?_ (oc_ninK (k := .inr p.1) B.room) ?_) (by rw [rate_out hp]; rfl)) ?_
      · ktu_off1L
      · exact e_name (by assumption) (by nest_cls) rfl
      · ktu_off1L
      · k_places
        rfl
    · rintro as' ⟨h0, _⟩
      cases h0
  · have hl2 : (u.map pairD).length < sizeLine := by rw [List.length_map, sizeLine_eq]; omega
    apply s1_expr
    · ktu_off1L
      · exact ⟨_, rfl, hd, by rw [goodR_rates hR, if_pos rfl]⟩
      ktu_off1L
    · ktu_off1L
    k_places
    refine t_for B (two 3 4) (iw_tup (ds := u.map pairD) ?_) (fun j as' => ∃ s3 s4, as' = [.fz (unitD u), .fz (.dct (ratesK rs)), .fz (fracD (prA (rateOf rs) (u.take j)) (prB (rateOf rs) (u.take j))), s3, s4]) ⟨_, _, by rw [List.take_zero, show fracD (prA (rateOf rs) []) (prB (rateOf rs) []) = .tup [.int 1, .int 1] from frac_same (p := 1) (q := 1) (by decide) (by decide)]⟩ ?_ ?_ ?_
    · exact e_name (by assumption) (by nest_cls) rfl
    · intro j d hj
      obtain ⟨p, _, rfl⟩ := map_at hj
      exact tg_two B (by nest_cls) (by nest_cls)
    · rintro j d as' hj ⟨s3, s4, rfl⟩
      obtain ⟨p, hj2, rfl⟩ := map_at hj
      have hm := List.mem_of_getElem? hj2
      obtain ⟨rt, hrt, e1, e2, e3⟩ := rate_in (hu p hm)
      have ps := hR.pos rt hrt
      have sm := hR.sm rt hrt
      have hpe : p.2.natAbs ≤ 100 := Nat.le_trans (wt_mem hm) hw
      have pA := prA_pos (rate_pos hR) (u.take j)
      have pB := prB_pos (rate_pos hR) (u.take j)
      obtain ⟨q1, q2⟩ := pr_small (rate_sm hR) (u.take j)
      have hwj := wt_take (u := u) j
      have hlj : (u.take j).length ≤ 64 := by rw [List.length_take]; omega
      have b1 : wt (u.take j) * 20 + (u.take j).length + 1 ≤ 3000 := by
        have := Nat.mul_le_mul_right 20 hwj
        omega
      obtain ⟨a, b, ef, hb, hgc, hab, ha1, hb1⟩ := frac_parts (a := prA (rateOf rs) (u.take j)) pB
      have sa : Sm 3000 a := Sm.mono (show Sm _ a from Nat.lt_of_le_of_lt ha1 q1) b1
      have sb : Sm 3000 b := Sm.mono (show Sm _ b from Nat.lt_of_le_of_lt hb1 q2) b1
      obtain ⟨w1, w2⟩ := pw_small sm.1 sm.2 p.2
      have b2 : p.2.natAbs * 20 + 1 ≤ 3000 := by omega
      have pwa := pwA_pos ps p.2
      have pwb := pwB_pos ps p.2
      rw [ef]
      show SS X Gs G _ [.fz (unitD u), .fz (.dct (ratesK rs)), .fz (.tup [.int a, .int b]), .fz (.str p.1), .fz (.int p.2)] _
      k_subL
      refine s1_ifF (et_is (k := !(valD (ratesK rs) (.inr p.1)).isSome) (et_cmp (x := .str p.1) (y := .dct (ratesK rs)) ?_ ?_ (oc_ninK (k := .inr p.1) B.room) ?_) (by rw [e3]; rfl)) ?_
      · ktu_off1L
      · exact e_name (by assumption) (by nest_cls) rfl
      · ktu_off1L
      k_subL
      k_subL
      refine t_set (d := fracD (a * pwA rt.2 p.2) (b * pwB rt.2 p.2)) (as1 := [.fz (unitD u), .fz (.dct (ratesK rs)), .fz (fracD (a * pwA rt.2 p.2) (b * pwB rt.2 p.2)), .fz (.str p.1), .fz (.int p.2)]) B (by nest_cls) (e_call (ds := [.tup [.int a, .int b], .tup [.int (pwA rt.2 p.2), .int (pwB rt.2 p.2)]]) (by assumption) F2 (by nest_cls) (by (with_reducible first | assumption | exact Mw.Body.room (by assumption) | exact L2.Room.mono (Mw.Body.room (by assumption)) (by with_unfolding_all decide))) (ea_cons ?_ (ea_cons (e_call (ds := [.tup [.int rt.2.1, .int rt.2.2], .int p.2]) (by assumption) F3 (by nest_cls) (by (with_reducible first | assumption | exact Mw.Body.room (by assumption) | exact L2.Room.mono (Mw.Body.room (by assumption)) (by with_unfolding_all decide))) (ea_cons (ee_dget (k := .inr p.1) (ks := ratesK rs) B.room ?_ ?_ e3) (ea_cons ?_ ea_nil ?_) ?_) ?_ ?_ ?_) ea_nil ?_) ?_) ?_ ?_ ?_) ?_ (by ktu_offL) ?_
      · ktu_off1L
      · exact e_name (by assumption) (by nest_cls) rfl
      · show EE X _ _ (.str p.1)
        ktu_off1L
      · ktu_off1L
      · ktu_off1L
      · ktu_off1L
      · refine ⟨rt.2.1, rt.2.2, _, rfl, rfl, .inl ⟨p.2, 20, rfl, fun _ => by omega, by decide, sm.1, sm.2, by omega, ?_⟩⟩
        rw [pw_powD ps.1]
      · ktu_off1L
      · ktu_off1L
      · ktu_off1L
      · ktu_off1L
      · exact ⟨a, b, _, _, rfl, hb, pwb, sa, sb, w1.mono b2, w2.mono b2, rfl⟩
      · ktu_off1L
      · ktu_off1L
      · ktu_off1L
      · refine ⟨.fz (.str p.1), .fz (.int p.2), ?_⟩
        have et : u.take (j + 1) = u.take j ++ [p] := by rw [List.take_add_one, hj2]; rfl
        rw [et, prA_snoc, prB_snoc, e2, frac_cross (a := a * pwA rt.2 p.2) (b := b * pwB rt.2 p.2) (c := prA (rateOf rs) (u.take j) * pwA rt.2 p.2) (d := prB (rateOf rs) (u.take j) * pwB rt.2 p.2) (Int.mul_pos hb pwb) (Int.mul_pos pB pwb) (by
          rw [show a * pwA rt.2 p.2 * (prB (rateOf rs) (u.take j) * pwB rt.2 p.2) = a * prB (rateOf rs) (u.take j) * (pwA rt.2 p.2 * pwB rt.2 p.2) by ac_rfl, hab]
          ac_rfl)]
    · rintro as' ⟨s3, s4, rfl⟩
      rw [List.length_map, List.take_length]
      k_places
      rfl
end
section
/-- the laws' own mixing of numbers -/
def mixV (n k : Int) : Int := (n % 2147483647 + 7919 * k * k + 31 * k) * 48271 % 2147483647 * (69621 + 2 * k) % 2147483629
theorem mixV_nn (n k : Int) : 0 ≤ mixV n k := Int.emod_nonneg _ (by decide)
theorem mixV_lt (n k : Int) : mixV n k < 2147483629 := Int.emod_lt_of_pos _ (by decide)
def numV (ns : List Int) (k : Int) : Int := if ns = [] then mixV 17 k else mixV (ns.getD (k % ns.length).toNat 0) k
theorem numV_nn (ns : List Int) (k : Int) : 0 ≤ numV ns k := by
  unfold numV
  split <;> exact mixV_nn _ _
theorem numV_lt (ns : List Int) (k : Int) : numV ns k < 2147483629 := by
  unfold numV
  split <;> exact mixV_lt _ _
def S_mixed : FS := fun ds r => ∃ n k : Int, ds = [.int n, .int k] ∧ 0 ≤ k ∧ k < 1048576 ∧ r = .ok (.int (mixV n k))
def S_number : FS := fun ds r => ∃ (ns : List Int) (k : Int), ds = [.lst (ns.map D.int), .int k] ∧ 0 ≤ k ∧ k < 1048576 ∧ r = .ok (.int (numV ns k))
theorem plains_ints : ∀ ns : List Int, plains (ns.map D.int) = true
  | [] => rfl
  | n :: ns => by show (plain (.int n) && plains (ns.map D.int)) = true; rw [plains_ints ns] <;> rfl
theorem depth_ints : ∀ ns : List Int, PyData.depthAll (toPys (ns.map D.int)) = 0
  | [] => rfl
  | n :: ns => by
    show max (PyData.depth (.int n)) (PyData.depthAll (toPys (ns.map D.int))) = 0
    rw [depth_ints ns] <;> rfl
theorem pyOk_ints (ns : List Int) : pyOk (.lst (ns.map D.int)) = true := by
  show (plains (ns.map D.int) && decide (PyData.depthAll (toPys (ns.map D.int)) + 1 ≤ 64)) = true
  rw [plains_ints, depth_ints] <;> rfl
theorem eqD_nil (ns : List Int) : eqD (.lst (ns.map D.int)) (.lst []) = decide (ns = []) := by
  cases ns with
  | nil => rfl
  | cons n ns => rfl
theorem sm31 {i : Int} (h : 0 ≤ i) (h2 : i < 4294967296) : Sm 32 i := by
  unfold Sm
  omega
end
section
variable {X : Cx} {Gs G : Hp} {ds : List D} {r : Except Exn D} {C : Addr}
theorem b_law_mixed (B : Body X N__law_mixed L__law_mixed G__law_mixed 1 (defScope s__law_mixed)) (h : S_mixed ds r) :
    SS X Gs G (defBody s__law_mixed) (startA N__law_mixed ds) (finOf r) := by
  obtain ⟨n, k, rfl, hk0, hk1, rfl⟩ := h
  have k1 : Sm 32 k := sm31 hk0 (by omega)
  have c1 : CMulW 7919 k := cmulW_of (n := 32) (m := 32) (by decide) k1 (by decide) (by decide) (by decide)
  have c2 : CMulW (7919 * k) k := cmulW_of (n := 64) (m := 32) (Sm.mul (n := 32) (m := 32) (by decide) k1) k1 (by decide) (by decide) (by decide)
  have c3 : CMulW 31 k := cmulW_of (n := 32) (m := 32) (by decide) k1 (by decide) (by decide) (by decide)
  have c4 : CMulW (n % 2147483647 + 7919 * k * k + 31 * k) 48271 := by
    have a1 : 0 ≤ n % 2147483647 := Int.emod_nonneg _ (by decide)
    have a2 : n % 2147483647 < 2147483647 := Int.emod_lt_of_pos _ (by decide)
    have s1 : Sm 96 (n % 2147483647) := (sm31 a1 (by omega)).mono (by decide)
    have s2 : Sm 96 (7919 * k * k) := Sm.mul (n := 64) (m := 32) (Sm.mul (n := 32) (m := 32) (by decide) k1) k1
    have s3 : Sm 97 (31 * k) := (Sm.mul (n := 32) (m := 32) (by decide) k1).mono (by decide)
    exact cmulW_of (n := 98) (m := 32) ((s1.add s2).add s3) (by decide) (by decide) (by decide) (by decide)
  have c5 : CMulW 2 k := cmulW_of (n := 32) (m := 32) (by decide) k1 (by decide) (by decide) (by decide)
  have c6 : CMulW ((n % 2147483647 + 7919 * k * k + 31 * k) * 48271 % 2147483647) (69621 + 2 * k) := by
    refine cmulW_of (n := 32) (m := 64) (sm31 (Int.emod_nonneg _ (by decide)) (Int.lt_trans (Int.emod_lt_of_pos _ (by decide)) (by decide))) ?_ (by decide) (by decide) (by decide)
    unfold Sm
    omega
  ktu_offI
  iterate 20 (first | (k_places; first | assumption | decide) | skip)
  k_places
  rfl
end
section
variable {X : Cx} {Gs G : Hp} {ds : List D} {r : Except Exn D} {C : Addr}
theorem b_law_number (B : Body X N__law_number L__law_number G__law_number 3 (defScope s__law_number)) (F1 : FnD X 2 "_law_mixed" [] S_mixed) (m1 : X.mg "len" = none) (h : S_number ds r) :
    SS X Gs G (defBody s__law_number) (startA N__law_number ds) (finOf r) := by
  obtain ⟨ns, k, rfl, hk0, hk1, rfl⟩ := h
  ktu_offI
  k_subL
  refine s1_if (b := decide (ns = [])) (et_is (k := eqD (.lst (ns.map D.int)) (.lst [])) ?_ (eqD_nil ns)) (fun hb => ?_) fun hb => ?_
  · ktu_off1L
    · exact pyOk_ints ns
    · rfl
    ktu_off1L
  · have h0 : ns = [] := by simpa using hb
    k_places
    exact ⟨17, k, rfl, hk0, hk1, rfl⟩
    k_places
    change (Except.ok _ : Except Exn D) = Except.ok _
    rw [numV, if_pos h0]
  · have h0 : ¬ ns = [] := by simpa using hb
    have hp : 0 < (ns.map D.int).length := by
      rw [List.length_map]
      exact List.length_pos_iff.mpr h0
    have hr0 : 0 ≤ k % ((ns.map D.int).length : Nat) := Int.emod_nonneg _ (by omega)
    have hr1 : k % ((ns.map D.int).length : Nat) < ((ns.map D.int).length : Nat) := Int.emod_lt_of_pos _ (by omega)
    have hat : atI (ns.map D.int) (k % ((ns.map D.int).length : Nat)) = some (D.int (ns.getD (k % ((ns.map D.int).length : Nat)).toNat 0)) := by
      rw [show k % ((ns.map D.int).length : Nat) = (((k % ((ns.map D.int).length : Nat)).toNat : Nat) : Int) by omega]
      refine atI_nat ?_
      rw [List.getElem?_map, List.getD_eq_getElem?_getD]
      have hl : (k % ((ns.map D.int).length : Nat)).toNat < ns.length := by rw [List.length_map] at *; omega
      rw [show (((k % ((ns.map D.int).length : Nat)).toNat : Nat) : Int).toNat = (k % ((ns.map D.int).length : Nat)).toNat by omega]
      rw [List.getElem?_eq_getElem hl]
      rfl
    k_places
    · omega
    k_places
    · exact hat
    k_places
    exact ⟨_, k, rfl, hk0, hk1, rfl⟩
    k_places
    change (Except.ok _ : Except Exn D) = Except.ok _
    rw [numV, if_neg h0, List.length_map]
end
section
variable {X : Cx} {Gs G : Hp} {ds : List D} {r : Except Exn D} {C : Addr}
/-- the law's pair -/
def lpr (n : Int) (names : List Str) (most : Int) (k : Nat) : UP := (names.getD (mixV n k % 5).toNat "", mixV n k / 5 % (2 * most + 1) - most)
def lprs (n : Int) (names : List Str) (most : Int) (m : Nat) : List UP := (List.range m).map (lpr n names most)
theorem lprs_succ (n : Int) (names : List Str) (most : Int) (m : Nat) : lprs n names most (m + 1) = lprs n names most m ++ [lpr n names most m] := by
  unfold lprs
  rw [List.range_succ, List.map_append]
  rfl
structure Five (names : List Str) : Prop where
  len : names.length = 5
  nm : ∀ z ∈ names, isNameS z = true
  nd : names.Nodup
theorem lpr_ok {names : List Str} (h : Five names) (n most : Int) (k : Nat) : (lpr n names most k).1 ∈ names ∧ (0 ≤ most → (lpr n names most k).2.natAbs ≤ most.natAbs) := by
  unfold lpr
  have h0 : 0 ≤ mixV n k % 5 := Int.emod_nonneg _ (by decide)
  have h1 : mixV n k % 5 < 5 := Int.emod_lt_of_pos _ (by decide)
  have hl : (mixV n k % 5).toNat < names.length := by rw [h.len]; omega
  refine ⟨?_, fun hm => ?_⟩
  · rw [List.getD_eq_getElem?_getD, List.getElem?_eq_getElem hl]
    exact List.getElem_mem hl
  · have h2 := Int.emod_nonneg (mixV n k / 5) (show 2 * most + 1 ≠ 0 by omega)
    have h3 := Int.emod_lt_of_pos (mixV n k / 5) (show 0 < 2 * most + 1 by omega)
    show (mixV n k / 5 % (2 * most + 1) - most).natAbs ≤ most.natAbs
    omega
def S_lunit : FS := fun ds r => ∃ (n : Int) (names : List Str) (most : Int), ds = [.int n, .lst (names.map D.str), .int most] ∧ Five names ∧ 0 ≤ most ∧ most ≤ 9 ∧ r = .ok (unitD (unitOf (lprs n names most (n % 5).toNat)))
theorem b_law_unit (B : Body X N__law_unit L__law_unit G__law_unit 7 (defScope s__law_unit)) (F1 : FnD X 2 "_law_mixed" [] S_mixed) (F2 : FnD X 6 "unit_of" [] (S_unit_of C)) (m1 : X.mg "range" = none) (h : S_lunit ds r) :
    SS X Gs G (defBody s__law_unit) (startA N__law_unit ds) (finOf r) := by
  obtain ⟨n, names, most, rfl, h5, m0, m9, rfl⟩ := h
  have n0 : 0 ≤ n % 5 := Int.emod_nonneg _ (by decide)
  have n5 : n % 5 < 5 := Int.emod_lt_of_pos _ (by decide)
  ktu_offI
  k_subL
  refine t_setN (as1 := [.fz (.int n), .fz (.lst (names.map D.str)), .fz (.int most), .ow (.lst []), .un, .un]) B (by nest_cls) (en_lst ea_nil (by decide)) (by ktu_off1L) (by ktu_offL) ?_
  k_subL
  refine t_forR (z := n % 5) B (by nest_cls) (by nest_cls) (by assumption) ?_ (by omega) (fun t as' => ∃ s4 s5, as' = [.fz (.int n), .fz (.lst (names.map D.str)), .fz (.int most), .ow (.lst ((lprs n names most t).map pairD)), s4, s5]) ⟨_, _, rfl⟩ ?_ ?_
  · ktu_off1L
  · rintro t as' ht ⟨s4, s5, rfl⟩
    refine ⟨_, by ktu_offL, ?_⟩
    have h0 : 0 ≤ mixV n t % 5 := Int.emod_nonneg _ (by decide)
    have h1 : mixV n t % 5 < 5 := Int.emod_lt_of_pos _ (by decide)
    have hat : atI (names.map D.str) (mixV n t % 5) = some (.str (lpr n names most t).1) := by
      refine atI_pick h0 (by rw [List.length_map, h5.len]; exact h1) ?_
      have hl : (mixV n t % 5).toNat < names.length := by rw [h5.len]; omega
      unfold lpr
      rw [List.getD_eq_getElem?_getD, List.getD_eq_getElem?_getD, List.getElem?_map, List.getElem?_eq_getElem hl]
      rfl
    have c2 : CMulW 2 most := cmulW_of (n := 32) (m := 32) (by decide) (by unfold Sm; omega) (by decide) (by decide) (by decide)
    k_subL
    refine t_set (d := .int (mixV n t)) (as1 := [.fz (.int n), .fz (.lst (names.map D.str)), .fz (.int most), .ow (.lst ((lprs n names most t).map pairD)), .fz (.int t), .fz (.int (mixV n t))]) B (by nest_cls) ?_ (by ktu_off1L) (by ktu_offL) ?_
    · ktu_off1L
      · exact ⟨n, t, rfl, by omega, by omega, rfl⟩
      ktu_off1L
    k_subL
    refine t_append (d := pairD (lpr n names most t)) (as1 := [.fz (.int n), .fz (.lst (names.map D.str)), .fz (.int most), .ow (.lst ((lprs n names most t).map pairD ++ [pairD (lpr n names most t)])), .fz (.int t), .fz (.int (mixV n t))]) B (by nest_cls) rfl ?_ ?_ ?_ ?_ ?_ ?_ ?_ ?_
    · show EE X _ _ (.tup [.str (lpr n names most t).1, .int (mixV n t / 5 % (2 * most + 1) - most)])
      ktu_off1L
      all_goals first | exact hat | exact cdivW_of (by decide) (by decide +kernel) | exact c2 | omega | skip
      all_goals ktu_off1L
      all_goals first | exact hat | exact cdivW_of (by decide) (by decide +kernel) | exact c2 | omega | skip
      all_goals ktu_off1L
      all_goals first | exact hat | exact cdivW_of (by decide) (by decide +kernel) | exact c2 | omega | skip
      all_goals ktu_off1L
    · unfold lprs
      rw [List.length_map, List.length_map, List.length_range, sizeLine_eq]
      omega
    · rfl
    · rfl
    · ktu_off1L
    · ktu_off1L
    · ktu_offL
    · refine ⟨.fz (.int t), .fz (.int (mixV n t)), ?_⟩
      rw [lprs_succ, List.map_append]
      rfl
  · rintro as' ⟨s4, s5, rfl⟩
    k_subL
    refine s1_freeze (fun i => i == 3) ?_
    show S1 X Gs G _ [.fz (.int n), .fz (.lst (names.map D.str)), .fz (.int most), .fz (.lst ((lprs n names most (n % 5).toNat).map pairD)), s4, s5] _
    k_places
    · refine .inl ⟨_, rfl, fun p hp => ?_, ?_, rfl⟩
      · unfold lprs at hp
        obtain ⟨k, _, rfl⟩ := List.mem_map.mp hp
        exact h5.nm _ (lpr_ok h5 n most k).1
      · unfold lprs
        rw [List.length_map, List.length_range]
        omega
    k_places
    rfl
end
section
variable {X : Cx} {Gs G : Hp} {ds : List D} {r : Except Exn D} {C : Addr}
def lsize (m : Int) : Int := ([9, 9, 60, 1000000] : List Int).getD (m % 4).toNat 9
def labove (m : Int) : Int := 1 + m / 4 % lsize m
def lbelow (m : Int) : Int := 1 + m / 31 % lsize m
def fr1 (a b : Int) : Int × Int := (a / (Nat.gcd a.natAbs b.natAbs : Nat), b / (Nat.gcd a.natAbs b.natAbs : Nat))
def rtV (n : Int) (k : Nat) (z : Str) : RT := (z, fr1 (labove (mixV n (20 + k))) (lbelow (mixV n (20 + k))))
def rsV (n : Int) : Nat → List Str → List RT
  | _, [] => []
  | k, z :: zs => rtV n k z :: rsV n (k + 1) zs
theorem rsV_names (n : Int) : ∀ (k : Nat) (zs : List Str), (rsV n k zs).map (·.1) = zs
  | _, [] => rfl
  | k, z :: zs => by
    show z :: (rsV n (k + 1) zs).map (·.1) = _
    rw [rsV_names]
theorem rsV_get (n : Int) : ∀ (k j : Nat) (zs : List Str), (rsV n k zs)[j]? = zs[j]?.map (rtV n (k + j))
  | _, _, [] => by simp [rsV]
  | k, 0, z :: zs => rfl
  | k, j + 1, z :: zs => by
    show (rsV n (k + 1) zs)[j]? = zs[j]?.map _
    rw [rsV_get, show k + 1 + j = k + (j + 1) by omega]
theorem lsize_in (m : Int) : 9 ≤ lsize m ∧ lsize m ≤ 1000000 := by
  unfold lsize
  exact getD_all (P := fun x : Int => 9 ≤ x ∧ x ≤ 1000000) (by decide) (by decide) _
theorem labove_in (m : Int) : 1 ≤ labove m ∧ labove m ≤ 1000000 := by
  have h := lsize_in m
  have h1 := Int.emod_nonneg (m / 4) (show lsize m ≠ 0 by omega)
  have h2 := Int.emod_lt_of_pos (m / 4) (show 0 < lsize m by omega)
  unfold labove
  omega
theorem lbelow_in (m : Int) : 1 ≤ lbelow m ∧ lbelow m ≤ 1000000 := by
  have h := lsize_in m
  have h1 := Int.emod_nonneg (m / 31) (show lsize m ≠ 0 by omega)
  have h2 := Int.emod_lt_of_pos (m / 31) (show 0 < lsize m by omega)
  unfold lbelow
  omega
theorem fr1_ok {a b : Int} (ha : 1 ≤ a) (ha2 : a ≤ 1000000) (hb : 1 ≤ b) (hb2 : b ≤ 1000000) : (0 < (fr1 a b).1 ∧ 0 < (fr1 a b).2) ∧ Nat.gcd (fr1 a b).1.natAbs (fr1 a b).2.natAbs = 1 ∧ (fr1 a b).1 ≤ 1000000 ∧ (fr1 a b).2 ≤ 1000000 := by
  obtain ⟨p, q, e, hq, hg, hc, h1, h2⟩ := frac_parts (a := a) (b := b) (by omega)
  have e1 : (fr1 a b).1 = p ∧ (fr1 a b).2 = q := by
    have e' : D.tup [.int (fr1 a b).1, .int (fr1 a b).2] = D.tup [.int p, .int q] := e
    injection e' with e'
    injection e' with x e'
    injection x with x
    injection e' with y _
    injection y with y
    exact ⟨x, y⟩
  rw [e1.1, e1.2]
  have hp : 0 < p := by
    rcases Int.lt_trichotomy p 0 with z | z | z
    · have := Int.mul_neg_of_neg_of_pos z (show 0 < b by omega)
      have := Int.mul_pos (show 0 < a by omega) hq
      omega
    · rw [z, Int.zero_mul] at hc
      have := Int.mul_pos (show 0 < a by omega) hq
      omega
    · exact z
  exact ⟨⟨hp, hq⟩, hg, by omega, by omega⟩
theorem rsV_mem {n : Int} : ∀ {k : Nat} {zs : List Str} {r : RT}, r ∈ rsV n k zs → ∃ j z, z ∈ zs ∧ r = rtV n j z
  | k, z :: zs, r, h => by
    rcases List.mem_cons.mp h with e | e
    · exact ⟨k, z, List.mem_cons_self, e⟩
    · obtain ⟨j, y, h1, h2⟩ := rsV_mem e
      exact ⟨j, y, List.mem_cons_of_mem _ h1, h2⟩
theorem rsV_len (n : Int) (k : Nat) (zs : List Str) : (rsV n k zs).length = zs.length := by
  have := congrArg List.length (rsV_names n k zs)
  rwa [List.length_map] at this
theorem sm20 {i : Int} (h : 0 < i) (h2 : i ≤ 1000000) : Sm 20 i := by
  unfold Sm
  omega
theorem rsV_ok {names : List Str} (h : Five names) (n : Int) : RatesOk (rsV n 0 names) := by
  have key : ∀ r ∈ rsV n 0 names, isNameS r.1 = true ∧ (0 < r.2.1 ∧ 0 < r.2.2) ∧ Nat.gcd r.2.1.natAbs r.2.2.natAbs = 1 ∧ Sm 20 r.2.1 ∧ Sm 20 r.2.2 := fun r hr => by
    obtain ⟨j, z, hz, rfl⟩ := rsV_mem hr
    have a := labove_in (mixV n (20 + j))
    have b := lbelow_in (mixV n (20 + j))
    obtain ⟨h1, h2, h3, h4⟩ := fr1_ok a.1 a.2 b.1 b.2
    exact ⟨h.nm z hz, h1, h2, sm20 h1.1 h3, sm20 h1.2 h4⟩
  exact ⟨fun r hr => (key r hr).1, fun r hr => (key r hr).2.1, fun r hr => (key r hr).2.2.1, fun r hr => (key r hr).2.2.2, by rw [rsV_names]; exact h.nd, by rw [rsV_len, h.len]; decide⟩
theorem put_fresh {rs : List RT} {z : Str} {p q : Int} (h : z ∉ rs.map (·.1)) : putKD (ratesK rs) (.inr z) (.tup [.int p, .int q]) = ratesK (rs ++ [(z, p, q)]) := by
  unfold putKD
  rw [if_neg]
  · unfold ratesK
    rw [List.map_append]
    rfl
  · intro e
    obtain ⟨kv, h1, h2⟩ := List.any_eq_true.mp e
    obtain ⟨r, hr, rfl⟩ := List.mem_map.mp h1
    have h3 : (Sum.inr r.1 : Key) = .inr z := of_decide_eq_true h2
    exact h (List.mem_map.mpr ⟨r, hr, Sum.inr.inj h3⟩)
def S_lrates : FS := fun ds r => ∃ (n : Int) (names : List Str), ds = [.int n, .lst (names.map D.str)] ∧ Five names ∧ r = .ok (.dct (ratesK (rsV n 0 names)))
theorem b_law_rates (B : Body X N__law_rates L__law_rates G__law_rates 7 (defScope s__law_rates)) (F1 : FnD X 2 "_law_mixed" [] S_mixed) (F2 : FnD X 6 "fraction" [] (S_fraction C)) (m1 : X.mg "enumerate" = none) (h : S_lrates ds r) :
    SS X Gs G (defBody s__law_rates) (startA N__law_rates ds) (finOf r) := by
  obtain ⟨n, names, rfl, h5, rfl⟩ := h
  have hln : (names.map D.str).length = 5 := by rw [List.length_map, h5.len]
  ktu_offI
  k_subL
  refine t_setN (as1 := [.fz (.int n), .fz (.lst (names.map D.str)), .ow (.dct []), .un, .un, .un, .un]) B (by nest_cls) en_dnew (by ktu_off1L) (by ktu_offL) ?_
  k_subL
  refine t_for B (two 3 4) (iw_enum (ds := names.map D.str) B.glb (by nest_cls) (by assumption) ?_) (fun j as' => ∃ s3 s4 s5 s6, as' = [.fz (.int n), .fz (.lst (names.map D.str)), .ow (.dct (ratesK ((rsV n 0 names).take j))), s3, s4, s5, s6]) ⟨_, _, _, _, by rw [List.take_zero]; rfl⟩ ?_ ?_ ?_
  · exact e_name (by assumption) (by nest_cls) rfl
  · intro j d hj
    obtain ⟨d', _, rfl⟩ := enumD_get hj
    exact tg_two B (by nest_cls) (by nest_cls)
  · rintro j d as' hj ⟨s3, s4, s5, s6, rfl⟩
    obtain ⟨d', h1, rfl⟩ := enumD_get hj
    obtain ⟨z, hz, rfl⟩ := map_at h1
    have hj5 : j < 5 := by
      have := (List.getElem?_eq_some_iff.mp hz).1
      rw [h5.len] at this
      exact this
    rw [Nat.zero_add]
    show SS X Gs G _ [.fz (.int n), .fz (.lst (names.map D.str)), .ow (.dct (ratesK ((rsV n 0 names).take j))), .fz (.int (j : Nat)), .fz (.str z), s5, s6] _
    have hgj : (rsV n 0 names)[j]? = some (rtV n j z) := by rw [rsV_get, hz, Nat.zero_add]; rfl
    have a := labove_in (mixV n (20 + j))
    have b := lbelow_in (mixV n (20 + j))
    have sz := lsize_in (mixV n (20 + j))
    have r0 : 0 ≤ mixV n (20 + j) % 4 := Int.emod_nonneg _ (by decide)
    have r4 : mixV n (20 + j) % 4 < 4 := Int.emod_lt_of_pos _ (by decide)
    have hat : atI [D.int 9, .int 9, .int 60, .int 1000000] (mixV n (20 + j) % 4) = some (.int (lsize (mixV n (20 + j)))) := by
      refine atI_pick r0 r4 ?_
      have hl : (mixV n (20 + j) % 4).toNat < ([9, 9, 60, 1000000] : List Int).length := by show _ < 4; omega
      exact getD_ints (l := [9, 9, 60, 1000000]) hl
    k_subL
    refine t_set (d := .int (mixV n (20 + j))) (as1 := [.fz (.int n), .fz (.lst (names.map D.str)), .ow (.dct (ratesK ((rsV n 0 names).take j))), .fz (.int (j : Nat)), .fz (.str z), .fz (.int (mixV n (20 + j))), s6]) B (by nest_cls) ?_ (by ktu_off1L) (by ktu_offL) ?_
    · ktu_off1L
      · exact ⟨n, 20 + j, rfl, by omega, by omega, rfl⟩
      ktu_off1L
    k_subL
    refine t_set (d := .int (lsize (mixV n (20 + j)))) (as1 := [.fz (.int n), .fz (.lst (names.map D.str)), .ow (.dct (ratesK ((rsV n 0 names).take j))), .fz (.int (j : Nat)), .fz (.str z), .fz (.int (mixV n (20 + j))), .fz (.int (lsize (mixV n (20 + j))))]) B (by nest_cls) (ee_sub (x := .lst [.int 9, .int 9, .int 60, .int 1000000]) (y := .int (mixV n (20 + j) % 4)) ?_ ?_ (sub_L hat)) (by ktu_off1L) (by ktu_offL) ?_
    · refine EN.ee (en_lst (ea_cons ee_int (ea_cons ee_int (ea_cons ee_int (ea_cons (ee_is (ee_bin ee_int ee_int (od_pow (i := 10) (j := 6) ⟨by decide, by decide, by decide⟩)) rfl) ea_nil ?_) ?_) ?_) ?_) (len_le (by rfl)))
      all_goals ktu_off1L
    · ktu_off1L
    k_subL
    have hz' : z ∉ ((rsV n 0 names).take j).map (·.1) := by
      rw [List.map_take, rsV_names]
      intro hm
      have nd := h5.nd
      rw [← List.take_append_drop j names, List.nodup_append] at nd
      have hd : z ∈ names.drop j := by
        refine List.mem_of_getElem? (i := 0) ?_
        rw [List.getElem?_drop, Nat.add_zero]
        exact hz
      exact nd.2.2 z hm z hd rfl
    have et : (rsV n 0 names).take (j + 1) = (rsV n 0 names).take j ++ [rtV n j z] := by rw [List.take_add_one, hgj]; rfl
    refine t_dput (k := .inr z) (d := fracD (labove (mixV n (20 + j))) (lbelow (mixV n (20 + j)))) (ks := ratesK ((rsV n 0 names).take j)) (as1 := [.fz (.int n), .fz (.lst (names.map D.str)), .ow (.dct (ratesK ((rsV n 0 names).take (j + 1)))), .fz (.int (j : Nat)), .fz (.str z), .fz (.int (mixV n (20 + j))), .fz (.int (lsize (mixV n (20 + j))))]) B (by nest_cls) rfl (e_call (ds := [.int (labove (mixV n (20 + j))), .int (lbelow (mixV n (20 + j)))]) (by assumption) F2 (by nest_cls) (by (with_reducible first | assumption | exact Mw.Body.room (by assumption) | exact L2.Room.mono (Mw.Body.room (by assumption)) (by with_unfolding_all decide))) (ea_cons ?_ (ea_cons ?_ ea_nil ?_) ?_) ?_ ?_ ?_) ?_ ?_ ?_ ?_ ?_
    · unfold labove
      ktu_off1L
      all_goals first | exact cdivW_of (by decide) (by decide +kernel) | omega | skip
      all_goals ktu_off1L
      all_goals first | exact cdivW_of (by decide) (by decide +kernel) | omega | skip
      all_goals ktu_off1L
    · unfold lbelow
      ktu_off1L
      all_goals first | exact cdivW_of (by decide) (by decide +kernel) | omega | skip
      all_goals ktu_off1L
      all_goals first | exact cdivW_of (by decide) (by decide +kernel) | omega | skip
      all_goals ktu_off1L
    · ktu_off1L
    · ktu_off1L
    · refine ⟨_, _, rfl, rfl, rfl, fun x hx => ?_, .inl ⟨_, _, rfl, rfl, by omega, rfl⟩⟩
      cases hx
      exact (sm20 (by omega) b.2).mono (by decide)
    · ktu_off1L
    · ktu_off1L
    · show EE X _ _ (.str z)
      ktu_off1L
    · have : ((rsV n 0 names).take j).length ≤ 5 := by rw [List.length_take]; omega
      unfold ratesK
      rw [List.length_map, sizeLine_eq]
      omega
    · rw [et, show ratesK ((rsV n 0 names).take j ++ [rtV n j z]) = putKD (ratesK ((rsV n 0 names).take j)) (.inr z) (fracD (labove (mixV n (20 + j))) (lbelow (mixV n (20 + j)))) from (put_fresh (p := (rtV n j z).2.1) (q := (rtV n j z).2.2) hz').symm]
      ktu_offL
    · exact ⟨_, _, _, _, rfl⟩
    · ktu_off1L
  · rintro as' ⟨s3, s4, s5, s6, rfl⟩
    rw [enumD_len, hln, List.take_of_length_le (by rw [rsV_len, h5.len]; decide)]
    k_places
    rfl
end
section
variable {X : Cx} {Gs G : Hp} {ds : List D} {r : Except Exn D} {C : Addr}
def S_lproduct : FS := fun ds r => ∃ (u : List UP) (rs : List RT), ds = [unitD u, .dct (ratesK rs)] ∧ RatesOk rs ∧ (∀ p ∈ u, p.1 ∈ rs.map (·.1)) ∧ wt u ≤ 100 ∧ u.length < 64 ∧ r = .ok (.tup [.int (prA (rateOf rs) u), .int (prB (rateOf rs) u)])
theorem b_law_product (B : Body X N__law_product L__law_product G__law_product 1 (defScope s__law_product)) (m1 : X.mg "range" = none) (m2 : X.mg "abs" = none) (m3 : X.mg "int" = none) (h : S_lproduct ds r) :
    SS X Gs G (defBody s__law_product) (startA N__law_product ds) (finOf r) := by
  obtain ⟨u, rs, rfl, hR, hu, hw, hl, rfl⟩ := h
  ktu_offI
  k_places
  refine t_for B (two 4 5) (iw_tup (ds := u.map pairD) ?_) (fun j as' => ∃ s4 s5 s6, as' = [.fz (unitD u), .fz (.dct (ratesK rs)), .fz (.int (prA (rateOf rs) (u.take j))), .fz (.int (prB (rateOf rs) (u.take j))), s4, s5, s6]) ⟨_, _, _, by rw [List.take_zero]; rfl⟩ ?_ ?_ ?_
  · exact e_name (by assumption) (by nest_cls) rfl
  · intro j d hj
    obtain ⟨p, _, rfl⟩ := map_at hj
    exact tg_two B (by nest_cls) (by nest_cls)
  · rintro j d as' hj ⟨s4, s5, s6, rfl⟩
    obtain ⟨p, hj2, rfl⟩ := map_at hj
    have hm := List.mem_of_getElem? hj2
    obtain ⟨rt, hrt, e1, e2, e3⟩ := rate_in (hu p hm)
    have sm := hR.sm rt hrt
    have hpe : p.2.natAbs ≤ 100 := Nat.le_trans (wt_mem hm) hw
    obtain ⟨q1, q2⟩ := pr_small (rate_sm hR) (u.take j)
    have hwj := wt_take (u := u) j
    have hlj : (u.take j).length ≤ 64 := by rw [List.length_take]; omega
    have b1 : wt (u.take j) * 20 + (u.take j).length + 1 ≤ 3000 := by
      have := Nat.mul_le_mul_right 20 hwj
      omega
    have sa : Sm 3000 (prA (rateOf rs) (u.take j)) := q1.mono b1
    have sb : Sm 3000 (prB (rateOf rs) (u.take j)) := q2.mono b1
    have et : u.take (j + 1) = u.take j ++ [p] := by rw [List.take_add_one, hj2]; rfl
    rw [et, prA_snoc, prB_snoc, e2]
    generalize prA (rateOf rs) (u.take j) = A at *
    generalize prB (rateOf rs) (u.take j) = V at *
    obtain ⟨z, e⟩ := p
    obtain ⟨rz, a, b⟩ := rt
    have sa2 : Sm 20 a := sm.1
    have sb2 : Sm 20 b := sm.2
    have hpe : e.natAbs ≤ 100 := hpe
    have e3 : valD (ratesK rs) (.inr z) = some (.tup [.int a, .int b]) := e3
    show SS X Gs G _ [.fz (unitD u), .fz (.dct (ratesK rs)), .fz (.int A), .fz (.int V), .fz (.str z), .fz (.int e), s6] { nx := fun as' => ∃ s4 s5 s6, as' = [.fz (unitD u), .fz (.dct (ratesK rs)), .fz (.int (A * pwA (a, b) e)), .fz (.int (V * pwB (a, b) e)), s4, s5, s6], rt := _, bk := _, ct := fun as' => ∃ s4 s5 s6, as' = [.fz (unitD u), .fz (.dct (ratesK rs)), .fz (.int (A * pwA (a, b) e)), .fz (.int (V * pwB (a, b) e)), s4, s5, s6], ex := _ }
    generalize hx : (if e < 0 then b else a) = x
    generalize hy : (if 0 < e then b else a) = y
    have sx : Sm 20 x := by rw [← hx]; split <;> assumption
    have sy : Sm 20 y := by rw [← hy]; split <;> assumption
    have px : pwA (a, b) e = x ^ e.natAbs := by
      unfold pwA
      rw [← hx]
      split <;> rfl
    have py : pwB (a, b) e = y ^ e.natAbs := by
      unfold pwB
      rw [← hy]
      by_cases h0 : e < 0
      · rw [if_pos h0, if_neg (by omega)]
      · rw [if_neg h0]
        by_cases h1 : 0 < e
        · rw [if_pos h1]
        · rw [if_neg h1, show e = 0 by omega, Int.natAbs_zero, Int.pow_zero, Int.pow_zero]
    rw [px, py]
    k_subL
    refine t_forR (z := (e.natAbs : Int)) B (by nest_cls) (by nest_cls) (by assumption) (ee_is (d := .int (if e < 0 then -e else e)) ?_ (by rw [abs_if])) (by omega) (fun t as' => ∃ s6, as' = [.fz (unitD u), .fz (.dct (ratesK rs)), .fz (.int (A * x ^ t)), .fz (.int (V * y ^ t)), .fz (.str z), .fz (.int e), s6]) ⟨s6, by rw [Int.pow_zero, Int.pow_zero, Int.mul_one, Int.mul_one]⟩ ?_ ?_
    · ktu_off1L
    · rintro t as' ht ⟨s6, rfl⟩
      refine ⟨_, by ktu_offL, ?_⟩
      have k1 : Sm 5001 (A * x ^ t) := (sa.mul (sx.pow t)).mono (by omega)
      have k2 : Sm 5001 (V * y ^ t) := (sb.mul (sy.pow t)).mono (by omega)
      k_subL
      refine t_set (d := .int (A * x ^ t * x)) (as1 := [.fz (unitD u), .fz (.dct (ratesK rs)), .fz (.int (A * x ^ t * x)), .fz (.int (V * y ^ t)), .fz (.str z), .fz (.int e), .fz (.int t)]) B (by nest_cls) (ee_bin (x := .int (A * x ^ t)) (y := .int x) ?_ (ee_sub (x := .tup [.int a, .int b]) (y := .int (if decide (e < 0) = true then 1 else 0)) (ee_dget (k := .inr z) (ks := ratesK rs) B.room ?_ ?_ e3) ?_ (sub_T ?_)) (od_mul (cmulW_of k1 sx (by decide) (by decide) (by decide)))) ?_ ?_ ?_
      · ktu_off1L
      · exact e_name (by assumption) (by nest_cls) rfl
      · show EE X _ _ (.str z)
        ktu_off1L
      · ktu_off1L
      · show atI [D.int a, D.int b] (if decide (e < 0) = true then 1 else 0) = some (.int x)
        rw [← hx]
        by_cases h0 : e < 0
        · rw [decide_eq_true h0, if_pos rfl, if_pos h0]; rfl
        · rw [decide_eq_false h0, if_neg Bool.false_ne_true, if_neg h0]; rfl
      · ktu_off1L
      · ktu_offL
      k_subL
      refine t_set (d := .int (V * y ^ t * y)) (as1 := [.fz (unitD u), .fz (.dct (ratesK rs)), .fz (.int (A * x ^ t * x)), .fz (.int (V * y ^ t * y)), .fz (.str z), .fz (.int e), .fz (.int t)]) B (by nest_cls) (ee_bin (x := .int (V * y ^ t)) (y := .int y) ?_ (ee_sub (x := .tup [.int a, .int b]) (y := .int (if decide (0 < e) = true then 1 else 0)) (ee_dget (k := .inr z) (ks := ratesK rs) B.room ?_ ?_ e3) ?_ (sub_T ?_)) (od_mul (cmulW_of k2 sy (by decide) (by decide) (by decide)))) ?_ ?_ ?_
      · ktu_off1L
      · exact e_name (by assumption) (by nest_cls) rfl
      · show EE X _ _ (.str z)
        ktu_off1L
      · ktu_off1L
      · show atI [D.int a, D.int b] (if decide (0 < e) = true then 1 else 0) = some (.int y)
        rw [← hy]
        by_cases h0 : 0 < e
        · rw [decide_eq_true h0, if_pos rfl, if_pos h0]; rfl
        · rw [decide_eq_false h0, if_neg Bool.false_ne_true, if_neg h0]; rfl
      · ktu_off1L
      · ktu_offL
      · exact ⟨_, by rw [Int.pow_succ, Int.pow_succ, ← Int.mul_assoc, ← Int.mul_assoc]⟩
    · rintro as' ⟨s6, rfl⟩
      exact ⟨.fz (.str z), .fz (.int e), s6, by simp⟩
  · rintro as' ⟨s4, s5, s6, rfl⟩
    rw [List.length_map, List.take_length]
    k_places
    rfl
/-- the fraction is shortest, and as much as what is due -/
def S_lis : FS := fun ds r => ∃ a b : Int, ds = [fracD a b, .tup [.int a, .int b]] ∧ 0 < b ∧ Sm 3000 a ∧ Sm 3000 b ∧ r = .ok (.bl true)
theorem b_law_is (B : Body X N__law_is L__law_is G__law_is 7 (defScope s__law_is)) (F1 : FnD X 6 "fraction" [] (S_fraction C)) (m1 : X.mg "isinstance" = none) (m2 : X.mg "tuple" = none) (m3 : X.mg "len" = none) (h : S_lis ds r) :
    SS X Gs G (defBody s__law_is) (startA N__law_is ds) (finOf r) := by
  obtain ⟨a, b, rfl, hb, sa, sb, rfl⟩ := h
  obtain ⟨p, q, ef, hq, hg, hc, h1, h2⟩ := frac_parts (a := a) hb
  have sp : Sm 3000 p := Nat.lt_of_le_of_lt h1 sa
  have sq : Sm 3000 q := Nat.lt_of_le_of_lt h2 sb
  rw [ef]
  have hpq : pyOk (.tup [.int p, .int q]) = true := rfl
  ktu_offI
  k_subL
  refine s1_ifF (EW.et (ew_is (k := !isTyT (.tup [.int p, .int q]) || (!decide ((([D.int p, .int q].length : Nat) : Int) = 2) || !eqD (.tup [.int p, .int q]) (.tup [.int p, .int q]))) (ew_or ?_ fun _ => ew_or ?_ fun _ => ew_or1 (et_cmp (x := .tup [.int p, .int q]) (y := .tup [.int p, .int q]) (e_call (ds := [.int p, .int q]) (by assumption) F1 (by nest_cls) (by (with_reducible first | assumption | exact Mw.Body.room (by assumption) | exact L2.Room.mono (Mw.Body.room (by assumption)) (by with_unfolding_all decide))) ?_ ?_ ?_ ?_) ?_ (oc_neD B.room hpq hpq) ?_)) (by rw [eqD_refl hpq]; rfl))) ?_
  · ktu_off1L
  · ktu_off1L
  · ktu_off1L
  · refine ⟨_, _, rfl, rfl, rfl, fun x hx => ?_, .inl ⟨_, _, rfl, rfl, hq, ?_⟩⟩
    · cases hx
      exact sq.mono (by decide)
    · rw [frac_same hq hg]
  · ktu_off1L
  · ktu_off1L
  · ktu_off1L
  · ktu_off1L
  · k_places
    all_goals first | exact cmulW_of sp sb (by decide) (by decide) (by decide) | exact cmulW_of sa sq (by decide) (by decide) (by decide) | skip
    all_goals k_places
    all_goals first | exact cmulW_of sp sb (by decide) (by decide) (by decide) | exact cmulW_of sa sq (by decide) (by decide) (by decide) | skip
    all_goals k_places
    change (Except.ok _ : Except Exn D) = Except.ok _
    rw [decide_eq_true hc]
end
section
variable {X : Cx} {Gs G : Hp} {ds : List D} {r : Except Exn D} {C M : Addr}
/-- what is asked of a class of errors -/
structure ErrOk (K : PySem.W.Frag) (C M U : Addr) : Prop where
  ec : ExcC K C
  cat : CatE K C M true
  k1 : PySem.W.kitOne K (.ref C) (.ref C) = some true
  k2 : PySem.W.kitOne K (.ref C) (.type "ValueError") = some true
  k3 : PySem.W.kitOne K (.ref C) (.ref U) = some false
def BadIn (u : List UP) (d : D) : Prop := goodR d = false ∨ ∃ (rs : List RT) (p : UP), d = .dct (ratesK rs) ∧ RatesOk rs ∧ u = [p] ∧ p.1 ∉ rs.map (·.1)
def S_lrefused : FS := fun ds r => ∃ (u : List UP) (d : D), ds = [unitD u, d] ∧ RIn d ∧ u.length < 64 ∧ ShowOk d ∧ BadIn u d ∧ r = .ok (.bl true)
theorem b_law_refused {U : Addr} (B : Body X N__law_refused L__law_refused G__law_refused 11 (defScope s__law_refused)) (hG : X.A.guards = some []) (F1 : FnD X 10 "measure_of" [] (S_measure_of C)) (m1 : X.mg "isinstance" = none) (m2 : X.mg "ValueError" = none) (m3 : X.mg "str" = none) (hM : X.mg "MeasureError" = some (.ref M)) (hC : X.mg "BadRate" = some (.ref C)) (hU : X.mg "BadUnit" = some (.ref U)) (EC : ErrOk X.K C M U) (h : S_lrefused ds r) :
    SS X Gs G (defBody s__law_refused) (startA N__law_refused ds) (finOf r) := by
  obtain ⟨u, d, rfl, hd, hl, hs, hb, rfl⟩ := h
  have un : X.A.units + 100 < cLine := by have := B.room.un; omega
  ktu_offI
  k_subL
  refine t_set (d := .str (shownD d)) (as1 := [.fz (unitD u), .fz d, .fz (.str (shownD d)), .un, .un]) B (by nest_cls) (e_strc B.glb (by nest_cls) (by assumption) (e_name (by assumption) (by nest_cls) rfl) (ca_strD hG un hs) ?_) (by ktu_off1L) (by ktu_offL) ?_
  · ktu_off1L
  k_subL
  refine t_try (fun xn as' => xn = ⟨C, []⟩ ∧ as' = [.fz (unitD u), .fz d, .fz (.str (shownD d)), .un, .un]) B (by nest_cls) (nk_beq (by decide +kernel)) (by nest_cls) hM (fun pn xe B' => ?_) ?_
  · have _nm' := B'.nms
    have _gl' := B'.glb
    have F1' : FnD (X.tr pn xe) 10 "measure_of" [] (S_measure_of C) := F1
    k_subL
    apply s1_exprX
    · l_intsW; ktu_off1L
      · refine ⟨u, d, rfl, hd, hl, ?_⟩
        rcases hb with hb | ⟨rs, p, h1, h2, h3, h4⟩
        · exact .inl ⟨hb, rfl⟩
        · exact .inr (.inl ⟨rs, p, h1, h2, h3, h4, rfl⟩)
      ktu_off1L
    · ktu_off1L
    · exact ⟨rfl, rfl⟩
  · rintro xn as' ⟨rfl, rfl⟩
    refine ⟨true, EC.cat, (fun z => nomatch z), fun _ a oe dd pn hz hf h0 _ => ?_⟩
    obtain rfl := h0 rfl
    have _nm' : Nms (X.suite a ((a, oe) :: pn)) L__law_refused := Nms.suite (by assumption)
    have _gl' : Gls (X.suite a ((a, oe) :: pn)) G__law_refused := Gls.suite (by assumption)
    have m1' : (X.suite a ((a, oe) :: pn)).mg "isinstance" = none := m1
    have m2' : (X.suite a ((a, oe) :: pn)).mg "ValueError" = none := m2
    have m3' : (X.suite a ((a, oe) :: pn)).mg "str" = none := m3
    have hC' : (X.suite a ((a, oe) :: pn)).mg "BadRate" = some (.ref C) := hC
    have hU' : (X.suite a ((a, oe) :: pn)).mg "BadUnit" = some (.ref U) := hU
    have hG' : (X.suite a ((a, oe) :: pn)).A.guards = some [] := hG
    have un' : (X.suite a ((a, oe) :: pn)).A.units + 100 < cLine := un
    have BN : BodyN (X.suite a ((a, oe) :: pn)) N__law_refused L__law_refused G__law_refused (defScope s__law_refused) := B.names.suite
    show SS _ Gs G _ [.fz (unitD u), .fz d, .fz (.str (shownD d)), .fz (.cls a), .un] _
    k_subL
    refine h_set (d := .bl (true && (true && !false))) (as1 := [.fz (unitD u), .fz d, .fz (.str (shownD d)), .fz (.cls a), .fz (.bl (true && (true && !false)))]) BN (by nest_cls) ?_ ?_ ?_ ?_
    · ktu_off1L
      · exact ca_isE EC.ec hz hf EC.k1
      ktu_off1L
      · refine e_ty (by assumption) (by nest_cls) (by assumption) boot_ValueError
      · exact ca_isET EC.ec hz hf EC.k2
      ktu_off1L
      · exact ca_isE EC.ec hz hf EC.k3
      ktu_off1L
    · ktu_off1L
    · ktu_offL
    k_subL
    refine s1_ret (d := .bl ((true && (true && !false)) && decide (shownD d = shownD d))) (ee_and (e_name (by assumption) (by nest_cls) rfl) fun _ => ee_one (ee_cmp (x := .str (shownD d)) (y := .str (shownD d)) (e_strc _gl' (by nest_cls) (by assumption) (e_name (by assumption) (by nest_cls) rfl) (ca_strD hG' un' hs) ?_) (e_name (by assumption) (by nest_cls) rfl) oc_eqS ?_)) ?_
    · ktu_off1L
    · ktu_off1L
    · change (Except.ok _ : Except Exn D) = Except.ok _
      rw [decide_eq_true rfl] <;> rfl
end
/-! ### wrong rates -/
section
def sm0 : D → Bool
  | .non => true
  | .bl _ => true
  | .int i => decide (i.natAbs ≤ 1048576)
  | .str z => PyData.strOk z && decide (z.length ≤ 100)
  | _ => false
def sm1 : D → Bool
  | .tup l => decide (l.length ≤ 3) && l.all sm0
  | .lst l => decide (l.length ≤ 3) && l.all sm0
  | d => sm0 d
structure Wk (B : Nat) (dp : Nat) (p : PyData) : Prop where
  lv : p.leavesShort 13 = true
  sh : p.showable = true
  wt : p.weight ≤ B
  dp : p.depth ≤ dp
theorem sm0_ok : ∀ {d : D}, sm0 d = true → plain d = true ∧ Wk 100 0 (toPy d)
  | .non, _ => ⟨rfl, rfl, rfl, Nat.zero_le _, Nat.le_refl _⟩
  | .bl b, _ => ⟨rfl, rfl, rfl, Nat.zero_le _, Nat.le_refl _⟩
  | .int i, h => by
    have hi : i.natAbs ≤ 1048576 := of_decide_eq_true h
    refine ⟨rfl, ⟨?_, ?_, ?_, Nat.le_refl _⟩⟩
    · show PyData.leavesShort 13 (.int i) = true
      rw [PyData.leavesShort]
      exact decide_eq_true (PyData.shown_int_le (by omega))
    · show decide (i.natAbs.log2 < 1920) = true
      refine decide_eq_true ?_
      have := PySem.Flt.log2_lt_of (k := 1920) (by decide) (Nat.lt_of_le_of_lt hi (Nat.lt_of_lt_of_le (show 1048576 < 2 ^ 21 by decide) (Nat.pow_le_pow_right (by decide) (by decide))))
      exact this
    · show (if i == 0 then 0 else i.natAbs.log2 + 1) ≤ 100
      split
      · exact Nat.zero_le _
      · have := PySem.Flt.log2_lt_of (k := 21) (by decide) (Nat.lt_of_le_of_lt hi (by decide))
        omega
  | .str z, h => by
    have h' : (PyData.strOk z && decide (z.length ≤ 100)) = true := h
    rw [Bool.and_eq_true, decide_eq_true_eq] at h'
    refine ⟨h'.1, ⟨?_, rfl, h'.2, Nat.le_refl _⟩⟩
    show PyData.leavesShort 13 (.str z) = true
    rw [PyData.leavesShort]
    have h1 : z.cps.all (· < 0x110000) = true := h'.1
    rw [← Array.all_toList] at h1
    refine List.all_eq_true.mpr fun c hc => ?_
    have := List.all_eq_true.mp h1 c hc
    have : c < 0x110000 := of_decide_eq_true this
    exact decide_eq_true (by omega)
theorem sm0s_ok : ∀ {l : List D}, l.all sm0 = true → plains l = true ∧ PyData.leavesShortAll 13 (toPys l) = true ∧ PyData.showableAll (toPys l) = true ∧ PyData.weightAll (toPys l) ≤ 101 * l.length ∧ PyData.depthAll (toPys l) = 0
  | [], _ => ⟨rfl, rfl, rfl, Nat.le_refl _, rfl⟩
  | d :: l, h => by
    rw [List.all_cons, Bool.and_eq_true] at h
    obtain ⟨h1, w⟩ := sm0_ok h.1
    obtain ⟨g1, g2, g3, g4, g5⟩ := sm0s_ok h.2
    refine ⟨?_, ?_, ?_, ?_, ?_⟩
    · show (plain d && plains l) = true
      rw [h1, g1] <;> rfl
    · show (PyData.leavesShort 13 (toPy d) && PyData.leavesShortAll 13 (toPys l)) = true
      rw [w.lv, g2] <;> rfl
    · show (PyData.showable (toPy d) && PyData.showableAll (toPys l)) = true
      rw [w.sh, g3] <;> rfl
    · show (toPy d).weight + 1 + PyData.weightAll (toPys l) ≤ 101 * (l.length + 1)
      have := w.wt
      omega
    · show max (toPy d).depth (PyData.depthAll (toPys l)) = 0
      have := w.dp
      rw [g5]
      omega
theorem sm1_ok {d : D} (h : sm1 d = true) : plain d = true ∧ Wk 310 1 (toPy d) := by
  have leaf : sm0 d = true → plain d = true ∧ Wk 310 1 (toPy d) := fun h => by
    obtain ⟨h1, w⟩ := sm0_ok h
    exact ⟨h1, w.lv, w.sh, Nat.le_trans w.wt (by decide), Nat.le_trans w.dp (by decide)⟩
  cases d with
  | tup l =>
    have h' : (decide (l.length ≤ 3) && l.all sm0) = true := h
    rw [Bool.and_eq_true, decide_eq_true_eq] at h'
    obtain ⟨g1, g2, g3, g4, g5⟩ := sm0s_ok h'.2
    refine ⟨g1, g2, g3, ?_, ?_⟩
    · show PyData.weightAll (toPys l) ≤ 310
      omega
    · show PyData.depthAll (toPys l) + 1 ≤ 1
      omega
  | lst l =>
    have h' : (decide (l.length ≤ 3) && l.all sm0) = true := h
    rw [Bool.and_eq_true, decide_eq_true_eq] at h'
    obtain ⟨g1, g2, g3, g4, g5⟩ := sm0s_ok h'.2
    refine ⟨g1, g2, g3, ?_, ?_⟩
    · show PyData.weightAll (toPys l) ≤ 310
      omega
    · show PyData.depthAll (toPys l) + 1 ≤ 1
      omega
  | non => exact leaf h
  | bl b => exact leaf h
  | int i => exact leaf h
  | str z => exact leaf h
  | ty n => exact leaf h
  | cls n => exact leaf h
  | dct ks => exact leaf h
  | obj C fs => exact leaf h
  | xc a dd fs => exact leaf h
  | exv C fs => exact leaf h
theorem toPk_D (k : Key) : toPk k = toPy (kD k) := by cases k <;> rfl
theorem kvs_ok : ∀ {ks : List (Key × D)}, (∀ kv ∈ ks, sm0 (kD kv.1) = true ∧ sm1 kv.2 = true) → PyData.leavesShortKv 13 (toKvs ks) = true ∧ PyData.showableKv (toKvs ks) = true ∧ PyData.weightKv (toKvs ks) ≤ 412 * ks.length ∧ PyData.depthKv (toKvs ks) ≤ 1
  | [], _ => ⟨rfl, rfl, Nat.le_refl _, Nat.zero_le _⟩
  | (k, d) :: ks, h => by
    obtain ⟨h1, h2⟩ := h (k, d) List.mem_cons_self
    obtain ⟨_, w1'⟩ := sm0_ok h1
    obtain ⟨_, w2'⟩ := sm1_ok h2
    rw [← toPk_D] at w1'
    have w1 : Wk 100 0 (toPk k) := w1'
    have w2 : Wk 310 1 (toPy d) := w2'
    obtain ⟨g1, g2, g3, g4⟩ := kvs_ok fun kv hm => h kv (List.mem_cons_of_mem _ hm)
    refine ⟨?_, ?_, ?_, ?_⟩
    · show (PyData.leavesShort 13 (toPk k) && PyData.leavesShort 13 (toPy d) && PyData.leavesShortKv 13 (toKvs ks)) = true
      rw [w1.lv, w2.lv, g1] <;> rfl
    · show (PyData.showable (toPk k) && PyData.showable (toPy d) && PyData.showableKv (toKvs ks)) = true
      rw [w1.sh, w2.sh, g2] <;> rfl
    · show (toPk k).weight + (toPy d).weight + 2 + PyData.weightKv (toKvs ks) ≤ 412 * (ks.length + 1)
      have := w1.wt
      have := w2.wt
      omega
    · show max (max (toPk k).depth (toPy d).depth) (PyData.depthKv (toKvs ks)) ≤ 1
      have := w1.dp
      have := w2.dp
      omega
theorem showOk_dct {ks : List (Key × D)} (hl : ks.length ≤ 20) (h : ∀ kv ∈ ks, sm0 (kD kv.1) = true ∧ sm1 kv.2 = true) : ShowOk (.dct ks) := by
  obtain ⟨g1, g2, g3, g4⟩ := kvs_ok h
  refine ⟨fun kv hm => (sm1_ok (h kv hm).2).1, g2, ?_, ?_⟩
  · show PyData.depthKv (toKvs ks) + 1 ≤ 64
    omega
  · exact PyData.shown_fits (B := 13) (by decide) (by decide) (d := .dict (toKvs ks)) g1 (by show PyData.weightKv (toKvs ks) ≤ 2 ^ 20; omega)
theorem showOk_sm1 {d : D} (h : sm1 d = true) (hb : ∀ b, d ≠ .bl b) : ShowOk d := by
  obtain ⟨h1, w⟩ := sm1_ok h
  have hz : (toPy d).shown.length ≤ sizeLine := PyData.shown_fits (B := 13) (by decide) (by decide) w.lv (Nat.le_trans w.wt (by decide))
  have dp := w.dp
  cases d with
  | non => exact trivial
  | str z => exact trivial
  | int i =>
    have e : decide (i.natAbs.log2 < 1920) = true := w.sh
    have e2 : i.natAbs.log2 < 1920 := of_decide_eq_true e
    exact e2
  | tup l => exact ⟨h1, w.sh, Nat.le_trans dp (by decide), hz⟩
  | lst l => exact ⟨h1, w.sh, Nat.le_trans dp (by decide), hz⟩
  | bl b => exact absurd rfl (hb b)
  | ty n => cases h
  | cls n => cases h
  | dct ks => cases h
  | obj C fs => cases h
  | xc a dd fs => cases h
  | exv C fs => cases h
theorem isNameS.strOk {z : Str} (h : isNameS z = true) : PyData.strOk z = true := by
  unfold isNameS at h
  rw [Bool.and_eq_true] at h
  have h2 := h.2
  show z.cps.all (· < 0x110000) = true
  rw [← Array.all_toList]
  refine List.all_eq_true.mpr fun c hc => ?_
  have h3 : c ∈ lettersS.cps.toList := of_decide_eq_true (List.all_eq_true.mp h2 c hc)
  have h4 : ∀ x ∈ lettersS.cps.toList, decide (x < 0x110000) = true := by decide +kernel
  exact h4 c h3
theorem rate_entry {rs : List RT} (hR : RatesOk rs) {kv : Key × D} (h : kv ∈ ratesK rs) : isNameD (kD kv.1) = true ∧ (sm0 (kD kv.1) = true ∧ sm1 kv.2 = true) ∧ dOk (kD kv.1) = true ∧ isThing kv.2 = true ∧ pairOk kv.2 ∧ pyOk kv.2 = true := by
  obtain ⟨r, hr, rfl⟩ := List.mem_map.mp h
  have hn := hR.nm r hr
  have hl := isNameS.len hn
  have s := hR.sm r hr
  refine ⟨hn, ⟨?_, ?_⟩, ?_, rfl, ?_, rfl⟩
  · show (PyData.strOk r.1 && decide (r.1.length ≤ 100)) = true
    rw [isNameS.strOk hn, decide_eq_true (by omega)] <;> rfl
  · show (decide (2 ≤ 3) && (decide (r.2.1.natAbs ≤ 1048576) && (decide (r.2.2.natAbs ≤ 1048576) && true))) = true
    have s1 : r.2.1.natAbs < 2 ^ 20 := s.1
    have s2 : r.2.2.natAbs < 2 ^ 20 := s.2
    rw [decide_eq_true (show r.2.1.natAbs ≤ 1048576 by omega), decide_eq_true (show r.2.2.natAbs ≤ 1048576 by omega)] <;> rfl
  · show decide (r.1.length ≤ 5000) = true
    exact decide_eq_true (by omega)
  · intro x y e
    cases e
    exact ⟨rfl, rfl, fun b hb => by cases hb; exact s.2.mono (by decide)⟩
theorem rates_in {rs : List RT} (hR : RatesOk rs) : RIn (.dct (ratesK rs)) := ⟨rfl, fun ks e => by
  cases e
  refine ⟨by unfold ratesK; rw [List.length_map]; have := hR.len; omega, fun kv hm => ?_⟩
  obtain ⟨_, _, h3, h4, h5, _⟩ := rate_entry hR hm
  exact ⟨h3, h4, h5⟩⟩
theorem put_mem {ks : List (Key × D)} {k : Key} {d : D} {kv : Key × D} (h : kv ∈ putKD ks k d) : kv ∈ ks ∨ kv = (k, d) := by
  unfold putKD at h
  split at h
  · obtain ⟨q, hq, e⟩ := List.mem_map.mp h
    by_cases c : q.1 = k
    · rw [if_pos c, c] at e
      exact .inr e.symm
    · rw [if_neg c] at e
      exact .inl (e ▸ hq)
  · rcases List.mem_append.mp h with q | q
    · exact .inl q
    · exact .inr (List.mem_singleton.mp q)
theorem put_has (ks : List (Key × D)) (k : Key) (d : D) : (k, d) ∈ putKD ks k d := by
  unfold putKD
  split
  · rename_i h
    obtain ⟨q, hq, e⟩ := List.any_eq_true.mp h
    have e' : q.1 = k := of_decide_eq_true e
    refine List.mem_map.mpr ⟨q, hq, ?_⟩
    rw [if_pos e', e']
  · exact List.mem_append.mpr (.inr List.mem_cons_self)
theorem put_len (ks : List (Key × D)) (k : Key) (d : D) : (putKD ks k d).length ≤ ks.length + 1 := by
  unfold putKD
  split
  · rw [List.length_map]
    omega
  · rw [List.length_append, List.length_singleton]
    omega
theorem drop_rates (z : Str) : ∀ rs : List RT, dropKD (ratesK rs) (.inr z) = ratesK (rs.filter fun r => !decide (r.1 = z))
  | [] => rfl
  | r :: rs => by
    have ih := drop_rates z rs
    unfold dropKD ratesK at *
    rw [List.map_cons, List.filter_cons, List.filter_cons]
    by_cases e : r.1 = z
    · rw [if_neg (by simp [rateD, e]), if_neg (by simp [e])]
      exact ih
    · rw [if_pos (by simp [rateD, e]), if_pos (by simp [e]), List.map_cons, ih]
abbrev badL : List D := [.tup [.int 0, .int 1], .tup [.int (-1), .int 2], .tup [.int 2, .int 4], .int 1, .non, .str "1", .tup [.int 1, .int 0], .tup [.bl true, .int 1], .lst [.int 1, .int 2], .tup [.int 1]]
abbrev badKs : List Key := [.inr "A", .inr "unit", .inl 5, .inr "abcdefghi"]
abbrev badDs : List D := [.non, .lst [], .str "rates", .int 5, .tup [.tup [.str "a", .tup [.int 1, .int 1]]]]
theorem bad_vals : ∀ d ∈ badL, sm1 d = true ∧ (isFrac d && posF d) = false ∧ isThing d = true ∧ pairOk d := by
  intro d hd
  simp only [badL, List.mem_cons, List.not_mem_nil, or_false] at hd
  rcases hd with rfl | rfl | rfl | rfl | rfl | rfl | rfl | rfl | rfl | rfl
  all_goals refine ⟨by decide +kernel, by decide +kernel, rfl, fun x y e => ?_⟩
  all_goals first | (cases e; exact ⟨rfl, rfl, fun b hb => by cases hb; exact Sm.mono (n := 8) (by decide) (by decide)⟩) | cases e
theorem bad_keys : ∀ k ∈ badKs, isNameD (kD k) = false ∧ sm0 (kD k) = true ∧ dOk (kD k) = true := by
  intro k hk
  simp only [badKs, List.mem_cons, List.not_mem_nil, or_false] at hk
  rcases hk with rfl | rfl | rfl | rfl
  all_goals exact ⟨by decide +kernel, by decide +kernel, by decide +kernel⟩
def otherV (n : Int) (rs : List RT) : Str := (sortT (rs.map (·.1))).getD (n / 60 % 5).toNat ""
def pickV (n : Int) (rs : List RT) : Str := (["m", otherV n rs] : List Str).getD (n / 300 % 2).toNat ""
def wrongV (n : Int) (rs : List RT) : D :=
  if n % 13 = 12 then .dct (putKD (ratesK rs) (badKs.getD (n / 13 % 4).toNat (.inl 5)) (.tup [.int 1, .int 1]))
  else if n % 13 = 11 then badDs.getD (n / 12 % 5).toNat .non
  else if n % 13 = 10 then .dct (dropKD (ratesK rs) (.inr "m"))
  else .dct (putKD (ratesK rs) (.inr (pickV n rs)) (badL.getD (n % 13).toNat .non))
def BadAt (d : D) : Prop := RIn d ∧ ShowOk d ∧ ∀ e : Int, BadIn [("m", e)] d
theorem bad_put {rs : List RT} (hR : RatesOk rs) {k : Key} {d : D} (h1 : sm0 (kD k) = true) (h2 : sm1 d = true) (h3 : dOk (kD k) = true) (h4 : isThing d = true) (h5 : pairOk d) (h6 : goodKV (k, d) = false) : BadAt (.dct (putKD (ratesK rs) k d)) := by
  have hl := put_len (ratesK rs) k d
  have hl2 : (ratesK rs).length ≤ 10 := by unfold ratesK; rw [List.length_map]; exact hR.len
  refine ⟨⟨rfl, fun ks e => ?_⟩, showOk_dct (by omega) fun kv hm => ?_, fun e => .inl ?_⟩
  · cases e
    refine ⟨by omega, fun kv hm => ?_⟩
    rcases put_mem hm with q | rfl
    · obtain ⟨_, _, g3, g4, g5, _⟩ := rate_entry hR q
      exact ⟨g3, g4, g5⟩
    · exact ⟨h3, h4, h5⟩
  · rcases put_mem hm with q | rfl
    · exact (rate_entry hR q).2.1
    · exact ⟨h1, h2⟩
  · show (putKD (ratesK rs) k d).all goodKV = false
    obtain ⟨i, hi⟩ := List.getElem?_of_mem (put_has (ratesK rs) k d)
    exact all_take_false hi h6
theorem wrong_ok {rs : List RT} (hR : RatesOk rs) (h5 : rs.length = 5) (hm : ("m" : Str) ∈ rs.map (·.1)) (n : Int) : BadAt (wrongV n rs) := by
  unfold wrongV
  split
  · obtain ⟨b1, b2, b3⟩ := getD_all (P := fun k : Key => isNameD (kD k) = false ∧ sm0 (kD k) = true ∧ dOk (kD k) = true) bad_keys (by decide +kernel) (n / 13 % 4).toNat (d := .inl 5) (l := badKs)
    refine bad_put hR b2 rfl b3 rfl (fun x y e => ?_) ?_
    · cases e
      exact ⟨rfl, rfl, fun b hb => by cases hb; exact Sm.mono (n := 8) (by decide) (by decide)⟩
    · show (isNameD (kD _) && _) = false
      rw [b1] <;> rfl
  · split
    · have key : ∀ d ∈ badDs, BadAt d := by
        intro d hd
        simp only [badDs, List.mem_cons, List.not_mem_nil, or_false] at hd
        rcases hd with rfl | rfl | rfl | rfl | rfl
        · exact ⟨⟨rfl, fun ks e => nomatch e⟩, trivial, fun e => .inl rfl⟩
        · exact ⟨⟨rfl, fun ks e => nomatch e⟩, showOk_sm1 rfl (fun b => nofun), fun e => .inl rfl⟩
        · exact ⟨⟨rfl, fun ks e => nomatch e⟩, trivial, fun e => .inl rfl⟩
        · exact ⟨⟨rfl, fun ks e => nomatch e⟩, showOk_sm1 (by decide +kernel) (fun b => nofun), fun e => .inl rfl⟩
        · refine ⟨⟨rfl, fun ks e => nomatch e⟩, ⟨by decide +kernel, by decide +kernel, by decide +kernel, ?_⟩, fun e => .inl rfl⟩
          exact PyData.shown_fits (B := 13) (by decide) (by decide) (by decide +kernel) (by decide +kernel)
      exact getD_all (P := BadAt) (d := .non) (l := badDs) key ⟨⟨rfl, fun ks e => nomatch e⟩, trivial, fun e => .inl rfl⟩ _
    · split
      · rw [drop_rates]
        have hR2 : RatesOk (rs.filter fun r => !decide (r.1 = "m")) :=
          ⟨fun r hr => hR.nm r (List.mem_filter.mp hr).1, fun r hr => hR.pos r (List.mem_filter.mp hr).1, fun r hr => hR.sh r (List.mem_filter.mp hr).1, fun r hr => hR.sm r (List.mem_filter.mp hr).1,
            hR.nd.sublist ((List.filter_sublist).map _), Nat.le_trans (List.length_filter_le _ _) hR.len⟩
        refine ⟨rates_in hR2, showOk_dct (by unfold ratesK; rw [List.length_map]; have := hR2.len; omega) fun kv hm => (rate_entry hR2 hm).2.1, fun e => .inr ⟨_, ("m", e), rfl, hR2, rfl, fun hm => ?_⟩⟩
        obtain ⟨r, hr, e⟩ := List.mem_map.mp hm
        have := (List.mem_filter.mp hr).2
        rw [decide_eq_true e] at this
        cases this
      · obtain ⟨b1, b2, b3, b4⟩ := getD_all (P := fun d : D => sm1 d = true ∧ (isFrac d && posF d) = false ∧ isThing d = true ∧ pairOk d) bad_vals ⟨rfl, rfl, rfl, fun x y e => nomatch e⟩ (n % 13).toNat (d := .non) (l := badL)
        have hz : pickV n rs ∈ rs.map (·.1) := by
          have ho : otherV n rs ∈ rs.map (·.1) := by
            unfold otherV
            have hlen : (sortT (rs.map (·.1))).length = 5 := by
              have nd1 := ris_nodup (ris_sortT (rs.map (·.1)))
              have p := (List.perm_ext_iff_of_nodup nd1 hR.nd).mpr fun a => mem_sortT
              rw [p.length_eq, List.length_map, h5]
            have k0 := Int.emod_nonneg (n / 60) (show (5 : Int) ≠ 0 by decide)
            have k1 := Int.emod_lt_of_pos (n / 60) (show (0 : Int) < 5 by decide)
            have hl : (n / 60 % 5).toNat < (sortT (rs.map (·.1))).length := by rw [hlen]; omega
            rw [List.getD_eq_getElem?_getD, List.getElem?_eq_getElem hl]
            exact mem_sortT.mp (List.getElem_mem hl)
          unfold pickV
          have k0 := Int.emod_nonneg (n / 300) (show (2 : Int) ≠ 0 by decide)
          have k1 := Int.emod_lt_of_pos (n / 300) (show (0 : Int) < 2 by decide)
          rcases (show n / 300 % 2 = 0 ∨ n / 300 % 2 = 1 by omega) with e | e
          · rw [e]; exact hm
          · rw [e]; exact ho
        obtain ⟨r, hr, er⟩ := List.mem_map.mp hz
        have hn := hR.nm r hr
        rw [er] at hn
        have hl := isNameS.len hn
        refine bad_put hR ?_ b1 ?_ b3 b4 ?_
        · show (PyData.strOk (pickV n rs) && decide ((pickV n rs).length ≤ 100)) = true
          rw [isNameS.strOk hn, decide_eq_true (by omega)] <;> rfl
        · show decide ((pickV n rs).length ≤ 5000) = true
          exact decide_eq_true (by omega)
        · show (_ && _) = false
          rw [b2, Bool.and_false]
end
section
variable {X : Cx} {Gs G : Hp} {ds : List D} {r : Except Exn D} {C : Addr}
def S_lwrong : FS := fun ds r => ∃ (n : Int) (rs : List RT), ds = [.int n, .dct (ratesK rs), .str "m"] ∧ RatesOk rs ∧ rs.length = 5 ∧ ("m" : Str) ∈ rs.map (·.1) ∧ r = .ok (wrongV n rs)
theorem other_mem {n : Int} {rs : List RT} (hR : RatesOk rs) (h5 : rs.length = 5) : (sortT (rs.map (·.1))).length = 5 := by
  have nd1 := ris_nodup (ris_sortT (rs.map (·.1)))
  have p := (List.perm_ext_iff_of_nodup nd1 hR.nd).mpr fun a => mem_sortT
  rw [p.length_eq, List.length_map, h5]
theorem b_law_wrong (B : Body X N__law_wrong L__law_wrong G__law_wrong 1 (defScope s__law_wrong)) (m1 : X.mg "dict" = none) (m2 : X.mg "sorted" = none) (m3 : X.mg "len" = none) (h : S_lwrong ds r) :
    SS X Gs G (defBody s__law_wrong) (startA N__law_wrong ds) (finOf r) := by
  obtain ⟨n, rs, rfl, hR, h5, hm, rfl⟩ := h
  have q0 : 0 ≤ n % 13 := Int.emod_nonneg _ (by decide)
  have q1 : n % 13 < 13 := Int.emod_lt_of_pos _ (by decide)
  have hk : ratesK rs = keysT (rs.map fun r => (r.1, D.tup [.int r.2.1, .int r.2.2])) := by
    unfold ratesK keysT
    rw [List.map_map]
    rfl
  have hn : (rs.map fun r => (r.1, D.tup [.int r.2.1, .int r.2.2])).map (·.1) = rs.map (·.1) := by rw [List.map_map]; rfl
  have hlk : (ratesK rs).length = 5 := by unfold ratesK; rw [List.length_map, h5]
  have hlk2 : (ratesK rs).length < sizeLine := by rw [hlk, sizeLine_eq]; decide
  ktu_offI
  k_subL
  refine t_set (d := .lst badL) (as1 := [.fz (.int n), .fz (.dct (ratesK rs)), .fz (.str "m"), .fz (.lst badL), .un, .un]) B (by nest_cls) ?_ (by ktu_off1L) (by ktu_offL) ?_
  · ktu_off1L
    all_goals first | exact len_le (by rfl) | skip
    all_goals ktu_off1L
  k_subL
  refine t_setN (d := .dct (ratesK rs)) (as1 := [.fz (.int n), .fz (.dct (ratesK rs)), .fz (.str "m"), .fz (.lst badL), .ow (.dct (ratesK rs)), .un]) B (by nest_cls) (n_dictC B.glb (by nest_cls) (by assumption) (e_name (by assumption) (by nest_cls) rfl) ?_) (by ktu_off1L) (by ktu_offL) ?_
  · ktu_off1L
  k_subL
  have hoth : atI ((sortT (rs.map (·.1))).map D.str) (n / 60 % 5) = some (.str (otherV n rs)) := by
    have k0 := Int.emod_nonneg (n / 60) (show (5 : Int) ≠ 0 by decide)
    have k1 := Int.emod_lt_of_pos (n / 60) (show (0 : Int) < 5 by decide)
    have hl : (n / 60 % 5).toNat < (sortT (rs.map (·.1))).length := by rw [other_mem (n := n) hR h5]; omega
    refine atI_pick k0 (by rw [List.length_map, other_mem (n := n) hR h5]; exact k1) ?_
    unfold otherV
    rw [List.getD_eq_getElem?_getD, List.getD_eq_getElem?_getD, List.getElem?_map, List.getElem?_eq_getElem hl]
    rfl
  refine t_set (d := .str (otherV n rs)) (as1 := [.fz (.int n), .fz (.dct (ratesK rs)), .fz (.str "m"), .fz (.lst badL), .ow (.dct (ratesK rs)), .fz (.str (otherV n rs))]) B (by nest_cls) (ee_sub (x := .lst ((sortT (rs.map (·.1))).map D.str)) (y := .int (n / 60 % 5)) (ee_is (EN.ee (en_sortD (ks := rs.map fun r => (r.1, D.tup [.int r.2.1, .int r.2.2])) B.glb B.calm (by nest_cls) (by assumption) (ee_is (e_name (d := .dct (ratesK rs)) (by assumption) (by nest_cls) rfl) (by rw [hk])) (by rw [hn]; exact hR.nd) (by rw [List.length_map, h5]; decide) ?_)) (by rw [hn])) (ee_bin (x := .int (n / 60)) (y := .int 5) ?_ (ee_is (e_len B.glb (by nest_cls) (by assumption) (e_name (d := .dct (ratesK rs)) (by assumption) (by nest_cls) rfl) ca_lenK ?_) (by rw [hlk]; rfl)) (od_mod (by decide))) (sub_L hoth)) (by ktu_off1L) (by ktu_offL) ?_
  · ktu_off1L
  · ktu_off1L
    all_goals first | exact cdivW_of (by decide) (by decide +kernel) | skip
    all_goals ktu_off1L
  · ktu_off1L
  k_subL
  refine s1_if (b := decide (n % 13 = 12)) (by ktu_off1L) (fun hb => ?_) fun hb => ?_
  · have e12 : n % 13 = 12 := by simpa using hb
    have k0 := Int.emod_nonneg (n / 13) (show (4 : Int) ≠ 0 by decide)
    have k1 := Int.emod_lt_of_pos (n / 13) (show (0 : Int) < 4 by decide)
    have hat : atI [D.str "A", .str "unit", .int 5, .str "abcdefghi"] (n / 13 % 4) = some (kD (badKs.getD (n / 13 % 4).toNat (.inl 5))) := by
      rcases (show n / 13 % 4 = 0 ∨ n / 13 % 4 = 1 ∨ n / 13 % 4 = 2 ∨ n / 13 % 4 = 3 by omega) with e | e | e | e <;> (rw [e]; rfl)
    k_subL
    refine t_dput (k := badKs.getD (n / 13 % 4).toNat (.inl 5)) (d := .tup [.int 1, .int 1]) (ks := ratesK rs) (as1 := [.fz (.int n), .fz (.dct (ratesK rs)), .fz (.str "m"), .fz (.lst badL), .ow (.dct (putKD (ratesK rs) (badKs.getD (n / 13 % 4).toNat (.inl 5)) (.tup [.int 1, .int 1]))), .fz (.str (otherV n rs))]) B (by nest_cls) rfl ?_ (ee_sub (x := .lst [.str "A", .str "unit", .int 5, .str "abcdefghi"]) (y := .int (n / 13 % 4)) ?_ ?_ (sub_L hat)) hlk2 ?_ ?_ ?_
    · ktu_off1L
    · ktu_off1L
    · ktu_off1L
      all_goals first | exact cdivW_of (by decide) (by decide +kernel) | skip
      all_goals ktu_off1L
    · ktu_offL
    · k_places
      change (Except.ok _ : Except Exn D) = Except.ok _
      rw [wrongV, if_pos e12]
    · ktu_off1L
  · have n12 : ¬ n % 13 = 12 := by simpa using hb
    k_subL
    k_subL
    refine s1_if (b := decide (n % 13 = 11)) (by ktu_off1L) (fun hb => ?_) fun hb => ?_
    · have e11 : n % 13 = 11 := by simpa using hb
      have k0 := Int.emod_nonneg (n / 12) (show (5 : Int) ≠ 0 by decide)
      have k1 := Int.emod_lt_of_pos (n / 12) (show (0 : Int) < 5 by decide)
      have hat : atI badDs (n / 12 % 5) = some (badDs.getD (n / 12 % 5).toNat .non) := atI_pick k0 (by show _ < 5; exact k1) rfl
      k_subL
      refine s1_ret (d := badDs.getD (n / 12 % 5).toNat .non) (ee_sub (x := .lst badDs) (y := .int (n / 12 % 5)) ?_ ?_ (sub_L hat)) ?_
      · ktu_off1L
        all_goals first | exact len_le (by rfl) | skip
        all_goals ktu_off1L
      · ktu_off1L
        all_goals first | exact cdivW_of (by decide) (by decide +kernel) | skip
        all_goals ktu_off1L
      · change (Except.ok _ : Except Exn D) = Except.ok _
        rw [wrongV, if_neg n12, if_pos e11]
    · have n11 : ¬ n % 13 = 11 := by simpa using hb
      k_subL
      k_subL
      refine s1_if (b := decide (n % 13 = 10)) (by ktu_off1L) (fun hb => ?_) fun hb => ?_
      · have e10 : n % 13 = 10 := by simpa using hb
        obtain ⟨rt, _, _, _, e3⟩ := rate_in hm
        k_subL
        refine t_dpop (k := .inr "m") (as1 := [.fz (.int n), .fz (.dct (ratesK rs)), .fz (.str "m"), .fz (.lst badL), .ow (.dct (dropKD (ratesK rs) (.inr "m"))), .fz (.str (otherV n rs))]) B (by nest_cls) rfl ?_ e3 ?_ ?_ ?_ ?_
        · show EE X _ _ (.str "m")
          ktu_off1L
        · ktu_offL
        · k_places
          change (Except.ok _ : Except Exn D) = Except.ok _
          rw [wrongV, if_neg n12, if_neg n11, if_pos e10]
        · exact ⟨rfl, rfl, rfl, rfl⟩
        · rfl
      · have n10 : ¬ n % 13 = 10 := by simpa using hb
        have hat : atI badL (n % 13) = some (badL.getD (n % 13).toNat .non) := atI_pick q0 (by show _ < 10; omega) rfl
        have hat2 : atI [D.str "m", .str (otherV n rs)] (n / 300 % 2) = some (kD (.inr (pickV n rs))) := by
          have k0 := Int.emod_nonneg (n / 300) (show (2 : Int) ≠ 0 by decide)
          have k1 := Int.emod_lt_of_pos (n / 300) (show (0 : Int) < 2 by decide)
          unfold pickV
          rcases (show n / 300 % 2 = 0 ∨ n / 300 % 2 = 1 by omega) with e | e <;> (rw [e]; rfl)
        k_subL
        refine t_dput (k := .inr (pickV n rs)) (d := badL.getD (n % 13).toNat .non) (ks := ratesK rs) (as1 := [.fz (.int n), .fz (.dct (ratesK rs)), .fz (.str "m"), .fz (.lst badL), .ow (.dct (putKD (ratesK rs) (.inr (pickV n rs)) (badL.getD (n % 13).toNat .non))), .fz (.str (otherV n rs))]) B (by nest_cls) rfl (ee_sub (x := .lst badL) (y := .int (n % 13)) ?_ ?_ (sub_L hat)) (ee_sub (x := .lst [.str "m", .str (otherV n rs)]) (y := .int (n / 300 % 2)) ?_ ?_ (sub_L hat2)) hlk2 ?_ ?_ ?_
        · exact e_name (by assumption) (by nest_cls) rfl
        · ktu_off1L
        · ktu_off1L
        · ktu_off1L
          all_goals first | exact cdivW_of (by decide) (by decide +kernel) | skip
          all_goals ktu_off1L
        · ktu_offL
        · k_places
          change (Except.ok _ : Except Exn D) = Except.ok _
          rw [wrongV, if_neg n12, if_neg n11, if_neg n10]
        · ktu_off1L
end
/-! ### the law, plain -/
section
def sA (s : Str → Int) : List Str → Nat
  | [] => 0
  | z :: L => (s z).natAbs + sA s L
theorem sA_add (s t : Str → Int) : ∀ L, sA (fun z => s z + t z) L ≤ sA s L + sA t L
  | [] => Nat.le_refl _
  | z :: L => by
    have ih := sA_add s t L
    show (s z + t z).natAbs + sA (fun z => s z + t z) L ≤ (s z).natAbs + sA s L + ((t z).natAbs + sA t L)
    have := Int.natAbs_add_le (s z) (t z)
    omega
theorem sA_zero {s : Str → Int} : ∀ {L : List Str}, (∀ z ∈ L, s z = 0) → sA s L = 0
  | [], _ => rfl
  | z :: L, h => by
    have ih := sA_zero fun y hy => h y (List.mem_cons_of_mem _ hy)
    show (s z).natAbs + sA s L = 0
    rw [ih, h z List.mem_cons_self]
    rfl
theorem sA_one (p : UP) : ∀ {L : List Str}, L.Nodup → sA (fun z => if p.1 = z then p.2 else 0) L ≤ p.2.natAbs
  | [], _ => Nat.zero_le _
  | z :: L, nd => by
    rw [List.nodup_cons] at nd
    show (if p.1 = z then p.2 else 0).natAbs + sA (fun z => if p.1 = z then p.2 else 0) L ≤ p.2.natAbs
    by_cases e : p.1 = z
    · have := sA_zero (s := fun y => if p.1 = y then p.2 else 0) (L := L) fun y hy => by
        show (if p.1 = y then p.2 else 0) = 0
        rw [if_neg]
        intro e2
        exact nd.1 (by rw [← e, e2]; exact hy)
      rw [this, if_pos e]
      omega
    · have ih := sA_one p nd.2
      rw [if_neg e]
      show (0 : Int).natAbs + _ ≤ _
      omega
theorem sA_sums {L : List Str} (nd : L.Nodup) : ∀ ps : List UP, sA (sumAt ps) L ≤ wt ps
  | [] => by rw [sA_zero (s := sumAt []) fun z _ => rfl]; exact Nat.zero_le _
  | p :: ps => by
    have ef : sumAt (p :: ps) = fun z => (if p.1 = z then p.2 else 0) + sumAt ps z := funext fun z => sumAt_cons p ps z
    have h1 := sA_add (fun z => if p.1 = z then p.2 else 0) (sumAt ps) L
    have h2 := sA_one p nd
    have ih := sA_sums nd ps
    have e : wt (p :: ps) = p.2.natAbs + wt ps := by unfold wt; rw [List.map_cons, List.sum_cons]
    rw [ef, e]
    omega
theorem sA_eq (s : Str → Int) : ∀ L, (L.map fun z => (s z).natAbs).sum = sA s L
  | [] => rfl
  | z :: L => by
    rw [List.map_cons, List.sum_cons, sA_eq s L]
    rfl
theorem wt_filter (f : UP → Bool) : ∀ u : List UP, wt (u.filter f) ≤ wt u
  | [] => Nat.le_refl _
  | p :: u => by
    have ih := wt_filter f u
    have e : ∀ v, wt (p :: v) = p.2.natAbs + wt v := fun v => by unfold wt; rw [List.map_cons, List.sum_cons]
    rw [List.filter_cons]
    split
    · rw [e, e]; omega
    · rw [e]; omega
theorem wt_unitOf (ps : List UP) : wt (unitOf ps) ≤ wt ps := by
  unfold unitOf
  refine Nat.le_trans (wt_filter _ _) ?_
  have h := sA_sums (ris_nodup (ris_sortT (ps.map (·.1)))) ps
  unfold wt at h ⊢
  rw [List.map_map]
  exact Nat.le_trans (Nat.le_of_eq (sA_eq (sumAt ps) _)) h
theorem wt_app (u v : List UP) : wt (u ++ v) = wt u + wt v := by
  unfold wt
  rw [List.map_append, List.sum_append]
theorem unitOf_mem {ps : List UP} {p : UP} (h : p ∈ unitOf ps) : p.1 ∈ ps.map (·.1) := by
  unfold unitOf at h
  obtain ⟨z, hz, rfl⟩ := List.mem_map.mp (List.mem_filter.mp h).1
  exact mem_sortT.mp hz
theorem unitOf_len (ps : List UP) : (unitOf ps).length ≤ ps.length := by
  unfold unitOf
  refine Nat.le_trans (List.length_filter_le _ _) ?_
  rw [List.length_map]
  refine Nat.le_trans (len_sortT _) ?_
  rw [List.length_map]
  exact Nat.le_refl _
/-- a unit of the law: its names, its size -/
structure UIn (names : List Str) (u : List UP) (B : Nat) : Prop where
  mem : ∀ p ∈ u, p.1 ∈ names
  len : u.length ≤ 30
  wt : wt u ≤ B
theorem lprs_wt {names : List Str} (h : Five names) (n : Int) {most : Int} (hm : 0 ≤ most) : ∀ m, wt (lprs n names most m) ≤ m * most.natAbs
  | 0 => Nat.zero_le _
  | m + 1 => by
    have ih := lprs_wt h n hm m
    have := (lpr_ok h n most m).2 hm
    rw [lprs_succ, wt_app]
    have e : Mw.wt [lpr n names most m] = (lpr n names most m).2.natAbs := rfl
    rw [e, Nat.add_mul]
    omega
theorem uin_unit {names : List Str} (h : Five names) (n : Int) {most : Int} (hm : 0 ≤ most) : UIn names (unitOf (lprs n names most (n % 5).toNat)) (4 * most.natAbs) := by
  have n0 : 0 ≤ n % 5 := Int.emod_nonneg _ (by decide)
  have n5 : n % 5 < 5 := Int.emod_lt_of_pos _ (by decide)
  refine ⟨fun p hp => ?_, ?_, ?_⟩
  · obtain ⟨q, hq, e⟩ := List.mem_map.mp (unitOf_mem hp)
    unfold lprs at hq
    obtain ⟨k, _, rfl⟩ := List.mem_map.mp hq
    rw [← e]
    exact (lpr_ok h n most k).1
  · refine Nat.le_trans (unitOf_len _) ?_
    unfold lprs
    rw [List.length_map, List.length_range]
    omega
  · refine Nat.le_trans (wt_unitOf _) (Nat.le_trans (lprs_wt h n hm _) (Nat.mul_le_mul_right _ ?_))
    omega
theorem uin_join {names : List Str} {u v : List UP} {a b : Nat} (hu : UIn names u a) (hv : UIn names v b) (hl : u.length + v.length ≤ 30) : UIn names (unitOf (u ++ v)) (a + b) := by
  refine ⟨fun p hp => ?_, ?_, ?_⟩
  · obtain ⟨q, hq, e⟩ := List.mem_map.mp (unitOf_mem hp)
    rw [← e]
    rcases List.mem_append.mp hq with z | z
    · exact hu.mem q z
    · exact hv.mem q z
  · refine Nat.le_trans (unitOf_len _) ?_
    rw [List.length_append]
    exact hl
  · refine Nat.le_trans (wt_unitOf _) ?_
    rw [wt_app]
    exact Nat.add_le_add hu.wt hv.wt
theorem wt_scale (e : Int) : ∀ v : List UP, wt (v.map fun p => (p.1, p.2 * e)) = wt v * e.natAbs
  | [] => by show 0 = 0 * _; rw [Nat.zero_mul]
  | p :: v => by
    have ih := wt_scale e v
    unfold wt at *
    rw [List.map_cons, List.map_cons, List.map_cons, List.sum_cons, List.sum_cons, ih, Nat.add_mul]
    show (p.2 * e).natAbs + _ = _
    rw [Int.natAbs_mul]
theorem uin_pow {names : List Str} {v : List UP} {b : Nat} (hv : UIn names v b) (e : Int) : UIn names (unitOf (v.map fun p => (p.1, p.2 * e))) (b * e.natAbs) := by
  refine ⟨fun p hp => ?_, ?_, ?_⟩
  · obtain ⟨q, hq, ee⟩ := List.mem_map.mp (unitOf_mem hp)
    obtain ⟨q', hq', rfl⟩ := List.mem_map.mp hq
    rw [← ee]
    exact hv.mem q' hq'
  · refine Nat.le_trans (unitOf_len _) ?_
    rw [List.length_map]
    exact hv.len
  · refine Nat.le_trans (wt_unitOf _) ?_
    rw [wt_scale]
    exact Nat.mul_le_mul_right _ hv.wt
/-- the joined one's measure is the product -/
theorem frac_joined {r : Str → Int × Int} (hr : RPos r) (u v : List UP) {p q p' q' : Int} (hq : 0 < q) (hq' : 0 < q') (h1 : p * prB r u = prA r u * q) (h2 : p' * prB r v = prA r v * q') :
    fracD (prA r (unitOf (u ++ v))) (prB r (unitOf (u ++ v))) = fracD (p * p') (q * q') := by
  have key := pr_unitOf hr (u ++ v)
  rw [prA_app, prB_app] at key
  refine frac_cross (prB_pos hr _) (Int.mul_pos hq hq') ?_
  have pos : 0 < prB r u * prB r v := Int.mul_pos (prB_pos hr u) (prB_pos hr v)
  refine Int.eq_of_mul_eq_mul_right (Int.ne_of_gt pos) ?_
  generalize prA r (unitOf (u ++ v)) = a at *
  generalize prB r (unitOf (u ++ v)) = b at *
  generalize prA r u = c at *
  generalize prB r u = d at *
  generalize prA r v = e at *
  generalize prB r v = f at *
  rw [show a * (q * q') * (d * f) = a * (d * f) * (q * q') by ac_rfl, key, show p * p' * b * (d * f) = (p * d) * (p' * f) * b by ac_rfl, h1, h2]
  ac_rfl
def overR (rs : List RT) : List RT := rs.map fun r => (r.1, r.2.2, r.2.1)
theorem overR_names (rs : List RT) : (overR rs).map (·.1) = rs.map (·.1) := by
  unfold overR
  rw [List.map_map]
  rfl
theorem overR_ok {rs : List RT} (h : RatesOk rs) : RatesOk (overR rs) := by
  have key : ∀ r ∈ overR rs, ∃ q ∈ rs, r = (q.1, q.2.2, q.2.1) := fun r hr => by
    obtain ⟨q, hq, e⟩ := List.mem_map.mp hr
    exact ⟨q, hq, e.symm⟩
  refine ⟨fun r hr => ?_, fun r hr => ?_, fun r hr => ?_, fun r hr => ?_, ?_, ?_⟩
  · obtain ⟨q, hq, rfl⟩ := key r hr
    exact h.nm q hq
  · obtain ⟨q, hq, rfl⟩ := key r hr
    exact ⟨(h.pos q hq).2, (h.pos q hq).1⟩
  · obtain ⟨q, hq, rfl⟩ := key r hr
    have := h.sh q hq
    rw [Nat.gcd_comm] at this
    exact this
  · obtain ⟨q, hq, rfl⟩ := key r hr
    exact ⟨(h.sm q hq).2, (h.sm q hq).1⟩
  · rw [overR_names]
    exact h.nd
  · unfold overR
    rw [List.length_map]
    exact h.len
theorem overR_at (z : Str) : ∀ rs : List RT, z ∈ rs.map (·.1) → rateOf (overR rs) z = ((rateOf rs z).2, (rateOf rs z).1)
  | r :: rs, h => by
    unfold rateOf overR
    rw [List.map_cons, List.find?_cons, List.find?_cons]
    by_cases e : r.1 = z
    · rw [decide_eq_true (show r.1 = z from e)]
      rfl
    · have ih := overR_at z rs ((List.mem_cons.mp h).resolve_left fun q => e q.symm)
      rw [decide_eq_false (show ¬ r.1 = z from e)]
      exact ih
def onesR (names : List Str) : List RT := names.map fun z => (z, 1, 1)
theorem onesR_names (names : List Str) : (onesR names).map (·.1) = names := by
  unfold onesR
  rw [List.map_map]
  exact List.map_id _
theorem onesR_ok {names : List Str} (h : Five names) : RatesOk (onesR names) := by
  have key : ∀ r ∈ onesR names, ∃ z ∈ names, r = (z, 1, 1) := fun r hr => by
    obtain ⟨z, hz, e⟩ := List.mem_map.mp hr
    exact ⟨z, hz, e.symm⟩
  refine ⟨fun r hr => ?_, fun r hr => ?_, fun r hr => ?_, fun r hr => ?_, ?_, ?_⟩
  · obtain ⟨z, hz, rfl⟩ := key r hr
    exact h.nm z hz
  · obtain ⟨z, hz, rfl⟩ := key r hr
    exact ⟨(by decide : (0 : Int) < 1), (by decide : (0 : Int) < 1)⟩
  · obtain ⟨z, hz, rfl⟩ := key r hr
    show Nat.gcd (1 : Int).natAbs (1 : Int).natAbs = 1
    decide
  · obtain ⟨z, hz, rfl⟩ := key r hr
    exact ⟨(by decide : Sm 20 1), (by decide : Sm 20 1)⟩
  · rw [onesR_names]
    exact h.nd
  · unfold onesR
    rw [List.length_map, h.len]
    decide
theorem onesR_at {names : List Str} {z : Str} (h : z ∈ names) : rateOf (onesR names) z = (1, 1) := by
  obtain ⟨r, hr, _, e, _⟩ := rate_in (rs := onesR names) (z := z) (by rw [onesR_names]; exact h)
  obtain ⟨y, _, rfl⟩ := List.mem_map.mp hr
  exact e
theorem merge_rates : ∀ (b a : List RT), ((a ++ b).map (·.1)).Nodup → mergeKD (ratesK a) (ratesK b) = ratesK (a ++ b)
  | [], a, _ => by rw [List.append_nil]; rfl
  | (z, p, q) :: b, a, h => by
    show mergeKD (putKD (ratesK a) (.inr z) (.tup [.int p, .int q])) (ratesK b) = _
    have hz : z ∉ a.map (·.1) := fun hm => by
      rw [List.map_append, List.nodup_append] at h
      exact h.2.2 z hm z List.mem_cons_self rfl
    rw [put_fresh hz, merge_rates b (a ++ [(z, p, q)]) (by rw [List.append_assoc]; exact h), List.append_assoc]
    rfl
theorem merge_ok {rs : List RT} (h : RatesOk rs) : mergeKD [] (ratesK rs) = ratesK rs := merge_rates rs [] h.nd
def nmsA : List Str := ["a", "ab", "abc", "m", "zz"]
def nmsB : List Str := ["m", "s", "kg", "coin", "k"]
def nmsV (ns : List Int) : List Str := if numV ns 0 % 2 = 1 then nmsB else nmsA
theorem nmsV_ok (ns : List Int) : Five (nmsV ns) ∧ ("m" : Str) ∈ nmsV ns := by
  unfold nmsV
  split
  · exact ⟨⟨rfl, by decide +kernel, by decide +kernel⟩, by decide +kernel⟩
  · exact ⟨⟨rfl, by decide +kernel, by decide +kernel⟩, by decide +kernel⟩
end
section
variable {X : Cx} {Gs G : Hp} {ds : List D} {r : Except Exn D} {C : Addr}
theorem unit4 (n : Int) (names : List Str) (most : Int) : (unitOf (lprs n names most (n % 5).toNat)).length ≤ 4 := by
  have n5 : n % 5 < 5 := Int.emod_lt_of_pos _ (by decide)
  refine Nat.le_trans (unitOf_len _) ?_
  unfold lprs
  rw [List.length_map, List.length_range]
  omega
theorem lmeasure {names : List Str} {rs : List RT} (hR : RatesOk rs) (hn : rs.map (·.1) = names) {w : List UP} {B : Nat} (h : UIn names w B) (hB : B ≤ 100) : S_measure_of C [unitD w, .dct (ratesK rs)] (.ok (fracD (prA (rateOf rs) w) (prB (rateOf rs) w))) :=
  ⟨w, _, rfl, rates_in hR, by have := h.len; omega, .inr (.inr ⟨rs, rfl, hR, fun p hp => by rw [hn]; exact h.mem p hp, Nat.le_trans h.wt hB, rfl⟩)⟩
theorem lprod {names : List Str} {rs : List RT} (hR : RatesOk rs) (hn : rs.map (·.1) = names) {w : List UP} {B : Nat} (h : UIn names w B) (hB : B ≤ 100) : S_lproduct [unitD w, .dct (ratesK rs)] (.ok (.tup [.int (prA (rateOf rs) w), .int (prB (rateOf rs) w)])) :=
  ⟨w, rs, rfl, hR, fun p hp => by rw [hn]; exact h.mem p hp, Nat.le_trans h.wt hB, by have := h.len; omega, rfl⟩
theorem lsmall {names : List Str} {rs : List RT} (hR : RatesOk rs) {w : List UP} {B : Nat} (h : UIn names w B) (hB : B ≤ 100) : Sm 3000 (prA (rateOf rs) w) ∧ Sm 3000 (prB (rateOf rs) w) := by
  obtain ⟨q1, q2⟩ := pr_small (rate_sm hR) w
  have e : wt w * 20 + w.length + 1 ≤ 3000 := by
    have := h.len
    have := Nat.mul_le_mul_right 20 (Nat.le_trans h.wt hB)
    omega
  exact ⟨q1.mono e, q2.mono e⟩
theorem lis {names : List Str} {rs : List RT} (hR : RatesOk rs) {w : List UP} {B : Nat} (h : UIn names w B) (hB : B ≤ 100) : S_lis [fracD (prA (rateOf rs) w) (prB (rateOf rs) w), .tup [.int (prA (rateOf rs) w), .int (prB (rateOf rs) w)]] (.ok (.bl true)) :=
  ⟨_, _, rfl, prB_pos (rate_pos hR) w, (lsmall hR h hB).1, (lsmall hR h hB).2, rfl⟩
theorem pyOk_frac {a b : Int} : pyOk (fracD a b) = true := rfl
theorem rates_nil : RatesOk [] := ⟨fun _ h => (nomatch h), fun _ h => (nomatch h), fun _ h => (nomatch h), fun _ h => (nomatch h), List.nodup_nil, Nat.zero_le _⟩
theorem lmeasure0 : S_measure_of C [.tup [], .dct []] (.ok (.tup [.int 1, .int 1])) := by
  refine ⟨[], .dct [], rfl, rates_in rates_nil, by decide, .inr (.inr ⟨[], rfl, rates_nil, fun _ h => (nomatch h), Nat.zero_le _, ?_⟩)⟩
  rw [show fracD (prA (rateOf []) []) (prB (rateOf []) []) = .tup [.int 1, .int 1] from frac_same (p := 1) (q := 1) (by decide) (by decide)]
def S_law : FS := fun ds r => ∃ ns : List Int, ds = [.lst (ns.map D.int)] ∧ r = .ok (.bl true)
theorem b_law (B : Body X N_law L_law G_law 13 (defScope s_law)) (hG : X.A.guards = some []) (F1 : FnD X 4 "_law_number" [] S_number) (F2 : FnD X 8 "_law_rates" [] S_lrates) (F3 : FnD X 8 "_law_unit" [] S_lunit) (F4 : FnD X 10 "measure_of" [] (S_measure_of C)) (F5 : FnD X 8 "_law_is" [] S_lis) (F6 : FnD X 2 "_law_product" [] S_lproduct)
    (F7 : FnD X 8 "joined" [] S_joined) (F8 : FnD X 8 "product_of" [] S_product_of) (F9 : FnD X 8 "powered" [] S_powered) (F10 : FnD X 2 "_law_wrong" [] S_lwrong) (F11 : FnH X.prog X.w X.K X.mg X.base 12 "_law_refused" S_lrefused) (m1 : X.mg "dict" = none) (h : S_law ds r) :
    SS X Gs G (defBody s_law) (startA N_law ds) (finOf r) := by
  obtain ⟨ns, rfl, rfl⟩ := h
  ktu_offI
  k_subL
  refine t_set (d := .lst (nmsA.map D.str)) (as1 := [.fz (.lst (ns.map D.int)), .fz (.lst (nmsA.map D.str)), .un, .un, .un, .un, .un, .un, .un, .un, .un, .un]) B (by nest_cls) (ee_is (d := .lst [.str "a", .str "ab", .str "abc", .str "m", .str "zz"]) ?_ rfl) (by ktu_off1L) (by ktu_offL) ?_
  · ktu_off1L
  k_subL
  refine s1_mid (as1 := [.fz (.lst (ns.map D.int)), .fz (.lst ((nmsV ns).map D.str)), .un, .un, .un, .un, .un, .un, .un, .un, .un, .un]) ?_ ?_
  · refine s1_if (b := decide (numV ns 0 % 2 = 1)) ?_ (fun hb => ?_) fun hb => ?_
    · ktu_off1L
      · exact ⟨ns, 0, rfl, by decide, by decide, rfl⟩
      ktu_off1L
    · k_subL
      refine t_set (d := .lst (nmsB.map D.str)) (as1 := [.fz (.lst (ns.map D.int)), .fz (.lst (nmsB.map D.str)), .un, .un, .un, .un, .un, .un, .un, .un, .un, .un]) B (by nest_cls) (ee_is (d := .lst [.str "m", .str "s", .str "kg", .str "coin", .str "k"]) ?_ rfl) (by ktu_off1L) (by ktu_offL) ?_
      · ktu_off1L
      · show _ = _
        rw [nmsV, if_pos (by simpa using hb)]
    · k_subL
      show _ = _
      rw [nmsV, if_neg (by simpa using hb)]
  obtain ⟨h5, hm⟩ := nmsV_ok ns
  generalize nmsV ns = names at *
  k_subL
  have hR := rsV_ok h5 (numV ns 1)
  have hn := rsV_names (numV ns 1) 0 names
  have hrl : (rsV (numV ns 1) 0 names).length = 5 := by rw [rsV_len, h5.len]
  refine t_set (d := .dct (ratesK (rsV (numV ns 1) 0 names))) (as1 := [.fz (.lst (ns.map D.int)), .fz (.lst (names.map D.str)), .fz (.dct (ratesK (rsV (numV ns 1) 0 names))), .un, .un, .un, .un, .un, .un, .un, .un, .un]) B (by nest_cls) ?_ (by ktu_off1L) (by ktu_offL) ?_
  · ktu_off1L
    · exact ⟨ns, 1, rfl, by decide, by decide, rfl⟩
    ktu_off1L
    · exact ⟨_, names, rfl, h5, rfl⟩
    ktu_off1L
  generalize rsV (numV ns 1) 0 names = rs at *
  have hmr : ("m" : Str) ∈ rs.map (·.1) := by rw [hn]; exact hm
  k_subL
  refine t_set (d := .dct (ratesK rs)) (as1 := [.fz (.lst (ns.map D.int)), .fz (.lst (names.map D.str)), .fz (.dct (ratesK rs)), .fz (.dct (ratesK rs)), .un, .un, .un, .un, .un, .un, .un, .un]) B (by nest_cls) (EN.ee (n_dictC B.glb (by nest_cls) (by assumption) (e_name (by assumption) (by nest_cls) rfl) ?_)) (by ktu_off1L) (by ktu_offL) ?_
  · ktu_off1L
  k_subL
  have hu := uin_unit h5 (numV ns 2) (most := 9) (by decide)
  have hul := unit4 (numV ns 2) names 9
  refine t_set (d := unitD (unitOf (lprs (numV ns 2) names 9 (numV ns 2 % 5).toNat))) (as1 := [.fz (.lst (ns.map D.int)), .fz (.lst (names.map D.str)), .fz (.dct (ratesK rs)), .fz (.dct (ratesK rs)), .fz (unitD (unitOf (lprs (numV ns 2) names 9 (numV ns 2 % 5).toNat))), .un, .un, .un, .un, .un, .un, .un]) B (by nest_cls) ?_ (by ktu_off1L) (by ktu_offL) ?_
  · ktu_off1L
    · exact ⟨ns, 2, rfl, by decide, by decide, rfl⟩
    ktu_off1L
    · exact ⟨_, names, 9, rfl, h5, by decide, by decide, rfl⟩
    ktu_off1L
  generalize unitOf (lprs (numV ns 2) names 9 (numV ns 2 % 5).toNat) = u at *
  k_subL
  have hv := uin_unit h5 (numV ns 3) (most := 5) (by decide)
  have hvl := unit4 (numV ns 3) names 5
  refine t_set (d := unitD (unitOf (lprs (numV ns 3) names 5 (numV ns 3 % 5).toNat))) (as1 := [.fz (.lst (ns.map D.int)), .fz (.lst (names.map D.str)), .fz (.dct (ratesK rs)), .fz (.dct (ratesK rs)), .fz (unitD u), .fz (unitD (unitOf (lprs (numV ns 3) names 5 (numV ns 3 % 5).toNat))), .un, .un, .un, .un, .un, .un]) B (by nest_cls) ?_ (by ktu_off1L) (by ktu_offL) ?_
  · ktu_off1L
    · exact ⟨ns, 3, rfl, by decide, by decide, rfl⟩
    ktu_off1L
    · exact ⟨_, names, 5, rfl, h5, by decide, by decide, rfl⟩
    ktu_off1L
  generalize unitOf (lprs (numV ns 3) names 5 (numV ns 3 % 5).toNat) = v at *
  have hu : UIn names u 36 := hu
  have hv : UIn names v 20 := hv
  have pos := rate_pos hR
  have pB := prB_pos pos u
  have pA := prA_pos pos u
  obtain ⟨p, q, ef, hq, hg, hc, ha1, hb1⟩ := frac_parts (a := prA (rateOf rs) u) pB
  obtain ⟨p', q', ef', hq', hg', hc', ha1', hb1'⟩ := frac_parts (a := prA (rateOf rs) v) (prB_pos pos v)
  have smu := lsmall hR hu (by decide)
  have smv := lsmall hR hv (by decide)
  have sp : Sm 3000 p := Nat.lt_of_le_of_lt ha1 smu.1
  have sq : Sm 3000 q := Nat.lt_of_le_of_lt hb1 smu.2
  have sp' : Sm 3000 p' := Nat.lt_of_le_of_lt ha1' smv.1
  have sq' : Sm 3000 q' := Nat.lt_of_le_of_lt hb1' smv.2
  have hpq : pyOk (.tup [.int p, .int q]) = true := rfl
  have hpo : pyOk (.tup [.int q, .int p]) = true := rfl
  have h11 : pyOk (.tup [.int 1, .int 1]) = true := rfl
  have Mu : S_measure_of C [unitD u, .dct (ratesK rs)] (.ok (.tup [.int p, .int q])) := by rw [← ef]; exact lmeasure hR hn hu (by decide)
  have Mv : S_measure_of C [unitD v, .dct (ratesK rs)] (.ok (.tup [.int p', .int q'])) := by rw [← ef']; exact lmeasure hR hn hv (by decide)
  have nuS : ∀ x ∈ u, isNameS x.1 = true := fun x hx => h5.nm _ (hu.mem x hx)
  have nvS : ∀ x ∈ v, isNameS x.1 = true := fun x hx => h5.nm _ (hv.mem x hx)
  k_subL
  refine t_set (d := .tup [.int p, .int q]) (as1 := [.fz (.lst (ns.map D.int)), .fz (.lst (names.map D.str)), .fz (.dct (ratesK rs)), .fz (.dct (ratesK rs)), .fz (unitD u), .fz (unitD v), .fz (.tup [.int p, .int q]), .un, .un, .un, .un, .un]) B (by nest_cls) (e_call (ds := [unitD u, .dct (ratesK rs)]) B.glb F4 (by nest_cls) (by (with_reducible first | assumption | exact Mw.Body.room (by assumption) | exact L2.Room.mono (Mw.Body.room (by assumption)) (by with_unfolding_all decide))) ?_ Mu ?_ ?_) (by ktu_off1L) (by ktu_offL) ?_
  · ktu_off1L
  · ktu_off1L
  · ktu_off1L
  k_subL
  refine s1_ifF (EW.et (ew_is (k := !true || false) (ew_or (et_not (et_val (e_call (ds := [.tup [.int p, .int q], .tup [.int (prA (rateOf rs) u), .int (prB (rateOf rs) u)]]) B.glb F5 (by nest_cls) (by (with_reducible first | assumption | exact Mw.Body.room (by assumption) | exact L2.Room.mono (Mw.Body.room (by assumption)) (by with_unfolding_all decide))) (ea_cons ?_ (ea_cons (e_call (ds := [unitD u, .dct (ratesK rs)]) B.glb F6 (by nest_cls) (by (with_reducible first | assumption | exact Mw.Body.room (by assumption) | exact L2.Room.mono (Mw.Body.room (by assumption)) (by with_unfolding_all decide))) ?_ (lprod hR hn hu (by decide)) ?_ ?_) ea_nil ?_) ?_) ?_ ?_ ?_) ?_)) fun _ => ew_or1 (et_cmp (x := .dct (ratesK rs)) (y := .dct (ratesK rs)) ?_ ?_ (oc_neK B.room ?_ ?_) ?_)) rfl)) ?_
  · ktu_off1L
  · ktu_off1L
  · ktu_off1L
  · ktu_off1L
  · ktu_off1L
  · ktu_off1L
  · rw [← ef]; exact lis hR hu (by decide)
  · ktu_off1L
  · ktu_off1L
  · ktu_off1L
  · exact e_name (by assumption) (by nest_cls) rfl
  · exact e_name (by assumption) (by nest_cls) rfl
  · unfold ratesK
    rw [List.map_map]
    have := hR.nd
    rw [List.nodup_iff_pairwise_ne, List.pairwise_map] at this ⊢
    exact this.imp fun h e => h (Sum.inr.inj e)
  · intro kv hkv
    exact (rate_entry hR hkv).2.2.2.2.2
  · ktu_off1L
  k_subL
  k_subL
  have hw := uin_join hu hv (by omega)
  have ej := frac_joined pos u v hq hq' hc hc'
  refine s1_ifF (et_is (k := !eqD (fracD (p * p') (q * q')) (fracD (p * p') (q * q'))) (et_cmp (x := fracD (p * p') (q * q')) (y := fracD (p * p') (q * q')) (e_call (ds := [unitD (unitOf (u ++ v)), .dct (ratesK rs)]) B.glb F4 (by nest_cls) (by (with_reducible first | assumption | exact Mw.Body.room (by assumption) | exact L2.Room.mono (Mw.Body.room (by assumption)) (by with_unfolding_all decide))) (ea_cons (e_call (ds := [unitD u, unitD v]) B.glb F7 (by nest_cls) (by (with_reducible first | assumption | exact Mw.Body.room (by assumption) | exact L2.Room.mono (Mw.Body.room (by assumption)) (by with_unfolding_all decide))) ?_ ⟨u, v, rfl, nuS, nvS, by omega, rfl⟩ ?_ ?_) (ea_cons ?_ ea_nil ?_) ?_) (by rw [← ej]; exact lmeasure hR hn hw (by decide)) ?_ ?_)
    (e_call (ds := [.tup [.int p, .int q], .tup [.int p', .int q']]) B.glb F8 (by nest_cls) (by (with_reducible first | assumption | exact Mw.Body.room (by assumption) | exact L2.Room.mono (Mw.Body.room (by assumption)) (by with_unfolding_all decide))) (ea_cons ?_ (ea_cons (e_call (ds := [unitD v, .dct (ratesK rs)]) B.glb F4 (by nest_cls) (by (with_reducible first | assumption | exact Mw.Body.room (by assumption) | exact L2.Room.mono (Mw.Body.room (by assumption)) (by with_unfolding_all decide))) ?_ Mv ?_ ?_) ea_nil ?_) ?_) ⟨p, q, p', q', rfl, hq, hq', sp, sq, sp', sq', rfl⟩ ?_ ?_) (oc_neD B.room pyOk_frac pyOk_frac) ?_) (by rw [eqD_refl pyOk_frac]; rfl)) ?_
  · ktu_off1L
  · ktu_off1L
  · ktu_off1L
  · exact e_name (by assumption) (by nest_cls) rfl
  · ktu_off1L
  · ktu_off1L
  · ktu_off1L
  · ktu_off1L
  · ktu_off1L
  · ktu_off1L
  · ktu_off1L
  · ktu_off1L
  · ktu_off1L
  · ktu_off1L
  · ktu_off1L
  · ktu_off1L
  · ktu_off1L
  k_subL
  k_subL
  have e0 := Int.emod_nonneg (numV ns 4) (show (5 : Int) ≠ 0 by decide)
  have e5 := Int.emod_lt_of_pos (numV ns 4) (show (0 : Int) < 5 by decide)
  refine t_set (d := .int (numV ns 4 % 5 - 2)) (as1 := [.fz (.lst (ns.map D.int)), .fz (.lst (names.map D.str)), .fz (.dct (ratesK rs)), .fz (.dct (ratesK rs)), .fz (unitD u), .fz (unitD v), .fz (.tup [.int p, .int q]), .fz (.int (numV ns 4 % 5 - 2)), .un, .un, .un, .un]) B (by nest_cls) ?_ (by ktu_off1L) (by ktu_offL) ?_
  · ktu_off1L
    · exact ⟨ns, 4, rfl, by decide, by decide, rfl⟩
    ktu_off1L
  have hee : (numV ns 4 % 5 - 2).natAbs ≤ 2 := by clear sp sq sp' sq' smu smv; omega
  generalize numV ns 4 % 5 - 2 = e at *
  have hx := uin_pow hv e
  have he : 20 * e.natAbs ≤ 100 := by clear sp sq sp' sq' smu smv; omega
  have Pv : S_powered [unitD v, .int e] (.ok (unitD (unitOf (v.map fun x => (x.1, x.2 * e))))) := by
    refine ⟨v, e, rfl, fun x hx => ⟨nvS x hx, ?_⟩, ?_, by omega, rfl⟩
    · have h1 := wt_mem hx
      have h2 := hv.wt
      exact Sm.mono (n := 8) (show x.2.natAbs < 2 ^ 8 by omega) (by decide)
    · exact Sm.mono (n := 8) (show e.natAbs < 2 ^ 8 by omega) (by decide)
  generalize unitOf (v.map fun x => (x.1, x.2 * e)) = w at *
  k_subL
  refine s1_ifF (et_is (k := !true) (et_not (et_val (e_call (ds := [fracD (prA (rateOf rs) w) (prB (rateOf rs) w), .tup [.int (prA (rateOf rs) w), .int (prB (rateOf rs) w)]]) B.glb F5 (by nest_cls) (by (with_reducible first | assumption | exact Mw.Body.room (by assumption) | exact L2.Room.mono (Mw.Body.room (by assumption)) (by with_unfolding_all decide))) (ea_cons (e_call (ds := [unitD w, .dct (ratesK rs)]) B.glb F4 (by nest_cls) (by (with_reducible first | assumption | exact Mw.Body.room (by assumption) | exact L2.Room.mono (Mw.Body.room (by assumption)) (by with_unfolding_all decide))) (ea_cons (e_call (ds := [unitD v, .int e]) B.glb F9 (by nest_cls) (by (with_reducible first | assumption | exact Mw.Body.room (by assumption) | exact L2.Room.mono (Mw.Body.room (by assumption)) (by with_unfolding_all decide))) ?_ Pv ?_ ?_) (ea_cons ?_ ea_nil ?_) ?_) (lmeasure hR hn hx he) ?_ ?_)
    (ea_cons (e_call (ds := [unitD w, .dct (ratesK rs)]) B.glb F6 (by nest_cls) (by (with_reducible first | assumption | exact Mw.Body.room (by assumption) | exact L2.Room.mono (Mw.Body.room (by assumption)) (by with_unfolding_all decide))) (ea_cons (e_call (ds := [unitD v, .int e]) B.glb F9 (by nest_cls) (by (with_reducible first | assumption | exact Mw.Body.room (by assumption) | exact L2.Room.mono (Mw.Body.room (by assumption)) (by with_unfolding_all decide))) ?_ Pv ?_ ?_) (ea_cons ?_ ea_nil ?_) ?_) (lprod hR hn hx he) ?_ ?_) ea_nil ?_) ?_) (lis hR hx he) ?_ ?_) ?_)) rfl) ?_
  · ktu_off1L
  · ktu_off1L
  · ktu_off1L
  · exact e_name (by assumption) (by nest_cls) rfl
  · ktu_off1L
  · ktu_off1L
  · ktu_off1L
  · ktu_off1L
  · ktu_off1L
  · ktu_off1L
  · ktu_off1L
  · exact e_name (by assumption) (by nest_cls) rfl
  · ktu_off1L
  · ktu_off1L
  · ktu_off1L
  · ktu_off1L
  · ktu_off1L
  · ktu_off1L
  · ktu_off1L
  · ktu_off1L
  · ktu_off1L
  k_subL
  k_subL
  have hO := overR_ok hR
  have hOn : (overR rs).map (·.1) = names := by rw [overR_names, hn]
  refine t_set (d := .dct (ratesK (overR rs))) (as1 := [.fz (.lst (ns.map D.int)), .fz (.lst (names.map D.str)), .fz (.dct (ratesK rs)), .fz (.dct (ratesK rs)), .fz (unitD u), .fz (unitD v), .fz (.tup [.int p, .int q]), .fz (.int e), .fz (.dct (ratesK (overR rs))), .un, .un, .un]) B (by nest_cls) (ee_is (EN.ee (n_dictP (ks := ratesK (overR rs)) B.glb B.calm (by nest_cls) (by assumption) (ee_is (EN.ee (en_lc2P (ii := 2) (ks := ratesK rs) (ds := (ratesK rs).map entD) 10 11 [none, none, none, none, none, none, none, none, none, none, some "_law_name", some "_law_rate"] [] (fun d => match d with | .tup [x, .tup [y, z]] => .tup [x, .tup [z, y]] | _ => .non) (fun _ => true) B rfl (iwp_items B (by nest_cls)) (by decide +kernel) ?_ ?_ ?_)) ?_) ?_)) (by rw [merge_ok hO])) (by ktu_off1L) (by ktu_offL) ?_
  · unfold ratesK
    rw [List.length_map, List.length_map, sizeLine_eq]
    omega
  · intro t d hd
    obtain ⟨kv, _, rfl⟩ := map_at hd
    exact ⟨_, _, rfl⟩
  · intro s H cl Cc fp nb gb t x y hd
    obtain ⟨kv, hkv, e1⟩ := map_at hd
    obtain ⟨rt, hrt, rfl⟩ := map_at hkv
    have e1 : D.tup [.str rt.1, .tup [.int rt.2.1, .int rt.2.2]] = .tup [x, y] := e1
    injection e1 with e1
    injection e1 with ex e1
    injection e1 with ey _
    subst ex ey
    refine ⟨ets_nil, fun _ => ?_⟩
    show EE _ _ _ (.tup [.str rt.1, .tup [.int rt.2.2, .int rt.2.1]])
    ktu_off1L
  · rw [filter_true, List.map_map]
    unfold ratesK overR
    rw [List.map_map, List.map_map, List.map_map]
    rfl
  · ktu_off1L
  have hRo : ∀ x ∈ u, rateOf (overR rs) x.1 = ((rateOf rs x.1).2, (rateOf rs x.1).1) := fun x hx => overR_at x.1 rs (by rw [hn]; exact hu.mem x hx)
  obtain ⟨o1, o2⟩ := pr_over_on (rateOf rs) (rateOf (overR rs)) hRo
  have Mo : S_measure_of C [unitD u, .dct (ratesK (overR rs))] (.ok (.tup [.int q, .int p])) := by
    have := lmeasure (C := C) hO hOn hu (by decide)
    rw [o1, o2, frac_over pA pB ef] at this
    exact this
  have M0 := lmeasure0 (C := C)
  k_subL
  refine s1_ifF (EW.et (ew_is (k := !eqD (.tup [.int q, .int p]) (.tup [.int q, .int p]) || !eqD (.tup [.int 1, .int 1]) (.tup [.int 1, .int 1])) (ew_or (et_cmp (x := .tup [.int q, .int p]) (y := .tup [.int q, .int p]) (e_call (ds := [unitD u, .dct (ratesK (overR rs))]) B.glb F4 (by nest_cls) (by (with_reducible first | assumption | exact Mw.Body.room (by assumption) | exact L2.Room.mono (Mw.Body.room (by assumption)) (by with_unfolding_all decide))) ?_ Mo ?_ ?_) ?_ (oc_neD B.room hpo hpo) ?_) fun _ => ew_or1 (et_cmp (x := .tup [.int 1, .int 1]) (y := .tup [.int 1, .int 1]) (e_call (ds := [.tup [], .dct []]) B.glb F4 (by nest_cls) (by (with_reducible first | assumption | exact Mw.Body.room (by assumption) | exact L2.Room.mono (Mw.Body.room (by assumption)) (by with_unfolding_all decide))) ?_ M0 ?_ ?_) ?_ (oc_neD B.room h11 h11) ?_)) (by rw [eqD_refl hpo, eqD_refl h11]; rfl))) ?_
  · ktu_off1L
  · ktu_off1L
  · ktu_off1L
  · clear F4
    ktu_off1L
  · ktu_off1L
  · ktu_off1L
  · ktu_off1L
  · ktu_off1L
  · ktu_off1L
  · ktu_off1L
  k_subL
  k_subL
  have hI := onesR_ok h5
  have hIn := onesR_names names
  obtain ⟨i1, i2⟩ := pr_ones (rateOf (onesR names)) fun x hx => onesR_at (hu.mem x hx)
  have M1 : S_measure_of C [unitD u, .dct (ratesK (onesR names))] (.ok (.tup [.int 1, .int 1])) := by
    have := lmeasure (C := C) hI hIn hu (by decide)
    rw [i1, i2, show fracD 1 1 = .tup [.int 1, .int 1] from frac_same (p := 1) (q := 1) (by decide) (by decide)] at this
    exact this
  refine s1_ifF (et_is (k := !eqD (.tup [.int 1, .int 1]) (.tup [.int 1, .int 1])) (et_cmp (x := .tup [.int 1, .int 1]) (y := .tup [.int 1, .int 1]) (e_call (ds := [unitD u, .dct (ratesK (onesR names))]) B.glb F4 (by nest_cls) (by (with_reducible first | assumption | exact Mw.Body.room (by assumption) | exact L2.Room.mono (Mw.Body.room (by assumption)) (by with_unfolding_all decide))) (ea_cons ?_ (ea_cons (ee_is (EN.ee (n_dictP (ks := ratesK (onesR names)) B.glb B.calm (by nest_cls) (by assumption) (ee_is (EN.ee (en_lc1 (ds := names.map D.str) 10 [none, none, none, none, none, none, none, none, none, none, some "_law_name"] [] (fun d => .tup [d, .tup [.int 1, .int 1]]) (fun _ => true) B (iw_list ?_) (by decide +kernel) ?_ ?_)) ?_) ?_)) (by rw [merge_ok hI])) ea_nil ?_) ?_) M1 ?_ ?_) ?_ (oc_neD B.room h11 h11) ?_) (by rw [eqD_refl h11]; rfl)) ?_
  · ktu_off1L
  · exact e_name (by assumption) (by nest_cls) rfl
  · rw [List.length_map, h5.len, sizeLine_eq]
    decide
  · intro s H cl Cc fp nb gb t d hd
    obtain ⟨z, _, rfl⟩ := map_at hd
    refine ⟨ets_nil, fun _ => ?_⟩
    ktu_off1L
  · rw [filter_true, List.map_map]
    unfold ratesK onesR
    rw [List.map_map, List.map_map]
    rfl
  · ktu_off1L
  · ktu_off1L
  · ktu_off1L
  · ktu_off1L
  · ktu_off1L
  · ktu_off1L
  · ktu_off1L
  k_subL
  k_subL
  obtain ⟨w1, w2, w3⟩ := wrong_ok hR hrl hmr (numV ns 5)
  refine t_set (d := wrongV (numV ns 5) rs) (as1 := [.fz (.lst (ns.map D.int)), .fz (.lst (names.map D.str)), .fz (.dct (ratesK rs)), .fz (.dct (ratesK rs)), .fz (unitD u), .fz (unitD v), .fz (.tup [.int p, .int q]), .fz (.int e), .fz (.dct (ratesK (overR rs))), .fz (wrongV (numV ns 5) rs), .un, .un]) B (by nest_cls) ?_ (by ktu_off1L) (by ktu_offL) ?_
  · ktu_off1L
    · exact ⟨ns, 5, rfl, by decide, by decide, rfl⟩
    ktu_off1L
    · exact ⟨_, rs, rfl, hR, hrl, hmr, rfl⟩
    ktu_off1L
  generalize wrongV (numV ns 5) rs = wd at *
  k_subL
  refine s1_ret (d := .bl (true && eqD (.tup [.int p, .int q]) (.tup [.int p, .int q]))) (ee_and (e_callG (ds := [unitD [("m", 1 + numV ns 6 % 9)], wd]) B.glb F11 hG (by nest_cls) (by (with_reducible first | assumption | exact Mw.Body.room (by assumption) | exact L2.Room.mono (Mw.Body.room (by assumption)) (by with_unfolding_all decide))) (ea_cons (ee_is (d := .tup [.tup [.str "m", .int (1 + numV ns 6 % 9)]]) ?_ rfl) (ea_cons ?_ ea_nil ?_) ?_) ⟨_, wd, rfl, w1, (by show 1 < 64; decide), w2, w3 _, rfl⟩ ?_ ?_) fun _ => ee_one (ee_cmp (x := .tup [.int p, .int q]) (y := .tup [.int p, .int q]) (e_call (ds := [unitD u, .dct (ratesK rs)]) B.glb F4 (by nest_cls) (by (with_reducible first | assumption | exact Mw.Body.room (by assumption) | exact L2.Room.mono (Mw.Body.room (by assumption)) (by with_unfolding_all decide))) ?_ Mu ?_ ?_) ?_ (oc_eqD B.room hpq hpq) ?_)) ?_
  · ktu_off1L
    · exact ⟨ns, 6, rfl, by decide, by decide, rfl⟩
    ktu_off1L
  · exact e_name (by assumption) (by nest_cls) rfl
  · ktu_off1L
  · ktu_off1L
  · ktu_off1L
  · ktu_off1L
  · ktu_off1L
  · ktu_off1L
  · ktu_off1L
  · ktu_off1L
  · ktu_off1L
  · change (Except.ok _ : Except Exn D) = Except.ok _
    rw [eqD_refl hpq] <;> rfl
end
/-! ### the head -/
abbrev R_ : PySem.W.OpenRow := PySem.W.OpenLaw.row PySem.Challenge.rw_measurewise_k03_measures
def nm0 : List PySem.Str := ["MeasureError", "BadNumber", "BadUnit", "BadRate", "MOST_NAME", "LETTERS", "WORDS", "is_whole", "need_whole", "is_name", "common", "fraction", "is_fraction", "product_of", "turned_over", "power_of", "is_pair", "unit_of", "joined", "powered", "need_rates", "measure_of", "_law_mixed", "_law_number", "_law_unit", "_law_rates", "_law_product", "_law_is", "_law_refused", "_law_wrong"]
def names_ : List PySem.Str := nm0
def d_is_whole : He.DefD := ⟨("is_whole", none), "is_whole", "is_whole", defArgs s_is_whole, defBody s_is_whole, defScope s_is_whole, [], []⟩
def d_need_whole : He.DefD := ⟨("need_whole", none), "need_whole", "need_whole", defArgs s_need_whole, defBody s_need_whole, defScope s_need_whole, [.non], []⟩
def d_common : He.DefD := ⟨("common", none), "common", "common", defArgs s_common, defBody s_common, defScope s_common, [], []⟩
def d_fraction : He.DefD := ⟨("fraction", none), "fraction", "fraction", defArgs s_fraction, defBody s_fraction, defScope s_fraction, [.int 1], []⟩
def d_is_fraction : He.DefD := ⟨("is_fraction", none), "is_fraction", "is_fraction", defArgs s_is_fraction, defBody s_is_fraction, defScope s_is_fraction, [], []⟩
def d_product_of : He.DefD := ⟨("product_of", none), "product_of", "product_of", defArgs s_product_of, defBody s_product_of, defScope s_product_of, [], []⟩
def d_turned_over : He.DefD := ⟨("turned_over", none), "turned_over", "turned_over", defArgs s_turned_over, defBody s_turned_over, defScope s_turned_over, [], []⟩
def d_power_of : He.DefD := ⟨("power_of", none), "power_of", "power_of", defArgs s_power_of, defBody s_power_of, defScope s_power_of, [], []⟩
def d_is_name : He.DefD := ⟨("is_name", none), "is_name", "is_name", defArgs s_is_name, defBody s_is_name, defScope s_is_name, [], []⟩
def d_is_pair : He.DefD := ⟨("is_pair", none), "is_pair", "is_pair", defArgs s_is_pair, defBody s_is_pair, defScope s_is_pair, [], []⟩
def d_unit_of : He.DefD := ⟨("unit_of", none), "unit_of", "unit_of", defArgs s_unit_of, defBody s_unit_of, defScope s_unit_of, [], []⟩
def d_joined : He.DefD := ⟨("joined", none), "joined", "joined", defArgs s_joined, defBody s_joined, defScope s_joined, [], []⟩
def d_powered : He.DefD := ⟨("powered", none), "powered", "powered", defArgs s_powered, defBody s_powered, defScope s_powered, [], []⟩
def d_need_rates : He.DefD := ⟨("need_rates", none), "need_rates", "need_rates", defArgs s_need_rates, defBody s_need_rates, defScope s_need_rates, [], []⟩
def d_measure_of : He.DefD := ⟨("measure_of", none), "measure_of", "measure_of", defArgs s_measure_of, defBody s_measure_of, defScope s_measure_of, [], []⟩
def d__law_mixed : He.DefD := ⟨("_law_mixed", none), "_law_mixed", "_law_mixed", defArgs s__law_mixed, defBody s__law_mixed, defScope s__law_mixed, [], []⟩
def d__law_number : He.DefD := ⟨("_law_number", none), "_law_number", "_law_number", defArgs s__law_number, defBody s__law_number, defScope s__law_number, [], []⟩
def d__law_unit : He.DefD := ⟨("_law_unit", none), "_law_unit", "_law_unit", defArgs s__law_unit, defBody s__law_unit, defScope s__law_unit, [], []⟩
def d__law_rates : He.DefD := ⟨("_law_rates", none), "_law_rates", "_law_rates", defArgs s__law_rates, defBody s__law_rates, defScope s__law_rates, [], []⟩
def d__law_product : He.DefD := ⟨("_law_product", none), "_law_product", "_law_product", defArgs s__law_product, defBody s__law_product, defScope s__law_product, [], []⟩
def d__law_is : He.DefD := ⟨("_law_is", none), "_law_is", "_law_is", defArgs s__law_is, defBody s__law_is, defScope s__law_is, [], []⟩
def d__law_refused : He.DefD := ⟨("_law_refused", none), "_law_refused", "_law_refused", defArgs s__law_refused, defBody s__law_refused, defScope s__law_refused, [], []⟩
def d__law_wrong : He.DefD := ⟨("_law_wrong", none), "_law_wrong", "_law_wrong", defArgs s__law_wrong, defBody s__law_wrong, defScope s__law_wrong, [], []⟩
def d_law : He.DefD := ⟨("law", none), "law", "law", defArgs s_law, defBody s_law, defScope s_law, [], []⟩
def fn_ : List He.DefD := [d_is_whole, d_need_whole, d_common, d_fraction, d_is_fraction, d_product_of, d_turned_over, d_power_of, d_is_name, d_is_pair, d_unit_of, d_joined, d_powered, d_need_rates, d_measure_of, d__law_mixed, d__law_number, d__law_unit, d__law_rates, d__law_product, d__law_is, d__law_refused, d__law_wrong, d_law]
def cs0 : List Chk := [cFree "ValueError", cFree "abs", cFree "all", cFree "bool", cFree "dict", cFree "divmod", cFree "enumerate", cFree "int", cFree "isinstance", cFree "len", cFree "list", cFree "range", cFree "sorted", cFree "str", cFree "tuple", cGlo "MeasureError", cGlo "BadNumber", cGlo "BadUnit", cGlo "BadRate", cGlo "is_whole"]
def cs1 : List Chk := [cGlo "need_whole", cGlo "is_name", cGlo "common", cGlo "fraction", cGlo "is_fraction", cGlo "product_of", cGlo "turned_over", cGlo "power_of", cGlo "is_pair", cGlo "unit_of", cGlo "joined", cGlo "powered", cGlo "need_rates", cGlo "measure_of", cGlo "_law_mixed", cGlo "_law_number", cGlo "_law_unit", cGlo "_law_rates", cGlo "_law_product", cGlo "_law_is"]
def cs2 : List Chk := [cGlo "_law_refused", cGlo "_law_wrong", cGlo "law", cExc "BadNumber", cExc "BadUnit", cExc "BadRate", cEc "BadRate", cExm "BadRate" "MeasureError" true, cKit "BadRate" "BadRate" true, cKitT "BadRate" "ValueError" true, cKit "BadRate" "BadUnit" false, cInt "MOST_NAME" 8, cStr "LETTERS" lettersS, cGlo "WORDS", cTupS "WORDS" wordsL]
def cs_ : List Chk := cs0 ++ cs1 ++ cs2
abbrev hk_ : PySem.W.Hook := hookM 4 cs_ fn_
def ob_ (s : PySem.W.SharedT) : He.AlD := obsMG 4 cs_ fn_ (HandSHeadRun.getT s)
theorem ob_eq (s : PySem.W.SharedT) : ob_ s = hk_.obs s.abs := obsMG_eq (HandSHeadRun.getT_eq s)
section
set_option maxHeartbeats 0
theorem run_ (w : World) : HandSHeadRun.RunEq R_ (PySem.W.view R_.prog [35]) hk_ ob_ 12000 names_ w := by
  intro os
  kernel_rfl
end
theorem law_wish (ns : List Int) (_ : ns.length ≤ 63) (_ : ∀ i ∈ ns, Builtin.Int.intBits i ≤ 1048576) : S_law [.lst (ns.map D.int)] (.ok (.bl true)) := ⟨ns, rfl, rfl⟩
theorem facts_ {P : Program} {w : World} {K : Kf} {h : Heap} {mg : Str → Option Value} {f : Addr} (X : K.In h) (G : h.Ns mainGlobals mg) (hfa : mg ("law" : Str) = some (.ref f)) (c : SaysM cs_ fn_ K) :
    ∃ fd : FuncData, (∀ (s : Shared) (v : Value), BindsTo s fd ⟨[v], []⟩ [("_law_script", v)]) ∧ ∀ base : Heap, K.In base → base.Ns mainGlobals mg → FnG P w K mg base 14 f fd ["_law_script"] S_law := by
  have m_ValueError : mg "ValueError" = none := He.free_ok X G (c.chk 0 (f := cFree "ValueError") rfl)
  have m_abs : mg "abs" = none := He.free_ok X G (c.chk 1 (f := cFree "abs") rfl)
  have m_all : mg "all" = none := He.free_ok X G (c.chk 2 (f := cFree "all") rfl)
  have m_bool : mg "bool" = none := He.free_ok X G (c.chk 3 (f := cFree "bool") rfl)
  have m_dict : mg "dict" = none := He.free_ok X G (c.chk 4 (f := cFree "dict") rfl)
  have m_divmod : mg "divmod" = none := He.free_ok X G (c.chk 5 (f := cFree "divmod") rfl)
  have m_enumerate : mg "enumerate" = none := He.free_ok X G (c.chk 6 (f := cFree "enumerate") rfl)
  have m_int : mg "int" = none := He.free_ok X G (c.chk 7 (f := cFree "int") rfl)
  have m_isinstance : mg "isinstance" = none := He.free_ok X G (c.chk 8 (f := cFree "isinstance") rfl)
  have m_len : mg "len" = none := He.free_ok X G (c.chk 9 (f := cFree "len") rfl)
  have m_list : mg "list" = none := He.free_ok X G (c.chk 10 (f := cFree "list") rfl)
  have m_range : mg "range" = none := He.free_ok X G (c.chk 11 (f := cFree "range") rfl)
  have m_sorted : mg "sorted" = none := He.free_ok X G (c.chk 12 (f := cFree "sorted") rfl)
  have m_str : mg "str" = none := He.free_ok X G (c.chk 13 (f := cFree "str") rfl)
  have m_tuple : mg "tuple" = none := He.free_ok X G (c.chk 14 (f := cFree "tuple") rfl)
  have g_MeasureError : mg "MeasureError" = some (.ref (He.ga K "MeasureError")) := He.glo_ok X G (c.chk 15 (f := cGlo "MeasureError") rfl)
  have g_BadNumber : mg "BadNumber" = some (.ref (He.ga K "BadNumber")) := He.glo_ok X G (c.chk 16 (f := cGlo "BadNumber") rfl)
  have g_BadUnit : mg "BadUnit" = some (.ref (He.ga K "BadUnit")) := He.glo_ok X G (c.chk 17 (f := cGlo "BadUnit") rfl)
  have g_BadRate : mg "BadRate" = some (.ref (He.ga K "BadRate")) := He.glo_ok X G (c.chk 18 (f := cGlo "BadRate") rfl)
  have g_is_whole : mg "is_whole" = some (.ref (He.ga K "is_whole")) := He.glo_ok X G (c.chk 19 (f := cGlo "is_whole") rfl)
  have g_need_whole : mg "need_whole" = some (.ref (He.ga K "need_whole")) := He.glo_ok X G (c.chk 20 (f := cGlo "need_whole") rfl)
  have g_is_name : mg "is_name" = some (.ref (He.ga K "is_name")) := He.glo_ok X G (c.chk 21 (f := cGlo "is_name") rfl)
  have g_common : mg "common" = some (.ref (He.ga K "common")) := He.glo_ok X G (c.chk 22 (f := cGlo "common") rfl)
  have g_fraction : mg "fraction" = some (.ref (He.ga K "fraction")) := He.glo_ok X G (c.chk 23 (f := cGlo "fraction") rfl)
  have g_is_fraction : mg "is_fraction" = some (.ref (He.ga K "is_fraction")) := He.glo_ok X G (c.chk 24 (f := cGlo "is_fraction") rfl)
  have g_product_of : mg "product_of" = some (.ref (He.ga K "product_of")) := He.glo_ok X G (c.chk 25 (f := cGlo "product_of") rfl)
  have g_turned_over : mg "turned_over" = some (.ref (He.ga K "turned_over")) := He.glo_ok X G (c.chk 26 (f := cGlo "turned_over") rfl)
  have g_power_of : mg "power_of" = some (.ref (He.ga K "power_of")) := He.glo_ok X G (c.chk 27 (f := cGlo "power_of") rfl)
  have g_is_pair : mg "is_pair" = some (.ref (He.ga K "is_pair")) := He.glo_ok X G (c.chk 28 (f := cGlo "is_pair") rfl)
  have g_unit_of : mg "unit_of" = some (.ref (He.ga K "unit_of")) := He.glo_ok X G (c.chk 29 (f := cGlo "unit_of") rfl)
  have g_joined : mg "joined" = some (.ref (He.ga K "joined")) := He.glo_ok X G (c.chk 30 (f := cGlo "joined") rfl)
  have g_powered : mg "powered" = some (.ref (He.ga K "powered")) := He.glo_ok X G (c.chk 31 (f := cGlo "powered") rfl)
  have g_need_rates : mg "need_rates" = some (.ref (He.ga K "need_rates")) := He.glo_ok X G (c.chk 32 (f := cGlo "need_rates") rfl)
  have g_measure_of : mg "measure_of" = some (.ref (He.ga K "measure_of")) := He.glo_ok X G (c.chk 33 (f := cGlo "measure_of") rfl)
  have g__law_mixed : mg "_law_mixed" = some (.ref (He.ga K "_law_mixed")) := He.glo_ok X G (c.chk 34 (f := cGlo "_law_mixed") rfl)
  have g__law_number : mg "_law_number" = some (.ref (He.ga K "_law_number")) := He.glo_ok X G (c.chk 35 (f := cGlo "_law_number") rfl)
  have g__law_unit : mg "_law_unit" = some (.ref (He.ga K "_law_unit")) := He.glo_ok X G (c.chk 36 (f := cGlo "_law_unit") rfl)
  have g__law_rates : mg "_law_rates" = some (.ref (He.ga K "_law_rates")) := He.glo_ok X G (c.chk 37 (f := cGlo "_law_rates") rfl)
  have g__law_product : mg "_law_product" = some (.ref (He.ga K "_law_product")) := He.glo_ok X G (c.chk 38 (f := cGlo "_law_product") rfl)
  have g__law_is : mg "_law_is" = some (.ref (He.ga K "_law_is")) := He.glo_ok X G (c.chk 39 (f := cGlo "_law_is") rfl)
  have g__law_refused : mg "_law_refused" = some (.ref (He.ga K "_law_refused")) := He.glo_ok X G (c.chk 40 (f := cGlo "_law_refused") rfl)
  have g__law_wrong : mg "_law_wrong" = some (.ref (He.ga K "_law_wrong")) := He.glo_ok X G (c.chk 41 (f := cGlo "_law_wrong") rfl)
  have g_law : mg "law" = some (.ref (He.ga K "law")) := He.glo_ok X G (c.chk 42 (f := cGlo "law") rfl)
  have ex_BadNumber : ExcE K mg "BadNumber" (He.ga K "BadNumber") := excE_of (c.chk 43 (f := cExc "BadNumber") rfl) g_BadNumber
  have ex_BadUnit : ExcE K mg "BadUnit" (He.ga K "BadUnit") := excE_of (c.chk 44 (f := cExc "BadUnit") rfl) g_BadUnit
  have ex_BadRate : ExcE K mg "BadRate" (He.ga K "BadRate") := excE_of (c.chk 45 (f := cExc "BadRate") rfl) g_BadRate
  have err1 : ErrOk K (He.ga K "BadRate") (He.ga K "MeasureError") (He.ga K "BadUnit") := ⟨cEc_ok (c.chk 46 (f := cEc "BadRate") rfl), ⟨He.exm_ok (c.chk 47 (f := cExm "BadRate" "MeasureError" true) rfl)⟩, of_decide_eq_true (c.chk 48 (f := cKit "BadRate" "BadRate" true) rfl), of_decide_eq_true (c.chk 49 (f := cKitT "BadRate" "ValueError" true) rfl), of_decide_eq_true (c.chk 50 (f := cKit "BadRate" "BadUnit" false) rfl)⟩
  have k_mn : CstE K mg "MOST_NAME" (.int 8) := cst_int X G (c.chk 51 (f := cInt "MOST_NAME" 8) rfl)
  have k_le : CstE K mg "LETTERS" (.str lettersS) := cst_str X G (c.chk 52 (f := cStr "LETTERS" lettersS) rfl)
  have k_wo : CstE K mg "WORDS" (.tup (wordsL.map D.str)) := cst_tupS (He.glo_ok X G (c.chk 53 (f := cGlo "WORDS") rfl)) (c.chk 54 (f := cTupS "WORDS" wordsL) rfl)
  obtain ⟨fd_is_whole, D_is_whole⟩ := c.def_ 0 (d := d_is_whole) rfl
  obtain ⟨fd_need_whole, D_need_whole⟩ := c.def_ 1 (d := d_need_whole) rfl
  obtain ⟨fd_common, D_common⟩ := c.def_ 2 (d := d_common) rfl
  obtain ⟨fd_fraction, D_fraction⟩ := c.def_ 3 (d := d_fraction) rfl
  obtain ⟨fd_is_fraction, D_is_fraction⟩ := c.def_ 4 (d := d_is_fraction) rfl
  obtain ⟨fd_product_of, D_product_of⟩ := c.def_ 5 (d := d_product_of) rfl
  obtain ⟨fd_turned_over, D_turned_over⟩ := c.def_ 6 (d := d_turned_over) rfl
  obtain ⟨fd_power_of, D_power_of⟩ := c.def_ 7 (d := d_power_of) rfl
  obtain ⟨fd_is_name, D_is_name⟩ := c.def_ 8 (d := d_is_name) rfl
  obtain ⟨fd_is_pair, D_is_pair⟩ := c.def_ 9 (d := d_is_pair) rfl
  obtain ⟨fd_unit_of, D_unit_of⟩ := c.def_ 10 (d := d_unit_of) rfl
  obtain ⟨fd_joined, D_joined⟩ := c.def_ 11 (d := d_joined) rfl
  obtain ⟨fd_powered, D_powered⟩ := c.def_ 12 (d := d_powered) rfl
  obtain ⟨fd_need_rates, D_need_rates⟩ := c.def_ 13 (d := d_need_rates) rfl
  obtain ⟨fd_measure_of, D_measure_of⟩ := c.def_ 14 (d := d_measure_of) rfl
  obtain ⟨fd__law_mixed, D__law_mixed⟩ := c.def_ 15 (d := d__law_mixed) rfl
  obtain ⟨fd__law_number, D__law_number⟩ := c.def_ 16 (d := d__law_number) rfl
  obtain ⟨fd__law_unit, D__law_unit⟩ := c.def_ 17 (d := d__law_unit) rfl
  obtain ⟨fd__law_rates, D__law_rates⟩ := c.def_ 18 (d := d__law_rates) rfl
  obtain ⟨fd__law_product, D__law_product⟩ := c.def_ 19 (d := d__law_product) rfl
  obtain ⟨fd__law_is, D__law_is⟩ := c.def_ 20 (d := d__law_is) rfl
  obtain ⟨fd__law_refused, D__law_refused⟩ := c.def_ 21 (d := d__law_refused) rfl
  obtain ⟨fd__law_wrong, D__law_wrong⟩ := c.def_ 22 (d := d__law_wrong) rfl
  obtain ⟨fd_law, D_law⟩ := c.def_ 23 (d := d_law) rfl
  have e := hfa.symm.trans g_law
  cases e
  refine ⟨fd_law, fun s v => FunD.bindsA (ps := ["_law_script"]) D_law (fun _ _ _ _ _ _ us hl => match us, hl with | [_], _ => rfl) s [v] rfl, fun base _ _ => ?_⟩
  have K_is_whole := fn_okF (P := P) (w := w) (mg := mg) (base := base) (S := S_is_whole) D_is_whole bk_is_whole (fun ds r h => by first | (obtain ⟨_, h, _⟩ := h; rw [h]; rfl; done) | (obtain ⟨_, _, h, _⟩ := h; rw [h]; rfl; done) | (obtain ⟨_, _, _, h, _⟩ := h; rw [h]; rfl; done) | (obtain ⟨_, _, _, _, h, _⟩ := h; rw [h]; rfl; done) | (obtain ⟨_, _, _, _, _, h, _⟩ := h; rw [h]; rfl; done) | (obtain ⟨_, _, _, _, _, _, h, _⟩ := h; rw [h]; rfl; done) | (obtain ⟨_, _, _, _, _, _, _, h, _⟩ := h; rw [h]; rfl; done) | (obtain ⟨_, _, _, _, _, _, _, _, h, _⟩ := h; rw [h]; rfl; done) | (rcases h with h | h <;> (first | (obtain ⟨_, h, _⟩ := h; rw [h]; rfl; done) | (obtain ⟨_, _, h, _⟩ := h; rw [h]; rfl; done) | (obtain ⟨_, _, _, h, _⟩ := h; rw [h]; rfl; done) | (obtain ⟨_, _, _, _, h, _⟩ := h; rw [h]; rfl; done) | (obtain ⟨_, _, _, _, _, h, _⟩ := h; rw [h]; rfl; done) | (obtain ⟨_, _, _, _, _, _, h, _⟩ := h; rw [h]; rfl; done) | (obtain ⟨_, _, _, _, _, _, _, h, _⟩ := h; rw [h]; rfl; done) | (obtain ⟨_, _, _, _, _, _, _, _, h, _⟩ := h; rw [h]; rfl; done))) | (rcases h with h | h | h <;> (first | (obtain ⟨_, h, _⟩ := h; rw [h]; rfl; done) | (obtain ⟨_, _, h, _⟩ := h; rw [h]; rfl; done) | (obtain ⟨_, _, _, h, _⟩ := h; rw [h]; rfl; done) | (obtain ⟨_, _, _, _, h, _⟩ := h; rw [h]; rfl; done) | (obtain ⟨_, _, _, _, _, h, _⟩ := h; rw [h]; rfl; done) | (obtain ⟨_, _, _, _, _, _, h, _⟩ := h; rw [h]; rfl; done) | (obtain ⟨_, _, _, _, _, _, _, h, _⟩ := h; rw [h]; rfl; done) | (obtain ⟨_, _, _, _, _, _, _, _, h, _⟩ := h; rw [h]; rfl; done))) | (rcases h with h | h | h | h <;> (first | (obtain ⟨_, h, _⟩ := h; rw [h]; rfl; done) | (obtain ⟨_, _, h, _⟩ := h; rw [h]; rfl; done) | (obtain ⟨_, _, _, h, _⟩ := h; rw [h]; rfl; done) | (obtain ⟨_, _, _, _, h, _⟩ := h; rw [h]; rfl; done) | (obtain ⟨_, _, _, _, _, h, _⟩ := h; rw [h]; rfl; done) | (obtain ⟨_, _, _, _, _, _, h, _⟩ := h; rw [h]; rfl; done) | (obtain ⟨_, _, _, _, _, _, _, h, _⟩ := h; rw [h]; rfl; done) | (obtain ⟨_, _, _, _, _, _, _, _, h, _⟩ := h; rw [h]; rfl; done)))) (fun Y hP hw hK hm hb B Gs G' ds r h => by subst hP hw hK hm hb; apply b_is_whole <;> assumption)
  have E_is_whole := fnE_of K_is_whole g_is_whole D_is_whole.kp (D_is_whole.bindsN fun _ _ _ _ _ _ us hl => match us, hl with | [_], _ => rfl)
  have K_need_whole := fn_okF (P := P) (w := w) (mg := mg) (base := base) (S := (S_need_whole (He.ga K "BadNumber"))) D_need_whole bk_need_whole (fun ds r h => by first | (obtain ⟨_, h, _⟩ := h; rw [h]; rfl; done) | (obtain ⟨_, _, h, _⟩ := h; rw [h]; rfl; done) | (obtain ⟨_, _, _, h, _⟩ := h; rw [h]; rfl; done) | (obtain ⟨_, _, _, _, h, _⟩ := h; rw [h]; rfl; done) | (obtain ⟨_, _, _, _, _, h, _⟩ := h; rw [h]; rfl; done) | (obtain ⟨_, _, _, _, _, _, h, _⟩ := h; rw [h]; rfl; done) | (obtain ⟨_, _, _, _, _, _, _, h, _⟩ := h; rw [h]; rfl; done) | (obtain ⟨_, _, _, _, _, _, _, _, h, _⟩ := h; rw [h]; rfl; done) | (rcases h with h | h <;> (first | (obtain ⟨_, h, _⟩ := h; rw [h]; rfl; done) | (obtain ⟨_, _, h, _⟩ := h; rw [h]; rfl; done) | (obtain ⟨_, _, _, h, _⟩ := h; rw [h]; rfl; done) | (obtain ⟨_, _, _, _, h, _⟩ := h; rw [h]; rfl; done) | (obtain ⟨_, _, _, _, _, h, _⟩ := h; rw [h]; rfl; done) | (obtain ⟨_, _, _, _, _, _, h, _⟩ := h; rw [h]; rfl; done) | (obtain ⟨_, _, _, _, _, _, _, h, _⟩ := h; rw [h]; rfl; done) | (obtain ⟨_, _, _, _, _, _, _, _, h, _⟩ := h; rw [h]; rfl; done))) | (rcases h with h | h | h <;> (first | (obtain ⟨_, h, _⟩ := h; rw [h]; rfl; done) | (obtain ⟨_, _, h, _⟩ := h; rw [h]; rfl; done) | (obtain ⟨_, _, _, h, _⟩ := h; rw [h]; rfl; done) | (obtain ⟨_, _, _, _, h, _⟩ := h; rw [h]; rfl; done) | (obtain ⟨_, _, _, _, _, h, _⟩ := h; rw [h]; rfl; done) | (obtain ⟨_, _, _, _, _, _, h, _⟩ := h; rw [h]; rfl; done) | (obtain ⟨_, _, _, _, _, _, _, h, _⟩ := h; rw [h]; rfl; done) | (obtain ⟨_, _, _, _, _, _, _, _, h, _⟩ := h; rw [h]; rfl; done))) | (rcases h with h | h | h | h <;> (first | (obtain ⟨_, h, _⟩ := h; rw [h]; rfl; done) | (obtain ⟨_, _, h, _⟩ := h; rw [h]; rfl; done) | (obtain ⟨_, _, _, h, _⟩ := h; rw [h]; rfl; done) | (obtain ⟨_, _, _, _, h, _⟩ := h; rw [h]; rfl; done) | (obtain ⟨_, _, _, _, _, h, _⟩ := h; rw [h]; rfl; done) | (obtain ⟨_, _, _, _, _, _, h, _⟩ := h; rw [h]; rfl; done) | (obtain ⟨_, _, _, _, _, _, _, h, _⟩ := h; rw [h]; rfl; done) | (obtain ⟨_, _, _, _, _, _, _, _, h, _⟩ := h; rw [h]; rfl; done)))) (fun Y hP hw hK hm hb B Gs G' ds r h => by subst hP hw hK hm hb; apply b_need_whole <;> assumption)
  have E_need_whole_1 := fnE_dfl (dds := [.non]) K_need_whole g_need_whole D_need_whole.kp (D_need_whole.binds1 2 0 (List.cons_ne_nil _ _) rfl fun T kV doc pm an cdv ct us its h1 h2 => match us, h1, its, h2 with | [_, _], _, [_], _ => ⟨_, rfl, rfl⟩) (fun _ => by repeat (first | exact rfl | refine ⟨_, _, rfl, rfl, ?_⟩))
  have E_need_whole := fnE_all K_need_whole g_need_whole D_need_whole.kp (D_need_whole.binds1 3 1 (List.cons_ne_nil _ _) rfl fun T kV doc pm an cdv ct us its h1 h2 => match us, h1, its, h2 with | [_, _, _], _, [_], _ => ⟨_, rfl, rfl⟩)
  have K_common := fn_okF (P := P) (w := w) (mg := mg) (base := base) (S := S_common) D_common bk_common (fun ds r h => by first | (obtain ⟨_, h, _⟩ := h; rw [h]; rfl; done) | (obtain ⟨_, _, h, _⟩ := h; rw [h]; rfl; done) | (obtain ⟨_, _, _, h, _⟩ := h; rw [h]; rfl; done) | (obtain ⟨_, _, _, _, h, _⟩ := h; rw [h]; rfl; done) | (obtain ⟨_, _, _, _, _, h, _⟩ := h; rw [h]; rfl; done) | (obtain ⟨_, _, _, _, _, _, h, _⟩ := h; rw [h]; rfl; done) | (obtain ⟨_, _, _, _, _, _, _, h, _⟩ := h; rw [h]; rfl; done) | (obtain ⟨_, _, _, _, _, _, _, _, h, _⟩ := h; rw [h]; rfl; done) | (rcases h with h | h <;> (first | (obtain ⟨_, h, _⟩ := h; rw [h]; rfl; done) | (obtain ⟨_, _, h, _⟩ := h; rw [h]; rfl; done) | (obtain ⟨_, _, _, h, _⟩ := h; rw [h]; rfl; done) | (obtain ⟨_, _, _, _, h, _⟩ := h; rw [h]; rfl; done) | (obtain ⟨_, _, _, _, _, h, _⟩ := h; rw [h]; rfl; done) | (obtain ⟨_, _, _, _, _, _, h, _⟩ := h; rw [h]; rfl; done) | (obtain ⟨_, _, _, _, _, _, _, h, _⟩ := h; rw [h]; rfl; done) | (obtain ⟨_, _, _, _, _, _, _, _, h, _⟩ := h; rw [h]; rfl; done))) | (rcases h with h | h | h <;> (first | (obtain ⟨_, h, _⟩ := h; rw [h]; rfl; done) | (obtain ⟨_, _, h, _⟩ := h; rw [h]; rfl; done) | (obtain ⟨_, _, _, h, _⟩ := h; rw [h]; rfl; done) | (obtain ⟨_, _, _, _, h, _⟩ := h; rw [h]; rfl; done) | (obtain ⟨_, _, _, _, _, h, _⟩ := h; rw [h]; rfl; done) | (obtain ⟨_, _, _, _, _, _, h, _⟩ := h; rw [h]; rfl; done) | (obtain ⟨_, _, _, _, _, _, _, h, _⟩ := h; rw [h]; rfl; done) | (obtain ⟨_, _, _, _, _, _, _, _, h, _⟩ := h; rw [h]; rfl; done))) | (rcases h with h | h | h | h <;> (first | (obtain ⟨_, h, _⟩ := h; rw [h]; rfl; done) | (obtain ⟨_, _, h, _⟩ := h; rw [h]; rfl; done) | (obtain ⟨_, _, _, h, _⟩ := h; rw [h]; rfl; done) | (obtain ⟨_, _, _, _, h, _⟩ := h; rw [h]; rfl; done) | (obtain ⟨_, _, _, _, _, h, _⟩ := h; rw [h]; rfl; done) | (obtain ⟨_, _, _, _, _, _, h, _⟩ := h; rw [h]; rfl; done) | (obtain ⟨_, _, _, _, _, _, _, h, _⟩ := h; rw [h]; rfl; done) | (obtain ⟨_, _, _, _, _, _, _, _, h, _⟩ := h; rw [h]; rfl; done)))) (fun Y hP hw hK hm hb B Gs G' ds r h => by subst hP hw hK hm hb; apply b_common <;> assumption)
  have E_common := fnE_of K_common g_common D_common.kp (D_common.bindsN fun _ _ _ _ _ _ us hl => match us, hl with | [_, _], _ => rfl)
  have K_fraction := fn_okF (P := P) (w := w) (mg := mg) (base := base) (S := (S_fraction (He.ga K "BadNumber"))) D_fraction bk_fraction (fun ds r h => by first | (obtain ⟨_, h, _⟩ := h; rw [h]; rfl; done) | (obtain ⟨_, _, h, _⟩ := h; rw [h]; rfl; done) | (obtain ⟨_, _, _, h, _⟩ := h; rw [h]; rfl; done) | (obtain ⟨_, _, _, _, h, _⟩ := h; rw [h]; rfl; done) | (obtain ⟨_, _, _, _, _, h, _⟩ := h; rw [h]; rfl; done) | (obtain ⟨_, _, _, _, _, _, h, _⟩ := h; rw [h]; rfl; done) | (obtain ⟨_, _, _, _, _, _, _, h, _⟩ := h; rw [h]; rfl; done) | (obtain ⟨_, _, _, _, _, _, _, _, h, _⟩ := h; rw [h]; rfl; done) | (rcases h with h | h <;> (first | (obtain ⟨_, h, _⟩ := h; rw [h]; rfl; done) | (obtain ⟨_, _, h, _⟩ := h; rw [h]; rfl; done) | (obtain ⟨_, _, _, h, _⟩ := h; rw [h]; rfl; done) | (obtain ⟨_, _, _, _, h, _⟩ := h; rw [h]; rfl; done) | (obtain ⟨_, _, _, _, _, h, _⟩ := h; rw [h]; rfl; done) | (obtain ⟨_, _, _, _, _, _, h, _⟩ := h; rw [h]; rfl; done) | (obtain ⟨_, _, _, _, _, _, _, h, _⟩ := h; rw [h]; rfl; done) | (obtain ⟨_, _, _, _, _, _, _, _, h, _⟩ := h; rw [h]; rfl; done))) | (rcases h with h | h | h <;> (first | (obtain ⟨_, h, _⟩ := h; rw [h]; rfl; done) | (obtain ⟨_, _, h, _⟩ := h; rw [h]; rfl; done) | (obtain ⟨_, _, _, h, _⟩ := h; rw [h]; rfl; done) | (obtain ⟨_, _, _, _, h, _⟩ := h; rw [h]; rfl; done) | (obtain ⟨_, _, _, _, _, h, _⟩ := h; rw [h]; rfl; done) | (obtain ⟨_, _, _, _, _, _, h, _⟩ := h; rw [h]; rfl; done) | (obtain ⟨_, _, _, _, _, _, _, h, _⟩ := h; rw [h]; rfl; done) | (obtain ⟨_, _, _, _, _, _, _, _, h, _⟩ := h; rw [h]; rfl; done))) | (rcases h with h | h | h | h <;> (first | (obtain ⟨_, h, _⟩ := h; rw [h]; rfl; done) | (obtain ⟨_, _, h, _⟩ := h; rw [h]; rfl; done) | (obtain ⟨_, _, _, h, _⟩ := h; rw [h]; rfl; done) | (obtain ⟨_, _, _, _, h, _⟩ := h; rw [h]; rfl; done) | (obtain ⟨_, _, _, _, _, h, _⟩ := h; rw [h]; rfl; done) | (obtain ⟨_, _, _, _, _, _, h, _⟩ := h; rw [h]; rfl; done) | (obtain ⟨_, _, _, _, _, _, _, h, _⟩ := h; rw [h]; rfl; done) | (obtain ⟨_, _, _, _, _, _, _, _, h, _⟩ := h; rw [h]; rfl; done)))) (fun Y hP hw hK hm hb B Gs G' ds r h => by subst hP hw hK hm hb; apply b_fraction <;> assumption)
  have E_fraction_1 := fnE_dfl (dds := [.int 1]) K_fraction g_fraction D_fraction.kp (D_fraction.binds1 1 0 (List.cons_ne_nil _ _) rfl fun T kV doc pm an cdv ct us its h1 h2 => match us, h1, its, h2 with | [_], _, [_], _ => ⟨_, rfl, rfl⟩) (fun _ => by repeat (first | exact rfl | refine ⟨_, _, rfl, rfl, ?_⟩))
  have E_fraction := fnE_all K_fraction g_fraction D_fraction.kp (D_fraction.binds1 2 1 (List.cons_ne_nil _ _) rfl fun T kV doc pm an cdv ct us its h1 h2 => match us, h1, its, h2 with | [_, _], _, [_], _ => ⟨_, rfl, rfl⟩)
  have K_is_fraction := fn_okF (P := P) (w := w) (mg := mg) (base := base) (S := S_is_fraction) D_is_fraction bk_is_fraction (fun ds r h => by first | (obtain ⟨_, h, _⟩ := h; rw [h]; rfl; done) | (obtain ⟨_, _, h, _⟩ := h; rw [h]; rfl; done) | (obtain ⟨_, _, _, h, _⟩ := h; rw [h]; rfl; done) | (obtain ⟨_, _, _, _, h, _⟩ := h; rw [h]; rfl; done) | (obtain ⟨_, _, _, _, _, h, _⟩ := h; rw [h]; rfl; done) | (obtain ⟨_, _, _, _, _, _, h, _⟩ := h; rw [h]; rfl; done) | (obtain ⟨_, _, _, _, _, _, _, h, _⟩ := h; rw [h]; rfl; done) | (obtain ⟨_, _, _, _, _, _, _, _, h, _⟩ := h; rw [h]; rfl; done) | (rcases h with h | h <;> (first | (obtain ⟨_, h, _⟩ := h; rw [h]; rfl; done) | (obtain ⟨_, _, h, _⟩ := h; rw [h]; rfl; done) | (obtain ⟨_, _, _, h, _⟩ := h; rw [h]; rfl; done) | (obtain ⟨_, _, _, _, h, _⟩ := h; rw [h]; rfl; done) | (obtain ⟨_, _, _, _, _, h, _⟩ := h; rw [h]; rfl; done) | (obtain ⟨_, _, _, _, _, _, h, _⟩ := h; rw [h]; rfl; done) | (obtain ⟨_, _, _, _, _, _, _, h, _⟩ := h; rw [h]; rfl; done) | (obtain ⟨_, _, _, _, _, _, _, _, h, _⟩ := h; rw [h]; rfl; done))) | (rcases h with h | h | h <;> (first | (obtain ⟨_, h, _⟩ := h; rw [h]; rfl; done) | (obtain ⟨_, _, h, _⟩ := h; rw [h]; rfl; done) | (obtain ⟨_, _, _, h, _⟩ := h; rw [h]; rfl; done) | (obtain ⟨_, _, _, _, h, _⟩ := h; rw [h]; rfl; done) | (obtain ⟨_, _, _, _, _, h, _⟩ := h; rw [h]; rfl; done) | (obtain ⟨_, _, _, _, _, _, h, _⟩ := h; rw [h]; rfl; done) | (obtain ⟨_, _, _, _, _, _, _, h, _⟩ := h; rw [h]; rfl; done) | (obtain ⟨_, _, _, _, _, _, _, _, h, _⟩ := h; rw [h]; rfl; done))) | (rcases h with h | h | h | h <;> (first | (obtain ⟨_, h, _⟩ := h; rw [h]; rfl; done) | (obtain ⟨_, _, h, _⟩ := h; rw [h]; rfl; done) | (obtain ⟨_, _, _, h, _⟩ := h; rw [h]; rfl; done) | (obtain ⟨_, _, _, _, h, _⟩ := h; rw [h]; rfl; done) | (obtain ⟨_, _, _, _, _, h, _⟩ := h; rw [h]; rfl; done) | (obtain ⟨_, _, _, _, _, _, h, _⟩ := h; rw [h]; rfl; done) | (obtain ⟨_, _, _, _, _, _, _, h, _⟩ := h; rw [h]; rfl; done) | (obtain ⟨_, _, _, _, _, _, _, _, h, _⟩ := h; rw [h]; rfl; done)))) (fun Y hP hw hK hm hb B Gs G' ds r h => by subst hP hw hK hm hb; apply b_is_fraction <;> assumption)
  have E_is_fraction := fnE_of K_is_fraction g_is_fraction D_is_fraction.kp (D_is_fraction.bindsN fun _ _ _ _ _ _ us hl => match us, hl with | [_], _ => rfl)
  have K_product_of := fn_okF (P := P) (w := w) (mg := mg) (base := base) (S := S_product_of) D_product_of bk_product_of (fun ds r h => by first | (obtain ⟨_, h, _⟩ := h; rw [h]; rfl; done) | (obtain ⟨_, _, h, _⟩ := h; rw [h]; rfl; done) | (obtain ⟨_, _, _, h, _⟩ := h; rw [h]; rfl; done) | (obtain ⟨_, _, _, _, h, _⟩ := h; rw [h]; rfl; done) | (obtain ⟨_, _, _, _, _, h, _⟩ := h; rw [h]; rfl; done) | (obtain ⟨_, _, _, _, _, _, h, _⟩ := h; rw [h]; rfl; done) | (obtain ⟨_, _, _, _, _, _, _, h, _⟩ := h; rw [h]; rfl; done) | (obtain ⟨_, _, _, _, _, _, _, _, h, _⟩ := h; rw [h]; rfl; done) | (rcases h with h | h <;> (first | (obtain ⟨_, h, _⟩ := h; rw [h]; rfl; done) | (obtain ⟨_, _, h, _⟩ := h; rw [h]; rfl; done) | (obtain ⟨_, _, _, h, _⟩ := h; rw [h]; rfl; done) | (obtain ⟨_, _, _, _, h, _⟩ := h; rw [h]; rfl; done) | (obtain ⟨_, _, _, _, _, h, _⟩ := h; rw [h]; rfl; done) | (obtain ⟨_, _, _, _, _, _, h, _⟩ := h; rw [h]; rfl; done) | (obtain ⟨_, _, _, _, _, _, _, h, _⟩ := h; rw [h]; rfl; done) | (obtain ⟨_, _, _, _, _, _, _, _, h, _⟩ := h; rw [h]; rfl; done))) | (rcases h with h | h | h <;> (first | (obtain ⟨_, h, _⟩ := h; rw [h]; rfl; done) | (obtain ⟨_, _, h, _⟩ := h; rw [h]; rfl; done) | (obtain ⟨_, _, _, h, _⟩ := h; rw [h]; rfl; done) | (obtain ⟨_, _, _, _, h, _⟩ := h; rw [h]; rfl; done) | (obtain ⟨_, _, _, _, _, h, _⟩ := h; rw [h]; rfl; done) | (obtain ⟨_, _, _, _, _, _, h, _⟩ := h; rw [h]; rfl; done) | (obtain ⟨_, _, _, _, _, _, _, h, _⟩ := h; rw [h]; rfl; done) | (obtain ⟨_, _, _, _, _, _, _, _, h, _⟩ := h; rw [h]; rfl; done))) | (rcases h with h | h | h | h <;> (first | (obtain ⟨_, h, _⟩ := h; rw [h]; rfl; done) | (obtain ⟨_, _, h, _⟩ := h; rw [h]; rfl; done) | (obtain ⟨_, _, _, h, _⟩ := h; rw [h]; rfl; done) | (obtain ⟨_, _, _, _, h, _⟩ := h; rw [h]; rfl; done) | (obtain ⟨_, _, _, _, _, h, _⟩ := h; rw [h]; rfl; done) | (obtain ⟨_, _, _, _, _, _, h, _⟩ := h; rw [h]; rfl; done) | (obtain ⟨_, _, _, _, _, _, _, h, _⟩ := h; rw [h]; rfl; done) | (obtain ⟨_, _, _, _, _, _, _, _, h, _⟩ := h; rw [h]; rfl; done)))) (fun Y hP hw hK hm hb B Gs G' ds r h => by subst hP hw hK hm hb; apply b_product_of <;> assumption)
  have E_product_of := fnE_of K_product_of g_product_of D_product_of.kp (D_product_of.bindsN fun _ _ _ _ _ _ us hl => match us, hl with | [_, _], _ => rfl)
  have K_turned_over := fn_okF (P := P) (w := w) (mg := mg) (base := base) (S := S_turned_over) D_turned_over bk_turned_over (fun ds r h => by first | (obtain ⟨_, h, _⟩ := h; rw [h]; rfl; done) | (obtain ⟨_, _, h, _⟩ := h; rw [h]; rfl; done) | (obtain ⟨_, _, _, h, _⟩ := h; rw [h]; rfl; done) | (obtain ⟨_, _, _, _, h, _⟩ := h; rw [h]; rfl; done) | (obtain ⟨_, _, _, _, _, h, _⟩ := h; rw [h]; rfl; done) | (obtain ⟨_, _, _, _, _, _, h, _⟩ := h; rw [h]; rfl; done) | (obtain ⟨_, _, _, _, _, _, _, h, _⟩ := h; rw [h]; rfl; done) | (obtain ⟨_, _, _, _, _, _, _, _, h, _⟩ := h; rw [h]; rfl; done) | (rcases h with h | h <;> (first | (obtain ⟨_, h, _⟩ := h; rw [h]; rfl; done) | (obtain ⟨_, _, h, _⟩ := h; rw [h]; rfl; done) | (obtain ⟨_, _, _, h, _⟩ := h; rw [h]; rfl; done) | (obtain ⟨_, _, _, _, h, _⟩ := h; rw [h]; rfl; done) | (obtain ⟨_, _, _, _, _, h, _⟩ := h; rw [h]; rfl; done) | (obtain ⟨_, _, _, _, _, _, h, _⟩ := h; rw [h]; rfl; done) | (obtain ⟨_, _, _, _, _, _, _, h, _⟩ := h; rw [h]; rfl; done) | (obtain ⟨_, _, _, _, _, _, _, _, h, _⟩ := h; rw [h]; rfl; done))) | (rcases h with h | h | h <;> (first | (obtain ⟨_, h, _⟩ := h; rw [h]; rfl; done) | (obtain ⟨_, _, h, _⟩ := h; rw [h]; rfl; done) | (obtain ⟨_, _, _, h, _⟩ := h; rw [h]; rfl; done) | (obtain ⟨_, _, _, _, h, _⟩ := h; rw [h]; rfl; done) | (obtain ⟨_, _, _, _, _, h, _⟩ := h; rw [h]; rfl; done) | (obtain ⟨_, _, _, _, _, _, h, _⟩ := h; rw [h]; rfl; done) | (obtain ⟨_, _, _, _, _, _, _, h, _⟩ := h; rw [h]; rfl; done) | (obtain ⟨_, _, _, _, _, _, _, _, h, _⟩ := h; rw [h]; rfl; done))) | (rcases h with h | h | h | h <;> (first | (obtain ⟨_, h, _⟩ := h; rw [h]; rfl; done) | (obtain ⟨_, _, h, _⟩ := h; rw [h]; rfl; done) | (obtain ⟨_, _, _, h, _⟩ := h; rw [h]; rfl; done) | (obtain ⟨_, _, _, _, h, _⟩ := h; rw [h]; rfl; done) | (obtain ⟨_, _, _, _, _, h, _⟩ := h; rw [h]; rfl; done) | (obtain ⟨_, _, _, _, _, _, h, _⟩ := h; rw [h]; rfl; done) | (obtain ⟨_, _, _, _, _, _, _, h, _⟩ := h; rw [h]; rfl; done) | (obtain ⟨_, _, _, _, _, _, _, _, h, _⟩ := h; rw [h]; rfl; done)))) (fun Y hP hw hK hm hb B Gs G' ds r h => by subst hP hw hK hm hb; apply b_turned_over <;> assumption)
  have E_turned_over := fnE_of K_turned_over g_turned_over D_turned_over.kp (D_turned_over.bindsN fun _ _ _ _ _ _ us hl => match us, hl with | [_], _ => rfl)
  have K_power_of := fn_okF (P := P) (w := w) (mg := mg) (base := base) (S := (S_power_of (He.ga K "BadNumber"))) D_power_of bk_power_of (fun ds r h => by first | (obtain ⟨_, h, _⟩ := h; rw [h]; rfl; done) | (obtain ⟨_, _, h, _⟩ := h; rw [h]; rfl; done) | (obtain ⟨_, _, _, h, _⟩ := h; rw [h]; rfl; done) | (obtain ⟨_, _, _, _, h, _⟩ := h; rw [h]; rfl; done) | (obtain ⟨_, _, _, _, _, h, _⟩ := h; rw [h]; rfl; done) | (obtain ⟨_, _, _, _, _, _, h, _⟩ := h; rw [h]; rfl; done) | (obtain ⟨_, _, _, _, _, _, _, h, _⟩ := h; rw [h]; rfl; done) | (obtain ⟨_, _, _, _, _, _, _, _, h, _⟩ := h; rw [h]; rfl; done) | (rcases h with h | h <;> (first | (obtain ⟨_, h, _⟩ := h; rw [h]; rfl; done) | (obtain ⟨_, _, h, _⟩ := h; rw [h]; rfl; done) | (obtain ⟨_, _, _, h, _⟩ := h; rw [h]; rfl; done) | (obtain ⟨_, _, _, _, h, _⟩ := h; rw [h]; rfl; done) | (obtain ⟨_, _, _, _, _, h, _⟩ := h; rw [h]; rfl; done) | (obtain ⟨_, _, _, _, _, _, h, _⟩ := h; rw [h]; rfl; done) | (obtain ⟨_, _, _, _, _, _, _, h, _⟩ := h; rw [h]; rfl; done) | (obtain ⟨_, _, _, _, _, _, _, _, h, _⟩ := h; rw [h]; rfl; done))) | (rcases h with h | h | h <;> (first | (obtain ⟨_, h, _⟩ := h; rw [h]; rfl; done) | (obtain ⟨_, _, h, _⟩ := h; rw [h]; rfl; done) | (obtain ⟨_, _, _, h, _⟩ := h; rw [h]; rfl; done) | (obtain ⟨_, _, _, _, h, _⟩ := h; rw [h]; rfl; done) | (obtain ⟨_, _, _, _, _, h, _⟩ := h; rw [h]; rfl; done) | (obtain ⟨_, _, _, _, _, _, h, _⟩ := h; rw [h]; rfl; done) | (obtain ⟨_, _, _, _, _, _, _, h, _⟩ := h; rw [h]; rfl; done) | (obtain ⟨_, _, _, _, _, _, _, _, h, _⟩ := h; rw [h]; rfl; done))) | (rcases h with h | h | h | h <;> (first | (obtain ⟨_, h, _⟩ := h; rw [h]; rfl; done) | (obtain ⟨_, _, h, _⟩ := h; rw [h]; rfl; done) | (obtain ⟨_, _, _, h, _⟩ := h; rw [h]; rfl; done) | (obtain ⟨_, _, _, _, h, _⟩ := h; rw [h]; rfl; done) | (obtain ⟨_, _, _, _, _, h, _⟩ := h; rw [h]; rfl; done) | (obtain ⟨_, _, _, _, _, _, h, _⟩ := h; rw [h]; rfl; done) | (obtain ⟨_, _, _, _, _, _, _, h, _⟩ := h; rw [h]; rfl; done) | (obtain ⟨_, _, _, _, _, _, _, _, h, _⟩ := h; rw [h]; rfl; done)))) (fun Y hP hw hK hm hb B Gs G' ds r h => by subst hP hw hK hm hb; apply b_power_of <;> assumption)
  have E_power_of := fnE_of K_power_of g_power_of D_power_of.kp (D_power_of.bindsN fun _ _ _ _ _ _ us hl => match us, hl with | [_, _], _ => rfl)
  have K_is_name := fn_okF (P := P) (w := w) (mg := mg) (base := base) (S := S_is_name) D_is_name bk_is_name (fun ds r h => by first | (obtain ⟨_, h, _⟩ := h; rw [h]; rfl; done) | (obtain ⟨_, _, h, _⟩ := h; rw [h]; rfl; done) | (obtain ⟨_, _, _, h, _⟩ := h; rw [h]; rfl; done) | (obtain ⟨_, _, _, _, h, _⟩ := h; rw [h]; rfl; done) | (obtain ⟨_, _, _, _, _, h, _⟩ := h; rw [h]; rfl; done) | (obtain ⟨_, _, _, _, _, _, h, _⟩ := h; rw [h]; rfl; done) | (obtain ⟨_, _, _, _, _, _, _, h, _⟩ := h; rw [h]; rfl; done) | (obtain ⟨_, _, _, _, _, _, _, _, h, _⟩ := h; rw [h]; rfl; done) | (rcases h with h | h <;> (first | (obtain ⟨_, h, _⟩ := h; rw [h]; rfl; done) | (obtain ⟨_, _, h, _⟩ := h; rw [h]; rfl; done) | (obtain ⟨_, _, _, h, _⟩ := h; rw [h]; rfl; done) | (obtain ⟨_, _, _, _, h, _⟩ := h; rw [h]; rfl; done) | (obtain ⟨_, _, _, _, _, h, _⟩ := h; rw [h]; rfl; done) | (obtain ⟨_, _, _, _, _, _, h, _⟩ := h; rw [h]; rfl; done) | (obtain ⟨_, _, _, _, _, _, _, h, _⟩ := h; rw [h]; rfl; done) | (obtain ⟨_, _, _, _, _, _, _, _, h, _⟩ := h; rw [h]; rfl; done))) | (rcases h with h | h | h <;> (first | (obtain ⟨_, h, _⟩ := h; rw [h]; rfl; done) | (obtain ⟨_, _, h, _⟩ := h; rw [h]; rfl; done) | (obtain ⟨_, _, _, h, _⟩ := h; rw [h]; rfl; done) | (obtain ⟨_, _, _, _, h, _⟩ := h; rw [h]; rfl; done) | (obtain ⟨_, _, _, _, _, h, _⟩ := h; rw [h]; rfl; done) | (obtain ⟨_, _, _, _, _, _, h, _⟩ := h; rw [h]; rfl; done) | (obtain ⟨_, _, _, _, _, _, _, h, _⟩ := h; rw [h]; rfl; done) | (obtain ⟨_, _, _, _, _, _, _, _, h, _⟩ := h; rw [h]; rfl; done))) | (rcases h with h | h | h | h <;> (first | (obtain ⟨_, h, _⟩ := h; rw [h]; rfl; done) | (obtain ⟨_, _, h, _⟩ := h; rw [h]; rfl; done) | (obtain ⟨_, _, _, h, _⟩ := h; rw [h]; rfl; done) | (obtain ⟨_, _, _, _, h, _⟩ := h; rw [h]; rfl; done) | (obtain ⟨_, _, _, _, _, h, _⟩ := h; rw [h]; rfl; done) | (obtain ⟨_, _, _, _, _, _, h, _⟩ := h; rw [h]; rfl; done) | (obtain ⟨_, _, _, _, _, _, _, h, _⟩ := h; rw [h]; rfl; done) | (obtain ⟨_, _, _, _, _, _, _, _, h, _⟩ := h; rw [h]; rfl; done)))) (fun Y hP hw hK hm hb B Gs G' ds r h => by subst hP hw hK hm hb; apply b_is_name <;> assumption)
  have E_is_name := fnE_of K_is_name g_is_name D_is_name.kp (D_is_name.bindsN fun _ _ _ _ _ _ us hl => match us, hl with | [_], _ => rfl)
  have K_is_pair := fn_okF (P := P) (w := w) (mg := mg) (base := base) (S := S_is_pair) D_is_pair bk_is_pair (fun ds r h => by first | (obtain ⟨_, h, _⟩ := h; rw [h]; rfl; done) | (obtain ⟨_, _, h, _⟩ := h; rw [h]; rfl; done) | (obtain ⟨_, _, _, h, _⟩ := h; rw [h]; rfl; done) | (obtain ⟨_, _, _, _, h, _⟩ := h; rw [h]; rfl; done) | (obtain ⟨_, _, _, _, _, h, _⟩ := h; rw [h]; rfl; done) | (obtain ⟨_, _, _, _, _, _, h, _⟩ := h; rw [h]; rfl; done) | (obtain ⟨_, _, _, _, _, _, _, h, _⟩ := h; rw [h]; rfl; done) | (obtain ⟨_, _, _, _, _, _, _, _, h, _⟩ := h; rw [h]; rfl; done) | (rcases h with h | h <;> (first | (obtain ⟨_, h, _⟩ := h; rw [h]; rfl; done) | (obtain ⟨_, _, h, _⟩ := h; rw [h]; rfl; done) | (obtain ⟨_, _, _, h, _⟩ := h; rw [h]; rfl; done) | (obtain ⟨_, _, _, _, h, _⟩ := h; rw [h]; rfl; done) | (obtain ⟨_, _, _, _, _, h, _⟩ := h; rw [h]; rfl; done) | (obtain ⟨_, _, _, _, _, _, h, _⟩ := h; rw [h]; rfl; done) | (obtain ⟨_, _, _, _, _, _, _, h, _⟩ := h; rw [h]; rfl; done) | (obtain ⟨_, _, _, _, _, _, _, _, h, _⟩ := h; rw [h]; rfl; done))) | (rcases h with h | h | h <;> (first | (obtain ⟨_, h, _⟩ := h; rw [h]; rfl; done) | (obtain ⟨_, _, h, _⟩ := h; rw [h]; rfl; done) | (obtain ⟨_, _, _, h, _⟩ := h; rw [h]; rfl; done) | (obtain ⟨_, _, _, _, h, _⟩ := h; rw [h]; rfl; done) | (obtain ⟨_, _, _, _, _, h, _⟩ := h; rw [h]; rfl; done) | (obtain ⟨_, _, _, _, _, _, h, _⟩ := h; rw [h]; rfl; done) | (obtain ⟨_, _, _, _, _, _, _, h, _⟩ := h; rw [h]; rfl; done) | (obtain ⟨_, _, _, _, _, _, _, _, h, _⟩ := h; rw [h]; rfl; done))) | (rcases h with h | h | h | h <;> (first | (obtain ⟨_, h, _⟩ := h; rw [h]; rfl; done) | (obtain ⟨_, _, h, _⟩ := h; rw [h]; rfl; done) | (obtain ⟨_, _, _, h, _⟩ := h; rw [h]; rfl; done) | (obtain ⟨_, _, _, _, h, _⟩ := h; rw [h]; rfl; done) | (obtain ⟨_, _, _, _, _, h, _⟩ := h; rw [h]; rfl; done) | (obtain ⟨_, _, _, _, _, _, h, _⟩ := h; rw [h]; rfl; done) | (obtain ⟨_, _, _, _, _, _, _, h, _⟩ := h; rw [h]; rfl; done) | (obtain ⟨_, _, _, _, _, _, _, _, h, _⟩ := h; rw [h]; rfl; done)))) (fun Y hP hw hK hm hb B Gs G' ds r h => by subst hP hw hK hm hb; apply b_is_pair <;> assumption)
  have E_is_pair := fnE_of K_is_pair g_is_pair D_is_pair.kp (D_is_pair.bindsN fun _ _ _ _ _ _ us hl => match us, hl with | [_], _ => rfl)
  have K_unit_of := fn_okF (P := P) (w := w) (mg := mg) (base := base) (S := (S_unit_of (He.ga K "BadUnit"))) D_unit_of bk_unit_of (fun ds r h => by first | (obtain ⟨_, h, _⟩ := h; rw [h]; rfl; done) | (obtain ⟨_, _, h, _⟩ := h; rw [h]; rfl; done) | (obtain ⟨_, _, _, h, _⟩ := h; rw [h]; rfl; done) | (obtain ⟨_, _, _, _, h, _⟩ := h; rw [h]; rfl; done) | (obtain ⟨_, _, _, _, _, h, _⟩ := h; rw [h]; rfl; done) | (obtain ⟨_, _, _, _, _, _, h, _⟩ := h; rw [h]; rfl; done) | (obtain ⟨_, _, _, _, _, _, _, h, _⟩ := h; rw [h]; rfl; done) | (obtain ⟨_, _, _, _, _, _, _, _, h, _⟩ := h; rw [h]; rfl; done) | (rcases h with h | h <;> (first | (obtain ⟨_, h, _⟩ := h; rw [h]; rfl; done) | (obtain ⟨_, _, h, _⟩ := h; rw [h]; rfl; done) | (obtain ⟨_, _, _, h, _⟩ := h; rw [h]; rfl; done) | (obtain ⟨_, _, _, _, h, _⟩ := h; rw [h]; rfl; done) | (obtain ⟨_, _, _, _, _, h, _⟩ := h; rw [h]; rfl; done) | (obtain ⟨_, _, _, _, _, _, h, _⟩ := h; rw [h]; rfl; done) | (obtain ⟨_, _, _, _, _, _, _, h, _⟩ := h; rw [h]; rfl; done) | (obtain ⟨_, _, _, _, _, _, _, _, h, _⟩ := h; rw [h]; rfl; done))) | (rcases h with h | h | h <;> (first | (obtain ⟨_, h, _⟩ := h; rw [h]; rfl; done) | (obtain ⟨_, _, h, _⟩ := h; rw [h]; rfl; done) | (obtain ⟨_, _, _, h, _⟩ := h; rw [h]; rfl; done) | (obtain ⟨_, _, _, _, h, _⟩ := h; rw [h]; rfl; done) | (obtain ⟨_, _, _, _, _, h, _⟩ := h; rw [h]; rfl; done) | (obtain ⟨_, _, _, _, _, _, h, _⟩ := h; rw [h]; rfl; done) | (obtain ⟨_, _, _, _, _, _, _, h, _⟩ := h; rw [h]; rfl; done) | (obtain ⟨_, _, _, _, _, _, _, _, h, _⟩ := h; rw [h]; rfl; done))) | (rcases h with h | h | h | h <;> (first | (obtain ⟨_, h, _⟩ := h; rw [h]; rfl; done) | (obtain ⟨_, _, h, _⟩ := h; rw [h]; rfl; done) | (obtain ⟨_, _, _, h, _⟩ := h; rw [h]; rfl; done) | (obtain ⟨_, _, _, _, h, _⟩ := h; rw [h]; rfl; done) | (obtain ⟨_, _, _, _, _, h, _⟩ := h; rw [h]; rfl; done) | (obtain ⟨_, _, _, _, _, _, h, _⟩ := h; rw [h]; rfl; done) | (obtain ⟨_, _, _, _, _, _, _, h, _⟩ := h; rw [h]; rfl; done) | (obtain ⟨_, _, _, _, _, _, _, _, h, _⟩ := h; rw [h]; rfl; done)))) (fun Y hP hw hK hm hb B Gs G' ds r h => by subst hP hw hK hm hb; apply b_unit_of <;> assumption)
  have E_unit_of := fnE_of K_unit_of g_unit_of D_unit_of.kp (D_unit_of.bindsN fun _ _ _ _ _ _ us hl => match us, hl with | [_], _ => rfl)
  have K_joined := fn_okF (P := P) (w := w) (mg := mg) (base := base) (S := S_joined) D_joined bk_joined (fun ds r h => by first | (obtain ⟨_, h, _⟩ := h; rw [h]; rfl; done) | (obtain ⟨_, _, h, _⟩ := h; rw [h]; rfl; done) | (obtain ⟨_, _, _, h, _⟩ := h; rw [h]; rfl; done) | (obtain ⟨_, _, _, _, h, _⟩ := h; rw [h]; rfl; done) | (obtain ⟨_, _, _, _, _, h, _⟩ := h; rw [h]; rfl; done) | (obtain ⟨_, _, _, _, _, _, h, _⟩ := h; rw [h]; rfl; done) | (obtain ⟨_, _, _, _, _, _, _, h, _⟩ := h; rw [h]; rfl; done) | (obtain ⟨_, _, _, _, _, _, _, _, h, _⟩ := h; rw [h]; rfl; done) | (rcases h with h | h <;> (first | (obtain ⟨_, h, _⟩ := h; rw [h]; rfl; done) | (obtain ⟨_, _, h, _⟩ := h; rw [h]; rfl; done) | (obtain ⟨_, _, _, h, _⟩ := h; rw [h]; rfl; done) | (obtain ⟨_, _, _, _, h, _⟩ := h; rw [h]; rfl; done) | (obtain ⟨_, _, _, _, _, h, _⟩ := h; rw [h]; rfl; done) | (obtain ⟨_, _, _, _, _, _, h, _⟩ := h; rw [h]; rfl; done) | (obtain ⟨_, _, _, _, _, _, _, h, _⟩ := h; rw [h]; rfl; done) | (obtain ⟨_, _, _, _, _, _, _, _, h, _⟩ := h; rw [h]; rfl; done))) | (rcases h with h | h | h <;> (first | (obtain ⟨_, h, _⟩ := h; rw [h]; rfl; done) | (obtain ⟨_, _, h, _⟩ := h; rw [h]; rfl; done) | (obtain ⟨_, _, _, h, _⟩ := h; rw [h]; rfl; done) | (obtain ⟨_, _, _, _, h, _⟩ := h; rw [h]; rfl; done) | (obtain ⟨_, _, _, _, _, h, _⟩ := h; rw [h]; rfl; done) | (obtain ⟨_, _, _, _, _, _, h, _⟩ := h; rw [h]; rfl; done) | (obtain ⟨_, _, _, _, _, _, _, h, _⟩ := h; rw [h]; rfl; done) | (obtain ⟨_, _, _, _, _, _, _, _, h, _⟩ := h; rw [h]; rfl; done))) | (rcases h with h | h | h | h <;> (first | (obtain ⟨_, h, _⟩ := h; rw [h]; rfl; done) | (obtain ⟨_, _, h, _⟩ := h; rw [h]; rfl; done) | (obtain ⟨_, _, _, h, _⟩ := h; rw [h]; rfl; done) | (obtain ⟨_, _, _, _, h, _⟩ := h; rw [h]; rfl; done) | (obtain ⟨_, _, _, _, _, h, _⟩ := h; rw [h]; rfl; done) | (obtain ⟨_, _, _, _, _, _, h, _⟩ := h; rw [h]; rfl; done) | (obtain ⟨_, _, _, _, _, _, _, h, _⟩ := h; rw [h]; rfl; done) | (obtain ⟨_, _, _, _, _, _, _, _, h, _⟩ := h; rw [h]; rfl; done)))) (fun Y hP hw hK hm hb B Gs G' ds r h => by subst hP hw hK hm hb; apply b_joined <;> assumption)
  have E_joined := fnE_of K_joined g_joined D_joined.kp (D_joined.bindsN fun _ _ _ _ _ _ us hl => match us, hl with | [_, _], _ => rfl)
  have K_powered := fn_okF (P := P) (w := w) (mg := mg) (base := base) (S := S_powered) D_powered bk_powered (fun ds r h => by first | (obtain ⟨_, h, _⟩ := h; rw [h]; rfl; done) | (obtain ⟨_, _, h, _⟩ := h; rw [h]; rfl; done) | (obtain ⟨_, _, _, h, _⟩ := h; rw [h]; rfl; done) | (obtain ⟨_, _, _, _, h, _⟩ := h; rw [h]; rfl; done) | (obtain ⟨_, _, _, _, _, h, _⟩ := h; rw [h]; rfl; done) | (obtain ⟨_, _, _, _, _, _, h, _⟩ := h; rw [h]; rfl; done) | (obtain ⟨_, _, _, _, _, _, _, h, _⟩ := h; rw [h]; rfl; done) | (obtain ⟨_, _, _, _, _, _, _, _, h, _⟩ := h; rw [h]; rfl; done) | (rcases h with h | h <;> (first | (obtain ⟨_, h, _⟩ := h; rw [h]; rfl; done) | (obtain ⟨_, _, h, _⟩ := h; rw [h]; rfl; done) | (obtain ⟨_, _, _, h, _⟩ := h; rw [h]; rfl; done) | (obtain ⟨_, _, _, _, h, _⟩ := h; rw [h]; rfl; done) | (obtain ⟨_, _, _, _, _, h, _⟩ := h; rw [h]; rfl; done) | (obtain ⟨_, _, _, _, _, _, h, _⟩ := h; rw [h]; rfl; done) | (obtain ⟨_, _, _, _, _, _, _, h, _⟩ := h; rw [h]; rfl; done) | (obtain ⟨_, _, _, _, _, _, _, _, h, _⟩ := h; rw [h]; rfl; done))) | (rcases h with h | h | h <;> (first | (obtain ⟨_, h, _⟩ := h; rw [h]; rfl; done) | (obtain ⟨_, _, h, _⟩ := h; rw [h]; rfl; done) | (obtain ⟨_, _, _, h, _⟩ := h; rw [h]; rfl; done) | (obtain ⟨_, _, _, _, h, _⟩ := h; rw [h]; rfl; done) | (obtain ⟨_, _, _, _, _, h, _⟩ := h; rw [h]; rfl; done) | (obtain ⟨_, _, _, _, _, _, h, _⟩ := h; rw [h]; rfl; done) | (obtain ⟨_, _, _, _, _, _, _, h, _⟩ := h; rw [h]; rfl; done) | (obtain ⟨_, _, _, _, _, _, _, _, h, _⟩ := h; rw [h]; rfl; done))) | (rcases h with h | h | h | h <;> (first | (obtain ⟨_, h, _⟩ := h; rw [h]; rfl; done) | (obtain ⟨_, _, h, _⟩ := h; rw [h]; rfl; done) | (obtain ⟨_, _, _, h, _⟩ := h; rw [h]; rfl; done) | (obtain ⟨_, _, _, _, h, _⟩ := h; rw [h]; rfl; done) | (obtain ⟨_, _, _, _, _, h, _⟩ := h; rw [h]; rfl; done) | (obtain ⟨_, _, _, _, _, _, h, _⟩ := h; rw [h]; rfl; done) | (obtain ⟨_, _, _, _, _, _, _, h, _⟩ := h; rw [h]; rfl; done) | (obtain ⟨_, _, _, _, _, _, _, _, h, _⟩ := h; rw [h]; rfl; done)))) (fun Y hP hw hK hm hb B Gs G' ds r h => by subst hP hw hK hm hb; apply b_powered <;> assumption)
  have E_powered := fnE_of K_powered g_powered D_powered.kp (D_powered.bindsN fun _ _ _ _ _ _ us hl => match us, hl with | [_, _], _ => rfl)
  have K_need_rates := fn_okF (P := P) (w := w) (mg := mg) (base := base) (S := (S_need_rates (He.ga K "BadRate"))) D_need_rates bk_need_rates (fun ds r h => by first | (obtain ⟨_, h, _⟩ := h; rw [h]; rfl; done) | (obtain ⟨_, _, h, _⟩ := h; rw [h]; rfl; done) | (obtain ⟨_, _, _, h, _⟩ := h; rw [h]; rfl; done) | (obtain ⟨_, _, _, _, h, _⟩ := h; rw [h]; rfl; done) | (obtain ⟨_, _, _, _, _, h, _⟩ := h; rw [h]; rfl; done) | (obtain ⟨_, _, _, _, _, _, h, _⟩ := h; rw [h]; rfl; done) | (obtain ⟨_, _, _, _, _, _, _, h, _⟩ := h; rw [h]; rfl; done) | (obtain ⟨_, _, _, _, _, _, _, _, h, _⟩ := h; rw [h]; rfl; done) | (rcases h with h | h <;> (first | (obtain ⟨_, h, _⟩ := h; rw [h]; rfl; done) | (obtain ⟨_, _, h, _⟩ := h; rw [h]; rfl; done) | (obtain ⟨_, _, _, h, _⟩ := h; rw [h]; rfl; done) | (obtain ⟨_, _, _, _, h, _⟩ := h; rw [h]; rfl; done) | (obtain ⟨_, _, _, _, _, h, _⟩ := h; rw [h]; rfl; done) | (obtain ⟨_, _, _, _, _, _, h, _⟩ := h; rw [h]; rfl; done) | (obtain ⟨_, _, _, _, _, _, _, h, _⟩ := h; rw [h]; rfl; done) | (obtain ⟨_, _, _, _, _, _, _, _, h, _⟩ := h; rw [h]; rfl; done))) | (rcases h with h | h | h <;> (first | (obtain ⟨_, h, _⟩ := h; rw [h]; rfl; done) | (obtain ⟨_, _, h, _⟩ := h; rw [h]; rfl; done) | (obtain ⟨_, _, _, h, _⟩ := h; rw [h]; rfl; done) | (obtain ⟨_, _, _, _, h, _⟩ := h; rw [h]; rfl; done) | (obtain ⟨_, _, _, _, _, h, _⟩ := h; rw [h]; rfl; done) | (obtain ⟨_, _, _, _, _, _, h, _⟩ := h; rw [h]; rfl; done) | (obtain ⟨_, _, _, _, _, _, _, h, _⟩ := h; rw [h]; rfl; done) | (obtain ⟨_, _, _, _, _, _, _, _, h, _⟩ := h; rw [h]; rfl; done))) | (rcases h with h | h | h | h <;> (first | (obtain ⟨_, h, _⟩ := h; rw [h]; rfl; done) | (obtain ⟨_, _, h, _⟩ := h; rw [h]; rfl; done) | (obtain ⟨_, _, _, h, _⟩ := h; rw [h]; rfl; done) | (obtain ⟨_, _, _, _, h, _⟩ := h; rw [h]; rfl; done) | (obtain ⟨_, _, _, _, _, h, _⟩ := h; rw [h]; rfl; done) | (obtain ⟨_, _, _, _, _, _, h, _⟩ := h; rw [h]; rfl; done) | (obtain ⟨_, _, _, _, _, _, _, h, _⟩ := h; rw [h]; rfl; done) | (obtain ⟨_, _, _, _, _, _, _, _, h, _⟩ := h; rw [h]; rfl; done)))) (fun Y hP hw hK hm hb B Gs G' ds r h => by subst hP hw hK hm hb; apply b_need_rates <;> assumption)
  have E_need_rates := fnE_of K_need_rates g_need_rates D_need_rates.kp (D_need_rates.bindsN fun _ _ _ _ _ _ us hl => match us, hl with | [_], _ => rfl)
  have K_measure_of := fn_okF (P := P) (w := w) (mg := mg) (base := base) (S := (S_measure_of (He.ga K "BadRate"))) D_measure_of bk_measure_of (fun ds r h => by first | (obtain ⟨_, h, _⟩ := h; rw [h]; rfl; done) | (obtain ⟨_, _, h, _⟩ := h; rw [h]; rfl; done) | (obtain ⟨_, _, _, h, _⟩ := h; rw [h]; rfl; done) | (obtain ⟨_, _, _, _, h, _⟩ := h; rw [h]; rfl; done) | (obtain ⟨_, _, _, _, _, h, _⟩ := h; rw [h]; rfl; done) | (obtain ⟨_, _, _, _, _, _, h, _⟩ := h; rw [h]; rfl; done) | (obtain ⟨_, _, _, _, _, _, _, h, _⟩ := h; rw [h]; rfl; done) | (obtain ⟨_, _, _, _, _, _, _, _, h, _⟩ := h; rw [h]; rfl; done) | (rcases h with h | h <;> (first | (obtain ⟨_, h, _⟩ := h; rw [h]; rfl; done) | (obtain ⟨_, _, h, _⟩ := h; rw [h]; rfl; done) | (obtain ⟨_, _, _, h, _⟩ := h; rw [h]; rfl; done) | (obtain ⟨_, _, _, _, h, _⟩ := h; rw [h]; rfl; done) | (obtain ⟨_, _, _, _, _, h, _⟩ := h; rw [h]; rfl; done) | (obtain ⟨_, _, _, _, _, _, h, _⟩ := h; rw [h]; rfl; done) | (obtain ⟨_, _, _, _, _, _, _, h, _⟩ := h; rw [h]; rfl; done) | (obtain ⟨_, _, _, _, _, _, _, _, h, _⟩ := h; rw [h]; rfl; done))) | (rcases h with h | h | h <;> (first | (obtain ⟨_, h, _⟩ := h; rw [h]; rfl; done) | (obtain ⟨_, _, h, _⟩ := h; rw [h]; rfl; done) | (obtain ⟨_, _, _, h, _⟩ := h; rw [h]; rfl; done) | (obtain ⟨_, _, _, _, h, _⟩ := h; rw [h]; rfl; done) | (obtain ⟨_, _, _, _, _, h, _⟩ := h; rw [h]; rfl; done) | (obtain ⟨_, _, _, _, _, _, h, _⟩ := h; rw [h]; rfl; done) | (obtain ⟨_, _, _, _, _, _, _, h, _⟩ := h; rw [h]; rfl; done) | (obtain ⟨_, _, _, _, _, _, _, _, h, _⟩ := h; rw [h]; rfl; done))) | (rcases h with h | h | h | h <;> (first | (obtain ⟨_, h, _⟩ := h; rw [h]; rfl; done) | (obtain ⟨_, _, h, _⟩ := h; rw [h]; rfl; done) | (obtain ⟨_, _, _, h, _⟩ := h; rw [h]; rfl; done) | (obtain ⟨_, _, _, _, h, _⟩ := h; rw [h]; rfl; done) | (obtain ⟨_, _, _, _, _, h, _⟩ := h; rw [h]; rfl; done) | (obtain ⟨_, _, _, _, _, _, h, _⟩ := h; rw [h]; rfl; done) | (obtain ⟨_, _, _, _, _, _, _, h, _⟩ := h; rw [h]; rfl; done) | (obtain ⟨_, _, _, _, _, _, _, _, h, _⟩ := h; rw [h]; rfl; done)))) (fun Y hP hw hK hm hb B Gs G' ds r h => by subst hP hw hK hm hb; apply b_measure_of <;> assumption)
  have E_measure_of := fnE_of K_measure_of g_measure_of D_measure_of.kp (D_measure_of.bindsN fun _ _ _ _ _ _ us hl => match us, hl with | [_, _], _ => rfl)
  have K__law_mixed := fn_okF (P := P) (w := w) (mg := mg) (base := base) (S := S_mixed) D__law_mixed bk__law_mixed (fun ds r h => by first | (obtain ⟨_, h, _⟩ := h; rw [h]; rfl; done) | (obtain ⟨_, _, h, _⟩ := h; rw [h]; rfl; done) | (obtain ⟨_, _, _, h, _⟩ := h; rw [h]; rfl; done) | (obtain ⟨_, _, _, _, h, _⟩ := h; rw [h]; rfl; done) | (obtain ⟨_, _, _, _, _, h, _⟩ := h; rw [h]; rfl; done) | (obtain ⟨_, _, _, _, _, _, h, _⟩ := h; rw [h]; rfl; done) | (obtain ⟨_, _, _, _, _, _, _, h, _⟩ := h; rw [h]; rfl; done) | (obtain ⟨_, _, _, _, _, _, _, _, h, _⟩ := h; rw [h]; rfl; done) | (rcases h with h | h <;> (first | (obtain ⟨_, h, _⟩ := h; rw [h]; rfl; done) | (obtain ⟨_, _, h, _⟩ := h; rw [h]; rfl; done) | (obtain ⟨_, _, _, h, _⟩ := h; rw [h]; rfl; done) | (obtain ⟨_, _, _, _, h, _⟩ := h; rw [h]; rfl; done) | (obtain ⟨_, _, _, _, _, h, _⟩ := h; rw [h]; rfl; done) | (obtain ⟨_, _, _, _, _, _, h, _⟩ := h; rw [h]; rfl; done) | (obtain ⟨_, _, _, _, _, _, _, h, _⟩ := h; rw [h]; rfl; done) | (obtain ⟨_, _, _, _, _, _, _, _, h, _⟩ := h; rw [h]; rfl; done))) | (rcases h with h | h | h <;> (first | (obtain ⟨_, h, _⟩ := h; rw [h]; rfl; done) | (obtain ⟨_, _, h, _⟩ := h; rw [h]; rfl; done) | (obtain ⟨_, _, _, h, _⟩ := h; rw [h]; rfl; done) | (obtain ⟨_, _, _, _, h, _⟩ := h; rw [h]; rfl; done) | (obtain ⟨_, _, _, _, _, h, _⟩ := h; rw [h]; rfl; done) | (obtain ⟨_, _, _, _, _, _, h, _⟩ := h; rw [h]; rfl; done) | (obtain ⟨_, _, _, _, _, _, _, h, _⟩ := h; rw [h]; rfl; done) | (obtain ⟨_, _, _, _, _, _, _, _, h, _⟩ := h; rw [h]; rfl; done))) | (rcases h with h | h | h | h <;> (first | (obtain ⟨_, h, _⟩ := h; rw [h]; rfl; done) | (obtain ⟨_, _, h, _⟩ := h; rw [h]; rfl; done) | (obtain ⟨_, _, _, h, _⟩ := h; rw [h]; rfl; done) | (obtain ⟨_, _, _, _, h, _⟩ := h; rw [h]; rfl; done) | (obtain ⟨_, _, _, _, _, h, _⟩ := h; rw [h]; rfl; done) | (obtain ⟨_, _, _, _, _, _, h, _⟩ := h; rw [h]; rfl; done) | (obtain ⟨_, _, _, _, _, _, _, h, _⟩ := h; rw [h]; rfl; done) | (obtain ⟨_, _, _, _, _, _, _, _, h, _⟩ := h; rw [h]; rfl; done)))) (fun Y hP hw hK hm hb B Gs G' ds r h => by subst hP hw hK hm hb; apply b_law_mixed <;> assumption)
  have E__law_mixed := fnE_of K__law_mixed g__law_mixed D__law_mixed.kp (D__law_mixed.bindsN fun _ _ _ _ _ _ us hl => match us, hl with | [_, _], _ => rfl)
  have K__law_number := fn_okF (P := P) (w := w) (mg := mg) (base := base) (S := S_number) D__law_number bk__law_number (fun ds r h => by first | (obtain ⟨_, h, _⟩ := h; rw [h]; rfl; done) | (obtain ⟨_, _, h, _⟩ := h; rw [h]; rfl; done) | (obtain ⟨_, _, _, h, _⟩ := h; rw [h]; rfl; done) | (obtain ⟨_, _, _, _, h, _⟩ := h; rw [h]; rfl; done) | (obtain ⟨_, _, _, _, _, h, _⟩ := h; rw [h]; rfl; done) | (obtain ⟨_, _, _, _, _, _, h, _⟩ := h; rw [h]; rfl; done) | (obtain ⟨_, _, _, _, _, _, _, h, _⟩ := h; rw [h]; rfl; done) | (obtain ⟨_, _, _, _, _, _, _, _, h, _⟩ := h; rw [h]; rfl; done) | (rcases h with h | h <;> (first | (obtain ⟨_, h, _⟩ := h; rw [h]; rfl; done) | (obtain ⟨_, _, h, _⟩ := h; rw [h]; rfl; done) | (obtain ⟨_, _, _, h, _⟩ := h; rw [h]; rfl; done) | (obtain ⟨_, _, _, _, h, _⟩ := h; rw [h]; rfl; done) | (obtain ⟨_, _, _, _, _, h, _⟩ := h; rw [h]; rfl; done) | (obtain ⟨_, _, _, _, _, _, h, _⟩ := h; rw [h]; rfl; done) | (obtain ⟨_, _, _, _, _, _, _, h, _⟩ := h; rw [h]; rfl; done) | (obtain ⟨_, _, _, _, _, _, _, _, h, _⟩ := h; rw [h]; rfl; done))) | (rcases h with h | h | h <;> (first | (obtain ⟨_, h, _⟩ := h; rw [h]; rfl; done) | (obtain ⟨_, _, h, _⟩ := h; rw [h]; rfl; done) | (obtain ⟨_, _, _, h, _⟩ := h; rw [h]; rfl; done) | (obtain ⟨_, _, _, _, h, _⟩ := h; rw [h]; rfl; done) | (obtain ⟨_, _, _, _, _, h, _⟩ := h; rw [h]; rfl; done) | (obtain ⟨_, _, _, _, _, _, h, _⟩ := h; rw [h]; rfl; done) | (obtain ⟨_, _, _, _, _, _, _, h, _⟩ := h; rw [h]; rfl; done) | (obtain ⟨_, _, _, _, _, _, _, _, h, _⟩ := h; rw [h]; rfl; done))) | (rcases h with h | h | h | h <;> (first | (obtain ⟨_, h, _⟩ := h; rw [h]; rfl; done) | (obtain ⟨_, _, h, _⟩ := h; rw [h]; rfl; done) | (obtain ⟨_, _, _, h, _⟩ := h; rw [h]; rfl; done) | (obtain ⟨_, _, _, _, h, _⟩ := h; rw [h]; rfl; done) | (obtain ⟨_, _, _, _, _, h, _⟩ := h; rw [h]; rfl; done) | (obtain ⟨_, _, _, _, _, _, h, _⟩ := h; rw [h]; rfl; done) | (obtain ⟨_, _, _, _, _, _, _, h, _⟩ := h; rw [h]; rfl; done) | (obtain ⟨_, _, _, _, _, _, _, _, h, _⟩ := h; rw [h]; rfl; done)))) (fun Y hP hw hK hm hb B Gs G' ds r h => by subst hP hw hK hm hb; apply b_law_number <;> assumption)
  have E__law_number := fnE_of K__law_number g__law_number D__law_number.kp (D__law_number.bindsN fun _ _ _ _ _ _ us hl => match us, hl with | [_, _], _ => rfl)
  have K__law_unit := fn_okF (P := P) (w := w) (mg := mg) (base := base) (S := S_lunit) D__law_unit bk__law_unit (fun ds r h => by first | (obtain ⟨_, h, _⟩ := h; rw [h]; rfl; done) | (obtain ⟨_, _, h, _⟩ := h; rw [h]; rfl; done) | (obtain ⟨_, _, _, h, _⟩ := h; rw [h]; rfl; done) | (obtain ⟨_, _, _, _, h, _⟩ := h; rw [h]; rfl; done) | (obtain ⟨_, _, _, _, _, h, _⟩ := h; rw [h]; rfl; done) | (obtain ⟨_, _, _, _, _, _, h, _⟩ := h; rw [h]; rfl; done) | (obtain ⟨_, _, _, _, _, _, _, h, _⟩ := h; rw [h]; rfl; done) | (obtain ⟨_, _, _, _, _, _, _, _, h, _⟩ := h; rw [h]; rfl; done) | (rcases h with h | h <;> (first | (obtain ⟨_, h, _⟩ := h; rw [h]; rfl; done) | (obtain ⟨_, _, h, _⟩ := h; rw [h]; rfl; done) | (obtain ⟨_, _, _, h, _⟩ := h; rw [h]; rfl; done) | (obtain ⟨_, _, _, _, h, _⟩ := h; rw [h]; rfl; done) | (obtain ⟨_, _, _, _, _, h, _⟩ := h; rw [h]; rfl; done) | (obtain ⟨_, _, _, _, _, _, h, _⟩ := h; rw [h]; rfl; done) | (obtain ⟨_, _, _, _, _, _, _, h, _⟩ := h; rw [h]; rfl; done) | (obtain ⟨_, _, _, _, _, _, _, _, h, _⟩ := h; rw [h]; rfl; done))) | (rcases h with h | h | h <;> (first | (obtain ⟨_, h, _⟩ := h; rw [h]; rfl; done) | (obtain ⟨_, _, h, _⟩ := h; rw [h]; rfl; done) | (obtain ⟨_, _, _, h, _⟩ := h; rw [h]; rfl; done) | (obtain ⟨_, _, _, _, h, _⟩ := h; rw [h]; rfl; done) | (obtain ⟨_, _, _, _, _, h, _⟩ := h; rw [h]; rfl; done) | (obtain ⟨_, _, _, _, _, _, h, _⟩ := h; rw [h]; rfl; done) | (obtain ⟨_, _, _, _, _, _, _, h, _⟩ := h; rw [h]; rfl; done) | (obtain ⟨_, _, _, _, _, _, _, _, h, _⟩ := h; rw [h]; rfl; done))) | (rcases h with h | h | h | h <;> (first | (obtain ⟨_, h, _⟩ := h; rw [h]; rfl; done) | (obtain ⟨_, _, h, _⟩ := h; rw [h]; rfl; done) | (obtain ⟨_, _, _, h, _⟩ := h; rw [h]; rfl; done) | (obtain ⟨_, _, _, _, h, _⟩ := h; rw [h]; rfl; done) | (obtain ⟨_, _, _, _, _, h, _⟩ := h; rw [h]; rfl; done) | (obtain ⟨_, _, _, _, _, _, h, _⟩ := h; rw [h]; rfl; done) | (obtain ⟨_, _, _, _, _, _, _, h, _⟩ := h; rw [h]; rfl; done) | (obtain ⟨_, _, _, _, _, _, _, _, h, _⟩ := h; rw [h]; rfl; done)))) (fun Y hP hw hK hm hb B Gs G' ds r h => by subst hP hw hK hm hb; apply b_law_unit <;> assumption)
  have E__law_unit := fnE_of K__law_unit g__law_unit D__law_unit.kp (D__law_unit.bindsN fun _ _ _ _ _ _ us hl => match us, hl with | [_, _, _], _ => rfl)
  have K__law_rates := fn_okF (P := P) (w := w) (mg := mg) (base := base) (S := S_lrates) D__law_rates bk__law_rates (fun ds r h => by first | (obtain ⟨_, h, _⟩ := h; rw [h]; rfl; done) | (obtain ⟨_, _, h, _⟩ := h; rw [h]; rfl; done) | (obtain ⟨_, _, _, h, _⟩ := h; rw [h]; rfl; done) | (obtain ⟨_, _, _, _, h, _⟩ := h; rw [h]; rfl; done) | (obtain ⟨_, _, _, _, _, h, _⟩ := h; rw [h]; rfl; done) | (obtain ⟨_, _, _, _, _, _, h, _⟩ := h; rw [h]; rfl; done) | (obtain ⟨_, _, _, _, _, _, _, h, _⟩ := h; rw [h]; rfl; done) | (obtain ⟨_, _, _, _, _, _, _, _, h, _⟩ := h; rw [h]; rfl; done) | (rcases h with h | h <;> (first | (obtain ⟨_, h, _⟩ := h; rw [h]; rfl; done) | (obtain ⟨_, _, h, _⟩ := h; rw [h]; rfl; done) | (obtain ⟨_, _, _, h, _⟩ := h; rw [h]; rfl; done) | (obtain ⟨_, _, _, _, h, _⟩ := h; rw [h]; rfl; done) | (obtain ⟨_, _, _, _, _, h, _⟩ := h; rw [h]; rfl; done) | (obtain ⟨_, _, _, _, _, _, h, _⟩ := h; rw [h]; rfl; done) | (obtain ⟨_, _, _, _, _, _, _, h, _⟩ := h; rw [h]; rfl; done) | (obtain ⟨_, _, _, _, _, _, _, _, h, _⟩ := h; rw [h]; rfl; done))) | (rcases h with h | h | h <;> (first | (obtain ⟨_, h, _⟩ := h; rw [h]; rfl; done) | (obtain ⟨_, _, h, _⟩ := h; rw [h]; rfl; done) | (obtain ⟨_, _, _, h, _⟩ := h; rw [h]; rfl; done) | (obtain ⟨_, _, _, _, h, _⟩ := h; rw [h]; rfl; done) | (obtain ⟨_, _, _, _, _, h, _⟩ := h; rw [h]; rfl; done) | (obtain ⟨_, _, _, _, _, _, h, _⟩ := h; rw [h]; rfl; done) | (obtain ⟨_, _, _, _, _, _, _, h, _⟩ := h; rw [h]; rfl; done) | (obtain ⟨_, _, _, _, _, _, _, _, h, _⟩ := h; rw [h]; rfl; done))) | (rcases h with h | h | h | h <;> (first | (obtain ⟨_, h, _⟩ := h; rw [h]; rfl; done) | (obtain ⟨_, _, h, _⟩ := h; rw [h]; rfl; done) | (obtain ⟨_, _, _, h, _⟩ := h; rw [h]; rfl; done) | (obtain ⟨_, _, _, _, h, _⟩ := h; rw [h]; rfl; done) | (obtain ⟨_, _, _, _, _, h, _⟩ := h; rw [h]; rfl; done) | (obtain ⟨_, _, _, _, _, _, h, _⟩ := h; rw [h]; rfl; done) | (obtain ⟨_, _, _, _, _, _, _, h, _⟩ := h; rw [h]; rfl; done) | (obtain ⟨_, _, _, _, _, _, _, _, h, _⟩ := h; rw [h]; rfl; done)))) (fun Y hP hw hK hm hb B Gs G' ds r h => by subst hP hw hK hm hb; apply b_law_rates <;> assumption)
  have E__law_rates := fnE_of K__law_rates g__law_rates D__law_rates.kp (D__law_rates.bindsN fun _ _ _ _ _ _ us hl => match us, hl with | [_, _], _ => rfl)
  have K__law_product := fn_okF (P := P) (w := w) (mg := mg) (base := base) (S := S_lproduct) D__law_product bk__law_product (fun ds r h => by first | (obtain ⟨_, h, _⟩ := h; rw [h]; rfl; done) | (obtain ⟨_, _, h, _⟩ := h; rw [h]; rfl; done) | (obtain ⟨_, _, _, h, _⟩ := h; rw [h]; rfl; done) | (obtain ⟨_, _, _, _, h, _⟩ := h; rw [h]; rfl; done) | (obtain ⟨_, _, _, _, _, h, _⟩ := h; rw [h]; rfl; done) | (obtain ⟨_, _, _, _, _, _, h, _⟩ := h; rw [h]; rfl; done) | (obtain ⟨_, _, _, _, _, _, _, h, _⟩ := h; rw [h]; rfl; done) | (obtain ⟨_, _, _, _, _, _, _, _, h, _⟩ := h; rw [h]; rfl; done) | (rcases h with h | h <;> (first | (obtain ⟨_, h, _⟩ := h; rw [h]; rfl; done) | (obtain ⟨_, _, h, _⟩ := h; rw [h]; rfl; done) | (obtain ⟨_, _, _, h, _⟩ := h; rw [h]; rfl; done) | (obtain ⟨_, _, _, _, h, _⟩ := h; rw [h]; rfl; done) | (obtain ⟨_, _, _, _, _, h, _⟩ := h; rw [h]; rfl; done) | (obtain ⟨_, _, _, _, _, _, h, _⟩ := h; rw [h]; rfl; done) | (obtain ⟨_, _, _, _, _, _, _, h, _⟩ := h; rw [h]; rfl; done) | (obtain ⟨_, _, _, _, _, _, _, _, h, _⟩ := h; rw [h]; rfl; done))) | (rcases h with h | h | h <;> (first | (obtain ⟨_, h, _⟩ := h; rw [h]; rfl; done) | (obtain ⟨_, _, h, _⟩ := h; rw [h]; rfl; done) | (obtain ⟨_, _, _, h, _⟩ := h; rw [h]; rfl; done) | (obtain ⟨_, _, _, _, h, _⟩ := h; rw [h]; rfl; done) | (obtain ⟨_, _, _, _, _, h, _⟩ := h; rw [h]; rfl; done) | (obtain ⟨_, _, _, _, _, _, h, _⟩ := h; rw [h]; rfl; done) | (obtain ⟨_, _, _, _, _, _, _, h, _⟩ := h; rw [h]; rfl; done) | (obtain ⟨_, _, _, _, _, _, _, _, h, _⟩ := h; rw [h]; rfl; done))) | (rcases h with h | h | h | h <;> (first | (obtain ⟨_, h, _⟩ := h; rw [h]; rfl; done) | (obtain ⟨_, _, h, _⟩ := h; rw [h]; rfl; done) | (obtain ⟨_, _, _, h, _⟩ := h; rw [h]; rfl; done) | (obtain ⟨_, _, _, _, h, _⟩ := h; rw [h]; rfl; done) | (obtain ⟨_, _, _, _, _, h, _⟩ := h; rw [h]; rfl; done) | (obtain ⟨_, _, _, _, _, _, h, _⟩ := h; rw [h]; rfl; done) | (obtain ⟨_, _, _, _, _, _, _, h, _⟩ := h; rw [h]; rfl; done) | (obtain ⟨_, _, _, _, _, _, _, _, h, _⟩ := h; rw [h]; rfl; done)))) (fun Y hP hw hK hm hb B Gs G' ds r h => by subst hP hw hK hm hb; apply b_law_product <;> assumption)
  have E__law_product := fnE_of K__law_product g__law_product D__law_product.kp (D__law_product.bindsN fun _ _ _ _ _ _ us hl => match us, hl with | [_, _], _ => rfl)
  have K__law_is := fn_okF (P := P) (w := w) (mg := mg) (base := base) (S := S_lis) D__law_is bk__law_is (fun ds r h => by first | (obtain ⟨_, h, _⟩ := h; rw [h]; rfl; done) | (obtain ⟨_, _, h, _⟩ := h; rw [h]; rfl; done) | (obtain ⟨_, _, _, h, _⟩ := h; rw [h]; rfl; done) | (obtain ⟨_, _, _, _, h, _⟩ := h; rw [h]; rfl; done) | (obtain ⟨_, _, _, _, _, h, _⟩ := h; rw [h]; rfl; done) | (obtain ⟨_, _, _, _, _, _, h, _⟩ := h; rw [h]; rfl; done) | (obtain ⟨_, _, _, _, _, _, _, h, _⟩ := h; rw [h]; rfl; done) | (obtain ⟨_, _, _, _, _, _, _, _, h, _⟩ := h; rw [h]; rfl; done) | (rcases h with h | h <;> (first | (obtain ⟨_, h, _⟩ := h; rw [h]; rfl; done) | (obtain ⟨_, _, h, _⟩ := h; rw [h]; rfl; done) | (obtain ⟨_, _, _, h, _⟩ := h; rw [h]; rfl; done) | (obtain ⟨_, _, _, _, h, _⟩ := h; rw [h]; rfl; done) | (obtain ⟨_, _, _, _, _, h, _⟩ := h; rw [h]; rfl; done) | (obtain ⟨_, _, _, _, _, _, h, _⟩ := h; rw [h]; rfl; done) | (obtain ⟨_, _, _, _, _, _, _, h, _⟩ := h; rw [h]; rfl; done) | (obtain ⟨_, _, _, _, _, _, _, _, h, _⟩ := h; rw [h]; rfl; done))) | (rcases h with h | h | h <;> (first | (obtain ⟨_, h, _⟩ := h; rw [h]; rfl; done) | (obtain ⟨_, _, h, _⟩ := h; rw [h]; rfl; done) | (obtain ⟨_, _, _, h, _⟩ := h; rw [h]; rfl; done) | (obtain ⟨_, _, _, _, h, _⟩ := h; rw [h]; rfl; done) | (obtain ⟨_, _, _, _, _, h, _⟩ := h; rw [h]; rfl; done) | (obtain ⟨_, _, _, _, _, _, h, _⟩ := h; rw [h]; rfl; done) | (obtain ⟨_, _, _, _, _, _, _, h, _⟩ := h; rw [h]; rfl; done) | (obtain ⟨_, _, _, _, _, _, _, _, h, _⟩ := h; rw [h]; rfl; done))) | (rcases h with h | h | h | h <;> (first | (obtain ⟨_, h, _⟩ := h; rw [h]; rfl; done) | (obtain ⟨_, _, h, _⟩ := h; rw [h]; rfl; done) | (obtain ⟨_, _, _, h, _⟩ := h; rw [h]; rfl; done) | (obtain ⟨_, _, _, _, h, _⟩ := h; rw [h]; rfl; done) | (obtain ⟨_, _, _, _, _, h, _⟩ := h; rw [h]; rfl; done) | (obtain ⟨_, _, _, _, _, _, h, _⟩ := h; rw [h]; rfl; done) | (obtain ⟨_, _, _, _, _, _, _, h, _⟩ := h; rw [h]; rfl; done) | (obtain ⟨_, _, _, _, _, _, _, _, h, _⟩ := h; rw [h]; rfl; done)))) (fun Y hP hw hK hm hb B Gs G' ds r h => by subst hP hw hK hm hb; apply b_law_is <;> assumption)
  have E__law_is := fnE_of K__law_is g__law_is D__law_is.kp (D__law_is.bindsN fun _ _ _ _ _ _ us hl => match us, hl with | [_, _], _ => rfl)
  have K__law_refused := fn_okG (P := P) (w := w) (mg := mg) (base := base) (S := S_lrefused) D__law_refused bk__law_refused (fun ds r h => by first | (obtain ⟨_, h, _⟩ := h; rw [h]; rfl; done) | (obtain ⟨_, _, h, _⟩ := h; rw [h]; rfl; done) | (obtain ⟨_, _, _, h, _⟩ := h; rw [h]; rfl; done) | (obtain ⟨_, _, _, _, h, _⟩ := h; rw [h]; rfl; done) | (obtain ⟨_, _, _, _, _, h, _⟩ := h; rw [h]; rfl; done) | (obtain ⟨_, _, _, _, _, _, h, _⟩ := h; rw [h]; rfl; done) | (obtain ⟨_, _, _, _, _, _, _, h, _⟩ := h; rw [h]; rfl; done) | (obtain ⟨_, _, _, _, _, _, _, _, h, _⟩ := h; rw [h]; rfl; done) | (rcases h with h | h <;> (first | (obtain ⟨_, h, _⟩ := h; rw [h]; rfl; done) | (obtain ⟨_, _, h, _⟩ := h; rw [h]; rfl; done) | (obtain ⟨_, _, _, h, _⟩ := h; rw [h]; rfl; done) | (obtain ⟨_, _, _, _, h, _⟩ := h; rw [h]; rfl; done) | (obtain ⟨_, _, _, _, _, h, _⟩ := h; rw [h]; rfl; done) | (obtain ⟨_, _, _, _, _, _, h, _⟩ := h; rw [h]; rfl; done) | (obtain ⟨_, _, _, _, _, _, _, h, _⟩ := h; rw [h]; rfl; done) | (obtain ⟨_, _, _, _, _, _, _, _, h, _⟩ := h; rw [h]; rfl; done))) | (rcases h with h | h | h <;> (first | (obtain ⟨_, h, _⟩ := h; rw [h]; rfl; done) | (obtain ⟨_, _, h, _⟩ := h; rw [h]; rfl; done) | (obtain ⟨_, _, _, h, _⟩ := h; rw [h]; rfl; done) | (obtain ⟨_, _, _, _, h, _⟩ := h; rw [h]; rfl; done) | (obtain ⟨_, _, _, _, _, h, _⟩ := h; rw [h]; rfl; done) | (obtain ⟨_, _, _, _, _, _, h, _⟩ := h; rw [h]; rfl; done) | (obtain ⟨_, _, _, _, _, _, _, h, _⟩ := h; rw [h]; rfl; done) | (obtain ⟨_, _, _, _, _, _, _, _, h, _⟩ := h; rw [h]; rfl; done))) | (rcases h with h | h | h | h <;> (first | (obtain ⟨_, h, _⟩ := h; rw [h]; rfl; done) | (obtain ⟨_, _, h, _⟩ := h; rw [h]; rfl; done) | (obtain ⟨_, _, _, h, _⟩ := h; rw [h]; rfl; done) | (obtain ⟨_, _, _, _, h, _⟩ := h; rw [h]; rfl; done) | (obtain ⟨_, _, _, _, _, h, _⟩ := h; rw [h]; rfl; done) | (obtain ⟨_, _, _, _, _, _, h, _⟩ := h; rw [h]; rfl; done) | (obtain ⟨_, _, _, _, _, _, _, h, _⟩ := h; rw [h]; rfl; done) | (obtain ⟨_, _, _, _, _, _, _, _, h, _⟩ := h; rw [h]; rfl; done)))) (fun Y hP hw hK hm hb B hg Gs G' ds r h => by subst hP hw hK hm hb; apply b_law_refused <;> assumption)
  have E__law_refused : FnH P w K mg base 12 "_law_refused" S_lrefused := ⟨_, _, _, K__law_refused, g__law_refused, D__law_refused.kp, D__law_refused.bindsN fun _ _ _ _ _ _ us hl => match us, hl with | [_, _], _ => rfl⟩
  have K__law_wrong := fn_okF (P := P) (w := w) (mg := mg) (base := base) (S := S_lwrong) D__law_wrong bk__law_wrong (fun ds r h => by first | (obtain ⟨_, h, _⟩ := h; rw [h]; rfl; done) | (obtain ⟨_, _, h, _⟩ := h; rw [h]; rfl; done) | (obtain ⟨_, _, _, h, _⟩ := h; rw [h]; rfl; done) | (obtain ⟨_, _, _, _, h, _⟩ := h; rw [h]; rfl; done) | (obtain ⟨_, _, _, _, _, h, _⟩ := h; rw [h]; rfl; done) | (obtain ⟨_, _, _, _, _, _, h, _⟩ := h; rw [h]; rfl; done) | (obtain ⟨_, _, _, _, _, _, _, h, _⟩ := h; rw [h]; rfl; done) | (obtain ⟨_, _, _, _, _, _, _, _, h, _⟩ := h; rw [h]; rfl; done) | (rcases h with h | h <;> (first | (obtain ⟨_, h, _⟩ := h; rw [h]; rfl; done) | (obtain ⟨_, _, h, _⟩ := h; rw [h]; rfl; done) | (obtain ⟨_, _, _, h, _⟩ := h; rw [h]; rfl; done) | (obtain ⟨_, _, _, _, h, _⟩ := h; rw [h]; rfl; done) | (obtain ⟨_, _, _, _, _, h, _⟩ := h; rw [h]; rfl; done) | (obtain ⟨_, _, _, _, _, _, h, _⟩ := h; rw [h]; rfl; done) | (obtain ⟨_, _, _, _, _, _, _, h, _⟩ := h; rw [h]; rfl; done) | (obtain ⟨_, _, _, _, _, _, _, _, h, _⟩ := h; rw [h]; rfl; done))) | (rcases h with h | h | h <;> (first | (obtain ⟨_, h, _⟩ := h; rw [h]; rfl; done) | (obtain ⟨_, _, h, _⟩ := h; rw [h]; rfl; done) | (obtain ⟨_, _, _, h, _⟩ := h; rw [h]; rfl; done) | (obtain ⟨_, _, _, _, h, _⟩ := h; rw [h]; rfl; done) | (obtain ⟨_, _, _, _, _, h, _⟩ := h; rw [h]; rfl; done) | (obtain ⟨_, _, _, _, _, _, h, _⟩ := h; rw [h]; rfl; done) | (obtain ⟨_, _, _, _, _, _, _, h, _⟩ := h; rw [h]; rfl; done) | (obtain ⟨_, _, _, _, _, _, _, _, h, _⟩ := h; rw [h]; rfl; done))) | (rcases h with h | h | h | h <;> (first | (obtain ⟨_, h, _⟩ := h; rw [h]; rfl; done) | (obtain ⟨_, _, h, _⟩ := h; rw [h]; rfl; done) | (obtain ⟨_, _, _, h, _⟩ := h; rw [h]; rfl; done) | (obtain ⟨_, _, _, _, h, _⟩ := h; rw [h]; rfl; done) | (obtain ⟨_, _, _, _, _, h, _⟩ := h; rw [h]; rfl; done) | (obtain ⟨_, _, _, _, _, _, h, _⟩ := h; rw [h]; rfl; done) | (obtain ⟨_, _, _, _, _, _, _, h, _⟩ := h; rw [h]; rfl; done) | (obtain ⟨_, _, _, _, _, _, _, _, h, _⟩ := h; rw [h]; rfl; done)))) (fun Y hP hw hK hm hb B Gs G' ds r h => by subst hP hw hK hm hb; apply b_law_wrong <;> assumption)
  have E__law_wrong := fnE_of K__law_wrong g__law_wrong D__law_wrong.kp (D__law_wrong.bindsN fun _ _ _ _ _ _ us hl => match us, hl with | [_, _, _], _ => rfl)
  have K_law := fn_okG (P := P) (w := w) (mg := mg) (base := base) (S := S_law) D_law bk_law (fun ds r h => by first | (obtain ⟨_, h, _⟩ := h; rw [h]; rfl; done) | (obtain ⟨_, _, h, _⟩ := h; rw [h]; rfl; done) | (obtain ⟨_, _, _, h, _⟩ := h; rw [h]; rfl; done) | (obtain ⟨_, _, _, _, h, _⟩ := h; rw [h]; rfl; done) | (obtain ⟨_, _, _, _, _, h, _⟩ := h; rw [h]; rfl; done) | (obtain ⟨_, _, _, _, _, _, h, _⟩ := h; rw [h]; rfl; done) | (obtain ⟨_, _, _, _, _, _, _, h, _⟩ := h; rw [h]; rfl; done) | (obtain ⟨_, _, _, _, _, _, _, _, h, _⟩ := h; rw [h]; rfl; done) | (rcases h with h | h <;> (first | (obtain ⟨_, h, _⟩ := h; rw [h]; rfl; done) | (obtain ⟨_, _, h, _⟩ := h; rw [h]; rfl; done) | (obtain ⟨_, _, _, h, _⟩ := h; rw [h]; rfl; done) | (obtain ⟨_, _, _, _, h, _⟩ := h; rw [h]; rfl; done) | (obtain ⟨_, _, _, _, _, h, _⟩ := h; rw [h]; rfl; done) | (obtain ⟨_, _, _, _, _, _, h, _⟩ := h; rw [h]; rfl; done) | (obtain ⟨_, _, _, _, _, _, _, h, _⟩ := h; rw [h]; rfl; done) | (obtain ⟨_, _, _, _, _, _, _, _, h, _⟩ := h; rw [h]; rfl; done))) | (rcases h with h | h | h <;> (first | (obtain ⟨_, h, _⟩ := h; rw [h]; rfl; done) | (obtain ⟨_, _, h, _⟩ := h; rw [h]; rfl; done) | (obtain ⟨_, _, _, h, _⟩ := h; rw [h]; rfl; done) | (obtain ⟨_, _, _, _, h, _⟩ := h; rw [h]; rfl; done) | (obtain ⟨_, _, _, _, _, h, _⟩ := h; rw [h]; rfl; done) | (obtain ⟨_, _, _, _, _, _, h, _⟩ := h; rw [h]; rfl; done) | (obtain ⟨_, _, _, _, _, _, _, h, _⟩ := h; rw [h]; rfl; done) | (obtain ⟨_, _, _, _, _, _, _, _, h, _⟩ := h; rw [h]; rfl; done))) | (rcases h with h | h | h | h <;> (first | (obtain ⟨_, h, _⟩ := h; rw [h]; rfl; done) | (obtain ⟨_, _, h, _⟩ := h; rw [h]; rfl; done) | (obtain ⟨_, _, _, h, _⟩ := h; rw [h]; rfl; done) | (obtain ⟨_, _, _, _, h, _⟩ := h; rw [h]; rfl; done) | (obtain ⟨_, _, _, _, _, h, _⟩ := h; rw [h]; rfl; done) | (obtain ⟨_, _, _, _, _, _, h, _⟩ := h; rw [h]; rfl; done) | (obtain ⟨_, _, _, _, _, _, _, h, _⟩ := h; rw [h]; rfl; done) | (obtain ⟨_, _, _, _, _, _, _, _, h, _⟩ := h; rw [h]; rfl; done)))) (fun Y hP hw hK hm hb B hg Gs G' ds r h => by subst hP hw hK hm hb; apply b_law <;> assumption)
  exact K_law
end Mw
open PySem PySem.W PySem.Calls PyProof.Rows
set_option maxHeartbeats 0 in
theorem PySem.Challenge.cw_measurewise_k03_measures_holds : PySem.Challenge.rw_measurewise_k03_measures.Holds := by
  w_on; o_law
  refine HandSHeadRun.head_any (r := OpenLaw.row PySem.Challenge.rw_measurewise_k03_measures) (q := view (OpenLaw.row PySem.Challenge.rw_measurewise_k03_measures).prog [35]) (H := Mw.hk_) (ob := Mw.ob_) (M := 12000) (loose := Mw.names_) (d := HandSHeadRun.topDef (OpenLaw.row PySem.Challenge.rw_measurewise_k03_measures).prog 35) (kwd := []) Mw.ob_eq
    (by kernel_rfl) (fun s => by kernel_rfl) Mw.run_ (by kernel_rfl) (by kernel_rfl) (by kernel_rfl) (by rfl) (by first | assumption | decide +kernel) (by decide +kernel) ⟨rfl, rfl, rfl, rfl, rfl, by decide +kernel⟩ ?hw ?hc
  case hw => w_witness2
  case hc =>
    refine Mw.walk_G (l := PySem.Challenge.rw_measurewise_k03_measures) (n := 63) (k := 14) (x := "_law_script") (S := Mw.S_law) rfl (by decide) (by kernel_rfl) ⟨rfl, by decide, by decide⟩ ?F Mw.law_wish
    intro w mg fa h Y G hmg0
    obtain ⟨K, KX, c⟩ := Y
    have hmg : mg ("law" : PySem.Str) = some (.ref fa) := by
      have e : (HandSHeadRun.topDef (OpenLaw.row PySem.Challenge.rw_measurewise_k03_measures).prog 35).name = ("law" : PySem.Str) := by kernel_rfl
      rw [← e]
      exact hmg0
    obtain ⟨fd, hb, hF⟩ := Mw.facts_ (P := (PySem.Challenge.rw_measurewise_k03_measures).prog) (w := w) KX G hmg c
    exact ⟨K, fd, KX, hb, hF⟩
#print axioms PySem.Challenge.cw_measurewise_k03_measures_holds
