import PyProof.Rows.All
import Wide.All
import OpenK.AllK
import Wide.FinOn
import HandS.ForMost
import HandS.ForExc
import HandS.Wide
import HandS.WideBits
import HandS.ExcInit
import HandS.IsInst
import HandS.TryOnly
import HandS.ExcIs
import HandS.Comp
import HandS.FStr
import HandS.Style
import HandS.ExcSuper
import HandS.ExcField
import HandS.ExcBuiltin
import HandS.ClsMeth
import HandS.StrMore
import HandS.Dict
import HandS.HotCalls
import HandS.ExcInitHot
import HandS.Defaults
import PyProof.Rows.CountFlat
import PyProof.EqKinds
import HandS.Iter
import HandS.More
import HandS.ListItems
import HandS.SetFor
import HandS.SetTxt0
import PyProof.Rows.SortStr
import HandS.TupAny
import KE.KStateDown
import HandS.Head0
import HandS.Head1
import HandS.Head2
import HandS.HeadEnd
import HandS.EndBits
import HandS.HeadHook1
import HandS.HeadHook2
import PySem.Challenge.RW_measurewise_k02_units
import PyProof.Rows.StrSplitCount
import PyProof.Rows.StrFromFirst
import PyProof.Rows.RegReprOcc
set_option Elab.async false
set_option linter.all false
set_option maxRecDepth 100000
set_option maxHeartbeats 4000000
namespace Mw
open PySem PySem.Spec PyProof.Rows L2
/-! ### data: values without addresses -/
inductive D where
  | non | bl (b : Bool) | int (i : Int) | str (x : Str) | ty (n : String) | cls (a : Addr)
  | tup (xs : List D) | lst (xs : List D) | dct (kvs : List (Key × D)) | obj (C : Addr) (fs : List (Str × D)) | xc (a dd : Addr) (fs : List (Str × D)) | exv (C : Addr) (fs : List (Str × D))
mutual
/-- the value v is the datum d, in the heap H -/
def Is (K : PySem.W.Frag) (H : Hp) : D → V → Prop
  | .non, v => v = .non
  | .bl b, v => v = .bl b
  | .int i, v => v = .int i
  | .str x, v => v = .str x
  | .ty n, v => v = .ty n
  | .cls a, v => v = .ref a
  | .tup ds, v => ∃ a vs, v = .ref a ∧ SqT K H a vs ∧ IsL K H ds vs
  | .lst ds, v => ∃ a vs, v = .ref a ∧ SqL K H a vs ∧ IsL K H ds vs
  | .dct ks, v => ∃ a kvs, v = .ref a ∧ Rd H a (.dK kvs) ∧ IsK K H ks kvs
  | .obj C fs, v => ∃ a dx gs, v = .ref a ∧ H a = some (.ins C dx gs) ∧ IsF K H fs gs
  | .xc a dd fs, v => ∃ gs, v = .ref a ∧ H dd = some (.xd gs) ∧ IsF K H fs gs
  | .exv C fs, v => ∃ a dx gs, v = .ref a ∧ H a = some (exo a C (some dx)) ∧ H dx = some (exd dx gs) ∧ IsF K H fs gs
def IsL (K : PySem.W.Frag) (H : Hp) : List D → List V → Prop
  | [], vs => vs = []
  | d :: ds, vs => ∃ v r, vs = v :: r ∧ Is K H d v ∧ IsL K H ds r
def IsK (K : PySem.W.Frag) (H : Hp) : List (Key × D) → List (Key × V) → Prop
  | [], vs => vs = []
  | (k, d) :: ds, vs => ∃ v r, vs = (k, v) :: r ∧ Is K H d v ∧ IsK K H ds r
def IsF (K : PySem.W.Frag) (H : Hp) : List (Str × D) → List (Str × V) → Prop
  | [], vs => vs = []
  | (k, d) :: ds, vs => ∃ v r, vs = (k, v) :: r ∧ Is K H d v ∧ IsF K H ds r
end
theorem Same.rd {H H' : Hp} {a : Addr} {u : HO} (e : Same H H') (h : Rd H a u) : Rd H' a u := by
  rcases h with h | ⟨o, h⟩
  · exact Or.inl (e a _ h)
  · exact Or.inr ⟨o, e a _ h⟩
theorem Same.tup {K : PySem.W.Frag} {H H' : Hp} {a : Addr} {xs : List V} (e : Same H H') (h : SqT K H a xs) : SqT K H' a xs := by
  rcases h with h | h
  · exact Or.inl (Same.rd e h)
  · exact Or.inr h
theorem Same.lst {K : PySem.W.Frag} {H H' : Hp} {a : Addr} {xs : List V} (e : Same H H') (h : SqL K H a xs) : SqL K H' a xs := by
  rcases h with h | h
  · exact Or.inl (Same.rd e h)
  · exact Or.inr h
section
variable {K : PySem.W.Frag} {H H' : Hp}
mutual
theorem Is.mono (e : Same H H') : ∀ {d : D} {v : V}, Is K H d v → Is K H' d v
  | .non, _, h => h
  | .bl _, _, h => h
  | .int _, _, h => h
  | .str _, _, h => h
  | .ty _, _, h => h
  | .cls _, _, h => h
  | .tup ds, _, h => by
    obtain ⟨a, vs, h1, h2, h3⟩ := h
    exact ⟨a, vs, h1, Same.tup e h2, IsL.mono e h3⟩
  | .lst ds, _, h => by
    obtain ⟨a, vs, h1, h2, h3⟩ := h
    exact ⟨a, vs, h1, Same.lst e h2, IsL.mono e h3⟩
  | .dct ds, _, h => by
    obtain ⟨a, vs, h1, h2, h3⟩ := h
    exact ⟨a, vs, h1, Same.rd e h2, IsK.mono e h3⟩
  | .obj C fs, _, h => by
    obtain ⟨a, dx, vs, h1, h2, h3⟩ := h
    exact ⟨a, dx, vs, h1, e _ _ h2, IsF.mono e h3⟩
  | .xc a dd fs, _, h => by
    obtain ⟨vs, h1, h2, h3⟩ := h
    exact ⟨vs, h1, e _ _ h2, IsF.mono e h3⟩
  | .exv C fs, _, h => by
    obtain ⟨a, dx, vs, h1, h2, h3, h4⟩ := h
    exact ⟨a, dx, vs, h1, e _ _ h2, e _ _ h3, IsF.mono e h4⟩
theorem IsL.mono (e : Same H H') : ∀ {ds : List D} {vs : List V}, IsL K H ds vs → IsL K H' ds vs
  | [], _, h => h
  | d :: ds, _, h => by
    obtain ⟨v, r, h1, h2, h3⟩ := h
    exact ⟨v, r, h1, Is.mono e h2, IsL.mono e h3⟩
theorem IsK.mono (e : Same H H') : ∀ {ds : List (Key × D)} {vs : List (Key × V)}, IsK K H ds vs → IsK K H' ds vs
  | [], _, h => h
  | (k, d) :: ds, _, h => by
    obtain ⟨v, r, h1, h2, h3⟩ := h
    exact ⟨v, r, h1, Is.mono e h2, IsK.mono e h3⟩
theorem IsF.mono (e : Same H H') : ∀ {ds : List (Str × D)} {vs : List (Str × V)}, IsF K H ds vs → IsF K H' ds vs
  | [], _, h => h
  | (k, d) :: ds, _, h => by
    obtain ⟨v, r, h1, h2, h3⟩ := h
    exact ⟨v, r, h1, Is.mono e h2, IsF.mono e h3⟩
end
theorem IsL.len : ∀ {ds : List D} {vs : List V}, IsL K H ds vs → vs.length = ds.length
  | [], _, h => by rw [show _ = [] from h]; rfl
  | d :: ds, _, h => by
    obtain ⟨v, r, h1, h2, h3⟩ := h
    rw [h1, List.length_cons, List.length_cons, IsL.len h3]
theorem IsL.get : ∀ {ds : List D} {vs : List V} {i : Nat} {d : D}, IsL K H ds vs → ds[i]? = some d → ∃ v, vs[i]? = some v ∧ Is K H d v
  | [], _, _, _, _, e => by simp at e
  | d :: ds, _, 0, d', h, e => by
    obtain ⟨v, r, h1, h2, h3⟩ := h
    rw [List.getElem?_cons_zero] at e
    cases e
    exact ⟨v, by rw [h1]; rfl, h2⟩
  | d :: ds, _, i + 1, d', h, e => by
    obtain ⟨v, r, h1, h2, h3⟩ := h
    rw [List.getElem?_cons_succ] at e
    obtain ⟨u, q1, q2⟩ := IsL.get h3 e
    exact ⟨u, by rw [h1, List.getElem?_cons_succ]; exact q1, q2⟩
theorem IsL.app : ∀ {ds es : List D} {vs ws : List V}, IsL K H ds vs → IsL K H es ws → IsL K H (ds ++ es) (vs ++ ws)
  | [], es, vs, ws, h, g => by rw [show vs = [] from h]; exact g
  | d :: ds, es, vs, ws, h, g => by
    obtain ⟨v, r, h1, h2, h3⟩ := h
    exact ⟨v, r ++ ws, by rw [h1]; rfl, h2, IsL.app h3 g⟩
theorem IsL.one {d : D} {v : V} (h : Is K H d v) : IsL K H [d] [v] := ⟨v, [], rfl, h, rfl⟩
theorem IsL.cons {d : D} {v : V} {ds : List D} {vs : List V} (h : Is K H d v) (g : IsL K H ds vs) : IsL K H (d :: ds) (v :: vs) := ⟨v, vs, rfl, h, g⟩
theorem IsL.set : ∀ {ds : List D} {vs : List V} {d : D} {v : V} (i : Nat), IsL K H ds vs → Is K H d v → IsL K H (ds.set i d) (vs.set i v)
  | [], _, _, _, _, h, _ => by rw [show _ = [] from h]; exact rfl
  | d :: ds, _, _, _, 0, h, q => by
    obtain ⟨v, r, h1, h2, h3⟩ := h
    rw [h1]
    exact ⟨_, r, rfl, q, h3⟩
  | d :: ds, _, _, _, i + 1, h, q => by
    obtain ⟨v, r, h1, h2, h3⟩ := h
    rw [h1]
    exact ⟨v, r.set i _, rfl, h2, IsL.set i h3 q⟩
theorem IsL.map_int : ∀ {ns : List Int}, IsL K H (ns.map D.int) (ns.map V.int)
  | [] => rfl
  | n :: ns => ⟨_, _, rfl, rfl, IsL.map_int⟩
theorem IsL.take : ∀ {ds : List D} {vs : List V} (n : Nat), IsL K H ds vs → IsL K H (ds.take n) (vs.take n)
  | [], _, n, h => by rw [show _ = [] from h, List.take_nil, List.take_nil]; exact rfl
  | d :: ds, _, 0, h => by rw [List.take_zero, List.take_zero]; exact rfl
  | d :: ds, _, n + 1, h => by
    obtain ⟨v, r, h1, h2, h3⟩ := h
    rw [h1]
    exact ⟨v, r.take n, rfl, h2, IsL.take n h3⟩
theorem IsL.drop : ∀ {ds : List D} {vs : List V} (n : Nat), IsL K H ds vs → IsL K H (ds.drop n) (vs.drop n)
  | [], _, n, h => by rw [show _ = [] from h, List.drop_nil, List.drop_nil]; exact rfl
  | d :: ds, _, 0, h => h
  | d :: ds, _, n + 1, h => by
    obtain ⟨v, r, h1, h2, h3⟩ := h
    rw [h1]
    exact IsL.drop n h3
end
/-! ### growth of a heap H with a frozen part H0 -/
structure Grow (H0 H H0' H' : Hp) : Prop where
  frz : Same H0 H0'
  all : Same H H'
  sub : Same H0' H'
  new : ∀ a, H0' a ≠ none → H0 a ≠ none ∨ H a = none
theorem Grow.refl {H0 H : Hp} (h : Same H0 H) : Grow H0 H H0 H := ⟨Same.refl _, Same.refl _, h, fun _ x => .inl x⟩
theorem Grow.trans {H0 H H0' H' H0'' H'' : Hp} (g : Grow H0 H H0' H') (g' : Grow H0' H' H0'' H'') : Grow H0 H H0'' H'' :=
  ⟨g.frz.trans g'.frz, g.all.trans g'.all, g'.sub, fun a x => by
    rcases g'.new a x with q | q
    · exact g.new a q
    · exact .inr (g.all.free q)⟩
theorem Same.new {H : Hp} {p : Addr} {o : HO} (h : H p = none) : Same H (upd H p o) := fun a u e => by
  rw [upd_ne (ne_of_none e h)]
  exact e
/-- a new object, frozen at once -/
theorem Grow.laid {H0 H : Hp} {p : Addr} {o : HO} (h : Same H0 H) (hp : H p = none) : Grow H0 H (upd H0 p o) (upd H p o) := by
  have h0 : H0 p = none := h.free hp
  refine ⟨Same.new h0, Same.new hp, fun a u e => ?_, fun a x => ?_⟩
  · by_cases z : a = p
    · rw [z, upd_same] at e ⊢; exact e
    · rw [upd_ne z] at e ⊢; exact h a u e
  · by_cases z : a = p
    · rw [z]; exact .inr hp
    · rw [upd_ne z] at x; exact .inl x
/-- a new object, not frozen -/
theorem Grow.made {H0 H : Hp} {p : Addr} {o : HO} (h : Same H0 H) (hp : H p = none) : Grow H0 H H0 (upd H p o) :=
  ⟨Same.refl _, Same.new hp, h.trans (Same.new hp), fun _ x => .inl x⟩
theorem Grow.start {H0 H H0' H' : Hp} (g : Grow H0 H H0' H') (h : Same H0 H) : Same H0 H' := h.trans g.all
/-! ### the largest readings -/
def re (X : Cx) (e : Expr) : TE := fun σ H Q => ∀ (pins : List (Addr × Obj)) (s : Shared), Inv X pins σ H s → wpAny (model X.prog X.w) X.A (eval e X.env) (EP X pins σ Q) X.xe s
def rt (X : Cx) (e : Expr) : TT := fun σ H Q => ∀ (pins : List (Addr × Obj)) (s : Shared), Inv X pins σ H s → wpAny (model X.prog X.w) X.A (isTrue e X.env (eval e X.env)) (TP X pins σ Q) X.xe s
def ra (X : Cx) (es : List Expr) : TA := fun σ H Q => ∀ (pos : Pos) (pins : List (Addr × Obj)) (s : Shared), Inv X pins σ H s → wpAny (model X.prog X.w) X.A (spliced (backTo pos (starEach es X.env))) (AP X pins σ Q) X.xe s
def rs (X : Cx) (st : Stmt) : TS := fun D σ H => ∀ (pins : List (Addr × Obj)) (s : Shared), Inv X pins σ H s → wpAny (model X.prog X.w) X.A (exec st X.env) (SP X pins D) X.xe s
def rss (X : Cx) (sts : List Stmt) : TS := fun D σ H => ∀ (pins : List (Addr × Obj)) (s : Shared), Inv X pins σ H s → wpAny (model X.prog X.w) X.A (execs sts X.env) (SP X pins D) X.xe s
section
variable {X : Cx} {e : Expr} {es : List Expr} {st : Stmt} {sts : List Stmt} {σ : L2.St} {H : Hp}
theorem re_pe : PE X e (re X e) := ⟨fun pins s σ H Q I h => h pins s I⟩
theorem rt_pt : PT X e (rt X e) := ⟨fun pins s σ H Q I h => h pins s I⟩
theorem ra_pa : PA X es (ra X es) := ⟨fun pos pins s σ H Q I h => h pos pins s I⟩
theorem rs_ps : PS X st (rs X st) := ⟨fun pins s σ H D I h => h pins s I⟩
theorem rss_pss : PSs X sts (rss X sts) := ⟨fun pins s σ H D I h => h pins s I⟩
theorem re_of {t : TE} {Q : VK} (h : PE X e t) (q : t σ H Q) : re X e σ H Q := fun pins s I => h.run pins s σ H Q I q
theorem rt_of {t : TT} {Q : Bool → Hp → Prop} (h : PT X e t) (q : t σ H Q) : rt X e σ H Q := fun pins s I => h.run pins s σ H Q I q
theorem ra_of {t : TA} {Q : List V → Hp → Prop} (h : PA X es t) (q : t σ H Q) : ra X es σ H Q := fun pos pins s I => h.run pos pins s σ H Q I q
theorem rs_of {t : TS} {D : Ends} (h : PS X st t) (q : t D σ H) : rs X st D σ H := fun pins s I => h.run pins s σ H D I q
theorem rss_of {t : TS} {D : Ends} (h : PSs X sts t) (q : t D σ H) : rss X sts D σ H := fun pins s I => h.run pins s σ H D I q
end
/-- the largest wish that X takes -/
def wx (X : Cx) : WX := fun cls d σ H => ∃ W : WX, Takes X W ∧ W cls d σ H
theorem wx_takes {X : Cx} : Takes X (wx X) := fun u s' ⟨a, B, sI, pins, σ, H, cls, d, e, I, nb, up, sky, na, os, ag, W, t, w⟩ =>
  t u s' ⟨a, B, sI, pins, σ, H, cls, d, e, I, nb, up, sky, na, os, ag, w⟩
theorem wx_of {X : Cx} {W : WX} {cls : Value} {d : Option Addr} {σ : L2.St} {H : Hp} (t : Takes X W) (w : W cls d σ H) : wx X cls d σ H := ⟨W, t, w⟩
/-! ### exceptions as data -/
structure Exn where
  cls : Addr
  fs : List (Str × D) := []
def IsX (K : PySem.W.Frag) (H0 H : Hp) (c : Value) (d : Option Addr) (x : Exn) : Prop :=
  c = .ref x.cls ∧ ((x.fs = [] ∧ d = none) ∨ x.fs ≠ [] ∧ ∃ dd gs, d = some dd ∧ H0 dd = some (.xd gs) ∧ IsF K H0 x.fs gs)
/-! ### expressions over data -/
abbrev DE := List (Option D)
def SlF (K : PySem.W.Frag) (H0 : Hp) (σ : L2.St) (as : DE) : Prop := ∀ (i : Nat) (d : D), as[i]? = some (some d) → ∃ v, σ[i]? = some (some v) ∧ Is K H0 d v
theorem SlF.mono {K : PySem.W.Frag} {H0 H1 : Hp} {σ : L2.St} {as : DE} (h : SlF K H0 σ as) (e : Same H0 H1) : SlF K H1 σ as := fun i d q =>
  let ⟨v, a, b⟩ := h i d q
  ⟨v, a, b.mono e⟩
/-- e is worth d -/
structure EE (X : Cx) (e : Expr) (as : DE) (d : D) : Prop where
  run : ∀ (σ : L2.St) (H0 H : Hp), Same H0 H → SlF X.K H0 σ as → ∀ Q : VK, (∀ v H0' H', Grow H0 H H0' H' → Is X.K H0' d v → Q v H') → re X e σ H Q
/-- es are worth ds -/
structure EA (X : Cx) (es : List Expr) (as : DE) (ds : List D) : Prop where
  run : ∀ (σ : L2.St) (H0 H : Hp), Same H0 H → SlF X.K H0 σ as → ∀ Q : List V → Hp → Prop, (∀ vs H0' H', Grow H0 H H0' H' → IsL X.K H0' ds vs → Q vs H') → ra X es σ H Q
/-- the test e comes out as b -/
structure ET (X : Cx) (e : Expr) (as : DE) (b : Bool) : Prop where
  run : ∀ (σ : L2.St) (H0 H : Hp), Same H0 H → SlF X.K H0 σ as → ∀ Q : Bool → Hp → Prop, (∀ H0' H', Grow H0 H H0' H' → Q b H') → rt X e σ H Q
/-- e raises x -/
structure EX (X : Cx) (e : Expr) (as : DE) (x : Exn) : Prop where
  run : ∀ (σ : L2.St) (H0 H : Hp), Same H0 H → SlF X.K H0 σ as → ∀ Q : VK, (∀ c dd H0' H', Grow H0 H H0' H' → IsX X.K H0' H' c dd x → wx X c dd σ H') → re X e σ H Q
/-- what is at a new address, its parts frozen -/
def Own (K : PySem.W.Frag) (H0 H : Hp) (a : Addr) : D → Prop
  | .lst ds => ∃ vs, H a = some (.lst vs) ∧ IsL K H0 ds vs
  | .dct ks => ∃ kvs, H a = some (.dK kvs) ∧ IsK K H0 ks kvs
  | .obj C fs => ∃ dx gs, H a = some (.ins C dx gs) ∧ IsF K H0 fs gs
  | _ => False
/-- e makes a new d -/
structure EN (X : Cx) (e : Expr) (as : DE) (d : D) : Prop where
  run : ∀ (σ : L2.St) (H0 H : Hp), Same H0 H → SlF X.K H0 σ as → ∀ Q : VK, (∀ a H0' H', Grow H0 H H0' H' → H a = none → H0' a = none → Own X.K H0' H' a d → Q (.ref a) H') → re X e σ H Q
theorem Own.is {K : PySem.W.Frag} {H0 H : Hp} {a : Addr} : ∀ {d : D}, Own K H0 H a d → Same H0 H → Is K H d (.ref a)
  | .lst ds, ⟨vs, h1, h2⟩, e => ⟨a, vs, rfl, SqL.of h1, h2.mono e⟩
  | .dct ks, ⟨vs, h1, h2⟩, e => ⟨a, vs, rfl, .inl h1, h2.mono e⟩
  | .obj C fs, ⟨dx, gs, h1, h2⟩, e => ⟨a, dx, gs, rfl, h1, h2.mono e⟩
  | .non, h, _ => h.elim
  | .bl _, h, _ => h.elim
  | .int _, h, _ => h.elim
  | .str _, h, _ => h.elim
  | .ty _, h, _ => h.elim
  | .cls _, h, _ => h.elim
  | .tup _, h, _ => h.elim
  | .xc _ _ _, h, _ => h.elim
  | .exv _ _, h, _ => h.elim
theorem Own.frz {K : PySem.W.Frag} {H0 H H0' : Hp} {a : Addr} (e : Same H0 H0') (h2 : H0' a = H a) : ∀ {d : D}, Own K H0 H a d → Is K H0' d (.ref a)
  | .lst ds, ⟨vs, h1, h⟩ => ⟨a, vs, rfl, SqL.of (h2.trans h1), h.mono e⟩
  | .dct ks, ⟨vs, h1, h⟩ => ⟨a, vs, rfl, .inl (h2.trans h1), h.mono e⟩
  | .obj C fs, ⟨dx, gs, h1, h⟩ => ⟨a, dx, gs, rfl, h2.trans h1, h.mono e⟩
  | .non, h => h.elim
  | .bl _, h => h.elim
  | .int _, h => h.elim
  | .str _, h => h.elim
  | .ty _, h => h.elim
  | .cls _, h => h.elim
  | .tup _, h => h.elim
  | .xc _ _ _, h => h.elim
  | .exv _ _, h => h.elim
theorem Own.keep {K : PySem.W.Frag} {H0 H H0' H' : Hp} {a : Addr} (e : Same H0 H0') (h2 : ∀ o, H a = some o → H' a = some o) : ∀ {d : D}, Own K H0 H a d → Own K H0' H' a d
  | .lst ds, ⟨vs, h1, h⟩ => ⟨vs, h2 _ h1, h.mono e⟩
  | .dct ks, ⟨vs, h1, h⟩ => ⟨vs, h2 _ h1, h.mono e⟩
  | .obj C fs, ⟨dx, gs, h1, h⟩ => ⟨dx, gs, h2 _ h1, h.mono e⟩
  | .non, h => h.elim
  | .bl _, h => h.elim
  | .int _, h => h.elim
  | .str _, h => h.elim
  | .ty _, h => h.elim
  | .cls _, h => h.elim
  | .tup _, h => h.elim
  | .xc _ _ _, h => h.elim
  | .exv _ _, h => h.elim
theorem Own.some {K : PySem.W.Frag} {H0 H : Hp} {a : Addr} : ∀ {d : D}, Own K H0 H a d → ∃ o, H a = some o
  | .lst ds, ⟨vs, h1, h⟩ => ⟨_, h1⟩
  | .dct ks, ⟨vs, h1, h⟩ => ⟨_, h1⟩
  | .obj C fs, ⟨dx, gs, h1, h⟩ => ⟨_, h1⟩
  | .non, h => h.elim
  | .bl _, h => h.elim
  | .int _, h => h.elim
  | .str _, h => h.elim
  | .ty _, h => h.elim
  | .cls _, h => h.elim
  | .tup _, h => h.elim
  | .xc _ _ _, h => h.elim
  | .exv _ _, h => h.elim
/-- freeze what is new -/
theorem Grow.freeze {H0 H H0' H' : Hp} {a : Addr} {o : HO} (g : Grow H0 H H0' H') (ha : H a = none) (h0 : H0' a = none) (ho : H' a = some o) : Grow H0 H (upd H0' a o) H' := by
  refine ⟨g.frz.trans (Same.new h0), g.all, fun b u e => ?_, fun b x => ?_⟩
  · by_cases z : b = a
    · rw [z, upd_same] at e; rw [z, ho]; exact e
    · rw [upd_ne z] at e; exact g.sub b u e
  · by_cases z : b = a
    · rw [z]; exact .inr ha
    · rw [upd_ne z] at x; exact g.new b x
theorem EN.ee {X : Cx} {e : Expr} {as : DE} {d : D} (h : EN X e as d) : EE X e as d := .mk fun σ H0 H hs hf Q q =>
  h.run σ H0 H hs hf Q fun a H0' H' g ha h0 ho => by
    obtain ⟨o, e⟩ := ho.some
    exact q (.ref a) (upd H0' a o) H' (g.freeze ha h0 e) (ho.frz (Same.new h0) (by rw [upd_same, e]))
end Mw
set_option maxHeartbeats 4000000
namespace Mw
open PySem PySem.Spec PyProof.Rows L2
/-! ### expressions -/
section
variable {X : Cx} {as : DE} {d x y : D} {a b e : Expr} {es : List Expr} {ds : List D} {pos : Pos}
theorem EE.mk_c {v : V} {d : D} {e : Expr} (h : PE X e (tC v)) (hv : ∀ H, Is X.K H d v) : EE X e as d := .mk fun σ H0 H hs hf Q q =>
  re_of h (q v H0 H (Grow.refl hs) (hv H0))
theorem ee_name (i : Nat) {n : Str} (hi : X.N[i]? = some n) (hv : Vis X.env.scope n) (ha : as[i]? = some (some d)) (hd : (n == ("__debug__" : Str)) = false := by decide) (hcd : (n == ("__classdict__" : Str)) = false := by decide) : EE X (.Name n pos) as d := .mk fun σ H0 H hs hf Q q =>
  let ⟨v, e, h⟩ := hf i d ha
  re_of (pe_var hi hv hd hcd) ⟨v, e, q v H0 H (Grow.refl hs) h⟩
theorem ee_int {i : Int} {j : Nat} : EE X (.Constant (.int i) j pos) as (.int i) := .mk_c pe_int fun _ => rfl
theorem ee_bl {k : Bool} {j : Nat} : EE X (.Constant (.bool k) j pos) as (.bl k) := .mk_c pe_bl fun _ => rfl
theorem ee_non {j : Nat} : EE X (.Constant .none j pos) as .non := .mk_c pe_non fun _ => rfl
theorem ee_str {z : Str} {j : Nat} : EE X (.Constant (.str z) j pos) as (.str z) := .mk_c pe_str fun _ => rfl
theorem ee_glob {n : Str} {u : Value} (hg : Gl X n) (hm : X.mg n = some u) {v : V} (r : RelV v u) (hv : ∀ H, Is X.K H d v) (hd : (n == ("__debug__" : Str)) = false := by decide) : EE X (.Name n pos) as d := .mk_c (pe_glob hg hm r hd) hv
theorem ee_bltn {n : Str} {u : Value} (hg : Gl X n) (hm : X.mg n = none) (hb : bootBuiltins n = some u) {v : V} (r : RelV v u) (hv : ∀ H, Is X.K H d v) (hn : n ≠ "__name__" := by decide) (hd : (n == ("__debug__" : Str)) = false := by decide) : EE X (.Name n pos) as d := .mk_c (pe_bltn hg hm hb r hn hd) hv
/-- a two-place operation on data -/
def OpD (X : Cx) (f : Value → Value → Sem Value) (x y d : D) : Prop :=
  ∃ r : R2, OpR X f r ∧ ∀ v w H0 H, Same H0 H → Is X.K H0 x v → Is X.K H0 y w → ∀ Q : VK, (∀ z H0' H', Grow H0 H H0' H' → Is X.K H0' d z → Q z H') → r v w H Q
/-- an operation that gives a bool or a number, whatever -/
theorem OpD.flat {f : Value → Value → Sem Value} {r : R2} {z : V} (ho : OpR X f r) (hz : ∀ H, Is X.K H d z)
    (hr : ∀ v w H, Is X.K H x v → Is X.K H y w → ∀ Q : VK, Q z H → r v w H Q) : OpD X f x y d :=
  ⟨r, ho, fun v w H0 H hs hx hy Q q => hr v w H (hx.mono hs) (hy.mono hs) Q (q z H0 H (Grow.refl hs) (hz H0))⟩
theorem ee_bin {op : Operator} (ha : EE X a as x) (hb : EE X b as y) (ho : OpD X (binaryOp op) x y d) : EE X (.BinOp a op b pos) as d := .mk fun σ H0 H hs hf Q q => by
  obtain ⟨r, ho, hr⟩ := ho
  refine re_of (pe_op ho re_pe re_pe) ?_
  exact ha.run σ H0 H hs hf _ fun v H1 H' g i1 => hb.run σ H1 H' g.sub (hf.mono g.frz) _ fun w H2 H'' g' i2 => hr v w H2 H'' g'.sub (i1.mono g'.frz) i2 Q fun z _ _ g'' i => q z _ _ ((g.trans g').trans g'') i
theorem ee_cmp {op : CmpOp} (ha : EE X a as x) (hb : EE X b as y) (ho : OpD X (compareOp op) x y d) (hm : behindInMarks op b = false) : EE X (.Compare a [op] [b] pos) as d := .mk fun σ H0 H hs hf Q q => by
  obtain ⟨r, ho, hr⟩ := ho
  refine re_of (pe_cmpR ho re_pe re_pe hm) ?_
  exact ha.run σ H0 H hs hf _ fun v H1 H' g i1 => hb.run σ H1 H' g.sub (hf.mono g.frz) _ fun w H2 H'' g' i2 => hr v w H2 H'' g'.sub (i1.mono g'.frz) i2 Q fun z _ _ g'' i => q z _ _ ((g.trans g').trans g'') i
theorem et_cmp {op : CmpOp} {k : Bool} (ha : EE X a as x) (hb : EE X b as y) (ho : OpD X (compareOp op) x y (.bl k)) (hm : behindInMarks op b = false) : ET X (.Compare a [op] [b] pos) as k := .mk fun σ H0 H hs hf Q q => by
  obtain ⟨r, ho, hr⟩ := ho
  refine rt_of (pt_cmpR ho re_pe re_pe hm) ?_
  exact ha.run σ H0 H hs hf _ fun v H1 H' g i1 => hb.run σ H1 H' g.sub (hf.mono g.frz) _ fun w H2 H'' g' i2 => hr v w H2 H'' g'.sub (i1.mono g'.frz) i2 _ fun z _ _ g'' i => ⟨k, i, q _ _ ((g.trans g').trans g'')⟩
/-- an expression that gives a bool, as a test -/
theorem et_val {k : Bool} (h : EE X e as (.bl k)) (he : ∀ whole, isTrue e X.env whole = (do let v ← whole; standAt e.pos; holding [v] (truthy v)) := by intro _; rfl) : ET X e as k := .mk fun σ H0 H hs hf Q q =>
  rt_of (pt_val re_pe he) (h.run σ H0 H hs hf _ fun v H1 H' g i => ⟨k, i, q _ _ g⟩)
theorem et_not {k : Bool} (h : ET X a as k) : ET X (.UnaryOp .Not a pos) as (!k) := .mk fun σ H0 H hs hf Q q =>
  rt_of (pt_not rt_pt) (h.run σ H0 H hs hf _ fun H1 H' g => q _ _ g)
/-- and, or as tests: whatever whole is -/
structure EW (X : Cx) (e : Expr) (as : DE) (b : Bool) : Prop where
  run : ∀ (σ : L2.St) (H0 H : Hp), Same H0 H → SlF X.K H0 σ as → ∀ Q : Bool → Hp → Prop, (∀ H0' H', Grow H0 H H0' H' → Q b H') → ∀ (whole : Sem Value) (pins : List (Addr × Obj)) (s : Shared), Inv X pins σ H s → wpAny (model X.prog X.w) X.A (isTrue e X.env whole) (TP X pins σ Q) X.xe s
theorem EW.et {k : Bool} (h : EW X e as k) : ET X e as k := .mk fun σ H0 H hs hf Q q pins s I => h.run σ H0 H hs hf Q q _ pins s I
def rw_ (X : Cx) (e : Expr) : TT := fun σ H Q => ∀ (whole : Sem Value) (pins : List (Addr × Obj)) (s : Shared), Inv X pins σ H s → wpAny (model X.prog X.w) X.A (isTrue e X.env whole) (TP X pins σ Q) X.xe s
theorem rw_pw : PW X e (rw_ X e) := ⟨fun wh pins s σ H Q I h => h wh pins s I⟩
theorem rw_of {t : TT} {σ : L2.St} {H : Hp} {Q : Bool → Hp → Prop} (h : PW X e t) (q : t σ H Q) : rw_ X e σ H Q := fun wh pins s I => h.run wh pins s σ H Q I q
theorem ew_and1 {k : Bool} (h : ET X a as k) : EW X (.BoolOp .And [a] pos) as k := .mk fun σ H0 H hs hf Q q =>
  rw_of (pw_and1 rt_pt) (h.run σ H0 H hs hf _ q)
theorem ew_or1 {k : Bool} (h : ET X a as k) : EW X (.BoolOp .Or [a] pos) as k := .mk fun σ H0 H hs hf Q q =>
  rw_of (pw_or1 rt_pt) (h.run σ H0 H hs hf _ q)
theorem ew_and {k l : Bool} (h : ET X a as k) (h2 : k = true → EW X (.BoolOp .And (b :: es) pos) as l) : EW X (.BoolOp .And (a :: b :: es) pos) as (k && l) := .mk fun σ H0 H hs hf Q q =>
  rw_of (pw_and rt_pt rw_pw) (h.run σ H0 H hs hf _ fun H1 H' g => by
    cases k with
    | true =>
      rw [if_pos rfl]
      exact (h2 rfl).run σ H1 H' g.sub (hf.mono g.frz) _ fun _ _ g' => q _ _ (g.trans g')
    | false =>
      rw [if_neg Bool.false_ne_true]
      exact q _ _ g)
theorem ew_or {k l : Bool} (h : ET X a as k) (h2 : k = false → EW X (.BoolOp .Or (b :: es) pos) as l) : EW X (.BoolOp .Or (a :: b :: es) pos) as (k || l) := .mk fun σ H0 H hs hf Q q =>
  rw_of (pw_or rt_pt rw_pw) (h.run σ H0 H hs hf _ fun H1 H' g => by
    cases k with
    | true =>
      rw [if_pos rfl]
      exact q _ _ g
    | false =>
      rw [if_neg Bool.false_ne_true]
      exact (h2 rfl).run σ H1 H' g.sub (hf.mono g.frz) _ fun _ _ g' => q _ _ (g.trans g'))
/-- as values, of bools -/
theorem ee_one {op : BoolOp} (h : EE X a as d) : EE X (.BoolOp op [a] pos) as d := .mk fun σ H0 H hs hf Q q => re_of (pe_one re_pe) (h.run σ H0 H hs hf Q q)
theorem ee_and {k l : Bool} (h : EE X a as (.bl k)) (h2 : k = true → EE X (.BoolOp .And (b :: es) pos) as (.bl l)) : EE X (.BoolOp .And (a :: b :: es) pos) as (.bl (k && l)) := .mk fun σ H0 H hs hf Q q =>
  re_of (pe_and re_pe re_pe) (h.run σ H0 H hs hf _ fun v H1 H' g i => by
    refine ⟨k, i, ?_⟩
    cases k with
    | true =>
      rw [if_pos rfl]
      exact (h2 rfl).run σ H1 H' g.sub (hf.mono g.frz) _ fun _ _ _ g' i' => q _ _ _ (g.trans g') i'
    | false =>
      rw [if_neg Bool.false_ne_true]
      exact q _ _ _ g rfl)
theorem ee_or {k l : Bool} (h : EE X a as (.bl k)) (h2 : k = false → EE X (.BoolOp .Or (b :: es) pos) as (.bl l)) : EE X (.BoolOp .Or (a :: b :: es) pos) as (.bl (k || l)) := .mk fun σ H0 H hs hf Q q =>
  re_of (pe_or re_pe re_pe) (h.run σ H0 H hs hf _ fun v H1 H' g i => by
    refine ⟨k, i, ?_⟩
    cases k with
    | true =>
      rw [if_pos rfl]
      exact q _ _ _ g rfl
    | false =>
      rw [if_neg Bool.false_ne_true]
      exact (h2 rfl).run σ H1 H' g.sub (hf.mono g.frz) _ fun _ _ _ g' i' => q _ _ _ (g.trans g') i')
theorem ee_not {k : Bool} (h : EE X a as (.bl k)) : EE X (.UnaryOp .Not a pos) as (.bl (!k)) := .mk fun σ H0 H hs hf Q q =>
  re_of (pe_not re_pe) (h.run σ H0 H hs hf _ fun v H1 H' g i => ⟨k, i, q _ _ _ g rfl⟩)
/-- a if c else b -/
theorem ee_if {c : Expr} {k : Bool} {d1 d2 : D} (h : ET X c as k) (h1 : k = true → EE X a as d1) (h2 : k = false → EE X b as d2) : EE X (.IfExp c a b pos) as (if k = true then d1 else d2) := .mk fun σ H0 H hs hf Q q =>
  re_of (pe_ifExp rt_pt re_pe re_pe) (h.run σ H0 H hs hf _ fun H1 H' g => by
    cases k with
    | true =>
      rw [if_pos rfl]
      exact (h1 rfl).run σ H1 H' g.sub (hf.mono g.frz) _ fun _ _ _ g' i' => q _ _ _ (g.trans g') (by rw [if_pos rfl]; exact i')
    | false =>
      rw [if_neg Bool.false_ne_true]
      exact (h2 rfl).run σ H1 H' g.sub (hf.mono g.frz) _ fun _ _ _ g' i' => q _ _ _ (g.trans g') (by rw [if_neg Bool.false_ne_true]; exact i'))
theorem ee_ifT {c : Expr} {d1 : D} (h : ET X c as true) (h1 : EE X a as d1) : EE X (.IfExp c a b pos) as d1 := by
  have q := ee_if (X := X) (as := as) (c := c) (a := a) (b := b) (d1 := d1) (d2 := d1) (pos := pos) h (fun _ => h1) (fun z => nomatch z)
  rw [if_pos rfl] at q
  exact q
theorem ee_ifF {c : Expr} {d1 : D} (h : ET X c as false) (h1 : EE X b as d1) : EE X (.IfExp c a b pos) as d1 := by
  have q := ee_if (X := X) (as := as) (c := c) (a := a) (b := b) (d1 := d1) (d2 := d1) (pos := pos) h (fun z => nomatch z) (fun _ => h1)
  rw [if_neg Bool.false_ne_true] at q
  exact q
/-! ### arguments, displays -/
theorem ea_nil : EA X [] as [] := .mk fun σ H0 H hs hf Q q => ra_of pa_nil (q [] H0 H (Grow.refl hs) rfl)
theorem ea_cons (h : EE X e as d) (hr : EA X es as ds) (hs : starEach (e :: es) X.env = (false, eval e X.env) :: starEach es X.env := by rfl) : EA X (e :: es) as (d :: ds) := .mk fun σ H0 H hs' hf Q q =>
  ra_of (pa_cons re_pe ra_pa hs) (h.run σ H0 H hs' hf _ fun v H1 H' g i => hr.run σ H1 H' g.sub (hf.mono g.frz) _ fun vs _ _ g' i' => q _ _ _ (g.trans g') (IsL.cons (i.mono g'.frz) i'))
theorem ee_tup {k : Nat} (h : EA X es as ds) (hl : ds.length ≤ sizeLine) : EE X (.Tuple es k pos) as (.tup ds) := .mk fun σ H0 H hs hf Q q =>
  re_of (pe_tup ra_pa) (h.run σ H0 H hs hf _ fun vs H1 H' g i => ⟨by rw [i.len]; exact hl, fun p hp =>
    q _ (upd H1 p (.tup vs)) _ (g.trans (Grow.laid g.sub hp)) ⟨p, vs, rfl, SqT.of upd_same, i.mono (Same.new (g.sub.free hp))⟩⟩)
theorem en_lst (h : EA X es as ds) (hl : ds.length ≤ sizeLine) : EN X (.List es pos) as (.lst ds) := .mk fun σ H0 H hs hf Q q =>
  re_of (pe_lst ra_pa) (h.run σ H0 H hs hf _ fun vs H1 H' g i => ⟨by rw [i.len]; exact hl, fun p hp =>
    q p H1 _ (g.trans (Grow.made g.sub hp)) (g.all.free hp) (g.sub.free hp) ⟨vs, upd_same, i⟩⟩)
/-! ### calls -/
/-- a call of the value f upon data -/
def CaD (X : Cx) (f : Value) (ds : List D) (d : D) : Prop :=
  ∃ r : List V → Hp → VK → Prop, CallR X f r ∧ ∀ vs H0 H, Same H0 H → IsL X.K H0 ds vs → ∀ Q : VK, (∀ z H0' H', Grow H0 H H0' H' → Is X.K H0' d z → Q z H') → r vs H Q
def CaN (X : Cx) (f : Value) (ds : List D) (d : D) : Prop :=
  ∃ r : List V → Hp → VK → Prop, CallR X f r ∧ ∀ vs H0 H, Same H0 H → IsL X.K H0 ds vs → ∀ Q : VK, (∀ a H0' H', Grow H0 H H0' H' → H a = none → H0' a = none → Own X.K H0' H' a d → Q (.ref a) H') → r vs H Q
theorem ee_callB {n : Str} {id : String} {p : Pos} (ha : EA X (e :: es) as ds) (hc : CaD X (.builtin id) ds d) (hg : Gl X n) (hm : X.mg n = none) (hv : bootBuiltins n = some (.builtin id)) (hn : n ≠ "__name__" := by decide) (hdb : (n == ("__debug__" : Str)) = false := by decide)
    (he : starEach (e :: es) X.env = (false, eval e X.env) :: starEach es X.env := by rfl) (hpl : (backTo pos (starEach es X.env)).any (·.1) = false := by rfl) : EE X (.Call (.Name n p) (e :: es) [] pos) as d := .mk fun σ H0 H hs hf Q q => by
  obtain ⟨r, hc, hr⟩ := hc
  exact re_of (pe_callB hc hg hm hv ra_pa hn hdb he hpl) (ha.run σ H0 H hs hf _ fun vs H1 H' g i => hr vs H1 H' g.sub i Q fun z _ _ g' i' => q _ _ _ (g.trans g') i')
theorem ee_callTy {n : Str} {T : String} {p : Pos} (ha : EA X (e :: es) as ds) (hc : CaD X (.type T) ds d) (hg : Gl X n) (hm : X.mg n = none) (hv : bootBuiltins n = some (.type T)) (hn : n ≠ "__name__" := by decide) (hdb : (n == ("__debug__" : Str)) = false := by decide)
    (he : starEach (e :: es) X.env = (false, eval e X.env) :: starEach es X.env := by rfl) (hpl : (backTo pos (starEach es X.env)).any (·.1) = false := by rfl) : EE X (.Call (.Name n p) (e :: es) [] pos) as d := .mk fun σ H0 H hs hf Q q => by
  obtain ⟨r, hc, hr⟩ := hc
  exact re_of (pe_callTy hc hg hm hv ra_pa hn hdb he hpl) (ha.run σ H0 H hs hf _ fun vs H1 H' g i => hr vs H1 H' g.sub i Q fun z _ _ g' i' => q _ _ _ (g.trans g') i')
theorem en_callTy {n : Str} {T : String} {p : Pos} (ha : EA X (e :: es) as ds) (hc : CaN X (.type T) ds d) (hg : Gl X n) (hm : X.mg n = none) (hv : bootBuiltins n = some (.type T)) (hn : n ≠ "__name__" := by decide) (hdb : (n == ("__debug__" : Str)) = false := by decide)
    (he : starEach (e :: es) X.env = (false, eval e X.env) :: starEach es X.env := by rfl) (hpl : (backTo pos (starEach es X.env)).any (·.1) = false := by rfl) : EN X (.Call (.Name n p) (e :: es) [] pos) as d := .mk fun σ H0 H hs hf Q q => by
  obtain ⟨r, hc, hr⟩ := hc
  exact re_of (pe_callTy hc hg hm hv ra_pa hn hdb he hpl) (ha.run σ H0 H hs hf _ fun vs H1 H' g i => hr vs H1 H' g.sub i Q fun a _ _ g' h1 h2 h3 => q _ _ _ (g.trans g') (g.all.free h1) h2 h3)
end
/-! ### defs: what they do, over data -/
abbrev FS := List D → Except Exn D → Prop
def spOf (K : PySem.W.Frag) (S : FS) : Sp := fun vs H Q E => ∃ (H0 : Hp) (ds : List D) (r : Except Exn D), Same H0 H ∧ IsL K H0 ds vs ∧ S ds r ∧
  match r with
  | .ok d => ∀ v H0' H', Grow H0 H H0' H' → Is K H0' d v → Q v H'
  | .error x => ∀ c dd H0' H', Grow H0 H H0' H' → IsX K H0' H' c dd x → E c dd H'
section
variable {X : Cx} {k : Nat} {f : Addr} {fd : FuncData} {ps : List Str} {S : FS} {x : Str} {p pos : Pos} {e : Expr} {es : List Expr} {as : DE} {ds : List D} {d : D} {dvs : List V} {dds : List D} {dus : List Value}
theorem run_fnD {sp : Sp} {CX : CXT} {E : L2.St → XK} {pins : List (Addr × Obj)} {σ : L2.St} {H : Hp} {s : Shared} {Q : VK} {us : List Value} {vs : List V} (F : FnOk X.prog X.w X.K X.mg X.base CX k f fd ps sp) (hr : Room k X.A) (hb : Binds X.K fd ps dus) (hd : Vals dvs dus) (hx : PassesAt CX X σ (E σ))
    (I : Inv X pins σ H s) (r : Vals vs us) (h : sp (vs ++ dvs) H Q (E σ)) : wpAny (model X.prog X.w) X.A (call (.ref f) us) (EP X pins σ Q) X.xe s := by
  have r' := r.append hd
  have hl : (us ++ dus).length = ps.length := by rw [← r'.length]; exact F.len _ _ _ _ h
  have b := hb s us I.kIn hl
  refine wpAny_call (codeAny_mono (F.run X.A X.stack s H ⟨us, []⟩ (us ++ dus) (vs ++ dvs) Q (E σ) hr I.env0 b r' h) fun r s' hq => ?_)
  cases r with
  | error e => exact hx pins H s e s' I hq
  | ok fl =>
    cases fl with
    | ret u => exact I.after hq
    | next => exact False.elim hq
    | brk => exact False.elim hq
    | cont => exact False.elim hq
def tCallD (sp : Sp) (dvs : List V) (E : L2.St → XK) (t : TA) : TE := fun σ H Q => t σ H fun vs H1 => sp (vs ++ dvs) H1 Q (E σ)
theorem pe_callD {sp : Sp} {CX : CXT} {E : L2.St → XK} {t : TA} (F : FnOk X.prog X.w X.K X.mg X.base CX k f fd ps sp) (hr : Room k X.A) (hg : Gl X x) (hm : X.mg x = some (.ref f)) (hk : PySem.W.keepIn X.K (.ref f) = true) (hb : Binds X.K fd ps dus) (hd : Vals dvs dus) (hx : ∀ σ, PassesAt CX X σ (E σ))
    (ha : PA X (e :: es) t) (hdb : (x == ("__debug__" : Str)) = false := by decide) (he : starEach (e :: es) X.env = (false, eval e X.env) :: starEach es X.env := by rfl) (hpl : (backTo pos (starEach es X.env)).any (·.1) = false := by rfl) :
    PE X (.Call (.Name x p) (e :: es) [] pos) (tCallD sp dvs E t) := by
  refine ⟨fun pins s σ H Q I h => ?_⟩
  refine wpAny_Call_Name_kw (ld_glob I hg hm ?_ hdb)
  refine PySem.W.callWith_K (h₀ := X.base) I.ok.mod.kin hk (thn (ha.run pos pins s σ H _ I h) fun us s1 ⟨vs, H1, I1, r, q⟩ => ⟨I1.kIn, ?_⟩) he hpl
  exact run_fnD F hr hb hd (hx σ) I1 r q
/-- the defaults: data, whatever the heap -/
structure Dflt (K : PySem.W.Frag) (dds : List D) (dvs : List V) (dus : List Value) : Prop where
  vals : Vals dvs dus
  is : ∀ H, IsL K H dds dvs
theorem Dflt.nil {K : PySem.W.Frag} : Dflt K [] [] [] := ⟨.nil, fun _ => rfl⟩
/-- what a caller has of a def of the text -/
structure FnE (P : Program) (w : World) (K : PySem.W.Frag) (mg : Str → Option Value) (base : Heap) (k : Nat) (x : Str) (dds : List D) (S : FS) : Prop where
  ex : ∃ (f : Addr) (fd : FuncData) (ps : List Str) (dvs : List V) (dus : List Value), FnOk P w K mg base (L2.CX P w) k f fd ps (spOf K S) ∧ mg x = some (.ref f) ∧ PySem.W.keepIn K (.ref f) = true ∧ Binds K fd ps dus ∧ Dflt K dds dvs dus
abbrev FnD (X : Cx) (k : Nat) (x : Str) (dds : List D) (S : FS) : Prop := FnE X.prog X.w X.K X.mg X.base k x dds S
theorem ee_call (F : FnD X k x dds S) (ha : EA X (e :: es) as ds) (hS : S (ds ++ dds) (.ok d)) (hr : Room k X.A) (hg : Gl X x) (hdb : (x == ("__debug__" : Str)) = false := by decide) (he : starEach (e :: es) X.env = (false, eval e X.env) :: starEach es X.env := by rfl) (hpl : (backTo pos (starEach es X.env)).any (·.1) = false := by rfl) :
    EE X (.Call (.Name x p) (e :: es) [] pos) as d := .mk fun σ H0 H hs hf Q q => by
  obtain ⟨f, fd, ps, dvs, dus, F, hm, hk, hb, hd⟩ := F.ex
  refine re_of (pe_callD (E := WE (wx X)) F hr hg hm hk hb hd.vals (fun σ => passAt wx_takes σ) ra_pa hdb he hpl) ?_
  exact ha.run σ H0 H hs hf _ fun vs H1 H' g i => ⟨H1, ds ++ dds, .ok d, g.sub, i.app (hd.is H1), hS, fun v _ _ g' i' => q v _ _ (g.trans g') i'⟩
theorem ex_call {xn : Exn} (F : FnD X k x dds S) (ha : EA X (e :: es) as ds) (hS : S (ds ++ dds) (.error xn)) (hr : Room k X.A) (hg : Gl X x) (hdb : (x == ("__debug__" : Str)) = false := by decide) (he : starEach (e :: es) X.env = (false, eval e X.env) :: starEach es X.env := by rfl) (hpl : (backTo pos (starEach es X.env)).any (·.1) = false := by rfl) :
    EX X (.Call (.Name x p) (e :: es) [] pos) as xn := .mk fun σ H0 H hs hf Q q => by
  obtain ⟨f, fd, ps, dvs, dus, F, hm, hk, hb, hd⟩ := F.ex
  refine re_of (pe_callD (E := WE (wx X)) F hr hg hm hk hb hd.vals (fun σ => passAt wx_takes σ) ra_pa hdb he hpl) ?_
  exact ha.run σ H0 H hs hf _ fun vs H1 H' g i => ⟨H1, ds ++ dds, .error xn, g.sub, i.app (hd.is H1), hS, fun c dd _ _ g' i' => q c dd _ _ (g.trans g') i'⟩
end
end Mw
set_option maxHeartbeats 4000000
namespace Mw
open PySem PySem.Spec PyProof.Rows L2
/-! ### statements over data -/
inductive Sl where
  | un | fz (d : D) | ow (d : D)
abbrev AS := List Sl
def hid1 : Sl → Option D
  | .fz d => some d
  | _ => none
def vis1 : Sl → Option D
  | .fz d => some d
  | .ow d => some d
  | _ => none
def frz1 : Sl → Sl
  | .ow d => .fz d
  | s => s
abbrev hid (as : AS) : DE := as.map hid1
abbrev vis (as : AS) : DE := as.map vis1
abbrev frz (as : AS) : AS := as.map frz1
/-- the slots σ and the heap H, H0 its frozen part, are as as says; Gs, G: frozen part and heap at the entry -/
structure StH (K : PySem.W.Frag) (Gs G : Hp) (σ : L2.St) (H : Hp) (as : AS) (H0 : Hp) : Prop where
  grow : Grow Gs G H0 H
  fz : ∀ (i : Nat) (d : D), as[i]? = some (.fz d) → ∃ v, σ[i]? = some (some v) ∧ Is K H0 d v
  ow : ∀ (i : Nat) (d : D), as[i]? = some (.ow d) → ∃ a, σ[i]? = some (some (.ref a)) ∧ H0 a = none ∧ G a = none ∧ Own K H0 H a d
  dis : ∀ (i j : Nat) (a : Addr) (d d' : D), as[i]? = some (.ow d) → as[j]? = some (.ow d') → σ[i]? = some (some (.ref a)) → σ[j]? = some (some (.ref a)) → i = j
section
variable {K : PySem.W.Frag} {Gs G H H' H0 H0' : Hp} {σ : L2.St} {as : AS}
theorem map_at {α β : Type} {f : α → β} {l : List α} {i : Nat} {y : β} (h : (l.map f)[i]? = some y) : ∃ x, l[i]? = some x ∧ f x = y := by
  rw [List.getElem?_map] at h
  cases e : l[i]? with
  | none => rw [e] at h; cases h
  | some x => rw [e] at h; exact ⟨x, rfl, Option.some.inj h⟩
theorem StH.hid (S : StH K Gs G σ H as H0) : SlF K H0 σ (hid as) := fun i d e => by
  obtain ⟨x, e1, e2⟩ := map_at e
  cases x with
  | fz d' => cases e2; exact S.fz i d e1
  | un => cases e2
  | ow d' => cases e2
theorem StH.vis (S : StH K Gs G σ H as H0) : SlF K H σ (vis as) := fun i d e => by
  obtain ⟨x, e1, e2⟩ := map_at e
  cases x with
  | fz d' =>
    cases e2
    obtain ⟨v, h1, h2⟩ := S.fz i d e1
    exact ⟨v, h1, h2.mono S.grow.sub⟩
  | un => cases e2
  | ow d' =>
    cases e2
    obtain ⟨a, h1, h2, h3, h4⟩ := S.ow i d e1
    exact ⟨_, h1, h4.is S.grow.sub⟩
/-- the heap has grown -/
theorem StH.more (S : StH K Gs G σ H as H0) (g : Grow H0 H H0' H') : StH K Gs G σ H' as H0' :=
  ⟨S.grow.trans g, fun i d e => let ⟨v, h1, h2⟩ := S.fz i d e; ⟨v, h1, h2.mono g.frz⟩,
   fun i d e => by
    obtain ⟨a, h1, h2, h3, h4⟩ := S.ow i d e
    obtain ⟨o, e4⟩ := h4.some
    refine ⟨a, h1, ?_, h3, h4.keep g.frz fun o q => g.all a o q⟩
    cases z : H0' a with
    | none => rfl
    | some u =>
      rcases g.new a (by rw [z]; simp) with q | q
      · exact absurd h2 q
      · rw [e4] at q
        exact (nomatch q), S.dis⟩
/-- the heap has grown, nothing of it is held -/
theorem StH.tmp (S : StH K Gs G σ H as H0) (e : Same H H') : StH K Gs G σ H' as H0 :=
  S.more ⟨Same.refl _, e, S.grow.sub.trans e, fun _ x => .inl x⟩
theorem set_at {α : Type} {l : List α} {i j : Nat} {x y : α} (h : (l.set i x)[j]? = some y) : (i = j ∧ x = y) ∨ (i ≠ j ∧ l[j]? = some y) := by
  by_cases e : i = j
  · subst e
    by_cases hl : i < l.length
    · rw [List.getElem?_set_self hl] at h
      exact .inl ⟨rfl, Option.some.inj h⟩
    · rw [List.getElem?_eq_none (by simpa using hl)] at h
      cases h
  · rw [List.getElem?_set_ne e] at h
    exact .inr ⟨e, h⟩
/-- a slot is stored: frozen -/
theorem StH.setF (S : StH K Gs G σ H as H0) {i : Nat} {d : D} {v : V} (hi : i < σ.length) (hv : Is K H0 d v) : StH K Gs G (σ.set i (some v)) H (as.set i (.fz d)) H0 := by
  refine ⟨S.grow, fun j d' e => ?_, fun j d' e => ?_, fun j k a d1 d2 e1 e2 s1 s2 => ?_⟩
  · rcases set_at e with ⟨rfl, q⟩ | ⟨n, q⟩
    · cases q
      exact ⟨v, List.getElem?_set_self hi, hv⟩
    · rw [List.getElem?_set_ne n]
      exact S.fz j d' q
  · rcases set_at e with ⟨rfl, q⟩ | ⟨n, q⟩
    · cases q
    · rw [List.getElem?_set_ne n]
      exact S.ow j d' q
  · rcases set_at e1 with ⟨rfl, q⟩ | ⟨n1, q1⟩
    · cases q
    · rcases set_at e2 with ⟨rfl, q⟩ | ⟨n2, q2⟩
      · cases q
      · rw [List.getElem?_set_ne n1] at s1
        rw [List.getElem?_set_ne n2] at s2
        exact S.dis j k a d1 d2 q1 q2 s1 s2
theorem StH.setU (S : StH K Gs G σ H as H0) {i : Nat} {w : Option V} : StH K Gs G (σ.set i w) H (as.set i .un) H0 := by
  refine ⟨S.grow, fun j d' e => ?_, fun j d' e => ?_, fun j k a d1 d2 e1 e2 s1 s2 => ?_⟩
  · rcases set_at e with ⟨rfl, q⟩ | ⟨n, q⟩
    · cases q
    · rw [List.getElem?_set_ne n]
      exact S.fz j d' q
  · rcases set_at e with ⟨rfl, q⟩ | ⟨n, q⟩
    · cases q
    · rw [List.getElem?_set_ne n]
      exact S.ow j d' q
  · rcases set_at e1 with ⟨rfl, q⟩ | ⟨n1, q1⟩
    · cases q
    · rcases set_at e2 with ⟨rfl, q⟩ | ⟨n2, q2⟩
      · cases q
      · rw [List.getElem?_set_ne n1] at s1
        rw [List.getElem?_set_ne n2] at s2
        exact S.dis j k a d1 d2 q1 q2 s1 s2
/-- a slot is stored: a new object of one's own, at an address that no other owned slot has -/
theorem StH.setO (S : StH K Gs G σ H as H0) {i : Nat} {d : D} {p : Addr} (hi : i < σ.length) (h0 : H0 p = none) (hG : G p = none) (ho : Own K H0 H p d) (hn : ∀ (j : Nat) (d' : D), as[j]? = some (.ow d') → σ[j]? ≠ some (some (.ref p))) :
    StH K Gs G (σ.set i (some (.ref p))) H (as.set i (.ow d)) H0 := by
  refine ⟨S.grow, fun j d' e => ?_, fun j d' e => ?_, fun j k a d1 d2 e1 e2 s1 s2 => ?_⟩
  · rcases set_at e with ⟨rfl, q⟩ | ⟨n, q⟩
    · cases q
    · rw [List.getElem?_set_ne n]
      exact S.fz j d' q
  · rcases set_at e with ⟨rfl, q⟩ | ⟨n, q⟩
    · cases q
      exact ⟨p, List.getElem?_set_self hi, h0, hG, ho⟩
    · rw [List.getElem?_set_ne n]
      exact S.ow j d' q
  · rcases set_at e1 with ⟨rfl, q⟩ | ⟨n1, q1⟩
    · rcases set_at e2 with ⟨rfl, q'⟩ | ⟨n2, q2⟩
      · rfl
      · rw [List.getElem?_set_self hi] at s1
        rw [List.getElem?_set_ne n2] at s2
        cases s1
        exact absurd s2 (hn k d2 q2)
    · rcases set_at e2 with ⟨rfl, q⟩ | ⟨n2, q2⟩
      · rw [List.getElem?_set_self hi] at s2
        rw [List.getElem?_set_ne n1] at s1
        cases s2
        exact absurd s1 (hn j d1 q1)
      · rw [List.getElem?_set_ne n1] at s1
        rw [List.getElem?_set_ne n2] at s2
        exact S.dis j k a d1 d2 q1 q2 s1 s2
/-- an owned object is written -/
theorem StH.write (S : StH K Gs G σ H as H0) {i : Nat} {d d' : D} {a : Addr} {o : HO} (hi : as[i]? = some (.ow d)) (hs : σ[i]? = some (some (.ref a))) (ho : Own K H0 (upd H a o) a d') :
    StH K Gs G σ (upd H a o) (as.set i (.ow d')) H0 := by
  obtain ⟨b, q1, q2, q3, q4⟩ := S.ow i d hi
  rw [hs] at q1
  cases q1
  have g : Grow Gs G H0 (upd H a o) := ⟨S.grow.frz, fun b u e => by rw [upd_ne (ne_of_none e q3)]; exact S.grow.all b u e, fun b u e => by rw [upd_ne (ne_of_none e q2)]; exact S.grow.sub b u e, S.grow.new⟩
  refine ⟨g, fun j e q => ?_, fun j e q => ?_, fun j k c d1 d2 e1 e2 s1 s2 => ?_⟩
  · rcases set_at q with ⟨rfl, z⟩ | ⟨n, z⟩
    · cases z
    · exact S.fz j e z
  · rcases set_at q with ⟨rfl, z⟩ | ⟨n, z⟩
    · cases z
      exact ⟨a, hs, q2, q3, ho⟩
    · obtain ⟨c, r1, r2, r3, r4⟩ := S.ow j e z
      refine ⟨c, r1, r2, r3, r4.keep (Same.refl _) fun u hu => ?_⟩
      have hca : c ≠ a := fun w => by
        subst w
        exact n (S.dis i j c d e hi z hs r1)
      rw [upd_ne hca]
      exact hu
  · rcases set_at e1 with ⟨rfl, z1⟩ | ⟨n1, z1⟩
    · rcases set_at e2 with ⟨rfl, z2⟩ | ⟨n2, z2⟩
      · rfl
      · exact S.dis i k c d d2 hi z2 s1 s2
    · rcases set_at e2 with ⟨rfl, z2⟩ | ⟨n2, z2⟩
      · exact S.dis j i c d1 d z1 hi s1 s2
      · exact S.dis j k c d1 d2 z1 z2 s1 s2
open Classical in
/-- what is owned is frozen, at the slots p -/
theorem StH.freeze (S : StH K Gs G σ H as H0) (p : Nat → Bool) : ∃ H0', Same H0 H0' ∧ StH K Gs G σ H (as.mapIdx fun i s => if p i then frz1 s else s) H0' := by
  let H1 : Hp := fun b => if ∃ (i : Nat) (d : D), p i = true ∧ as[i]? = some (.ow d) ∧ σ[i]? = some (some (.ref b)) then H b else H0 b
  have e1 : ∀ (i : Nat) (d : D) (a : Addr), p i = true → as[i]? = some (.ow d) → σ[i]? = some (some (.ref a)) → H1 a = H a := fun i d a h1 h2 h3 => if_pos ⟨i, d, h1, h2, h3⟩
  have sm : Same H0 H1 := fun b o e => by
    show (if _ then H b else H0 b) = some o
    split
    · exact S.grow.sub b o e
    · exact e
  have sub : Same H1 H := fun b o e => by
    have e' : (if ∃ (i : Nat) (d : D), p i = true ∧ as[i]? = some (.ow d) ∧ σ[i]? = some (some (.ref b)) then H b else H0 b) = some o := e
    split at e'
    · exact e'
    · exact S.grow.sub b o e'
  refine ⟨H1, sm, ⟨⟨S.grow.frz.trans sm, S.grow.all, sub, fun a x => ?_⟩, fun i d e => ?_, fun i d e => ?_, fun i j a d d' x1 x2 x3 x4 => ?_⟩⟩
  · have x' : (if ∃ (i : Nat) (d : D), p i = true ∧ as[i]? = some (.ow d) ∧ σ[i]? = some (some (.ref a)) then H a else H0 a) ≠ none := x
    split at x'
    · rename_i h
      obtain ⟨i, d, h1, h2, h3⟩ := h
      obtain ⟨b, q1, q2, q3, q4⟩ := S.ow i d h2
      rw [h3] at q1
      cases q1
      exact .inr q3
    · exact S.grow.new a x'
  · rw [List.getElem?_mapIdx] at e
    cases z : as[i]? with
    | none => rw [z] at e; cases e
    | some s =>
      rw [z] at e
      have e : (if p i = true then frz1 s else s) = .fz d := Option.some.inj e
      cases s with
      | un => split at e <;> cases e
      | fz d' =>
        have e' : d' = d := by
          split at e
          · exact Sl.fz.inj e
          · exact Sl.fz.inj e
        subst e'
        obtain ⟨v, h1, h2⟩ := S.fz i d' z
        exact ⟨v, h1, h2.mono sm⟩
      | ow d' =>
        split at e
        · rename_i hp
          cases e
          obtain ⟨a, q1, q2, q3, q4⟩ := S.ow i d z
          exact ⟨_, q1, q4.frz sm (e1 i d a hp z q1)⟩
        · cases e
  · rw [List.getElem?_mapIdx] at e
    cases z : as[i]? with
    | none => rw [z] at e; cases e
    | some s =>
      rw [z] at e
      have e : (if p i = true then frz1 s else s) = .ow d := Option.some.inj e
      have hp : p i = false := by
        cases hp : p i with
        | false => rfl
        | true =>
          rw [if_pos hp] at e
          cases s <;> cases e
      rw [hp, if_neg Bool.false_ne_true] at e
      subst e
      obtain ⟨a, q1, q2, q3, q4⟩ := S.ow i d z
      refine ⟨a, q1, ?_, q3, q4.keep sm fun _ h => h⟩
      show (if _ then H a else H0 a) = none
      rw [if_neg]
      · exact q2
      · rintro ⟨j, d', h1, h2, h3⟩
        have ij := S.dis i j a d d' z h2 q1 h3
        subst ij
        rw [hp] at h1
        cases h1
  · have back : ∀ (i : Nat) (d : D), (as.mapIdx fun i s => if p i then frz1 s else s)[i]? = some (.ow d) → as[i]? = some (.ow d) := fun i d e => by
      rw [List.getElem?_mapIdx] at e
      cases z : as[i]? with
      | none => rw [z] at e; cases e
      | some s =>
        rw [z] at e
        have e : (if p i = true then frz1 s else s) = .ow d := Option.some.inj e
        split at e
        · cases s <;> cases e
        · rw [e]
    exact S.dis i j a d d' (back i d x1) (back j d' x2) x3 x4
end
structure Fin where
  nx : AS → Prop
  rt : D → Prop
  bk : AS → Prop := fun _ => False
  ct : AS → Prop := fun _ => False
  ex : Exn → AS → Prop := fun _ _ => False
/-- the ends D serve F -/
structure EndsOk (X : Cx) (Gs G H0 : Hp) (F : Fin) (E : Ends) : Prop where
  nx : ∀ σ H as H1, Same H0 H1 → StH X.K Gs G σ H as H1 → F.nx as → E.nx σ H
  rt : ∀ v H d H1, Same H0 H1 → Grow Gs G H1 H → Is X.K H1 d v → F.rt d → E.rt v H
  bk : ∀ σ H as H1, Same H0 H1 → StH X.K Gs G σ H as H1 → F.bk as → E.bk σ H
  ct : ∀ σ H as H1, Same H0 H1 → StH X.K Gs G σ H as H1 → F.ct as → E.ct σ H
  ex : ∀ c dd σ H x as H1, Same H0 H1 → StH X.K Gs G σ H as H1 → IsX X.K H1 H c dd x → F.ex x as → wx X c dd σ H
theorem EndsOk.more {X : Cx} {Gs G H0 H1 : Hp} {F : Fin} {E : Ends} (h : EndsOk X Gs G H0 F E) (e : Same H0 H1) : EndsOk X Gs G H1 F E :=
  ⟨fun σ H as H2 q => h.nx σ H as H2 (e.trans q), fun v H d H2 q => h.rt v H d H2 (e.trans q), fun σ H as H2 q => h.bk σ H as H2 (e.trans q), fun σ H as H2 q => h.ct σ H as H2 (e.trans q), fun c dd σ H x as H2 q => h.ex c dd σ H x as H2 (e.trans q)⟩
structure S1 (X : Cx) (Gs G : Hp) (st : Stmt) (as : AS) (F : Fin) : Prop where
  run : ∀ (σ : L2.St) (H H0 : Hp), StH X.K Gs G σ H as H0 → ∀ E : Ends, EndsOk X Gs G H0 F E → rs X st E σ H
structure SS (X : Cx) (Gs G : Hp) (sts : List Stmt) (as : AS) (F : Fin) : Prop where
  run : ∀ (σ : L2.St) (H H0 : Hp), StH X.K Gs G σ H as H0 → ∀ E : Ends, EndsOk X Gs G H0 F E → rss X sts E σ H
theorem rs_len {X : Cx} {st : Stmt} {σ : L2.St} {H : Hp} {E : Ends} (h : σ.length = X.N.length → rs X st E σ H) : rs X st E σ H := fun pins s I => h I.len pins s I
theorem rss_len {X : Cx} {sts : List Stmt} {σ : L2.St} {H : Hp} {E : Ends} (h : σ.length = X.N.length → rss X sts E σ H) : rss X sts E σ H := fun pins s I => h I.len pins s I
section
variable {X : Cx} {Gs G : Hp} {st : Stmt} {sts : List Stmt} {as as' : AS} {F : Fin} {e : Expr} {d : D} {pos : Pos}
theorem ss_nil (h : F.nx as) : SS X Gs G [] as F := .mk fun σ H H0 S E ok => rss_of pss_nil (ok.nx σ H as H0 (Same.refl _) S h)
theorem ss_cons (h : S1 X Gs G st as { F with nx := fun as' => SS X Gs G sts as' F }) : SS X Gs G (st :: sts) as F := .mk fun σ H H0 S E ok => by
  refine rss_of (pss_cons rs_ps rss_pss) ?_
  refine h.run σ H H0 S _ ⟨fun σ' H' as' H1 q S' h' => ?_, ok.rt, ok.bk, ok.ct, ok.ex⟩
  exact h'.run σ' H' H1 S' E (ok.more q)
theorem ss_one (h : S1 X Gs G st as F) : SS X Gs G [st] as F := .mk fun σ H H0 S E ok => by
  refine rss_of (pss_one rs_ps) ?_
  exact h.run σ H H0 S E ok
theorem S1.imp {F' : Fin} (h : S1 X Gs G st as F) (h1 : ∀ a, F.nx a → F'.nx a) (h2 : ∀ a, F.rt a → F'.rt a) (h3 : ∀ a, F.bk a → F'.bk a) (h4 : ∀ a, F.ct a → F'.ct a) (h5 : ∀ x a, F.ex x a → F'.ex x a) : S1 X Gs G st as F' := .mk fun σ H H0 S E ok =>
  h.run σ H H0 S E ⟨fun σ' H' as' H1 q S' z => ok.nx σ' H' as' H1 q S' (h1 _ z), fun v H' d H1 q g i z => ok.rt v H' d H1 q g i (h2 _ z), fun σ' H' as' H1 q S' z => ok.bk σ' H' as' H1 q S' (h3 _ z), fun σ' H' as' H1 q S' z => ok.ct σ' H' as' H1 q S' (h4 _ z), fun c dd σ' H' x as' H1 q S' i z => ok.ex c dd σ' H' x as' H1 q S' i (h5 _ _ z)⟩
theorem SS.imp {F' : Fin} (h : SS X Gs G sts as F) (h1 : ∀ a, F.nx a → F'.nx a) (h2 : ∀ a, F.rt a → F'.rt a) (h3 : ∀ a, F.bk a → F'.bk a) (h4 : ∀ a, F.ct a → F'.ct a) (h5 : ∀ x a, F.ex x a → F'.ex x a) : SS X Gs G sts as F' := .mk fun σ H H0 S E ok =>
  h.run σ H H0 S E ⟨fun σ' H' as' H1 q S' z => ok.nx σ' H' as' H1 q S' (h1 _ z), fun v H' d H1 q g i z => ok.rt v H' d H1 q g i (h2 _ z), fun σ' H' as' H1 q S' z => ok.bk σ' H' as' H1 q S' (h3 _ z), fun σ' H' as' H1 q S' z => ok.ct σ' H' as' H1 q S' (h4 _ z), fun c dd σ' H' x as' H1 q S' i z => ok.ex c dd σ' H' x as' H1 q S' i (h5 _ _ z)⟩
/-- freeze at the slots p first -/
theorem s1_freeze (p : Nat → Bool) (h : S1 X Gs G st (as.mapIdx fun i s => if p i then frz1 s else s) F) : S1 X Gs G st as F := .mk fun σ H H0 S E ok => by
  obtain ⟨H1, e, S1⟩ := S.freeze p
  exact h.run σ H H1 S1 E (ok.more e)
theorem s1_frz (h : S1 X Gs G st (frz as) F) : S1 X Gs G st as F := by
  refine s1_freeze (fun _ => true) ?_
  have e : (as.mapIdx fun i s => if (fun _ => true) i = true then frz1 s else s) = frz as := by
    rw [List.mapIdx_eq_iff]
    intro i
    rw [List.getElem?_map]
    rfl
  rw [e]
  exact h
theorem vis_frz : hid (frz as) = vis as := by
  unfold hid frz vis
  rw [List.map_map]
  congr 1
  funext s
  cases s <;> rfl
theorem s1_ret (h : EE X e (vis as) d) (q : F.rt d) : S1 X Gs G (.Return (some e) pos) as F := by
  refine s1_frz ⟨fun σ H H0 S E ok => ?_⟩
  refine rs_of (ps_ret re_pe) ?_
  have sf := S.hid
  rw [vis_frz] at sf
  exact h.run σ H0 H S.grow.sub sf _ fun v H1 H' g i => ok.rt v H' d H1 g.frz (S.grow.trans g) i q
theorem s1_retN (q : F.rt .non) : S1 X Gs G (.Return none pos) as F := .mk fun σ H H0 S E ok => rs_of ps_retN (ok.rt _ H .non H0 (Same.refl _) S.grow rfl q)
theorem s1_pass (q : F.nx as) : S1 X Gs G (.Pass pos) as F := .mk fun σ H H0 S E ok => rs_of ps_pass (ok.nx σ H as H0 (Same.refl _) S q)
theorem s1_brk (q : F.bk as) : S1 X Gs G (.Break pos) as F := .mk fun σ H H0 S E ok => rs_of ps_break (ok.bk σ H as H0 (Same.refl _) S q)
theorem s1_ct (q : F.ct as) : S1 X Gs G (.Continue pos) as F := .mk fun σ H H0 S E ok => rs_of ps_continue (ok.ct σ H as H0 (Same.refl _) S q)
/-- an expression for what it does -/
theorem s1_expr (h : EE X e (vis as) d) (hs : swapsWith e none pos.line X.env = pure false := by rfl) (q : F.nx as) : S1 X Gs G (.Expr e pos) as F := .mk fun σ H H0 S E ok => by
  refine rs_of (ps_expr re_pe hs) ?_
  exact h.run σ H H (Same.refl _) S.vis _ fun v H1 H' g i => ok.nx σ H' as H0 (Same.refl _) (S.tmp g.all) q
/-- a name is stored -/
theorem s1_set (i : Nat) {n : Str} {pos' : Pos} (hN : X.N.Nodup) (hi : X.N[i]? = some n) (hx : Loc X.env.scope n) (h : EE X e (hid as) d) (q : F.nx (as.set i (.fz d)))
    (hs : swapsWith e (some (.Name n pos')) pos.line X.env = pure false := by rfl) (hf : X.fn n = true ∨ X.env.scope.names.lookup n = some .local := by first | exact .inl rfl | exact .inr rfl | assumption) : S1 X Gs G (.Assign [.Name n pos'] e pos) as F := .mk fun σ H H0 S E ok => by
  refine rs_len fun hl => rs_of (ps_set hN hi hx re_pe hs hf) ?_
  exact h.run σ H0 H S.grow.sub S.hid _ fun v H1 H' g iv => ok.nx _ H' _ H1 g.frz ((S.more g).setF (by rw [hl]; exact (List.getElem?_eq_some_iff.mp hi).1) iv) q
/-- flat data lie in no heap -/
def flatD : D → Bool
  | .non => true
  | .bl _ => true
  | .int _ => true
  | .str _ => true
  | .ty _ => true
  | .cls _ => true
  | _ => false
theorem Is.flat {K : PySem.W.Frag} {H H' : Hp} {v : V} : ∀ {d : D}, flatD d = true → Is K H d v → Is K H' d v
  | .non, _, h => h
  | .bl _, _, h => h
  | .int _, _, h => h
  | .str _, _, h => h
  | .ty _, _, h => h
  | .cls _, _, h => h
  | .tup _, e, _ => nomatch e
  | .lst _, e, _ => nomatch e
  | .dct _, e, _ => nomatch e
  | .obj _ _, e, _ => nomatch e
  | .xc _ _ _, e, _ => nomatch e
  | .exv _ _, e, _ => nomatch e
theorem s1_setV (i : Nat) {n : Str} {pos' : Pos} (hN : X.N.Nodup) (hi : X.N[i]? = some n) (hx : Loc X.env.scope n) (h : EE X e (vis as) d) (hd : flatD d = true) (q : F.nx (as.set i (.fz d)))
    (hs : swapsWith e (some (.Name n pos')) pos.line X.env = pure false := by rfl) (hf : X.fn n = true ∨ X.env.scope.names.lookup n = some .local := by first | exact .inl rfl | exact .inr rfl | assumption) : S1 X Gs G (.Assign [.Name n pos'] e pos) as F := .mk fun σ H H0 S E ok => by
  refine rs_len fun hl => rs_of (ps_set hN hi hx re_pe hs hf) ?_
  exact h.run σ H H (Same.refl _) S.vis _ fun v H1 H' g iv => ok.nx _ H' _ H0 (Same.refl _) ((S.tmp g.all).setF (by rw [hl]; exact (List.getElem?_eq_some_iff.mp hi).1) (iv.flat hd)) q
theorem s1_setN (i : Nat) {n : Str} {pos' : Pos} (hN : X.N.Nodup) (hi : X.N[i]? = some n) (hx : Loc X.env.scope n) (h : EN X e (hid as) d) (q : F.nx (as.set i (.ow d)))
    (hs : swapsWith e (some (.Name n pos')) pos.line X.env = pure false := by rfl) (hf : X.fn n = true ∨ X.env.scope.names.lookup n = some .local := by first | exact .inl rfl | exact .inr rfl | assumption) : S1 X Gs G (.Assign [.Name n pos'] e pos) as F := .mk fun σ H H0 S E ok => by
  refine rs_len fun hl => rs_of (ps_set hN hi hx re_pe hs hf) ?_
  refine h.run σ H0 H S.grow.sub S.hid _ fun a H1 H' g ha h0 ho => ok.nx _ H' _ H1 g.frz ((S.more g).setO (by rw [hl]; exact (List.getElem?_eq_some_iff.mp hi).1) h0 ?_ ho fun j d' e1 e2 => ?_) q
  · exact S.grow.all.free ha
  · obtain ⟨b, q1, q2, q3, q4⟩ := S.ow j d' e1
    rw [e2] at q1
    cases q1
    obtain ⟨o, e4⟩ := q4.some
    rw [ha] at e4
    cases e4
theorem s1_if {c : Expr} {t u : List Stmt} {b : Bool} (h : ET X c (vis as) b) (h1 : b = true → SS X Gs G t as F) (h2 : b = false → SS X Gs G u as F) : S1 X Gs G (.If c t u pos) as F := .mk fun σ H H0 S E ok => by
  refine rs_of (ps_if rt_pt rss_pss rss_pss) ?_
  refine h.run σ H H (Same.refl _) S.vis _ fun H1 H' g => ?_
  cases b with
  | true =>
    rw [if_pos rfl]
    exact (h1 rfl).run σ H' H0 (S.tmp g.all) E ok
  | false =>
    rw [if_neg Bool.false_ne_true]
    exact (h2 rfl).run σ H' H0 (S.tmp g.all) E ok
theorem s1_ifT {c : Expr} {t u : List Stmt} (h : ET X c (vis as) true) (h1 : SS X Gs G t as F) : S1 X Gs G (.If c t u pos) as F := s1_if h (fun _ => h1) fun z => nomatch z
theorem s1_ifF {c : Expr} {t u : List Stmt} (h : ET X c (vis as) false) (h1 : SS X Gs G u as F) : S1 X Gs G (.If c t u pos) as F := s1_if h (fun z => nomatch z) fun _ => h1
/-- while: I m, m falls -/
theorem s1_while {c : Expr} {body : List Stmt} (I : Nat → AS → Prop) (m0 : Nat) (h0 : I m0 as) (hp : PassesOwn (model X.prog X.w) X.A X.env X.xe)
    (hs : ∀ m as', I m as' → ∃ b, ET X c (vis as') b ∧ (b = true → SS X Gs G body as' { F with nx := fun a => ∃ m', m' < m ∧ I m' a, ct := fun a => ∃ m', m' < m ∧ I m' a, bk := F.nx }) ∧ (b = false → F.nx as')) : S1 X Gs G (.While c body [] pos) as F := .mk fun σ H H0 S E ok => by
  refine rs_of (ps_while hp rt_pt rss_pss) ?_
  refine ⟨fun m σ' H' => ∃ as' H1, Same H0 H1 ∧ StH X.K Gs G σ' H' as' H1 ∧ I m as', ⟨m0, as, H0, Same.refl _, S, h0⟩, fun m σ' H' w => ?_⟩
  obtain ⟨as', H1, q1, S', i⟩ := w
  obtain ⟨b, hb, h1, h2⟩ := hs m as' i
  refine hb.run σ' H' H' (Same.refl _) S'.vis _ fun H2 H3 g => ?_
  cases b with
  | true =>
    rw [if_pos rfl]
    refine ⟨fun σ2 H4 => ∃ m', m' < m ∧ ∃ as' H1, Same H0 H1 ∧ StH X.K Gs G σ2 H4 as' H1 ∧ I m' as', fun σ2 H4 z => z, ?_⟩
    refine (h1 rfl).run σ' H3 H1 (S'.tmp g.all) _ ⟨fun σ4 H4 as4 H5 q S4 ⟨m', l, z⟩ => ⟨m', l, as4, H5, q1.trans q, S4, z⟩, (ok.more q1).rt, (ok.more q1).nx, fun σ4 H4 as4 H5 q S4 ⟨m', l, z⟩ => ⟨m', l, as4, H5, q1.trans q, S4, z⟩, (ok.more q1).ex⟩
  | false =>
    rw [if_neg Bool.false_ne_true]
    exact ok.nx σ' H3 as' H1 q1 (S'.tmp g.all) (h2 rfl)
/-- for n in a list -/
theorem s1_forL {l : Expr} {body : List Stmt} {n : Str} {pos' : Pos} {ds : List D} (i : Nat) (hl : EE X l (hid as) (.lst ds)) (I : Nat → AS → Prop) (h0 : I 0 as)
    (hs : ∀ j d as', ds[j]? = some d → I j as' → SS X Gs G body (as'.set i (.fz d)) { F with nx := I (j + 1), ct := I (j + 1), bk := F.nx }) (hd : ∀ as', I ds.length as' → F.nx as')
    (hp : PassesOwn (model X.prog X.w) X.A X.env X.xe) (hc : X.calm = true) (hN : X.N.Nodup) (hi : X.N[i]? = some n) (hx : Loc X.env.scope n)
    (hf : X.fn n = true ∨ X.env.scope.names.lookup n = some .local := by first | exact .inl rfl | exact .inr rfl | assumption) (hss : ∀ x, foldedSetIterable l X.env x = pure x := by intro _; rfl) : S1 X Gs G (.For (.Name n pos') l body [] pos) as F := .mk fun σ H H0 S E ok => by
  refine rs_of (ps_for hp hc (pi_list re_pe) (pg_name hN hi hx hf) rss_pss hss) ?_
  refine hl.run σ H0 H S.grow.sub S.hid _ fun v H1 H' g iv => ?_
  obtain ⟨a, vs, rfl, hq, hv⟩ := iv
  have hq' : SqL X.K H' a vs := Same.lst g.sub hq
  have ev : vs.length = ds.length := hv.len
  refine ⟨a, rfl, ⟨vs, hq'⟩, for_list (xs := vs) (fun j σ' H2 => ∃ as' H3, Same H1 H3 ∧ StH X.K Gs G σ' H2 as' H3 ∧ I j as') ⟨as, H1, Same.refl _, S.more g, h0⟩ (fun j σ' H2 _ ⟨as', H3, q, S', _⟩ => Same.lst (q.trans S'.grow.sub) hq) ?_ ?_⟩
  · rintro j x σ' H2 hx' ⟨as', H3, q, S', ij⟩
    have hj : j < ds.length := by rw [← ev]; exact (List.getElem?_eq_some_iff.mp hx').1
    obtain ⟨u, e1, e2⟩ := hv.get (i := j) (d := ds[j]) (List.getElem?_eq_getElem hj)
    rw [hx'] at e1
    cases e1
    show rss X body _ (σ'.set i (some x)) H2
    refine rss_len fun hl2 => ?_
    refine (hs j ds[j] as' (List.getElem?_eq_getElem hj) ij).run _ H2 H3 (S'.setF (by rw [List.length_set] at hl2; rw [hl2]; exact (List.getElem?_eq_some_iff.mp hi).1) (e2.mono q)) _ ⟨fun σ4 H4 as4 H5 r S4 z => ?_, (ok.more (g.frz.trans q)).rt, (ok.more (g.frz.trans q)).nx, fun σ4 H4 as4 H5 r S4 z => ?_, (ok.more (g.frz.trans q)).ex⟩
    · exact ⟨as4, H5, q.trans r, S4, z⟩
    · exact ⟨as4, H5, q.trans r, S4, z⟩
  · rintro σ' H2 ⟨as', H3, q, S', z⟩
    rw [ev] at z
    exact ok.nx σ' H2 as' H3 (g.frz.trans q) S' (hd as' z)
end
end Mw
set_option maxHeartbeats 4000000
namespace Mw
open PySem PySem.Spec PyProof.Rows L2
section
variable {X : Cx} {as : DE} {d x y : D} {a b e : Expr} {es : List Expr} {ds : List D} {pos : Pos}
/-! ### operators -/
theorem od_addI {i j : Int} : OpD X (binaryOp .Add) (.int i) (.int j) (.int (i + j)) := .flat op_add (fun _ => rfl) fun v w H hx hy Q q => ⟨i, j, hx, hy, q⟩
theorem od_subI {i j : Int} : OpD X (binaryOp .Sub) (.int i) (.int j) (.int (i - j)) := .flat op_sub (fun _ => rfl) fun v w H hx hy Q q => ⟨i, j, hx, hy, q⟩
theorem od_mul {i j : Int} (h : CMulW i j) : OpD X (binaryOp .Mult) (.int i) (.int j) (.int (i * j)) := .flat op_mulW (fun _ => rfl) fun v w H hx hy Q q => ⟨i, j, hx, hy, h, q⟩
theorem od_fdiv {i j : Int} (h : CDivW i j) : OpD X (binaryOp .FloorDiv) (.int i) (.int j) (.int (i / j)) := .flat op_fdivW (fun _ => rfl) fun v w H hx hy Q q => ⟨i, j, hx, hy, h, q⟩
theorem od_mod {i j : Int} (h : 0 < j) : OpD X (binaryOp .Mod) (.int i) (.int j) (.int (i % j)) := .flat op_mod (fun _ => rfl) fun v w H hx hy Q q => ⟨i, j, hx, hy, h, q⟩
theorem od_pow {i j : Int} (h : CPow i j) : OpD X (binaryOp .Pow) (.int i) (.int j) (.int (i ^ j.toNat)) := .flat op_pow (fun _ => rfl) fun v w H hx hy Q q => ⟨i, j, hx, hy, h, q⟩
theorem od_addS {i j : Str} (h : i.length + j.length ≤ sizeLine) : OpD X (binaryOp .Add) (.str i) (.str j) (.str (i ++ j)) := .flat op_add_str (fun _ => rfl) fun v w H hx hy Q q => ⟨i, j, hx, hy, h, q⟩
theorem oc_lt {i j : Int} : OpD X (compareOp .Lt) (.int i) (.int j) (.bl (decide (i < j))) := .flat op_lt (fun _ => rfl) fun v w H hx hy Q q => ⟨i, j, hx, hy, q⟩
theorem oc_le {i j : Int} : OpD X (compareOp .LtE) (.int i) (.int j) (.bl (decide (i ≤ j))) := .flat op_le (fun _ => rfl) fun v w H hx hy Q q => ⟨i, j, hx, hy, q⟩
theorem oc_gt {i j : Int} : OpD X (compareOp .Gt) (.int i) (.int j) (.bl (decide (j < i))) := .flat op_gt (fun _ => rfl) fun v w H hx hy Q q => ⟨i, j, hx, hy, q⟩
theorem oc_ge {i j : Int} : OpD X (compareOp .GtE) (.int i) (.int j) (.bl (decide (j ≤ i))) := .flat op_ge (fun _ => rfl) fun v w H hx hy Q q => ⟨i, j, hx, hy, q⟩
theorem dec_iff {p q : Prop} [Decidable p] [Decidable q] (h : p ↔ q) : decide p = decide q := by
  by_cases hp : p
  · rw [decide_eq_true hp, decide_eq_true (h.mp hp)]
  · rw [decide_eq_false hp, decide_eq_false fun z => hp (h.mpr z)]
theorem oc_eqI {i j : Int} : OpD X (compareOp .Eq) (.int i) (.int j) (.bl (decide (i = j))) := .flat op_eq (fun _ => rfl) fun v w H hx hy Q q => by
  rw [show v = _ from hx, show w = _ from hy]
  refine ⟨rfl, ?_⟩
  rw [show decide (V.int i = V.int j) = decide (i = j) from dec_iff ⟨fun z => V.int.inj z, fun z => by rw [z]⟩]
  exact q
theorem oc_neI {i j : Int} : OpD X (compareOp .NotEq) (.int i) (.int j) (.bl (!decide (i = j))) := .flat op_ne (fun _ => rfl) fun v w H hx hy Q q => by
  rw [show v = _ from hx, show w = _ from hy]
  refine ⟨rfl, ?_⟩
  rw [show decide (V.int i = V.int j) = decide (i = j) from dec_iff ⟨fun z => V.int.inj z, fun z => by rw [z]⟩]
  exact q
theorem oc_eqS {i j : Str} : OpD X (compareOp .Eq) (.str i) (.str j) (.bl (decide (i = j))) := .flat op_eq (fun _ => rfl) fun v w H hx hy Q q => by
  rw [show v = _ from hx, show w = _ from hy]
  refine ⟨rfl, ?_⟩
  rw [show decide (V.str i = V.str j) = decide (i = j) from dec_iff ⟨fun z => V.str.inj z, fun z => by rw [z]⟩]
  exact q
theorem oc_neS {i j : Str} : OpD X (compareOp .NotEq) (.str i) (.str j) (.bl (!decide (i = j))) := .flat op_ne (fun _ => rfl) fun v w H hx hy Q q => by
  rw [show v = _ from hx, show w = _ from hy]
  refine ⟨rfl, ?_⟩
  rw [show decide (V.str i = V.str j) = decide (i = j) from dec_iff ⟨fun z => V.str.inj z, fun z => by rw [z]⟩]
  exact q
/-! ### == of data -/
mutual
def toPy : D → PyData
  | .non => .none
  | .bl b => .bool b
  | .int i => .int i
  | .str z => .str z
  | .tup ds => .tuple (toPys ds)
  | .lst ds => .list (toPys ds)
  | _ => .none
def toPys : List D → List PyData
  | [] => []
  | d :: ds => toPy d :: toPys ds
end
mutual
/-- plain data: what == takes -/
def plain : D → Bool
  | .non => true
  | .bl _ => true
  | .int _ => true
  | .str z => PyData.strOk z
  | .tup ds => plains ds
  | .lst ds => plains ds
  | _ => false
def plains : List D → Bool
  | [] => true
  | d :: ds => plain d && plains ds
end
mutual
theorem Is.dp {K : PySem.W.Frag} {H : Hp} : ∀ {d : D} {v : V}, plain d = true → Is K H d v → Dp K H v (toPy d)
  | .non, _, _, h => by rw [show _ = V.non from h]; exact .non
  | .bl b, _, _, h => by rw [show _ = V.bl b from h]; exact .bl b
  | .int i, _, _, h => by rw [show _ = V.int i from h]; exact .int i
  | .str z, _, _, h => by rw [show _ = V.str z from h]; exact .str z
  | .tup ds, _, p, h => by
    obtain ⟨a, vs, h1, h2, h3⟩ := h
    rw [h1]
    exact .tup h2 (IsL.dp p h3)
  | .lst ds, _, p, h => by
    obtain ⟨a, vs, h1, h2, h3⟩ := h
    rw [h1]
    exact .lst h2 (IsL.dp p h3)
theorem IsL.dp {K : PySem.W.Frag} {H : Hp} : ∀ {ds : List D} {vs : List V}, plains ds = true → IsL K H ds vs → DpAll K H vs (toPys ds)
  | [], _, _, h => by rw [show _ = [] from h]; exact .nil
  | d :: ds, _, p, h => by
    obtain ⟨v, r, h1, h2, h3⟩ := h
    rw [h1]
    have p' : (plain d && plains ds) = true := p
    rw [Bool.and_eq_true] at p'
    exact .cons (Is.dp p'.1 h2) (IsL.dp p'.2 h3)
end
mutual
theorem canLay_plain : ∀ {d : D}, plain d = true → (toPy d).canLay0 = true
  | .non, _ => rfl
  | .bl b, _ => rfl
  | .int i, _ => rfl
  | .str z, h => h
  | .tup ds, h => canLays_plain (ds := ds) h
  | .lst ds, h => canLays_plain (ds := ds) h
theorem canLays_plain : ∀ {ds : List D}, plains ds = true → PyData.canLayAll0 (toPys ds) = true
  | [], _ => rfl
  | d :: ds, h => by
    have p' : (plain d && plains ds) = true := h
    rw [Bool.and_eq_true] at p'
    show ((toPy d).canLay0 && PyData.canLayAll0 (toPys ds)) = true
    rw [canLay_plain p'.1, canLays_plain p'.2] <;> rfl
end
/-- plain, and at most 64 deep -/
def pyOk (d : D) : Bool := plain d && decide ((toPy d).depth ≤ 64)
theorem pyOk.shaped {d : D} (h : pyOk d = true) : SeqAt.shaped (toPy d) = true := by
  have h' : (plain d && decide ((toPy d).depth ≤ 64)) = true := h
  rw [Bool.and_eq_true] at h'
  show ((toPy d).canLay0 && decide ((toPy d).depth ≤ 64)) = true
  rw [canLay_plain h'.1, h'.2] <;> rfl
theorem pyOk.plain {d : D} (h : pyOk d = true) : Mw.plain d = true := by
  have h' : (Mw.plain d && decide ((toPy d).depth ≤ 64)) = true := h
  rw [Bool.and_eq_true] at h'
  exact h'.1
def eqD (x y : D) : Bool := PyData.eqv (toPy x) (toPy y)
theorem oc_eqD {k : Nat} (hr : Room k X.A) (hx : pyOk x = true) (hy : pyOk y = true) : OpD X (compareOp .Eq) x y (.bl (eqD x y)) := .flat (op_eqD hr.units) (fun _ => rfl) fun v w H h1 h2 Q q =>
  ⟨_, _, h1.dp (pyOk.plain hx), h2.dp (pyOk.plain hy), pyOk.shaped hx, pyOk.shaped hy, q⟩
theorem oc_neD {k : Nat} (hr : Room k X.A) (hx : pyOk x = true) (hy : pyOk y = true) : OpD X (compareOp .NotEq) x y (.bl (!eqD x y)) := .flat (op_neD hr.units) (fun _ => rfl) fun v w H h1 h2 Q q =>
  ⟨_, _, h1.dp (pyOk.plain hx), h2.dp (pyOk.plain hy), pyOk.shaped hx, pyOk.shaped hy, q⟩
/-- is None -/
def isNon : D → Bool
  | .non => true
  | _ => false
theorem Is.non {K : PySem.W.Frag} {H : Hp} : ∀ {d : D} {v : V}, Is K H d v → decide (v = V.non) = isNon d
  | .non, _, h => by rw [show _ = V.non from h]; rfl
  | .bl b, _, h => by rw [show _ = V.bl b from h]; rfl
  | .int i, _, h => by rw [show _ = V.int i from h]; rfl
  | .str z, _, h => by rw [show _ = V.str z from h]; rfl
  | .ty n, _, h => by rw [show _ = V.ty n from h]; rfl
  | .cls a, _, h => by rw [show _ = V.ref a from h]; rfl
  | .tup ds, _, h => by obtain ⟨a, vs, h1, h2, h3⟩ := h; rw [h1]; rfl
  | .lst ds, _, h => by obtain ⟨a, vs, h1, h2, h3⟩ := h; rw [h1]; rfl
  | .dct ds, _, h => by obtain ⟨a, vs, h1, h2, h3⟩ := h; rw [h1]; rfl
  | .obj C ds, _, h => by obtain ⟨a, dx, vs, h1, h2, h3⟩ := h; rw [h1]; rfl
  | .xc a dd ds, _, h => by obtain ⟨vs, h1, h2, h3⟩ := h; rw [h1]; rfl
  | .exv C ds, _, h => by obtain ⟨a, dx, vs, h1, h2, h3⟩ := h; rw [h1]; rfl
theorem oc_isN : OpD X (compareOp .Is) x .non (.bl (isNon x)) := .flat op_isN (fun _ => rfl) fun v w H h1 h2 Q q => ⟨h2, by rw [h1.non]; exact q⟩
theorem oc_notN : OpD X (compareOp .IsNot) x .non (.bl (!isNon x)) := .flat op_notN (fun _ => rfl) fun v w H h1 h2 Q q => ⟨h2, by rw [h1.non]; exact q⟩
/-! ### x in a row of flat things -/
def flatP : D → Bool
  | .non => true
  | .bl _ => true
  | .int _ => true
  | .str _ => true
  | _ => false
def toV : D → V
  | .non => .non
  | .bl b => .bl b
  | .int i => .int i
  | .str z => .str z
  | _ => .non
theorem Is.toV {K : PySem.W.Frag} {H : Hp} : ∀ {d : D} {v : V}, flatP d = true → Is K H d v → v = Mw.toV d ∧ flatV v = true
  | .non, _, _, h => by rw [show _ = V.non from h]; exact ⟨rfl, rfl⟩
  | .bl b, _, _, h => by rw [show _ = V.bl b from h]; exact ⟨rfl, rfl⟩
  | .int i, _, _, h => by rw [show _ = V.int i from h]; exact ⟨rfl, rfl⟩
  | .str z, _, _, h => by rw [show _ = V.str z from h]; exact ⟨rfl, rfl⟩
theorem IsL.toV {K : PySem.W.Frag} {H : Hp} : ∀ {ds : List D} {vs : List V}, ds.all flatP = true → IsL K H ds vs → vs = ds.map Mw.toV ∧ vs.all flatV = true
  | [], _, _, h => by rw [show _ = [] from h]; exact ⟨rfl, rfl⟩
  | d :: ds, _, p, h => by
    obtain ⟨v, r, h1, h2, h3⟩ := h
    rw [List.all_cons, Bool.and_eq_true] at p
    obtain ⟨e1, e2⟩ := Is.toV p.1 h2
    obtain ⟨e3, e4⟩ := IsL.toV p.2 h3
    rw [h1, List.all_cons, e2, e4]
    exact ⟨by rw [e1, e3]; rfl, rfl⟩
def inD (x : D) (ds : List D) : Bool := inV (toV x) (ds.map toV)
theorem oc_inT (hx : flatP x = true) (hd : ds.all flatP = true) : OpD X (compareOp .In) x (.tup ds) (.bl (inD x ds)) := .flat op_in_seq (fun _ => rfl) fun v w H h1 h2 Q q => by
  obtain ⟨a, vs, rfl, hq, hv⟩ := h2
  obtain ⟨e1, e2⟩ := h1.toV hx
  obtain ⟨e3, e4⟩ := hv.toV hd
  refine ⟨a, vs, rfl, .inr hq, e2, e4, ?_⟩
  rw [if_neg Bool.false_ne_true, e1, e3]
  exact q
theorem oc_inL (hx : flatP x = true) (hd : ds.all flatP = true) : OpD X (compareOp .In) x (.lst ds) (.bl (inD x ds)) := .flat op_in_seq (fun _ => rfl) fun v w H h1 h2 Q q => by
  obtain ⟨a, vs, rfl, hq, hv⟩ := h2
  obtain ⟨e1, e2⟩ := h1.toV hx
  obtain ⟨e3, e4⟩ := hv.toV hd
  refine ⟨a, vs, rfl, .inl hq, e2, e4, ?_⟩
  rw [if_neg Bool.false_ne_true, e1, e3]
  exact q
theorem oc_ninT (hx : flatP x = true) (hd : ds.all flatP = true) : OpD X (compareOp .NotIn) x (.tup ds) (.bl (!inD x ds)) := .flat op_notIn_seq (fun _ => rfl) fun v w H h1 h2 Q q => by
  obtain ⟨a, vs, rfl, hq, hv⟩ := h2
  obtain ⟨e1, e2⟩ := h1.toV hx
  obtain ⟨e3, e4⟩ := hv.toV hd
  refine ⟨a, vs, rfl, .inr hq, e2, e4, ?_⟩
  rw [if_pos rfl, e1, e3]
  exact q
theorem oc_ninL (hx : flatP x = true) (hd : ds.all flatP = true) : OpD X (compareOp .NotIn) x (.lst ds) (.bl (!inD x ds)) := .flat op_notIn_seq (fun _ => rfl) fun v w H h1 h2 Q q => by
  obtain ⟨a, vs, rfl, hq, hv⟩ := h2
  obtain ⟨e1, e2⟩ := h1.toV hx
  obtain ⟨e3, e4⟩ := hv.toV hd
  refine ⟨a, vs, rfl, .inl hq, e2, e4, ?_⟩
  rw [if_pos rfl, e1, e3]
  exact q
theorem oc_inS {c : Nat} {z : Str} : OpD X (compareOp .In) (.str ⟨#[c]⟩) (.str z) (.bl (decide (c ∈ z.cps.toList))) := .flat op_in_sign (fun _ => rfl) fun v w H h1 h2 Q q => ⟨c, z, h1, h2, q⟩
theorem oc_ninS {c : Nat} {z : Str} : OpD X (compareOp .NotIn) (.str ⟨#[c]⟩) (.str z) (.bl (!decide (c ∈ z.cps.toList))) := .flat op_notIn_sign (fun _ => rfl) fun v w H h1 h2 Q q => ⟨c, z, h1, h2, q⟩
/-! ### negation, subscripts -/
theorem ee_neg {i : Int} (h : EE X a as (.int i)) : EE X (.UnaryOp .USub a pos) as (.int (-i)) := .mk fun σ H0 H hs hf Q q =>
  re_of (pe_un un_neg re_pe) (h.run σ H0 H hs hf _ fun v H1 H' g iv => ⟨i, iv, q _ _ _ g rfl⟩)
theorem atI_is {K : PySem.W.Frag} {H : Hp} {ds : List D} {vs : List V} {i : Int} (h : IsL K H ds vs) (e : atI ds i = some d) : ∃ v, atI vs i = some v ∧ Is K H d v := by
  unfold atI at e ⊢
  rw [h.len]
  cases q : ixN ds.length i with
  | none => rw [q] at e; cases e
  | some j =>
    rw [q] at e
    exact h.get e
theorem ee_ixT {i : Int} (ha : EE X a as (.tup ds)) (hb : EE X b as (.int i)) (h : atI ds i = some d) (hp : PlainIx b := by exact fun _ _ => rfl) : EE X (.Subscript a b pos) as d := .mk fun σ H0 H hs hf Q q =>
  re_of (pe_ix ix_tup re_pe re_pe hp) (ha.run σ H0 H hs hf _ fun v H1 H' g iv => hb.run σ H1 H' g.sub (hf.mono g.frz) _ fun w H2 H'' g' iw => by
    obtain ⟨p, vs, rfl, hq, hv⟩ := iv
    obtain ⟨z, e1, e2⟩ := atI_is (hv.mono g'.frz) h
    exact ⟨p, vs, i, z, rfl, iw, Same.tup (g'.frz.trans g'.sub) hq, e1, q _ _ _ (g.trans g') e2⟩)
theorem ee_ixL {i : Int} (ha : EE X a as (.lst ds)) (hb : EE X b as (.int i)) (h : atI ds i = some d) (hp : PlainIx b := by exact fun _ _ => rfl) : EE X (.Subscript a b pos) as d := .mk fun σ H0 H hs hf Q q =>
  re_of (pe_ix ix_list re_pe re_pe hp) (ha.run σ H0 H hs hf _ fun v H1 H' g iv => hb.run σ H1 H' g.sub (hf.mono g.frz) _ fun w H2 H'' g' iw => by
    obtain ⟨p, vs, rfl, hq, hv⟩ := iv
    obtain ⟨z, e1, e2⟩ := atI_is (hv.mono g'.frz) h
    exact ⟨p, vs, i, z, rfl, iw, Same.lst (g'.frz.trans g'.sub) hq, e1, q _ _ _ (g.trans g') e2⟩)
theorem ee_ixS {i : Int} {z : Str} {c : Nat} (ha : EE X a as (.str z)) (hb : EE X b as (.int i)) (hz : z.length ≤ sizeLine) (h : atI z.cps.toList i = some c) (hp : PlainIx b := by exact fun _ _ => rfl) : EE X (.Subscript a b pos) as (.str ⟨#[c]⟩) := .mk fun σ H0 H hs hf Q q =>
  re_of (pe_ix ix_str re_pe re_pe hp) (ha.run σ H0 H hs hf _ fun v H1 H' g iv => hb.run σ H1 H' g.sub (hf.mono g.frz) _ fun w H2 H'' g' iw =>
    ⟨z, i, c, iv, iw, hz, h, q _ _ _ (g.trans g') rfl⟩)
/-! ### built-ins -/
theorem CaD.flat {f : Value} {r : List V → Hp → VK → Prop} {z : V} (ho : CallR X f r) (hz : ∀ H, Is X.K H d z) (hr : ∀ vs H, IsL X.K H ds vs → ∀ Q : VK, Q z H → r vs H Q) : CaD X f ds d :=
  ⟨r, ho, fun vs H0 H hs hx Q q => hr vs H (hx.mono hs) Q (q z H0 H (Grow.refl hs) (hz H0))⟩
theorem is1 {K : PySem.W.Frag} {H : Hp} {vs : List V} (h : IsL K H [x] vs) : ∃ v, vs = [v] ∧ Is K H x v := by
  obtain ⟨v, r, h1, h2, h3⟩ := h
  rw [show r = [] from h3] at h1
  exact ⟨v, h1, h2⟩
theorem is2 {K : PySem.W.Frag} {H : Hp} {vs : List V} (h : IsL K H [x, y] vs) : ∃ v w, vs = [v, w] ∧ Is K H x v ∧ Is K H y w := by
  obtain ⟨v, r, h1, h2, h3⟩ := h
  obtain ⟨w, e1, e2⟩ := is1 h3
  rw [e1] at h1
  exact ⟨v, w, h1, h2, e2⟩
theorem ca_abs {i : Int} : CaD X (.builtin "abs") [.int i] (.int (if i < 0 then -i else i)) := .flat call_abs (fun _ => rfl) fun vs H h Q q => by
  obtain ⟨v, e, h1⟩ := is1 h
  exact ⟨i, by rw [e, show v = _ from h1], q⟩
theorem ca_max2 {i j : Int} (hc : X.calm = true) : CaD X (.builtin "max") [.int i, .int j] (.int (if j > i then j else i)) := .flat (call_max2 hc) (fun _ => rfl) fun vs H h Q q => by
  obtain ⟨v, w, e, h1, h2⟩ := is2 h
  exact ⟨i, j, by rw [e, show v = _ from h1, show w = _ from h2], q⟩
theorem ca_min2 {i j : Int} (hc : X.calm = true) : CaD X (.builtin "min") [.int i, .int j] (.int (if j < i then j else i)) := .flat (call_min2 hc) (fun _ => rfl) fun vs H h Q q => by
  obtain ⟨v, w, e, h1, h2⟩ := is2 h
  exact ⟨i, j, by rw [e, show v = _ from h1, show w = _ from h2], q⟩
theorem ca_intI {i : Int} : CaD X (.type "int") [.int i] (.int i) := .flat call_int1 (fun _ => rfl) fun vs H h Q q => by
  obtain ⟨v, e, h1⟩ := is1 h
  exact .inl ⟨i, by rw [e, show v = _ from h1], q⟩
theorem ca_intB {k : Bool} : CaD X (.type "int") [.bl k] (.int (if k then 1 else 0)) := .flat call_int1 (fun _ => rfl) fun vs H h Q q => by
  obtain ⟨v, e, h1⟩ := is1 h
  exact .inr ⟨k, by rw [e, show v = _ from h1], q⟩
theorem ca_intS {z : Str} {n : Int} (hn : PySem.intText? z = some n) (hz : z.length ≤ 640) : CaD X (.type "int") [.str z] (.int n) := .flat call_int_str (fun _ => rfl) fun vs H h Q q => by
  obtain ⟨v, e, h1⟩ := is1 h
  exact ⟨z, n, by rw [e, show v = _ from h1], hn, hz, q⟩
theorem ca_strI {i : Int} (hi : i.natAbs.log2 < 1920) : CaD X (.type "str") [.int i] (.str (toString i)) := .flat call_str_int (fun _ => rfl) fun vs H h Q q => by
  obtain ⟨v, e, h1⟩ := is1 h
  exact ⟨i, by rw [e, show v = _ from h1], hi, q⟩
theorem ca_lenS {z : Str} (hz : z.length ≤ sizeLine) : CaD X (.builtin "len") [.str z] (.int (z.length : Nat)) := .flat call_len (fun _ => rfl) fun vs H h Q q => by
  obtain ⟨v, e, h1⟩ := is1 h
  exact ⟨v, z.length, e, by rw [show v = _ from h1]; exact ⟨hz, rfl⟩, q⟩
theorem ca_lenT : CaD X (.builtin "len") [.tup ds] (.int (ds.length : Nat)) := .flat call_len (fun _ => rfl) fun vs H h Q q => by
  obtain ⟨v, e, a, us, h1, h2, h3⟩ := is1 h
  exact ⟨v, ds.length, e, by rw [h1]; exact .inr ⟨us, h2, h3.len.symm⟩, q⟩
theorem ca_lenL : CaD X (.builtin "len") [.lst ds] (.int (ds.length : Nat)) := .flat call_len (fun _ => rfl) fun vs H h Q q => by
  obtain ⟨v, e, a, us, h1, h2, h3⟩ := is1 h
  exact ⟨v, ds.length, e, by rw [h1]; exact .inl ⟨us, h2, h3.len.symm⟩, q⟩
theorem ca_divmod {i j : Int} (h : CDivP i j) : CaD X (.builtin "divmod") [.int i, .int j] (.tup [.int (i / j), .int (i % j)]) :=
  ⟨_, call_divmodW, fun vs H0 H hs hx Q q => by
    obtain ⟨v, w, e, h1, h2⟩ := is2 hx
    refine ⟨i, j, by rw [e, show v = _ from h1, show w = _ from h2], h, fun p hp => ?_⟩
    exact q _ (upd H0 p _) _ (Grow.laid hs hp) ⟨p, _, rfl, SqT.of upd_same, _, _, rfl, rfl, _, _, rfl, rfl, rfl⟩⟩
/-! ### isinstance -/
def tyN : D → Option String
  | .non => some "NoneType"
  | .bl _ => some "bool"
  | .int _ => some "int"
  | .str _ => some "str"
  | .tup _ => some "tuple"
  | .lst _ => some "list"
  | .dct _ => some "dict"
  | _ => none
theorem Is.ty {K : PySem.W.Frag} {H : Hp} : ∀ {d : D} {v : V} {n : String}, tyN d = some n → Is K H d v → TyX K H v (.type n)
  | .non, _, _, e, h => by cases e; rw [show _ = V.non from h]; exact .base .non
  | .bl b, _, _, e, h => by cases e; rw [show _ = V.bl b from h]; exact .base (.bl b)
  | .int i, _, _, e, h => by cases e; rw [show _ = V.int i from h]; exact .base (.int i)
  | .str z, _, _, e, h => by cases e; rw [show _ = V.str z from h]; exact .base (.str z)
  | .tup ds, _, _, e, h => by
    cases e
    obtain ⟨a, vs, h1, h2, h3⟩ := h
    rw [h1]
    rcases h2 with (h2 | ⟨o, h2⟩) | ⟨o, its, n, h2, h4, _⟩
    · exact .base (.tup h2)
    · exact .fTuple h2
    · exact .kTuple h2 h4
  | .lst ds, _, _, e, h => by
    cases e
    obtain ⟨a, vs, h1, h2, h3⟩ := h
    rw [h1]
    rcases h2 with (h2 | ⟨o, h2⟩) | ⟨o, its, n, h2, h4, _⟩
    · exact .base (.lst h2)
    · exact .base (.frz h2)
    · exact .kList h2 h4
  | .dct ds, _, _, e, h => by
    cases e
    obtain ⟨a, vs, h1, h2, h3⟩ := h
    rw [h1]
    rcases h2 with h2 | ⟨o, h2⟩
    · exact .base (.dK h2)
    · exact .fDict h2
theorem ca_isi {n m : String} {k : Bool} (hx : tyN x = some n) (hk : kitB n m = some k) : CaD X (.builtin "isinstance") [x, .ty m] (.bl k) := .flat call_isi (fun _ => rfl) fun vs H h Q q => by
  obtain ⟨v, w, e, h1, h2⟩ := is2 h
  rw [show w = _ from h2] at e
  exact ⟨v, .ty m, _, _, k, e, .ty m, h1.ty hx, kit_ty hk, q⟩
def isThing (d : D) : Bool := (tyN d).isSome
def isTyI : D → Bool
  | .int _ => true
  | .bl _ => true
  | _ => false
def isTyB : D → Bool
  | .bl _ => true
  | _ => false
def isTyS : D → Bool
  | .str _ => true
  | _ => false
def isTyT : D → Bool
  | .tup _ => true
  | _ => false
def isTyL : D → Bool
  | .lst _ => true
  | _ => false
def isTyDc : D → Bool
  | .dct _ => true
  | _ => false
theorem ca_isI (h : isThing x = true) : CaD X (.builtin "isinstance") [x, .ty "int"] (.bl (isTyI x)) := by
  cases x with
  | non => first | exact ca_isi (k := true) rfl (by decide +kernel) | exact ca_isi (k := false) rfl (by decide +kernel)
  | bl b => first | exact ca_isi (k := true) rfl (by decide +kernel) | exact ca_isi (k := false) rfl (by decide +kernel)
  | int i => first | exact ca_isi (k := true) rfl (by decide +kernel) | exact ca_isi (k := false) rfl (by decide +kernel)
  | str z => first | exact ca_isi (k := true) rfl (by decide +kernel) | exact ca_isi (k := false) rfl (by decide +kernel)
  | tup ds => first | exact ca_isi (k := true) rfl (by decide +kernel) | exact ca_isi (k := false) rfl (by decide +kernel)
  | lst ds => first | exact ca_isi (k := true) rfl (by decide +kernel) | exact ca_isi (k := false) rfl (by decide +kernel)
  | dct ds => first | exact ca_isi (k := true) rfl (by decide +kernel) | exact ca_isi (k := false) rfl (by decide +kernel)
  | ty n => cases h
  | cls n => cases h
  | obj C fs => cases h
  | xc a dd fs => cases h
  | exv C fs => cases h
theorem ca_isB (h : isThing x = true) : CaD X (.builtin "isinstance") [x, .ty "bool"] (.bl (isTyB x)) := by
  cases x with
  | non => first | exact ca_isi (k := true) rfl (by decide +kernel) | exact ca_isi (k := false) rfl (by decide +kernel)
  | bl b => first | exact ca_isi (k := true) rfl (by decide +kernel) | exact ca_isi (k := false) rfl (by decide +kernel)
  | int i => first | exact ca_isi (k := true) rfl (by decide +kernel) | exact ca_isi (k := false) rfl (by decide +kernel)
  | str z => first | exact ca_isi (k := true) rfl (by decide +kernel) | exact ca_isi (k := false) rfl (by decide +kernel)
  | tup ds => first | exact ca_isi (k := true) rfl (by decide +kernel) | exact ca_isi (k := false) rfl (by decide +kernel)
  | lst ds => first | exact ca_isi (k := true) rfl (by decide +kernel) | exact ca_isi (k := false) rfl (by decide +kernel)
  | dct ds => first | exact ca_isi (k := true) rfl (by decide +kernel) | exact ca_isi (k := false) rfl (by decide +kernel)
  | ty n => cases h
  | cls n => cases h
  | obj C fs => cases h
  | xc a dd fs => cases h
  | exv C fs => cases h
theorem ca_isS (h : isThing x = true) : CaD X (.builtin "isinstance") [x, .ty "str"] (.bl (isTyS x)) := by
  cases x with
  | non => first | exact ca_isi (k := true) rfl (by decide +kernel) | exact ca_isi (k := false) rfl (by decide +kernel)
  | bl b => first | exact ca_isi (k := true) rfl (by decide +kernel) | exact ca_isi (k := false) rfl (by decide +kernel)
  | int i => first | exact ca_isi (k := true) rfl (by decide +kernel) | exact ca_isi (k := false) rfl (by decide +kernel)
  | str z => first | exact ca_isi (k := true) rfl (by decide +kernel) | exact ca_isi (k := false) rfl (by decide +kernel)
  | tup ds => first | exact ca_isi (k := true) rfl (by decide +kernel) | exact ca_isi (k := false) rfl (by decide +kernel)
  | lst ds => first | exact ca_isi (k := true) rfl (by decide +kernel) | exact ca_isi (k := false) rfl (by decide +kernel)
  | dct ds => first | exact ca_isi (k := true) rfl (by decide +kernel) | exact ca_isi (k := false) rfl (by decide +kernel)
  | ty n => cases h
  | cls n => cases h
  | obj C fs => cases h
  | xc a dd fs => cases h
  | exv C fs => cases h
theorem ca_isT (h : isThing x = true) : CaD X (.builtin "isinstance") [x, .ty "tuple"] (.bl (isTyT x)) := by
  cases x with
  | non => first | exact ca_isi (k := true) rfl (by decide +kernel) | exact ca_isi (k := false) rfl (by decide +kernel)
  | bl b => first | exact ca_isi (k := true) rfl (by decide +kernel) | exact ca_isi (k := false) rfl (by decide +kernel)
  | int i => first | exact ca_isi (k := true) rfl (by decide +kernel) | exact ca_isi (k := false) rfl (by decide +kernel)
  | str z => first | exact ca_isi (k := true) rfl (by decide +kernel) | exact ca_isi (k := false) rfl (by decide +kernel)
  | tup ds => first | exact ca_isi (k := true) rfl (by decide +kernel) | exact ca_isi (k := false) rfl (by decide +kernel)
  | lst ds => first | exact ca_isi (k := true) rfl (by decide +kernel) | exact ca_isi (k := false) rfl (by decide +kernel)
  | dct ds => first | exact ca_isi (k := true) rfl (by decide +kernel) | exact ca_isi (k := false) rfl (by decide +kernel)
  | ty n => cases h
  | cls n => cases h
  | obj C fs => cases h
  | xc a dd fs => cases h
  | exv C fs => cases h
theorem ca_isL (h : isThing x = true) : CaD X (.builtin "isinstance") [x, .ty "list"] (.bl (isTyL x)) := by
  cases x with
  | non => first | exact ca_isi (k := true) rfl (by decide +kernel) | exact ca_isi (k := false) rfl (by decide +kernel)
  | bl b => first | exact ca_isi (k := true) rfl (by decide +kernel) | exact ca_isi (k := false) rfl (by decide +kernel)
  | int i => first | exact ca_isi (k := true) rfl (by decide +kernel) | exact ca_isi (k := false) rfl (by decide +kernel)
  | str z => first | exact ca_isi (k := true) rfl (by decide +kernel) | exact ca_isi (k := false) rfl (by decide +kernel)
  | tup ds => first | exact ca_isi (k := true) rfl (by decide +kernel) | exact ca_isi (k := false) rfl (by decide +kernel)
  | lst ds => first | exact ca_isi (k := true) rfl (by decide +kernel) | exact ca_isi (k := false) rfl (by decide +kernel)
  | dct ds => first | exact ca_isi (k := true) rfl (by decide +kernel) | exact ca_isi (k := false) rfl (by decide +kernel)
  | ty n => cases h
  | cls n => cases h
  | obj C fs => cases h
  | xc a dd fs => cases h
  | exv C fs => cases h
theorem ca_isDc (h : isThing x = true) : CaD X (.builtin "isinstance") [x, .ty "dict"] (.bl (isTyDc x)) := by
  cases x with
  | non => first | exact ca_isi (k := true) rfl (by decide +kernel) | exact ca_isi (k := false) rfl (by decide +kernel)
  | bl b => first | exact ca_isi (k := true) rfl (by decide +kernel) | exact ca_isi (k := false) rfl (by decide +kernel)
  | int i => first | exact ca_isi (k := true) rfl (by decide +kernel) | exact ca_isi (k := false) rfl (by decide +kernel)
  | str z => first | exact ca_isi (k := true) rfl (by decide +kernel) | exact ca_isi (k := false) rfl (by decide +kernel)
  | tup ds => first | exact ca_isi (k := true) rfl (by decide +kernel) | exact ca_isi (k := false) rfl (by decide +kernel)
  | lst ds => first | exact ca_isi (k := true) rfl (by decide +kernel) | exact ca_isi (k := false) rfl (by decide +kernel)
  | dct ds => first | exact ca_isi (k := true) rfl (by decide +kernel) | exact ca_isi (k := false) rfl (by decide +kernel)
  | ty n => cases h
  | cls n => cases h
  | obj C fs => cases h
  | xc a dd fs => cases h
  | exv C fs => cases h
/-- an own class: no builtin thing is of it -/
theorem ca_isiC {n : String} {C : Addr} {k : Bool} (hx : tyN x = some n) (hk : PySem.W.kitOne X.K (.type n) (.ref C) = some k) : CaD X (.builtin "isinstance") [x, .cls C] (.bl k) := .flat call_isi (fun _ => rfl) fun vs H h Q q => by
  obtain ⟨v, w, e, h1, h2⟩ := is2 h
  rw [show w = _ from h2] at e
  exact ⟨v, .ref C, _, _, k, e, .own C, h1.ty hx, hk, q⟩
end
end Mw
set_option maxHeartbeats 4000000
namespace Mw
open PySem PySem.Spec PyProof.Rows L2
/-! ### what is known of a body's context -/
inductive At : List Str → Str → Nat → Prop
  | here {n : Str} {r : List Str} : At (n :: r) n 0
  | there {m n : Str} {r : List Str} {i : Nat} (h : At r n i) : At (m :: r) n (i + 1)
theorem At.get {N : List Str} {n : Str} {i : Nat} (h : At N n i) : N[i]? = some n := by
  induction h with
  | here => rfl
  | there _ ih => rw [List.getElem?_cons_succ]; exact ih
theorem At.mem {N : List Str} {n : Str} {i : Nat} (h : At N n i) : n ∈ N := List.mem_of_getElem? h.get
def locOk (sc : Scope) (n : Str) : Bool := (sc.names.lookup n == some .local || sc.names.lookup n == some .cell) && !(n == ("__debug__" : Str)) && !(n == ("__classdict__" : Str))
def glbOk (sc : Scope) (n : Str) : Bool := (sc.names.lookup n == some .globalImplicit) && !(n == ("__debug__" : Str)) && !(n == ("__name__" : Str))
/-- names that are read, with their slots; global names -/
structure Nms (X : Cx) (N : List Str) : Prop where
  at_ : ∀ n i, At N n i → X.N[i]? = some n ∧ Vis X.env.scope n ∧ (n == ("__debug__" : Str)) = false ∧ (n == ("__classdict__" : Str)) = false
structure Gls (X : Cx) (gs : List Str) : Prop where
  at_ : ∀ n i, At gs n i → Gl X n ∧ (n == ("__debug__" : Str)) = false ∧ n ≠ "__name__"
/-- N: all slots; L: the def's own, ahead in N; gs: globals; sc: the def's scope -/
structure Body (X : Cx) (N L gs : List Str) (k : Nat) (sc : Scope) : Prop where
  hN : X.N = N
  hsc : X.env.scope = sc
  nd : N.Nodup
  pre : N.take L.length = L
  loc : L.all (locOk sc) = true
  gl : gs.all (glbOk sc) = true
  kind : sc.kind = .function
  nofree : ∀ y ∈ sc.names, y.2 ≠ .free
  fn : ∀ n, X.fn n = true
  room : Room k X.A
  calm : X.calm = true
  pown : PassesOwn (model X.prog X.w) X.A X.env X.xe
  stk : X.stack = X.env :: X.outer
  frm : X.env.frame = some X.env.locals
section
variable {X : Cx} {N L gs : List Str} {k : Nat} {n : Str} {i j : Nat} {as : DE} {d : D} {sc : Scope}
theorem nk_beq {a b : Option NameKind} (h : (a == b) = true) : a = b := by simpa using h
theorem loc_vis {sc : Scope} (h : Loc sc n) : Vis sc n := h.elim .inl fun z => .inr (.inl z)
theorem Body.locs (B : Body X N L gs k sc) (h : At L n i) : X.N[i]? = some n ∧ Loc X.env.scope n ∧ (n == ("__debug__" : Str)) = false ∧ (n == ("__classdict__" : Str)) = false := by
  have q := List.all_eq_true.mp B.loc n h.mem
  unfold locOk at q
  simp only [Bool.and_eq_true, Bool.or_eq_true, Bool.not_eq_true'] at q
  refine ⟨?_, ?_, q.1.2, q.2⟩
  · have e := h.get
    rw [← B.pre] at e
    have hi : i < (N.take L.length).length := (List.getElem?_eq_some_iff.mp e).1
    rw [List.length_take] at hi
    rw [List.getElem?_take_of_lt (by omega)] at e
    rw [B.hN]
    exact e
  · rw [B.hsc]
    rcases q.1.1 with z | z
    · exact .inl (nk_beq z)
    · exact .inr (nk_beq z)
theorem Body.gls (B : Body X N L gs k sc) (h : At gs n i) : Gl X n ∧ (n == ("__debug__" : Str)) = false ∧ n ≠ "__name__" := by
  have q := List.all_eq_true.mp B.gl n h.mem
  unfold glbOk at q
  simp only [Bool.and_eq_true, Bool.not_eq_true'] at q
  refine ⟨?_, q.1.2, by simpa using q.2⟩
  show X.env.scope.names.lookup n = _
  rw [B.hsc]
  exact nk_beq q.1.1
theorem Body.nms (B : Body X N L gs k sc) : Nms X L := ⟨fun n i h => let ⟨a, b, c, d⟩ := B.locs h; ⟨a, loc_vis b, c, d⟩⟩
theorem Body.glb (B : Body X N L gs k sc) : Gls X gs := ⟨fun n i h => B.gls h⟩
theorem Body.ndX (B : Body X N L gs k sc) : X.N.Nodup := by rw [B.hN]; exact B.nd
theorem Body.tr (B : Body X N L gs k sc) {pn : List (Addr × Obj)} {xe : Value → Shared → Prop} (hp : PassesOwn (model X.prog X.w) X.A X.env xe) : Body (X.tr pn xe) N L gs k sc := ⟨B.hN, B.hsc, B.nd, B.pre, B.loc, B.gl, B.kind, B.nofree, B.fn, B.room, B.calm, hp, B.stk, B.frm⟩
theorem Nms.tr {pn : List (Addr × Obj)} {xe : Value → Shared → Prop} (h : Nms X L) : Nms (X.tr pn xe) L := ⟨h.at_⟩
theorem Gls.tr {pn : List (Addr × Obj)} {xe : Value → Shared → Prop} (h : Gls X gs) : Gls (X.tr pn xe) gs := ⟨h.at_⟩
theorem Nms.suite {a : Addr} {pn : List (Addr × Obj)} (h : Nms X L) : Nms (X.suite a pn) L := ⟨h.at_⟩
theorem Gls.suite {a : Addr} {pn : List (Addr × Obj)} (h : Gls X gs) : Gls (X.suite a pn) gs := ⟨h.at_⟩
end
section
variable {X : Cx} {N L gs : List Str} {k : Nat} {n : Str} {i j : Nat} {as : DE} {d x y : D} {pos p p2 p3 : Pos} {e a b : Expr} {es : List Expr} {ds : List D}
/-! ### the rules by name -/
theorem e_name (B : Nms X L) (h : At L n i) (ha : as[i]? = some (some d)) : EE X (.Name n pos) as d :=
  let ⟨h1, h2, h3, h4⟩ := B.at_ _ _ h
  ee_name i h1 h2 ha h3 h4
theorem e_ty {T : String} (B : Gls X gs) (h : At gs n i) (hm : X.mg n = none) (hb : bootBuiltins n = some (.type T)) : EE X (.Name n pos) as (.ty T) :=
  let ⟨h1, h2, h3⟩ := B.at_ _ _ h
  ee_bltn (v := .ty T) h1 hm hb rfl (fun _ => rfl) h3 h2
theorem e_cls {C : Addr} (B : Gls X gs) (h : At gs n i) (hm : X.mg n = some (.ref C)) : EE X (.Name n pos) as (.cls C) :=
  let ⟨h1, h2, h3⟩ := B.at_ _ _ h
  ee_glob (v := .ref C) h1 hm rfl (fun _ => rfl) h2
/-- a constant of the module -/
structure CstE (K : PySem.W.Frag) (mg : Str → Option Value) (n : Str) (d : D) : Prop where
  ex : ∃ (u : Value) (v : V), mg n = some u ∧ RelV v u ∧ ∀ H, Is K H d v
abbrev CstD (X : Cx) (n : Str) (d : D) : Prop := CstE X.K X.mg n d
theorem e_cst (B : Gls X gs) (c : CstD X n d) (h : At gs n i) : EE X (.Name n pos) as d := by
  obtain ⟨u, v, h1, h2, h3⟩ := c.ex
  obtain ⟨g1, g2, g3⟩ := B.at_ _ _ h
  exact ee_glob g1 h1 h2 h3 g2
theorem e_abs (B : Gls X gs) (h : At gs "abs" i) (hm : X.mg "abs" = none) {z : Int} (ha : EE X e as (.int z)) (he : starEach [e] X.env = (false, eval e X.env) :: starEach [] X.env := by rfl) : EE X (.Call (.Name "abs" p) [e] [] pos) as (.int (if z < 0 then -z else z)) :=
  let ⟨h1, h2, h3⟩ := B.at_ _ _ h
  ee_callB (ea_cons ha ea_nil he) ca_abs h1 hm boot_abs h3 h2 he rfl
theorem e_len (B : Gls X gs) (h : At gs "len" i) (hm : X.mg "len" = none) (ha : EE X e as x) (hc : CaD X (.builtin "len") [x] d) (he : starEach [e] X.env = (false, eval e X.env) :: starEach [] X.env := by rfl) : EE X (.Call (.Name "len" p) [e] [] pos) as d :=
  let ⟨h1, h2, h3⟩ := B.at_ _ _ h
  ee_callB (ea_cons ha ea_nil he) hc h1 hm boot_len h3 h2 he rfl
theorem e_divmod (B : Gls X gs) (h : At gs "divmod" i) (hm : X.mg "divmod" = none) {z w : Int} (ha : EE X a as (.int z)) (hb : EE X b as (.int w)) (hd : CDivP z w) (he : starEach [a, b] X.env = (false, eval a X.env) :: starEach [b] X.env := by rfl) (he2 : starEach [b] X.env = (false, eval b X.env) :: starEach [] X.env := by rfl)
    (hpl : (backTo pos (starEach [b] X.env)).any (·.1) = false := by rfl) : EE X (.Call (.Name "divmod" p) [a, b] [] pos) as (.tup [.int (z / w), .int (z % w)]) :=
  let ⟨h1, h2, h3⟩ := B.at_ _ _ h
  ee_callB (ea_cons ha (ea_cons hb ea_nil he2) he) (ca_divmod hd) h1 hm boot_divmod h3 h2 he hpl
theorem e_isi (B : Gls X gs) (h : At gs "isinstance" i) (hm : X.mg "isinstance" = none) (ha : EE X a as x) (hb : EE X b as y) (hc : CaD X (.builtin "isinstance") [x, y] d) (he : starEach [a, b] X.env = (false, eval a X.env) :: starEach [b] X.env := by rfl) (he2 : starEach [b] X.env = (false, eval b X.env) :: starEach [] X.env := by rfl)
    (hpl : (backTo pos (starEach [b] X.env)).any (·.1) = false := by rfl) : EE X (.Call (.Name "isinstance" p) [a, b] [] pos) as d :=
  let ⟨h1, h2, h3⟩ := B.at_ _ _ h
  ee_callB (ea_cons ha (ea_cons hb ea_nil he2) he) hc h1 hm boot_isinstance h3 h2 he hpl
theorem e_int (B : Gls X gs) (h : At gs "int" i) (hm : X.mg "int" = none) (ha : EE X e as x) (hc : CaD X (.type "int") [x] d) (he : starEach [e] X.env = (false, eval e X.env) :: starEach [] X.env := by rfl) : EE X (.Call (.Name "int" p) [e] [] pos) as d :=
  let ⟨h1, h2, h3⟩ := B.at_ _ _ h
  ee_callTy (ea_cons ha ea_nil he) hc h1 hm boot_int h3 h2 he rfl
theorem e_strc (B : Gls X gs) (h : At gs "str" i) (hm : X.mg "str" = none) (ha : EE X e as x) (hc : CaD X (.type "str") [x] d) (he : starEach [e] X.env = (false, eval e X.env) :: starEach [] X.env := by rfl) : EE X (.Call (.Name "str" p) [e] [] pos) as d :=
  let ⟨h1, h2, h3⟩ := B.at_ _ _ h
  ee_callTy (ea_cons ha ea_nil he) hc h1 hm boot_str h3 h2 he rfl
variable {f : Addr} {dds : List D} {S : FS} {k' : Nat}
theorem e_call (B : Gls X gs) (F : FnD X k' n dds S) (h : At gs n i) (hr : Room k' X.A) (ha : EA X (e :: es) as ds) (hS : S (ds ++ dds) (.ok d)) (he : starEach (e :: es) X.env = (false, eval e X.env) :: starEach es X.env := by rfl) (hpl : (backTo pos (starEach es X.env)).any (·.1) = false := by rfl) :
    EE X (.Call (.Name n p) (e :: es) [] pos) as d :=
  let ⟨h1, h2, h3⟩ := B.at_ _ _ h
  ee_call F ha hS hr h1 h2 he hpl
theorem x_call {xn : Exn} (B : Gls X gs) (F : FnD X k' n dds S) (h : At gs n i) (hr : Room k' X.A) (ha : EA X (e :: es) as ds) (hS : S (ds ++ dds) (.error xn)) (he : starEach (e :: es) X.env = (false, eval e X.env) :: starEach es X.env := by rfl) (hpl : (backTo pos (starEach es X.env)).any (·.1) = false := by rfl) :
    EX X (.Call (.Name n p) (e :: es) [] pos) as xn :=
  let ⟨h1, h2, h3⟩ := B.at_ _ _ h
  ex_call F ha hS hr h1 h2 he hpl
end
/-! ### statements by name -/
inductive SetA : AS → Nat → Sl → AS → Prop
  | here {s x : Sl} {l : AS} : SetA (s :: l) 0 x (x :: l)
  | there {s x : Sl} {l l' : AS} {i : Nat} (h : SetA l i x l') : SetA (s :: l) (i + 1) x (s :: l')
theorem SetA.eq {l l' : AS} {i : Nat} {x : Sl} (h : SetA l i x l') : l.set i x = l' := by
  induction h with
  | here => rfl
  | there _ ih => rw [List.set_cons_succ, ih]
section
variable {X : Cx} {N L gs : List Str} {k : Nat} {sc : Scope} {n m : Str} {i j : Nat} {Gs G : Hp} {as as1 as2 : AS} {F : Fin} {d x y : D} {pos p p2 p3 : Pos} {e a b : Expr} {es : List Expr} {ds : List D} {body : List Stmt}
theorem t_set (B : Body X N L gs k sc) (h : At L n i) (he : EE X e (hid as) d) (hs : swapsWith e (some (.Name n p)) pos.line X.env = pure false := by rfl) (ha : SetA as i (.fz d) as1) (q : F.nx as1) : S1 X Gs G (.Assign [.Name n p] e pos) as F :=
  let ⟨h1, h2, _, _⟩ := B.locs h
  s1_set i B.ndX h1 h2 he (by rw [ha.eq]; exact q) hs (.inl (B.fn n))
theorem t_setV (B : Body X N L gs k sc) (h : At L n i) (he : EE X e (vis as) d) (hs : swapsWith e (some (.Name n p)) pos.line X.env = pure false := by rfl) (hd : flatD d = true) (ha : SetA as i (.fz d) as1) (q : F.nx as1) : S1 X Gs G (.Assign [.Name n p] e pos) as F :=
  let ⟨h1, h2, _, _⟩ := B.locs h
  s1_setV i B.ndX h1 h2 he hd (by rw [ha.eq]; exact q) hs (.inl (B.fn n))
theorem t_setN (B : Body X N L gs k sc) (h : At L n i) (he : EN X e (hid as) d) (hs : swapsWith e (some (.Name n p)) pos.line X.env = pure false := by rfl) (ha : SetA as i (.ow d) as1) (q : F.nx as1) : S1 X Gs G (.Assign [.Name n p] e pos) as F :=
  let ⟨h1, h2, _, _⟩ := B.locs h
  s1_setN i B.ndX h1 h2 he (by rw [ha.eq]; exact q) hs (.inl (B.fn n))
/-- a statement whose expression raises -/
theorem s1_retX {xn : Exn} (h : EX X e (vis as) xn) (q : F.ex xn (frz as)) : S1 X Gs G (.Return (some e) pos) as F := by
  refine s1_frz ⟨fun σ H H0 S E ok => ?_⟩
  refine rs_of (ps_ret re_pe) ?_
  have sf := S.hid
  rw [vis_frz] at sf
  exact h.run σ H0 H S.grow.sub sf _ fun c dd H1 H' g iv => ok.ex c dd σ H' xn _ H1 g.frz (S.more g) iv q
theorem s1_exprX {xn : Exn} (h : EX X e (vis as) xn) (hs : swapsWith e none pos.line X.env = pure false := by rfl) (q : F.ex xn (frz as)) : S1 X Gs G (.Expr e pos) as F := by
  refine s1_frz ⟨fun σ H H0 S E ok => ?_⟩
  refine rs_of (ps_expr re_pe hs) ?_
  have sf := S.hid
  rw [vis_frz] at sf
  exact h.run σ H0 H S.grow.sub sf _ fun c dd H1 H' g iv => ok.ex c dd σ H' xn _ H1 g.frz (S.more g) iv q
theorem t_setX {xn : Exn} (B : Body X N L gs k sc) (hn : At L n i) (h : EX X e (vis as) xn) (hs : swapsWith e (some (.Name n p)) pos.line X.env = pure false := by rfl) (q : F.ex xn (frz as)) : S1 X Gs G (.Assign [.Name n p] e pos) as F := by
  obtain ⟨h1, h2, _, _⟩ := B.locs hn
  refine s1_frz ⟨fun σ H H0 S E ok => ?_⟩
  refine rs_of (ps_set B.ndX h1 h2 re_pe hs (.inl (B.fn n))) ?_
  have sf := S.hid
  rw [vis_frz] at sf
  exact h.run σ H0 H S.grow.sub sf _ fun c dd H1 H' g iv => ok.ex c dd σ H' xn _ H1 g.frz (S.more g) iv q
theorem s1_ifX {xn : Exn} {c : Expr} {t u : List Stmt} (h : EX X c (vis as) xn) (he : ∀ whole, isTrue c X.env whole = (do let v ← whole; standAt c.pos; holding [v] (truthy v)) := by intro _; rfl) (q : F.ex xn (frz as)) : S1 X Gs G (.If c t u pos) as F := by
  refine s1_frz ⟨fun σ H H0 S E ok => ?_⟩
  refine rs_of (ps_if (pt_val re_pe he) rss_pss rss_pss) ?_
  have sf := S.hid
  rw [vis_frz] at sf
  exact h.run σ H0 H S.grow.sub sf _ fun c dd H1 H' g iv => ok.ex c dd σ H' xn _ H1 g.frz (S.more g) iv q
/-- an own exception class without fields -/
structure ExcE (K : PySem.W.Frag) (mg : Str → Option Value) (n : Str) (C : Addr) : Prop where
  g : mg n = some (.ref C)
  x : PySem.W.excIn K C [.type "ValueError", .type "Exception", .type "BaseException", .type "object"] "ValueError.__new__" = true
  k : PySem.W.keepIn K (.ref C) = true
  b : PySem.W.subIn K (.ref C) (.type "BaseException") = some true
  t : PySem.W.typeIn K (.ref C) = some (.type "type")
abbrev ExcOk (X : Cx) (n : Str) (C : Addr) : Prop := ExcE X.K X.mg n C
theorem t_raise {C : Addr} {z : Nat} (B : Body X N L gs k sc) (hC : ExcOk X n C) (h : At gs n i) (q : F.ex ⟨C, []⟩ as) : S1 X Gs G (.Raise (some (.Call (.Name n p) [.Constant (.str m) z p2] [] p3)) none pos) as F := .mk fun σ H H0 S E ok => by
  obtain ⟨h1, h2, h3⟩ := B.gls h
  refine rs_of (ps_raise B.calm wx_takes (pmk_own PySem.F.excBase_ValueError hC.x hC.g hC.k (raises_own hC.b hC.t) h1 h2)) ?_
  exact ok.ex _ _ σ H ⟨C, []⟩ as H0 (Same.refl _) S ⟨rfl, .inl ⟨rfl, rfl⟩⟩ q
/-- a, b = e -/
theorem t_two {k2 : Nat} (B : Body X N L gs k sc) (h1 : At L n i) (h2 : At L m j) (he : EE X e (hid as) (.tup [x, y]))
    (hs : swapsWithSole [.Tuple [.Name n p, .Name m p2] k2 p3] e pos.line X.env = pure false := by rfl) (hw : swappedStores [.Tuple [.Name n p, .Name m p2] k2 p3] e X.env = pure none := by rfl) (ha1 : SetA as i (.fz x) as1) (ha2 : SetA as1 j (.fz y) as2) (q : F.nx as2) : S1 X Gs G (.Assign [.Tuple [.Name n p, .Name m p2] k2 p3] e pos) as F := .mk fun σ H H0 S E ok => by
  obtain ⟨a1, a2, _, _⟩ := B.locs h1
  obtain ⟨b1, b2, _, _⟩ := B.locs h2
  refine rs_len fun hl => rs_of (ps_asg re_pe (pg_tup B.calm (pgs_cons (pg_name B.ndX a1 a2 (.inl (B.fn n))) (pgs_cons (pg_name B.ndX b1 b2 (.inl (B.fn m))) pgs_nil))) hs hw) ?_
  refine he.run σ H0 H S.grow.sub S.hid _ fun v H1 H' g iv => ?_
  obtain ⟨a, vs, rfl, hq, hv⟩ := iv
  obtain ⟨v1, v2, e1, i1, i2⟩ := is2 hv
  subst e1
  refine ⟨a, _, rfl, Same.tup g.sub hq, rfl, v1, [v2], rfl, v2, [], rfl, rfl, ?_⟩
  have il : i < σ.length := by rw [hl]; exact (List.getElem?_eq_some_iff.mp a1).1
  have jl : j < (σ.set i (some v1)).length := by rw [List.length_set, hl]; exact (List.getElem?_eq_some_iff.mp b1).1
  exact ok.nx _ H' _ H1 g.frz (((S.more g).setF il i1).setF jl i2) (by rw [ha1.eq, ha2.eq]; exact q)
/-- for n in range(e) -/
theorem t_forR {z : Int} {e : Expr} (B : Body X N L gs k sc) (h : At L n i) (hr : At gs "range" j) (hm : X.mg "range" = none) (he : EE X e (vis as) (.int z)) (hz : -(2 ^ 62) ≤ z ∧ z < 2 ^ 62) (I : Nat → AS → Prop) (h0 : I 0 as)
    (hs : ∀ (t : Nat) as', (t : Int) < z → I t as' → ∃ as2, SetA as' i (.fz (.int t)) as2 ∧ SS X Gs G body as2 { F with nx := I (t + 1), ct := I (t + 1), bk := F.nx }) (hd : ∀ as', I z.toNat as' → F.nx as')
    (hst : starEach [e] X.env = [(false, eval e X.env)] := by rfl) (hss : ∀ x, foldedSetIterable (.Call (.Name "range" p2) [e] [] p3) X.env x = pure x := by intro _; rfl) : S1 X Gs G (.For (.Name n p) (.Call (.Name "range" p2) [e] [] p3) body [] pos) as F := .mk fun σ H H0 S E ok => by
  obtain ⟨a1, a2, _, _⟩ := B.locs h
  obtain ⟨g1, g2, g3⟩ := B.gls hr
  refine rs_of (ps_for B.pown B.calm (pi_range1 g1 hm (pa_cons re_pe pa_nil hst) hst) (pg_name B.ndX a1 a2 (.inl (B.fn n))) rss_pss hss) ?_
  refine he.run σ H H (Same.refl _) S.vis _ fun v H1 H' g iv => ?_
  subst iv
  refine ⟨z, rfl, hz.1, hz.2, for_range (lo := 0) (n := z.toNat) (fun t σ' H2 => ∃ as' H3, Same H0 H3 ∧ StH X.K Gs G σ' H2 as' H3 ∧ I t as') ⟨as, H0, Same.refl _, S.tmp g.all, h0⟩ ?_ ?_⟩
  · rintro t σ' H2 ht ⟨as', H3, q, S', it⟩
    show rss X body _ (σ'.set i (some (.int (0 + (t : Int))))) H2
    rw [Int.zero_add]
    refine rss_len fun hl2 => ?_
    obtain ⟨as2, ea, hb2⟩ := hs t as' (by omega) it
    refine hb2.run _ H2 H3 (by rw [← ea.eq]; exact S'.setF (by rw [List.length_set] at hl2; rw [hl2]; exact (List.getElem?_eq_some_iff.mp a1).1) rfl) _ ⟨fun σ4 H4 as4 H5 r S4 z => ⟨as4, H5, q.trans r, S4, z⟩, (ok.more q).rt, (ok.more q).nx, fun σ4 H4 as4 H5 r S4 z => ⟨as4, H5, q.trans r, S4, z⟩, (ok.more q).ex⟩
  · rintro σ' H2 ⟨as', H3, q, S', z⟩
    exact ok.nx σ' H2 as' H3 q S' (hd as' z)
/-- for n in range(a, b) -/
theorem t_forR2 {z w : Int} (B : Body X N L gs k sc) (h : At L n i) (hr : At gs "range" j) (hm : X.mg "range" = none) (ha : EE X a (vis as) (.int z)) (hb : EE X b (vis as) (.int w)) (hz : -(2 ^ 62) ≤ z ∧ z < 2 ^ 62 ∧ -(2 ^ 62) ≤ w ∧ w < 2 ^ 62) (I : Nat → AS → Prop) (h0 : I 0 as)
    (hs : ∀ (t : Nat) as', z + (t : Int) < w → I t as' → ∃ as2, SetA as' i (.fz (.int (z + t))) as2 ∧ SS X Gs G body as2 { F with nx := I (t + 1), ct := I (t + 1), bk := F.nx }) (hd : ∀ as', I (w - z).toNat as' → F.nx as')
    (hst : starEach [a, b] X.env = [(false, eval a X.env), (false, eval b X.env)] := by rfl) (hst2 : starEach [b] X.env = [(false, eval b X.env)] := by rfl) (hss : ∀ x, foldedSetIterable (.Call (.Name "range" p2) [a, b] [] p3) X.env x = pure x := by intro _; rfl) : S1 X Gs G (.For (.Name n p) (.Call (.Name "range" p2) [a, b] [] p3) body [] pos) as F := .mk fun σ H H0 S E ok => by
  obtain ⟨a1, a2, _, _⟩ := B.locs h
  obtain ⟨g1, g2, g3⟩ := B.gls hr
  refine rs_of (ps_for B.pown B.calm (pi_range2 g1 hm (pa_cons re_pe (pa_cons re_pe pa_nil hst2) (by rw [hst, hst2])) hst hst2) (pg_name B.ndX a1 a2 (.inl (B.fn n))) rss_pss hss) ?_
  refine ha.run σ H H (Same.refl _) S.vis _ fun v H1 H' g iv => ?_
  subst iv
  refine hb.run σ H' H' (Same.refl _) (S.tmp g.all).vis _ fun v H1 H'' g' iv => ?_
  subst iv
  refine ⟨z, w, rfl, hz, for_range (lo := z) (n := (w - z).toNat) (fun t σ' H2 => ∃ as' H3, Same H0 H3 ∧ StH X.K Gs G σ' H2 as' H3 ∧ I t as') ⟨as, H0, Same.refl _, S.tmp (g.all.trans g'.all), h0⟩ ?_ ?_⟩
  · rintro t σ' H2 ht ⟨as', H3, q, S', it⟩
    show rss X body _ (σ'.set i (some (.int (z + (t : Int))))) H2
    refine rss_len fun hl2 => ?_
    obtain ⟨as2, ea, hb2⟩ := hs t as' (by omega) it
    refine hb2.run _ H2 H3 (by rw [← ea.eq]; exact S'.setF (by rw [List.length_set] at hl2; rw [hl2]; exact (List.getElem?_eq_some_iff.mp a1).1) rfl) _ ⟨fun σ4 H4 as4 H5 r S4 z => ⟨as4, H5, q.trans r, S4, z⟩, (ok.more q).rt, (ok.more q).nx, fun σ4 H4 as4 H5 r S4 z => ⟨as4, H5, q.trans r, S4, z⟩, (ok.more q).ex⟩
  · rintro σ' H2 ⟨as', H3, q, S', z⟩
    exact ok.nx σ' H2 as' H3 q S' (hd as' z)
/-- n.append(e) -/
theorem t_append {apos cpos : Pos} (B : Body X N L gs k sc) (h : At L n i) (ha : as[i]? = some (.ow (.lst ds))) (he : EE X e (hid as) d) (hz : ds.length < sizeLine)
    (hfew : ((backTo cpos (starEach [e] X.env)).all (fun x => !x.1) && (backToKw cpos (keywordEach [] X.env)).all (fun x => x.1.isSome)
      && decide ([e].length + ([] : List Keyword).length + (if ([] : List Keyword).isEmpty then 0 else 1) < 30)) = true := by rfl)
    (hline : (apos.endLine == cpos.line) = true := by rfl) (hst : starEach [e] X.env = (false, eval e X.env) :: starEach [] X.env := by rfl) (hsw : swapsWith (.Call (.Attribute (.Name n p) "append" apos) [e] [] cpos) none pos.line X.env = pure false := by rfl) (hst0 : SetA as i (.ow (.lst (ds ++ [d]))) as1) (q : F.nx as1) :
    S1 X Gs G (.Expr (.Call (.Attribute (.Name n p) "append" apos) [e] [] cpos) pos) as F := .mk fun σ H H0 S E ok => by
  obtain ⟨a1, a2, a3, a4⟩ := B.locs h
  obtain ⟨l, s1, s2, s3, us, hu, hi⟩ := S.ow i _ ha
  refine rs_of (ps_expr (pe_bm PySem.F.plainAttrs_list PySem.F.slot_list_append PySem.F.type_list_append mt_append (pe_var a1 (loc_vis a2) a3 a4) (pa_cons re_pe pa_nil hst) rfl hfew hline hst rfl) hsw) ?_
  refine ⟨_, s1, .inl ⟨rfl, us, SqL.of hu⟩, ?_⟩
  refine he.run σ H0 H S.grow.sub S.hid _ fun v H1 H' g iv => ?_
  refine ⟨l, us, v, rfl, rfl, g.all _ _ hu, by rw [hi.len]; exact hz, ?_⟩
  exact ok.nx σ _ _ H1 g.frz ((S.more g).write (d := .lst ds) (d' := .lst (ds ++ [d])) ha s1 ⟨us ++ [v], upd_same, (hi.mono g.frz).app (.one iv)⟩) (by rw [hst0.eq]; exact q)
end
/-! ### a def -/
theorem start_get {N : List Str} {vs : List V} {i : Nat} {v : V} (h : vs[i]? = some v) : (L2.start N vs)[i]? = some (some v) := by
  unfold L2.start
  have hi : i < vs.length := (List.getElem?_eq_some_iff.mp h).1
  rw [List.getElem?_append_left (by rw [List.length_map]; exact hi), List.getElem?_map, h]
  rfl
def startA (N : List Str) (ds : List D) : AS := ds.map .fz ++ List.replicate (N.length - ds.length) .un
theorem startA_at {N : List Str} {ds : List D} {i : Nat} {s : Sl} (h : (startA N ds)[i]? = some s) : (∃ d, s = .fz d ∧ ds[i]? = some d) ∨ s = .un := by
  unfold startA at h
  by_cases hi : i < ds.length
  · rw [List.getElem?_append_left (by rw [List.length_map]; exact hi), List.getElem?_map, List.getElem?_eq_getElem hi] at h
    exact .inl ⟨ds[i], (Option.some.inj h).symm, List.getElem?_eq_getElem hi⟩
  · rw [List.getElem?_append_right (by rw [List.length_map]; omega), List.getElem?_replicate] at h
    split at h
    · exact .inr (Option.some.inj h).symm
    · cases h
section
variable {P : Program} {w : World} {K : PySem.W.Frag} {mg : Str → Option Value} {base : Heap}
/-- a def's body, checked -/
structure BodyOk (N L ps gs : List Str) (sc : Scope) : Prop where
  fs : FnScope N ps sc
  pre : N.take L.length = L
  loc : L.all (locOk sc) = true
  gl : gs.all (glbOk sc) = true
theorem fn_okD {x qual : Str} {st : Stmt} {f : Addr} {fd : FuncData} {N L ps gs : List Str} {k : Nat} {S : FS} (F : Fun K x qual st f fd) (C : BodyOk N L ps gs (defScope st)) (len : ∀ ds r, S ds r → ds.length = ps.length)
    (body : ∀ X : Cx, X.prog = P → X.w = w → X.K = K → X.mg = mg → X.base = base → Body X N L gs k (defScope st) → ∀ (Gs G : Hp) (ds : List D) (r : Except Exn D), S ds r → SS X Gs G (defBody st) (startA N ds) { nx := fun _ => r = .ok .non, rt := fun d => r = .ok d, ex := fun x _ => r = .error x }) :
    FnOk P w K mg base (L2.CX P w) (k + 1) f fd ps (spOf K S) := by
  refine F.okX C.fs (fun vs H Q E h => ?_) (fun cdv A outer s H vs Q E hr h => ?_)
  · obtain ⟨H0, ds, r, _, h1, h2, _⟩ := h
    rw [h1.len]
    exact len ds r h2
  · obtain ⟨H0, ds, r, hs, hi, hS, post⟩ := h
    refine ⟨_, rss_pss, ?_⟩
    have BX : Body (cxOf (L2.CX P w) P w K mg base N qual (defScope st) f cdv A outer s H E) N L gs k (defScope st) := ⟨rfl, rfl, C.fs.nd, C.pre, C.loc, C.gl, C.fs.kind, C.fs.nofree, fun _ => rfl, hr, rfl, passes_of rfl, rfl, rfl⟩
    refine (body _ rfl rfl rfl rfl rfl BX H0 H ds r hS).run _ H H0 ⟨Grow.refl hs, fun i d e => ?_, fun i d e => ?_, fun i j a d d' e => ?_⟩ _ ⟨fun σ' H' as' H1 _ S' z => ?_, fun v H' d H1 _ g i z => ?_, fun _ _ _ _ _ _ z => z.elim, fun _ _ _ _ _ _ z => z.elim, fun c dd σ' H' x as' H1 _ S' i z => ?_⟩
    · rcases startA_at e with ⟨d', e1, e2⟩ | e1
      · cases e1
        obtain ⟨v, q1, q2⟩ := hi.get e2
        exact ⟨v, start_get q1, q2⟩
      · cases e1
    · rcases startA_at e with ⟨d', e1, e2⟩ | e1 <;> cases e1
    · rcases startA_at e with ⟨d', e1, e2⟩ | e1 <;> cases e1
    · have z' : r = .ok .non := z
      subst z'
      exact post .non H1 H' S'.grow rfl
    · have z' : r = .ok d := z
      subst z'
      exact post v H1 H' g i
    · have z' : r = .error x := z
      subst z'
      exact wx_of (takes_of (E := E) rfl rfl rfl rfl) (post c dd H1 H' S'.grow i)
end
end Mw
set_option maxHeartbeats 4000000
namespace Mw
open PySem PySem.Spec PyProof.Rows L2
section
variable {X : Cx} {as : DE} {d d' x y : D} {a b c e : Expr} {es : List Expr} {ds : List D} {pos : Pos} {k l : Bool}
theorem len_le {n : Nat} (h : Nat.ble n 1000 = true) : n ≤ sizeLine := Nat.le_trans (Nat.le_of_ble_eq_true h) (by decide)
theorem ee_is (h : EE X e as d) (q : d = d') : EE X e as d' := q ▸ h
theorem et_is (h : ET X e as k) (q : k = l) : ET X e as l := q ▸ h
theorem ew_is (h : EW X e as k) (q : k = l) : EW X e as l := q ▸ h
theorem ew_orT (h : ET X a as true) : EW X (.BoolOp .Or (a :: b :: es) pos) as true := ew_or (l := true) h fun z => nomatch z
theorem ew_orF (h : ET X a as false) (h2 : EW X (.BoolOp .Or (b :: es) pos) as l) : EW X (.BoolOp .Or (a :: b :: es) pos) as l := ew_or h fun _ => h2
theorem ew_andT (h : ET X a as true) (h2 : EW X (.BoolOp .And (b :: es) pos) as l) : EW X (.BoolOp .And (a :: b :: es) pos) as l := ew_and h fun _ => h2
theorem ew_andF (h : ET X a as false) : EW X (.BoolOp .And (a :: b :: es) pos) as false := ew_and (l := true) h fun z => nomatch z
theorem ee_orT (h : EE X a as (.bl true)) : EE X (.BoolOp .Or (a :: b :: es) pos) as (.bl true) := ee_or (l := true) h fun z => nomatch z
theorem ee_orF (h : EE X a as (.bl false)) (h2 : EE X (.BoolOp .Or (b :: es) pos) as (.bl l)) : EE X (.BoolOp .Or (a :: b :: es) pos) as (.bl l) := ee_or h fun _ => h2
theorem ee_andT (h : EE X a as (.bl true)) (h2 : EE X (.BoolOp .And (b :: es) pos) as (.bl l)) : EE X (.BoolOp .And (a :: b :: es) pos) as (.bl l) := ee_and h fun _ => h2
theorem ee_andF (h : EE X a as (.bl false)) : EE X (.BoolOp .And (a :: b :: es) pos) as (.bl false) := ee_and (l := true) h fun z => nomatch z
/-- a chain of two comparisons -/
theorem et_chain {op op' : CmpOp} {z : D} (ha : EE X a as x) (hb : EE X b as y) (hc : EE X c as z) (ho : OpD X (compareOp op) x y (.bl k)) (ho' : OpD X (compareOp op') y z (.bl l)) (hm : lastMarks [op, op'] [b, c] = false := by with_unfolding_all rfl) :
    ET X (.Compare a [op, op'] [b, c] pos) as (k && l) := .mk fun σ H0 H hs hf Q q => by
  obtain ⟨r, ho, hr⟩ := ho
  obtain ⟨r', ho', hr'⟩ := ho'
  refine rt_of (pt_chain ho ho' re_pe re_pe re_pe hm) ?_
  refine ha.run σ H0 H hs hf _ fun v H1 H' g i1 => ?_
  refine hb.run σ H1 H' g.sub (hf.mono g.frz) _ fun w H2 H'' g' i2 => ?_
  refine hr v w H2 H'' g'.sub (i1.mono g'.frz) i2 _ fun z H3 H3' g'' i => ⟨k, i, ?_⟩
  cases k with
  | true =>
    rw [if_pos rfl]
    refine hc.run σ H3 H3' g''.sub (hf.mono ((g.frz.trans g'.frz).trans g''.frz)) _ fun u H4 H4' g4 i4 => ?_
    refine hr' w u H4 H4' g4.sub (i2.mono (g''.frz.trans g4.frz)) i4 _ fun z H5 H5' g5 i5 => ?_
    exact ⟨l, i5, q _ _ ((((g.trans g').trans g'').trans g4).trans g5)⟩
  | false =>
    rw [if_neg Bool.false_ne_true]
    exact ⟨false, rfl, q _ _ ((g.trans g').trans g'')⟩
theorem ee_chain {op op' : CmpOp} {z : D} (ha : EE X a as x) (hb : EE X b as y) (hc : EE X c as z) (ho : OpD X (compareOp op) x y (.bl k)) (ho' : OpD X (compareOp op') y z (.bl l)) (hm : lastMarks [op, op'] [b, c] = false := by with_unfolding_all rfl) :
    EE X (.Compare a [op, op'] [b, c] pos) as (.bl (k && l)) := .mk fun σ H0 H hs hf Q q => by
  obtain ⟨r, ho, hr⟩ := ho
  obtain ⟨r', ho', hr'⟩ := ho'
  refine re_of (pe_chain ho ho' re_pe re_pe re_pe hm) ?_
  refine ha.run σ H0 H hs hf _ fun v H1 H' g i1 => ?_
  refine hb.run σ H1 H' g.sub (hf.mono g.frz) _ fun w H2 H'' g' i2 => ?_
  refine hr v w H2 H'' g'.sub (i1.mono g'.frz) i2 _ fun z H3 H3' g'' i => ⟨k, i, ?_⟩
  cases k with
  | true =>
    rw [if_pos rfl]
    refine hc.run σ H3 H3' g''.sub (hf.mono ((g.frz.trans g'.frz).trans g''.frz)) _ fun u H4 H4' g4 i4 => ?_
    exact hr' w u H4 H4' g4.sub (i2.mono (g''.frz.trans g4.frz)) i4 _ fun z H5 H5' g5 i5 => q _ _ _ ((((g.trans g').trans g'').trans g4).trans g5) i5
  | false =>
    rw [if_neg Bool.false_ne_true]
    exact q _ _ _ ((g.trans g').trans g'') rfl
end
/-! ### what is walked -/
/-- the iterator J yields ds -/
structure Walks (K : PySem.W.Frag) (J : It) (H0 : Hp) (ds : List D) : Prop where
  stop : ∀ H, Same H0 H → J.stop ds.length H
  go : ∀ i H, i < ds.length → Same H0 H → J.go i H
  yld : ∀ i d H0' H x H2, ds[i]? = some d → Same H0 H0' → Same H0' H → J.yld i H x H2 → ∃ H0'', Grow H0' H H0'' H2 ∧ Is K H0'' d x
theorem Walks.mono {K : PySem.W.Frag} {J : It} {H0 H1 : Hp} {ds : List D} (w : Walks K J H0 ds) (e : Same H0 H1) : Walks K J H1 ds :=
  ⟨fun H q => w.stop H (e.trans q), fun i H h q => w.go i H h (e.trans q), fun i d H0' H x H2 a b c y => w.yld i d H0' H x H2 a (e.trans b) c y⟩
structure IW (X : Cx) (tg iter : Expr) (as : DE) (ds : List D) : Prop where
  run : ∃ wi, PI X tg iter wi ∧ ∀ (σ : L2.St) (H0 H : Hp), Same H0 H → SlF X.K H0 σ as → ∀ R : It → Hp → Prop, (∀ J H0' H', Grow H0 H H0' H' → Walks X.K J H0' ds → R J H') → wi σ H R
section
variable {X : Cx} {as : DE} {d x y : D} {tg a b c e : Expr} {es : List Expr} {ds : List D} {pos p : Pos}
theorem iw_list (h : EE X e as (.lst ds)) : IW X tg e as ds := ⟨_, pi_list re_pe, fun σ H0 H hs hf R q => h.run σ H0 H hs hf _ fun v H1 H' g iv => by
  obtain ⟨a, vs, rfl, hq, hv⟩ := iv
  have hl := hv.len
  refine ⟨a, rfl, ⟨vs, Same.lst g.sub hq⟩, q _ H1 _ g ⟨fun H2 e => ⟨vs, Same.lst e hq, by omega⟩, fun i H2 hi e => ⟨vs, vs[i]'(by omega), Same.lst e hq, List.getElem?_eq_getElem _⟩, fun i d H2 H3 x H4 hd e1 e2 hy => ?_⟩⟩
  obtain ⟨rfl, hx⟩ := hy
  obtain ⟨u, q1, q2⟩ := hv.get hd
  have e3 := hx vs (Same.lst (e1.trans e2) hq)
  rw [q1] at e3
  cases e3
  exact ⟨H2, Grow.refl e2, q2.mono e1⟩⟩
theorem iw_tup (h : EE X e as (.tup ds)) : IW X tg e as ds := ⟨_, pi_tup re_pe, fun σ H0 H hs hf R q => h.run σ H0 H hs hf _ fun v H1 H' g iv => by
  obtain ⟨a, vs, rfl, hq, hv⟩ := iv
  have hl := hv.len
  refine ⟨a, rfl, ⟨vs, Same.tup g.sub hq⟩, q _ H1 _ g ⟨fun H2 e => ⟨vs, Same.tup e hq, by omega⟩, fun i H2 hi e => ⟨vs, vs[i]'(by omega), Same.tup e hq, List.getElem?_eq_getElem _⟩, fun i d H2 H3 x H4 hd e1 e2 hy => ?_⟩⟩
  obtain ⟨rfl, hx⟩ := hy
  obtain ⟨u, q1, q2⟩ := hv.get hd
  have e3 := hx vs (Same.tup (e1.trans e2) hq)
  rw [q1] at e3
  cases e3
  exact ⟨H2, Grow.refl e2, q2.mono e1⟩⟩
theorem walks_range {K : PySem.W.Frag} {H0 : Hp} {lo : Int} {n : Nat} : Walks K (Itr lo n) H0 ((List.range n).map fun i => D.int (lo + (i : Nat))) := by
  refine ⟨fun H _ => ?_, fun i H hi _ => ?_, fun i d H2 H3 x H4 hd e1 e2 hy => ?_⟩
  · show n ≤ _
    simp
  · show i < n
    simpa using hi
  · obtain ⟨rfl, rfl⟩ := hy
    refine ⟨H2, Grow.refl e2, ?_⟩
    rw [List.getElem?_map] at hd
    cases z : (List.range n)[i]? with
    | none => rw [z] at hd; cases hd
    | some j =>
      rw [z] at hd
      have hi : i < n := by
        have := (List.getElem?_eq_some_iff.mp z).1
        simpa using this
      rw [List.getElem?_range hi] at z
      cases z
      cases hd
      exact rfl
theorem iw_range1 {gs : List Str} {j : Nat} {z : Int} {p2 : Pos} (B : Gls X gs) (hr : At gs "range" j) (hm : X.mg "range" = none) (he : EE X e as (.int z)) (hz : -(2 ^ 62) ≤ z ∧ z < 2 ^ 62) (hst : starEach [e] X.env = [(false, eval e X.env)] := by rfl) :
    IW X tg (.Call (.Name "range" p) [e] [] p2) as ((List.range z.toNat).map fun i => D.int (0 + (i : Nat))) := ⟨_, pi_range1 (B.at_ _ _ hr).1 hm (pa_cons re_pe pa_nil hst) hst, fun σ H0 H hs hf R q => he.run σ H0 H hs hf _ fun v H1 H' g iv => by
  subst iv
  exact ⟨z, rfl, hz.1, hz.2, q _ H1 _ g walks_range⟩⟩
theorem iw_range2 {gs : List Str} {j : Nat} {z w : Int} {p2 : Pos} (B : Gls X gs) (hr : At gs "range" j) (hm : X.mg "range" = none) (ha : EE X a as (.int z)) (hb : EE X b as (.int w)) (hz : -(2 ^ 62) ≤ z ∧ z < 2 ^ 62 ∧ -(2 ^ 62) ≤ w ∧ w < 2 ^ 62)
    (hst : starEach [a, b] X.env = [(false, eval a X.env), (false, eval b X.env)] := by rfl) (hst2 : starEach [b] X.env = [(false, eval b X.env)] := by rfl) :
    IW X tg (.Call (.Name "range" p) [a, b] [] p2) as ((List.range (w - z).toNat).map fun i => D.int (z + (i : Nat))) := ⟨_, pi_range2 (B.at_ _ _ hr).1 hm (pa_cons re_pe (pa_cons re_pe pa_nil hst2) (by rw [hst, hst2])) hst hst2, fun σ H0 H hs hf R q => ha.run σ H0 H hs hf _ fun v H1 H' g iv => by
  subst iv
  refine hb.run σ H1 H' g.sub (hf.mono g.frz) _ fun v H2 H'' g' iv => ?_
  subst iv
  exact ⟨z, w, rfl, hz, q _ H2 _ (g.trans g') walks_range⟩⟩
end
/-! ### targets -/
def rg (X : Cx) (tg : Expr) : TG := fun v σ H Q => ∀ (pins : List (Addr × Obj)) (s : Shared) (u : Value), Inv X pins σ H s → RelV v u → wpAny (model X.prog X.w) X.A (assign tg X.env u) (fun _ s' => ∃ σ' H', Inv X pins σ' H' s' ∧ Q σ' H') X.xe s
theorem rg_pg {X : Cx} {tg : Expr} : PG X tg (rg X tg) := ⟨fun pins s σ H v u Q I r h => h pins s u I r⟩
theorem rg_of {X : Cx} {tg : Expr} {t : TG} {v : V} {σ : L2.St} {H : Hp} {Q : L2.St → Hp → Prop} (h : PG X tg t) (q : t v σ H Q) : rg X tg v σ H Q := fun pins s u I r => h.run pins s σ H v u Q I r q
/-- stores that a target makes: slots with data -/
abbrev Sto := List (Nat × D)
def stoS : Sto → AS → AS
  | [], as => as
  | (i, d) :: r, as => stoS r (as.set i (.fz d))
def stoE : Sto → DE → DE
  | [], as => as
  | (i, d) :: r, as => stoE r (as.set i (some d))
def stoV : List (Nat × V) → L2.St → L2.St
  | [], σ => σ
  | (i, v) :: r, σ => stoV r (σ.set i (some v))
/-- the target tg, given d, stores w -/
structure TgD (X : Cx) (tg : Expr) (d : D) (w : Sto) : Prop where
  run : ∀ (σ : L2.St) (H0 H : Hp) (v : V), Same H0 H → Is X.K H0 d v → ∀ Q : L2.St → Hp → Prop, (∀ vs : List (Nat × V), Paired (fun (a : Nat × D) (b : Nat × V) => a.1 = b.1 ∧ a.1 < X.N.length ∧ Is X.K H0 a.2 b.2) w vs → Q (stoV vs σ) H) → rg X tg v σ H Q
section
variable {X : Cx} {N L gs : List Str} {k : Nat} {sc : Scope} {n m o : Str} {i j l : Nat} {d x y z : D} {p p2 p3 p4 : Pos}
theorem tg_name' (hN : X.N.Nodup) (hi : X.N[i]? = some n) (hx : Loc X.env.scope n) (hf : X.fn n = true ∨ X.env.scope.names.lookup n = some .local) : TgD X (.Name n p) d [(i, d)] := .mk fun σ H0 H v hs iv Q q =>
  rg_of (pg_name hN hi hx hf) (q [(i, v)] (.cons ⟨rfl, (List.getElem?_eq_some_iff.mp hi).1, iv⟩ .nil))
theorem tg_two' {k2 : Nat} (hc : X.calm = true) (hN : X.N.Nodup) (hi : X.N[i]? = some n) (hx : Loc X.env.scope n) (hf : X.fn n = true ∨ X.env.scope.names.lookup n = some .local) (hi2 : X.N[j]? = some m) (hx2 : Loc X.env.scope m) (hf2 : X.fn m = true ∨ X.env.scope.names.lookup m = some .local) :
    TgD X (.Tuple [.Name n p, .Name m p2] k2 p3) (.tup [x, y]) [(i, x), (j, y)] := .mk fun σ H0 H v hs iv Q q => by
  refine rg_of (pg_tup hc (pgs_cons (pg_name hN hi hx hf) (pgs_cons (pg_name hN hi2 hx2 hf2) pgs_nil))) ?_
  obtain ⟨a, vs, rfl, hq, hv⟩ := iv
  obtain ⟨v1, v2, e1, i1, i2⟩ := is2 hv
  subst e1
  exact ⟨a, _, rfl, Same.tup hs hq, rfl, v1, [v2], rfl, v2, [], rfl, rfl, q [(i, v1), (j, v2)] (.cons ⟨rfl, (List.getElem?_eq_some_iff.mp hi).1, i1⟩ (.cons ⟨rfl, (List.getElem?_eq_some_iff.mp hi2).1, i2⟩ .nil))⟩
theorem is3 {K : PySem.W.Frag} {H : Hp} {vs : List V} (h : IsL K H [x, y, z] vs) : ∃ v w u, vs = [v, w, u] ∧ Is K H x v ∧ Is K H y w ∧ Is K H z u := by
  obtain ⟨v, r, h1, h2, h3⟩ := h
  obtain ⟨w, u, e1, e2, e3⟩ := is2 h3
  rw [e1] at h1
  exact ⟨v, w, u, h1, h2, e2, e3⟩
theorem tg_three' {k2 : Nat} (hc : X.calm = true) (hN : X.N.Nodup) (hi : X.N[i]? = some n) (hx : Loc X.env.scope n) (hf : X.fn n = true ∨ X.env.scope.names.lookup n = some .local) (hi2 : X.N[j]? = some m) (hx2 : Loc X.env.scope m) (hf2 : X.fn m = true ∨ X.env.scope.names.lookup m = some .local)
    (hi3 : X.N[l]? = some o) (hx3 : Loc X.env.scope o) (hf3 : X.fn o = true ∨ X.env.scope.names.lookup o = some .local) :
    TgD X (.Tuple [.Name n p, .Name m p2, .Name o p4] k2 p3) (.tup [x, y, z]) [(i, x), (j, y), (l, z)] := .mk fun σ H0 H v hs iv Q q => by
  refine rg_of (pg_tup hc (pgs_cons (pg_name hN hi hx hf) (pgs_cons (pg_name hN hi2 hx2 hf2) (pgs_cons (pg_name hN hi3 hx3 hf3) pgs_nil)))) ?_
  obtain ⟨a, vs, rfl, hq, hv⟩ := iv
  obtain ⟨v1, v2, v3, e1, i1, i2, i3⟩ := is3 hv
  subst e1
  exact ⟨a, _, rfl, Same.tup hs hq, rfl, v1, [v2, v3], rfl, v2, [v3], rfl, v3, [], rfl, rfl, q [(i, v1), (j, v2), (l, v3)] (.cons ⟨rfl, (List.getElem?_eq_some_iff.mp hi).1, i1⟩ (.cons ⟨rfl, (List.getElem?_eq_some_iff.mp hi2).1, i2⟩ (.cons ⟨rfl, (List.getElem?_eq_some_iff.mp hi3).1, i3⟩ .nil)))⟩
theorem tg_name (B : Body X N L gs k sc) (h : At L n i) : TgD X (.Name n p) d [(i, d)] :=
  let ⟨h1, h2, _, _⟩ := B.locs h
  tg_name' B.ndX h1 h2 (.inl (B.fn n))
theorem tg_two {k2 : Nat} (B : Body X N L gs k sc) (h : At L n i) (h' : At L m j) : TgD X (.Tuple [.Name n p, .Name m p2] k2 p3) (.tup [x, y]) [(i, x), (j, y)] :=
  let ⟨h1, h2, _, _⟩ := B.locs h
  let ⟨g1, g2, _, _⟩ := B.locs h'
  tg_two' B.calm B.ndX h1 h2 (.inl (B.fn n)) g1 g2 (.inl (B.fn m))
theorem tg_three {k2 : Nat} (B : Body X N L gs k sc) (h : At L n i) (h' : At L m j) (h'' : At L o l) : TgD X (.Tuple [.Name n p, .Name m p2, .Name o p4] k2 p3) (.tup [x, y, z]) [(i, x), (j, y), (l, z)] :=
  let ⟨h1, h2, _, _⟩ := B.locs h
  let ⟨g1, g2, _, _⟩ := B.locs h'
  let ⟨f1, f2, _, _⟩ := B.locs h''
  tg_three' B.calm B.ndX h1 h2 (.inl (B.fn n)) g1 g2 (.inl (B.fn m)) f1 f2 (.inl (B.fn o))
end
theorem stoV_len : ∀ (vs : List (Nat × V)) (σ : L2.St), (stoV vs σ).length = σ.length
  | [], σ => rfl
  | (i, v) :: r, σ => by
    show (stoV r _).length = _
    rw [stoV_len r, List.length_set]
theorem StH.sto {K : PySem.W.Frag} {Gs G : Hp} {H H0 : Hp} {n : Nat} : ∀ {w : Sto} {vs : List (Nat × V)} {σ : L2.St} {as : AS}, StH K Gs G σ H as H0 → σ.length = n → Paired (fun (a : Nat × D) (b : Nat × V) => a.1 = b.1 ∧ a.1 < n ∧ Is K H0 a.2 b.2) w vs → StH K Gs G (stoV vs σ) H (stoS w as) H0
  | [], _, _, _, S, _, .nil => S
  | (i, d) :: w, _, σ, as, S, hn, .cons (b := (j, v)) ⟨e, h1, h2⟩ t => by
    have e' : i = j := e
    subst e'
    exact StH.sto (σ := σ.set i (some v)) (as := as.set i (.fz d)) (S.setF (by rw [hn]; exact h1) h2) (by rw [List.length_set]; exact hn) t
/-! ### for -/
section
variable {X : Cx} {N L gs : List Str} {k : Nat} {sc : Scope} {Gs G : Hp} {as : AS} {F : Fin} {tg iter : Expr} {body : List Stmt} {ds : List D} {pos : Pos}
theorem t_for (B : Body X N L gs k sc) (w : D → Sto) (hw : IW X tg iter (hid as) ds) (I : Nat → AS → Prop) (h0 : I 0 as) (ht : ∀ (j : Nat) (d : D), ds[j]? = some d → TgD X tg d (w d))
    (hs : ∀ (j : Nat) (d : D) (as' : AS), ds[j]? = some d → I j as' → SS X Gs G body (stoS (w d) as') { F with nx := I (j + 1), ct := I (j + 1), bk := F.nx }) (hd : ∀ as', I ds.length as' → F.nx as')
    (hss : ∀ x, foldedSetIterable iter X.env x = pure x := by intro _; rfl) : S1 X Gs G (.For tg iter body [] pos) as F := .mk fun σ H H0 S E ok => by
  obtain ⟨wi, hpi, hwi⟩ := hw.run
  refine rs_of (ps_for B.pown B.calm hpi rg_pg rss_pss hss) ?_
  refine hwi σ H0 H S.grow.sub S.hid _ fun J H1 H' g wk => ?_
  refine ⟨fun i m σ' H2 => m = ds.length - i ∧ i ≤ ds.length ∧ ∃ as' H3, Same H1 H3 ∧ StH X.K Gs G σ' H2 as' H3 ∧ I i as', ⟨ds.length, by simp, Nat.zero_le _, as, H1, Same.refl _, S.more g, h0⟩, ?_⟩
  rintro i m σ' H2 ⟨rfl, hi, as', H3, q, S', ij⟩
  by_cases hlt : i < ds.length
  · refine .inr ⟨wk.go i H2 hlt (q.trans S'.grow.sub), fun σ4 H4 => ∃ as4 H5, Same H1 H5 ∧ StH X.K Gs G σ4 H4 as4 H5 ∧ I (i + 1) as4, fun σ4 H4 ⟨as4, H5, a1, a2, a3⟩ => ⟨ds.length - (i + 1), by omega, rfl, hlt, as4, H5, a1, a2, a3⟩, fun x H4 hy => ?_⟩
    have hd' : ds[i]? = some ds[i] := List.getElem?_eq_getElem hlt
    obtain ⟨H5, g5, i5⟩ := wk.yld i ds[i] H3 H2 x H4 hd' q S'.grow.sub hy
    have S5 := S'.more g5
    refine (ht i ds[i] hd').run σ' H5 H4 x g5.sub i5 _ fun vs hp => ?_
    refine rss_len fun hl => ?_
    rw [stoV_len] at hl
    refine (hs i ds[i] as' hd' ij).run _ H4 H5 (S5.sto hl hp) _ ⟨fun σ6 H6 as6 H7 r S6 z => ⟨as6, H7, (q.trans g5.frz).trans r, S6, z⟩, (ok.more (g.frz.trans (q.trans g5.frz))).rt, (ok.more (g.frz.trans (q.trans g5.frz))).nx, fun σ6 H6 as6 H7 r S6 z => ⟨as6, H7, (q.trans g5.frz).trans r, S6, z⟩, (ok.more (g.frz.trans (q.trans g5.frz))).ex⟩
  · have e : i = ds.length := by omega
    subst e
    exact .inl ⟨wk.stop H2 (q.trans S'.grow.sub), ok.nx σ' H2 as' H3 (g.frz.trans q) S' (hd as' ij)⟩
end
/-! ### comprehensions -/
theorem lookup_rel_free {g : Str × NameKind → Str × NameKind} (hg : ∀ q, (g q).1 = q.1 ∧ (q.2 = .free → (g q).2 = .free ∨ (g q).2 = .cell)) : ∀ {names : List (Str × NameKind)} {x : Str}, names.lookup x = some .free → (names.map g).lookup x = some .free ∨ (names.map g).lookup x = some .cell
  | [], x, h => by cases h
  | (n, k) :: r, x, h => by
    rw [List.map_cons]
    obtain ⟨g1, g2⟩ := hg (n, k)
    have eg : g (n, k) = (n, (g (n, k)).2) := Prod.ext g1 rfl
    rw [eg]
    rw [List.lookup_cons] at h
    rw [List.lookup_cons]
    cases hx : x == n with
    | true =>
      rw [hx] at h
      have e : k = .free := Option.some.inj h
      rcases g2 e with z | z
      · exact .inl (congrArg some z)
      · exact .inr (congrArg some z)
    | false =>
      rw [hx] at h
      exact lookup_rel_free hg h
def visB (scope : Scope) (n : Str) : Bool := (scope.names.lookup n == some .local || scope.names.lookup n == some .free) && !(n == ("__debug__" : Str)) && !(n == ("__classdict__" : Str))
/-- N': N, none for what the block does not see -/
def seesB (scope : Scope) (N : List Str) (N' : List (Option Str)) : Bool := (N'.zip N).all fun q => match q.1 with | none => true | some n => n == q.2 && visB scope n
inductive AtB : List (Option Str) → Str → Nat → Prop
  | here {n : Str} {r : List (Option Str)} : AtB (some n :: r) n 0
  | there {m : Option Str} {n : Str} {r : List (Option Str)} {i : Nat} (h : AtB r n i) : AtB (m :: r) n (i + 1)
theorem AtB.get {N : List (Option Str)} {n : Str} {i : Nat} (h : AtB N n i) : N[i]? = some (some n) := by
  induction h with
  | here => rfl
  | there _ ih => rw [List.getElem?_cons_succ]; exact ih
structure NmsB (X : Cx) (N : List (Option Str)) : Prop where
  at_ : ∀ n i, AtB N n i → X.N[i]? = some n ∧ Vis X.env.scope n ∧ (n == ("__debug__" : Str)) = false ∧ (n == ("__classdict__" : Str)) = false
theorem e_nameB {X : Cx} {L : List (Option Str)} {n : Str} {i : Nat} {as : DE} {d : D} {pos : Pos} (B : NmsB X L) (h : AtB L n i) (ha : as[i]? = some (some d)) : EE X (.Name n pos) as d :=
  let ⟨h1, h2, h3, h4⟩ := B.at_ _ _ h
  ee_name i h1 h2 ha h3 h4
section
variable {X : Cx} {N L gs : List Str} {k : Nat} {sc : Scope} {scope : Scope} {cl : List (Str × Addr)} {C : Addr} {s : Shared} {H : Hp} {fp : List Addr}
theorem blk_vis {n : Str} (h : visB scope n = true) : Vis (X.blk s H scope (compEnvC scope cl C X.env) fp).env.scope n := by
  unfold visB at h
  simp only [Bool.and_eq_true, Bool.or_eq_true] at h
  rcases h.1.1 with z | z
  · exact .inl (lookup_relabel_local (nk_beq z))
  · have q := lookup_rel_free (g := fun q => if (q.2 == NameKind.free && X.env.scope.kind == .function && X.env.kindOf q.1 == some .cell) then (q.1, NameKind.cell) else (q.1, q.2)) (fun q => ⟨by split <;> rfl, fun e => by split <;> first | exact .inr rfl | exact .inl e⟩) (nk_beq z)
    rcases q with q | q
    · exact .inr (.inr q)
    · exact .inr (.inl q)
theorem blk_nms {N' : List (Option Str)} (B : Body X N L gs k sc) (hl : N'.length ≤ N.length) (h : seesB scope N N' = true) : NmsB (X.blk s H scope (compEnvC scope cl C X.env) fp) N' := .mk fun n i ha => by
  have e := ha.get
  have hi : i < N'.length := (List.getElem?_eq_some_iff.mp e).1
  have hz : (N'.zip N)[i]? = some (some n, N[i]'(by omega)) := by
    rw [List.getElem?_zip_eq_some]
    exact ⟨e, List.getElem?_eq_getElem _⟩
  have q : (n == N[i]'(by omega) && visB scope n) = true := List.all_eq_true.mp h _ (List.mem_of_getElem? hz)
  rw [Bool.and_eq_true] at q
  obtain ⟨q1, q2⟩ := q
  have e1 : n = N[i]'(by omega) := by simpa using q1
  refine ⟨?_, blk_vis q2, ?_⟩
  · show X.N[i]? = some n
    rw [B.hN, List.getElem?_eq_getElem (by omega), ← e1]
  · unfold visB at q2
    simp only [Bool.and_eq_true, Bool.not_eq_true'] at q2
    exact ⟨q2.1.2, q2.2⟩
theorem blk_gls {gs' : List Str} (h : gs'.all (glbOk scope) = true) : Gls (X.blk s H scope (compEnvC scope cl C X.env) fp) gs' := .mk fun n i ha => by
  have q := List.all_eq_true.mp h n ha.mem
  unfold glbOk at q
  simp only [Bool.and_eq_true, Bool.not_eq_true'] at q
  refine ⟨?_, q.1.2, by simpa using q.2⟩
  exact lookup_relS_keep (sc := X.env.scope) (by decide) (nk_beq q.1.1)
end
theorem rs_lenE {X : Cx} {e : Expr} {σ : L2.St} {H : Hp} {Q : VK} (h : σ.length = X.N.length → re X e σ H Q) : re X e σ H Q := fun pins s I => h I.len pins s I
/-- tests of a clause -/
structure ETs (X : Cx) (ifs : List Expr) (as : DE) (b : Bool) : Prop where
  run : ∀ (σ : L2.St) (H0 H : Hp), Same H0 H → SlF X.K H0 σ as → ∀ Q : Bool → Hp → Prop, (∀ H0' H', Grow H0 H H0' H' → Q b H') → ∀ (pins : List (Addr × Obj)) (s : Shared), Inv X pins σ H s →
    wpAny (model X.prog X.w) X.A (forIn ifs true fun c r => if r = true then do let ok ← isTrue c X.env (eval c X.env); pure (ForInStep.yield ok) else pure (ForInStep.yield r)) (TP X pins σ Q) X.xe s
theorem ets_nil {X : Cx} {as : DE} : ETs X [] as true := .mk fun σ H0 H hs hf Q q pins s I => pts_nil.run pins s σ H Q I (q H0 H (Grow.refl hs))
theorem ets_one {X : Cx} {c : Expr} {as : DE} {b : Bool} (h : ET X c as b) : ETs X [c] as b := .mk fun σ H0 H hs hf Q q pins s I => (pts_one rt_pt).run pins s σ H Q I (h.run σ H0 H hs hf Q q)
def rts (X : Cx) (ifs : List Expr) : TT := fun σ H Q => ∀ (pins : List (Addr × Obj)) (s : Shared), Inv X pins σ H s → wpAny (model X.prog X.w) X.A (forIn ifs true fun c r => if r = true then do let ok ← isTrue c X.env (eval c X.env); pure (ForInStep.yield ok) else pure (ForInStep.yield r)) (TP X pins σ Q) X.xe s
/-- wiping the block's own slots -/
def wipeE : DE → List Nat → DE
  | as, [] => as
  | as, v :: vs => (wipeE as vs).set v none
theorem SlF.wipe {K : PySem.W.Frag} {H0 : Hp} {σ : L2.St} {as : DE} (h : SlF K H0 σ as) : ∀ vs : List Nat, SlF K H0 (L2.wipe σ vs) (wipeE as vs)
  | [] => h
  | v :: vs => fun i d e => by
    have ih := SlF.wipe h vs
    have e' : ((wipeE as vs).set v none)[i]? = some (some d) := e
    rcases (set_at e') with ⟨_, q⟩ | ⟨n, q⟩
    · cases q
    · obtain ⟨u, h1, h2⟩ := ih i d q
      exact ⟨u, by show ((L2.wipe σ vs).set v none)[i]? = _; rw [List.getElem?_set_ne n]; exact h1, h2⟩
theorem SlF.sto {K : PySem.W.Frag} {H0 : Hp} {n : Nat} : ∀ {w : Sto} {vs : List (Nat × V)} {σ : L2.St} {as : DE}, SlF K H0 σ as → σ.length = n → Paired (fun (a : Nat × D) (b : Nat × V) => a.1 = b.1 ∧ a.1 < n ∧ Is K H0 a.2 b.2) w vs → SlF K H0 (stoV vs σ) (stoE w as)
  | [], _, _, _, S, _, .nil => S
  | (i, d) :: w, _, σ, as, S, hn, .cons (b := (j, v)) ⟨e, h1, h2⟩ t => by
    have e' : i = j := e
    subst e'
    refine SlF.sto (σ := σ.set i (some v)) (as := as.set i (some d)) (fun l d' q => ?_) (by rw [List.length_set]; exact hn) t
    rcases set_at q with ⟨e1, q1⟩ | ⟨m, q1⟩
    · cases q1
      subst e1
      exact ⟨v, List.getElem?_set_self (by rw [hn]; exact h1), h2⟩
    · obtain ⟨u, a, b⟩ := S l d' q1
      exact ⟨u, by rw [List.getElem?_set_ne m]; exact a, b⟩
theorem wipe_set {v : Nat} {x : Option V} : ∀ {vs : List Nat} {σ : L2.St}, v ∈ vs → wipe (σ.set v x) vs = wipe σ vs
  | [], σ, h => by cases h
  | u :: vs, σ, h => by
    show (wipe (σ.set v x) vs).set u none = (wipe σ vs).set u none
    by_cases e : v ∈ vs
    · rw [wipe_set e]
    · have e' : v = u := by
        rcases List.mem_cons.mp h with z | z
        · exact z
        · exact absurd z e
      subst e'
      rw [wipe_out_set e, List.set_set]
where
  wipe_out_set {v : Nat} {x : Option V} : ∀ {vs : List Nat} {σ : L2.St}, v ∉ vs → wipe (σ.set v x) vs = (wipe σ vs).set v x
  | [], σ, _ => rfl
  | u :: vs, σ, h => by
    show (wipe (σ.set v x) vs).set u none = ((wipe σ vs).set u none).set v x
    rw [wipe_out_set (fun z => h (List.mem_cons_of_mem _ z)), List.set_comm]
    exact fun z => h (by rw [z]; exact List.mem_cons_self)
theorem wipe_sto : ∀ {ws : List (Nat × V)} {vs : List Nat} {σ : L2.St}, (∀ q ∈ ws, q.1 ∈ vs) → wipe (stoV ws σ) vs = wipe σ vs
  | [], vs, σ, _ => rfl
  | (i, v) :: r, vs, σ, h => by
    show wipe (stoV r (σ.set i (some v))) vs = _
    rw [wipe_sto fun q hq => h q (List.mem_cons_of_mem _ hq), wipe_set (h (i, v) List.mem_cons_self)]
theorem wipe_wipe : ∀ {vs us : List Nat} {σ : L2.St}, (∀ v ∈ vs, v ∈ us) → wipe (wipe σ vs) us = wipe σ us
  | [], us, σ, _ => rfl
  | v :: vs, us, σ, h => by
    show wipe ((wipe σ vs).set v none) us = _
    rw [wipe_set (h v List.mem_cons_self), wipe_wipe fun x hx => h x (List.mem_cons_of_mem _ hx)]
theorem paired_mem {α β : Type} {F : α → β → Prop} : ∀ {l : List α} {m : List β}, Paired F l m → ∀ b ∈ m, ∃ a ∈ l, F a b
  | _, _, .nil, _, h => nomatch h
  | _, _, .cons r t, b, h => by
    rcases List.mem_cons.mp h with z | z
    · subst z
      exact ⟨_, List.mem_cons_self, r⟩
    · obtain ⟨a, h1, h2⟩ := paired_mem t b z
      exact ⟨a, List.mem_cons_of_mem _ h1, h2⟩
section
variable {X : Cx} {N L gs : List Str} {k : Nat} {sc : Scope} {scope : Scope} {as : DE} {tg iter elt : Expr} {ifs : List Expr} {ds : List D} {pos : Pos}
/-- what a comprehension makes -/
theorem en_lc (own : List (Str × Nat)) (N' : List (Option Str)) (gs' : List Str) (w : D → Sto) (f : D → D) (pr : D → Bool) (B : Body X N L gs k sc) (hw : IW X tg iter as ds)
    (hok : blkC N sc scope own = true) (hN' : (decide (N'.length ≤ N.length) && seesB scope N N' && gs'.all (glbOk scope)) = true) (hz : ds.length < sizeLine) (how : ∀ (j : Nat) (d : D), ds[j]? = some d → ∀ q ∈ w d, q.1 ∈ own.map (·.2))
    (ht : ∀ (s : Shared) (H : Hp) (cl : List (Str × Addr)) (C : Addr) (fp : List Addr), NmsB (X.blk s H scope (compEnvC scope cl C X.env) fp) N' → ∀ (j : Nat) (d : D), ds[j]? = some d → TgD (X.blk s H scope (compEnvC scope cl C X.env) fp) tg d (w d))
    (hb : ∀ (s : Shared) (H : Hp) (cl : List (Str × Addr)) (C : Addr) (fp : List Addr), NmsB (X.blk s H scope (compEnvC scope cl C X.env) fp) N' → Gls (X.blk s H scope (compEnvC scope cl C X.env) fp) gs' → ∀ (j : Nat) (d : D), ds[j]? = some d →
      ETs (X.blk s H scope (compEnvC scope cl C X.env) fp) ifs (stoE (w d) (wipeE as (own.map (·.2)))) (pr d) ∧ (pr d = true → EE (X.blk s H scope (compEnvC scope cl C X.env) fp) elt (stoE (w d) (wipeE as (own.map (·.2)))) (f d)))
    (hss : ∀ x, foldedSetIterable iter X.env x = pure x := by intro _; rfl) : EN X (.ListComp elt [⟨tg, iter, ifs, 0⟩] scope pos) as (.lst ((ds.filter pr).map f)) := .mk fun σ H0 H hs hf Q q => by
  obtain ⟨wi, hpi, hwi⟩ := hw.run
  simp only [Bool.and_eq_true, decide_eq_true_eq] at hN'
  obtain ⟨⟨n1, n2⟩, n3⟩ := hN'
  let g : TG := fun v σ H Q => ∀ (s' : Shared) (H' : Hp) (C : Addr) (cl : List (Str × Addr)) (fp : List Addr), rg (X.blk s' H' scope (compEnvC scope cl C X.env) fp) tg v σ H Q
  let tt : TT := fun σ H Q => ∀ (s' : Shared) (H' : Hp) (C : Addr) (cl : List (Str × Addr)) (fp : List Addr), rts (X.blk s' H' scope (compEnvC scope cl C X.env) fp) ifs σ H Q
  let te : TE := fun σ H Q => ∀ (s' : Shared) (H' : Hp) (C : Addr) (cl : List (Str × Addr)) (fp : List Addr), re (X.blk s' H' scope (compEnvC scope cl C X.env) fp) elt σ H Q
  refine rs_lenE fun hlen => re_of (pe_lc (g := g) (tt := tt) (te := te) (own := own) B.calm B.ndX hpi (by rw [B.hN, B.hsc]; exact blkOk_by hok) (fun s' H' C cl fp => ⟨fun pins s σ H v u Q I r h => h s' H' C cl fp pins s u I r⟩) (fun s' H' C cl fp => ⟨fun pins s σ H Q I h => h s' H' C cl fp pins s I⟩) (fun s' H' C cl fp => ⟨fun pins s σ H Q I h => h s' H' C cl fp pins s I⟩) hss) ?_
  refine hwi σ H0 H hs hf _ fun J H1 H' gr wk Dl hDl => ?_
  -- W: behind i turns the list holds what was made
  refine ⟨fun i m H2 => m = ds.length - i ∧ i ≤ ds.length ∧ ∃ H3 vs, Grow H1 (upd H' Dl (.lst [])) H3 (upd H2 Dl (.lst [])) ∧ H3 Dl = none ∧ H2 Dl = some (.lst vs) ∧ IsL X.K H3 (((ds.take i).filter pr).map f) vs ∧ (∀ b o, b ≠ Dl → H' b = some o → H2 b = some o), ⟨ds.length, by simp, Nat.zero_le _, H1, [], ?_, gr.sub.free hDl, upd_same, rfl, fun b o hb e => by rw [upd_ne hb]; exact e⟩, ?_⟩
  · rw [upd_upd]
    exact Grow.refl (gr.sub.trans (Same.new hDl))
  rintro i m H2 ⟨rfl, hi, H3, vs, g3, h3D, h2D, hv, hk⟩
  have s32 : Same H3 H2 := fun b o e => by
    have e' := g3.sub b o e
    have hb : b ≠ Dl := fun z => by rw [z, h3D] at e; cases e
    rw [upd_ne hb] at e'
    exact e'
  by_cases hlt : i < ds.length
  · have hd : ds[i]? = some ds[i] := List.getElem?_eq_getElem hlt
    refine .inr ⟨wk.go i H2 hlt (g3.frz.trans s32), fun H4 => ∃ H5 vs', Grow H1 (upd H' Dl (.lst [])) H5 (upd H4 Dl (.lst [])) ∧ H5 Dl = none ∧ H4 Dl = some (.lst vs') ∧ IsL X.K H5 (((ds.take (i + 1)).filter pr).map f) vs' ∧ (∀ b o, b ≠ Dl → H' b = some o → H4 b = some o), fun H4 ⟨H5, vs', a1, a2, a3, a4, a5⟩ => ⟨ds.length - (i + 1), by omega, rfl, hlt, H5, vs', a1, a2, a3, a4, a5⟩, fun x H4 hy => ?_⟩
    obtain ⟨H5, g5, i5⟩ := wk.yld i ds[i] H3 H2 x H4 hd g3.frz s32 hy
    have more : ∀ {Ha Hb Ha' Hb' : Hp}, Grow Ha Hb Ha' Hb' → Ha Dl = none → Hb Dl = some (.lst vs) → Ha' Dl = none ∧ Hb' Dl = some (.lst vs) ∧ Grow Ha (upd Hb Dl (.lst [])) Ha' (upd Hb' Dl (.lst [])) := fun {Ha Hb Ha' Hb'} gg e1 e2 => by
      have e3 : Ha' Dl = none := by
        cases z : Ha' Dl with
        | none => rfl
        | some u =>
          rcases gg.new Dl (by rw [z]; simp) with w | w
          · exact absurd e1 w
          · rw [e2] at w; cases w
      refine ⟨e3, gg.all _ _ e2, gg.frz, fun b o e => ?_, fun b o e => ?_, fun b hb => ?_⟩
      · by_cases z : b = Dl
        · rw [z, upd_same] at e ⊢; exact e
        · rw [upd_ne z] at e ⊢; exact gg.all b o e
      · have z : b ≠ Dl := fun z => by rw [z, e3] at e; cases e
        rw [upd_ne z]
        exact gg.sub b o e
      · rcases gg.new b hb with w | w
        · exact .inl w
        · have z : b ≠ Dl := fun z => by rw [z, e2] at w; cases w
          exact .inr (by rw [upd_ne z]; exact w)
    obtain ⟨d5, d4, gg5⟩ := more g5 h3D h2D
    intro s' Hs C cl fp
    refine (ht s' Hs cl C fp (blk_nms B n1 n2) i ds[i] hd).run _ H5 H4 x g5.sub i5 _ fun ws hp => ?_
    have hmem : ∀ q ∈ ws, q.1 ∈ own.map (·.2) := fun q hq => by
      obtain ⟨a, ha1, ha2⟩ := paired_mem hp q hq
      rw [← ha2.1]
      exact how i ds[i] hd a ha1
    refine ⟨by rw [wipe_sto hmem, wipe_wipe fun _ h => h], ?_⟩
    have hsl : SlF X.K H5 (stoV ws (wipe σ (own.map (·.2)))) (stoE (w ds[i]) (wipeE as (own.map (·.2)))) := SlF.sto (((hf.mono gr.frz).mono (g3.frz.trans g5.frz)).wipe _) (by rw [wipe_length]; exact hlen) hp
    intro s1 Hs1 C1 cl1 fp1
    have bb := hb s1 Hs1 cl1 C1 fp1 (blk_nms B n1 n2) (blk_gls n3) i ds[i] hd
    refine bb.1.run _ H5 H4 g5.sub hsl _ fun H6 H7 g6 => ?_
    obtain ⟨d6, d7, gg6⟩ := more g6 d5 d4
    have tk : ds.take (i + 1) = ds.take i ++ [ds[i]] := by rw [List.take_add_one, hd]; rfl
    cases hpr : pr ds[i] with
    | false =>
      rw [if_neg Bool.false_ne_true]
      refine ⟨H6, vs, (g3.trans gg5).trans gg6, d6, d7, ?_, fun b o hb' e => g6.all b o (g5.all b o (hk b o hb' e))⟩
      rw [tk, List.filter_append, List.filter_cons, if_neg (by rw [hpr]; exact Bool.false_ne_true), List.filter_nil, List.append_nil]
      exact hv.mono (g5.frz.trans g6.frz)
    | true =>
      rw [if_pos rfl]
      intro s2 Hs2 C2 cl2 fp2
      have bb2 := hb s2 Hs2 cl2 C2 fp2 (blk_nms B n1 n2) (blk_gls n3) i ds[i] hd
      refine (bb2.2 hpr).run _ H6 H7 g6.sub (hsl.mono g6.frz) _ fun y H8 H9 g8 i8 => ?_
      obtain ⟨d8, d9, gg8⟩ := more g8 d6 d7
      refine ⟨vs, d9, ?_, H8, vs ++ [y], ?_, d8, upd_same, ?_, fun b o hb' e => by rw [upd_ne hb']; exact g8.all b o (g6.all b o (g5.all b o (hk b o hb' e)))⟩
      · have l1 := hv.len
        rw [l1, List.length_map]
        have l2 := List.length_filter_le pr (ds.take i)
        rw [List.length_take] at l2
        omega
      · rw [upd_upd]
        exact ((g3.trans gg5).trans gg6).trans gg8
      · rw [tk, List.filter_append, List.filter_cons, if_pos hpr, List.filter_nil, List.map_append]
        exact (hv.mono ((g5.frz.trans g6.frz).trans g8.frz)).app (.one i8)
  · have e : i = ds.length := by omega
    subst e
    refine .inl ⟨wk.stop H2 (g3.frz.trans s32), ?_⟩
    rw [List.take_length] at hv
    have g4 : Grow H1 H' H3 H2 := by
      refine ⟨g3.frz, fun b o e => hk b o (fun z => by rw [z, hDl] at e; cases e) e, s32, fun b hb => ?_⟩
      rcases g3.new b hb with w | w
      · exact .inl w
      · have z : b ≠ Dl := fun z => hb (by rw [z]; exact h3D)
        rw [upd_ne z] at w
        exact .inr w
    exact q Dl H3 H2 (gr.trans g4) (gr.all.free hDl) h3D ⟨vs, h2D, hv⟩
/-- the block's own name is its slot -/
theorem blk_own {n : Str} {cl : List (Str × Addr)} {C : Addr} {s : Shared} {H : Hp} {fp : List Addr} (h : (scope.names.lookup n == some .local) = true) : (X.blk s H scope (compEnvC scope cl C X.env) fp).env.scope.names.lookup n = some .local := lookup_relabel_local (nk_beq h)
/-- what is looked at of a comprehension's scope: one name -/
def chk1 (N : List Str) (sc scope : Scope) (n : Str) (i : Nat) (N' : List (Option Str)) (gs' : List Str) : Bool :=
  blkC N sc scope [(n, i)] && (decide (N'.length ≤ N.length) && seesB scope N N' && gs'.all (glbOk scope)) && (scope.names.lookup n == some .local)
theorem en_lc1 {n : Str} {p : Pos} (i : Nat) (N' : List (Option Str)) (gs' : List Str) (f : D → D) (pr : D → Bool) (B : Body X N L gs k sc) (hw : IW X (.Name n p) iter as ds) (hc : chk1 N sc scope n i N' gs' = true) (hz : ds.length < sizeLine)
    (hb : ∀ (s : Shared) (H : Hp) (cl : List (Str × Addr)) (C : Addr) (fp : List Addr), NmsB (X.blk s H scope (compEnvC scope cl C X.env) fp) N' → Gls (X.blk s H scope (compEnvC scope cl C X.env) fp) gs' → ∀ (j : Nat) (d : D), ds[j]? = some d →
      ETs (X.blk s H scope (compEnvC scope cl C X.env) fp) ifs ((as.set i none).set i (some d)) (pr d) ∧ (pr d = true → EE (X.blk s H scope (compEnvC scope cl C X.env) fp) elt ((as.set i none).set i (some d)) (f d)))
    (hss : ∀ x, foldedSetIterable iter X.env x = pure x := by intro _; rfl) : EN X (.ListComp elt [⟨.Name n p, iter, ifs, 0⟩] scope pos) as (.lst ((ds.filter pr).map f)) := by
  unfold chk1 at hc
  rw [Bool.and_eq_true, Bool.and_eq_true] at hc
  obtain ⟨⟨c1, c2⟩, c3⟩ := hc
  have hi : N[i]? = some n := (blkOk_by c1).ix (n, i) (List.mem_singleton.mpr rfl)
  refine en_lc [(n, i)] N' gs' (fun d => [(i, d)]) f pr B hw c1 c2 hz (fun j d _ q hq => ?_) (fun s H cl C fp _ j d _ => ?_) hb hss
  · have e : q = (i, d) := List.mem_singleton.mp hq
    rw [e]
    exact List.mem_singleton.mpr rfl
  · exact tg_name' B.ndX (by show X.N[i]? = _; rw [B.hN]; exact hi) (.inl (blk_own c3)) (.inr (blk_own c3))
/-- .. two names -/
def chk2 (N : List Str) (sc scope : Scope) (n m : Str) (i j : Nat) (N' : List (Option Str)) (gs' : List Str) : Bool :=
  blkC N sc scope [(n, i), (m, j)] && (decide (N'.length ≤ N.length) && seesB scope N N' && gs'.all (glbOk scope)) && ((scope.names.lookup n == some .local) && (scope.names.lookup m == some .local))
def two (i j : Nat) : D → Sto
  | .tup [x, y] => [(i, x), (j, y)]
  | _ => []
theorem en_lc2 {n m : Str} {p p2 p3 : Pos} {k2 : Nat} (i j : Nat) (N' : List (Option Str)) (gs' : List Str) (f : D → D) (pr : D → Bool) (B : Body X N L gs k sc) (hw : IW X (.Tuple [.Name n p, .Name m p2] k2 p3) iter as ds) (hc : chk2 N sc scope n m i j N' gs' = true) (hz : ds.length < sizeLine)
    (h2 : ∀ (t : Nat) (d : D), ds[t]? = some d → ∃ x y, d = .tup [x, y])
    (hb : ∀ (s : Shared) (H : Hp) (cl : List (Str × Addr)) (C : Addr) (fp : List Addr), NmsB (X.blk s H scope (compEnvC scope cl C X.env) fp) N' → Gls (X.blk s H scope (compEnvC scope cl C X.env) fp) gs' → ∀ (t : Nat) (x y : D), ds[t]? = some (.tup [x, y]) →
      ETs (X.blk s H scope (compEnvC scope cl C X.env) fp) ifs ((((as.set j none).set i none).set i (some x)).set j (some y)) (pr (.tup [x, y])) ∧ (pr (.tup [x, y]) = true → EE (X.blk s H scope (compEnvC scope cl C X.env) fp) elt ((((as.set j none).set i none).set i (some x)).set j (some y)) (f (.tup [x, y]))))
    (hss : ∀ x, foldedSetIterable iter X.env x = pure x := by intro _; rfl) : EN X (.ListComp elt [⟨.Tuple [.Name n p, .Name m p2] k2 p3, iter, ifs, 0⟩] scope pos) as (.lst ((ds.filter pr).map f)) := by
  unfold chk2 at hc
  obtain ⟨h12, h34⟩ := Bool.and_eq_true_iff.mp hc
  obtain ⟨c1, c2⟩ := Bool.and_eq_true_iff.mp h12
  obtain ⟨c3, c4⟩ := Bool.and_eq_true_iff.mp h34
  have hi : N[i]? = some n := (blkOk_by c1).ix (n, i) List.mem_cons_self
  have hj : N[j]? = some m := (blkOk_by c1).ix (m, j) (List.mem_cons_of_mem _ List.mem_cons_self)
  refine en_lc [(n, i), (m, j)] N' gs' (two i j) f pr B hw c1 c2 hz (fun t d hd q hq => ?_) (fun s H cl C fp _ t d hd => ?_) (fun s H cl C fp nb gb t d hd => ?_) hss
  · obtain ⟨x, y, rfl⟩ := h2 t d hd
    have hq' : q ∈ [(i, x), (j, y)] := hq
    rcases List.mem_cons.mp hq' with e | e
    · rw [e]; exact List.mem_cons_self
    · rw [List.mem_singleton.mp e]; exact List.mem_cons_of_mem _ List.mem_cons_self
  · obtain ⟨x, y, rfl⟩ := h2 t d hd
    exact tg_two' B.calm B.ndX (by show X.N[i]? = _; rw [B.hN]; exact hi) (.inl (blk_own c3)) (.inr (blk_own c3)) (by show X.N[j]? = _; rw [B.hN]; exact hj) (.inl (blk_own c4)) (.inr (blk_own c4))
  · obtain ⟨x, y, rfl⟩ := h2 t d hd
    exact hb s H cl C fp nb gb t x y hd
end
end Mw
set_option maxHeartbeats 4000000
namespace Mw
open PySem PySem.Spec PyProof.Rows L2
/-! ### a[b] -/
def SubD (X : Cx) (b : Expr) (x y d : D) : Prop :=
  ∃ R : R2, (∀ a pos ta tb, PE X a ta → PE X b tb → PE X (.Subscript a b pos) (tOp R ta tb)) ∧ ∀ v w H0 H, Same H0 H → Is X.K H0 x v → Is X.K H0 y w → ∀ Q : VK, (∀ z H0' H', Grow H0 H H0' H' → Is X.K H0' d z → Q z H') → R v w H Q
section
variable {X : Cx} {as : DE} {d x y : D} {a b c e : Expr} {es : List Expr} {ds : List D} {pos p p2 : Pos}
theorem ee_sub (ha : EE X a as x) (hb : EE X b as y) (hs : SubD X b x y d) : EE X (.Subscript a b pos) as d := .mk fun σ H0 H hs' hf Q q => by
  obtain ⟨R, hp, hr⟩ := hs
  refine re_of (hp a pos _ _ re_pe re_pe) ?_
  exact ha.run σ H0 H hs' hf _ fun v H1 H' g i1 => hb.run σ H1 H' g.sub (hf.mono g.frz) _ fun w H2 H'' g' i2 => hr v w H2 H'' g'.sub (i1.mono g'.frz) i2 Q fun z _ _ g'' i => q z _ _ ((g.trans g').trans g'') i
theorem sub_T {i : Int} (h : atI ds i = some d) (hp : PlainIx b := by exact fun _ _ => rfl) : SubD X b (.tup ds) (.int i) d := ⟨_, fun a pos ta tb h1 h2 => pe_ix ix_tup h1 h2 hp, fun v w H0 H hs iv iw Q q => by
  obtain ⟨p, vs, rfl, hq, hv⟩ := iv
  obtain ⟨z, e1, e2⟩ := atI_is hv h
  exact ⟨p, vs, i, z, rfl, iw, Same.tup hs hq, e1, q _ _ _ (Grow.refl hs) e2⟩⟩
theorem sub_L {i : Int} (h : atI ds i = some d) (hp : PlainIx b := by exact fun _ _ => rfl) : SubD X b (.lst ds) (.int i) d := ⟨_, fun a pos ta tb h1 h2 => pe_ix ix_list h1 h2 hp, fun v w H0 H hs iv iw Q q => by
  obtain ⟨p, vs, rfl, hq, hv⟩ := iv
  obtain ⟨z, e1, e2⟩ := atI_is hv h
  exact ⟨p, vs, i, z, rfl, iw, Same.lst hs hq, e1, q _ _ _ (Grow.refl hs) e2⟩⟩
theorem sub_S {i : Int} {z : Str} {c : Nat} (hz : z.length ≤ sizeLine) (h : atI z.cps.toList i = some c) (hp : PlainIx b := by exact fun _ _ => rfl) : SubD X b (.str z) (.int i) (.str ⟨#[c]⟩) := ⟨_, fun a pos ta tb h1 h2 => pe_ix ix_str h1 h2 hp, fun v w H0 H hs iv iw Q q =>
  ⟨z, i, c, iv, iw, hz, h, q _ _ _ (Grow.refl hs) rfl⟩⟩
/-! ### f'..' -/
/-- a part's text -/
inductive FmD : D → Str → Prop
  | str {z : Str} (h : z.length ≤ sizeLine) : FmD (.str z) z
  | int {i : Int} (h : i.natAbs.log2 < 1920) : FmD (.int i) (toString i)
theorem ee_fmt {z : Str} (h : EE X e as x) (hz : FmD x z) : EE X (.FormattedValue e (-1) none pos) as (.str z) := .mk fun σ H0 H hs hf Q q =>
  re_of (pe_fmt re_pe) (h.run σ H0 H hs hf _ fun v H1 H' g i => by
    cases hz with
    | str hz => exact .inl ⟨_, i, hz, q _ _ _ g rfl⟩
    | int hz => exact .inr ⟨_, i, hz, q _ _ _ g rfl⟩)
/-- the parts, one behind the other -/
inductive EJ (X : Cx) (as : DE) : List Expr → Str → Str → Prop
  | nil {acc : Str} : EJ X as [] acc acc
  | cons {e : Expr} {es : List Expr} {acc z out : Str} (h : EE X e as (.str z)) (hl : (acc ++ z).length ≤ sizeLine) (r : EJ X as es (acc ++ z) out) : EJ X as (e :: es) acc out
theorem pj_re : ∀ es : List Expr, PJ X es (es.map (re X))
  | [] => .nil
  | e :: es => .cons re_pe (pj_re es)
theorem EJ.run : ∀ {es : List Expr} {acc out : Str}, EJ X as es acc out → ∀ (σ : L2.St) (H0 H : Hp), Same H0 H → SlF X.K H0 σ as → ∀ Q : Str → Hp → Prop, (∀ H0' H', Grow H0 H H0' H' → Q out H') → tJs (es.map (re X)) acc σ H Q
  | [], _, _, .nil, σ, H0, H, hs, hf, Q, q => q H0 H (Grow.refl hs)
  | e :: es, _, _, .cons h hl r, σ, H0, H, hs, hf, Q, q => h.run σ H0 H hs hf _ fun v H1 H' g i => ⟨_, i, hl, EJ.run r σ H1 H' g.sub (hf.mono g.frz) Q fun _ _ g' => q _ _ (g.trans g')⟩
theorem ee_joined {v1 v2 : Expr} {rest : List Expr} {out : Str} (h : EJ X as (v1 :: v2 :: rest) Str.empty out) : EE X (.JoinedStr (v1 :: v2 :: rest) pos) as (.str out) := .mk fun σ H0 H hs hf Q q =>
  re_of (pe_joined (pj_re _)) (h.run σ H0 H hs hf _ fun _ _ g => q _ _ _ g rfl)
theorem ee_joined1 {z : Str} (h : EE X e as (.str z)) : EE X (.JoinedStr [e] pos) as (.str z) := .mk fun σ H0 H hs hf Q q => re_of (pe_joined1 re_pe) (h.run σ H0 H hs hf Q q)
end
/-! ### try .. except -/
/-- what the class object at M, named in a clause, says -/
structure CatE (K : PySem.W.Frag) (c m : Addr) (b : Bool) : Prop where
  ex : PySem.W.exmOne K (.ref c) (.ref m) = some b
section
variable {X : Cx} {N L gs : List Str} {k : Nat} {sc : Scope} {n x : Str} {i j : Nat} {Gs G : Hp} {as : AS} {F : Fin} {M : Addr} {body suite : List Stmt} {b₀ : Stmt} {np pos pos' : Pos}
/-- the suite's end: the clause's name is gone -/
def Fin.gone (F : Fin) (i : Nat) : Fin := { nx := fun as => F.nx (as.set i .un), rt := F.rt, bk := fun as => F.bk (as.set i .un), ct := fun as => F.ct (as.set i .un), ex := fun _ _ => False }
/-- the name's slot: the exception at a, its own dict with its fields -/
def excS (a : Addr) (dd : Option Addr) (x : Exn) : Sl := match dd with
  | none => .fz (.cls a)
  | some d => .fz (.xc a d x.fs)
theorem t_try (EX : Exn → AS → Prop) (B : Body X N L gs k sc) (hn : At L n i) (hnl : sc.names.lookup n = some .local) (hg : At gs x j) (hm : X.mg x = some (.ref M))
    (hb : ∀ (pn : List (Addr × Obj)) (xe : Value → Shared → Prop), Body (X.tr pn xe) N L gs k sc → SS (X.tr pn xe) Gs G body as { F with ex := EX })
    (hx : ∀ xn as', EX xn as' → ∃ b, CatE X.K xn.cls M b ∧ (b = false → F.ex xn as') ∧ (b = true → ∀ (a : Addr) (oe : Obj) (dd : Option Addr) (pn : List (Addr × Obj)), Zc (.ref xn.cls) dd oe → (∃ vs, oe.data = .fields vs) → (xn.fs = [] → dd = none) → (xn.fs ≠ [] → ∃ d, dd = some d) → SS (X.suite a ((a, oe) :: pn)) Gs G (b₀ :: suite) (as'.set i (excS a dd xn)) (F.gone i))) :
    S1 X Gs G (.Try body [.ExceptHandler (some (.Name x np)) (some n) (b₀ :: suite) pos'] [] [] pos) as F := .mk fun σ H H0 S E ok => by
  obtain ⟨a1, a2, _, _⟩ := B.locs hn
  obtain ⟨g1, g2, g3⟩ := B.gls hg
  let tb : WX → TS := fun W D σ H => ∀ (pn : List (Addr × Obj)) (xe : Value → Shared → Prop), Takes (X.tr pn xe) W → PassesOwn (model X.prog X.w) X.A X.env xe → rss (X.tr pn xe) body D σ H
  let ts : Addr → Value → Option Addr → TS := fun a cls d D σ H => ∀ (oe : Obj) (pn : List (Addr × Obj)), Zc cls d oe → (∃ vs, oe.data = .fields vs) → rss (X.suite a ((a, oe) :: pn)) (b₀ :: suite) D σ H
  refine rs_of (ps_try_as (i := i) (tb := tb) (ts := ts) B.stk B.frm B.ndX a1 (by show X.env.scope.names.lookup n = _; rw [B.hsc]; exact hnl) ⟨g1, g2, .inl hm⟩ wx_takes (fun W pn xe tk hp => ⟨fun pins s σ H D I h => h pn xe tk hp pins s I⟩) (fun a oe cls d pn hz hf => ⟨fun pins s σ H D I h => h oe pn hz hf pins s I⟩)) ?_
  intro pn xe tk hp
  refine (hb pn xe (B.tr hp)).run σ H H0 S E ⟨fun σ' H' as' H1 q S' => ok.nx σ' H' as' H1 q S', fun v H' d H1 q => ok.rt v H' d H1 q, fun σ' H' as' H1 q S' => ok.bk σ' H' as' H1 q S', fun σ' H' as' H1 q S' => ok.ct σ' H' as' H1 q S', fun c dd σ' H' xn as' H1 q S' iv hex => ?_⟩
  refine wx_of tk ?_
  obtain ⟨b, hb1, hb2, hb3⟩ := hx xn as' hex
  obtain ⟨ec, iv'⟩ := id iv
  refine ⟨b, by rw [ec]; exact hb1.ex, fun hbt a ha => ?_, fun hbf => ok.ex c dd σ' H' xn as' H1 q S' iv (hb2 hbf)⟩
  intro oe pn' hz hfl
  rw [ec] at hz
  refine rss_len fun hlen => ?_
  have hi : i < σ'.length := by
    have h1 : i < X.N.length := (List.getElem?_eq_some_iff.mp a1).1
    have h2 : (σ'.set i (some (V.ref a))).length = X.N.length := hlen
    rw [List.length_set] at h2
    omega
  have S2 : StH X.K Gs G (σ'.set i (some (.ref a))) H' (as'.set i (excS a dd xn)) H1 := by
    unfold excS
    cases dd with
    | none => exact S'.setF hi rfl
    | some d =>
      rcases iv' with ⟨_, z⟩ | ⟨_, d', gs', e1, e2, e3⟩
      · cases z
      · cases e1
        exact S'.setF hi ⟨gs', rfl, e2, e3⟩
  refine (hb3 hbt a oe dd pn' hz hfl (fun z => by
      rcases iv' with ⟨_, q⟩ | ⟨q, _⟩
      · exact q
      · exact absurd z q) (fun z => by
      rcases iv' with ⟨q, _⟩ | ⟨_, d', _, e1, _⟩
      · exact absurd q z
      · exact ⟨d', e1⟩)).run _ H' H1 S2 _ ⟨fun σ4 H4 as4 H5 r S4 z => ?_, fun v H4 d H5 r g4 i4 z => ok.rt v H4 d H5 (q.trans r) g4 i4 z, fun σ4 H4 as4 H5 r S4 z => ?_, fun σ4 H4 as4 H5 r S4 z => ?_, fun _ _ _ _ _ _ _ _ _ _ z => z.elim⟩
  · exact ok.nx _ H4 _ H5 (q.trans r) S4.setU z
  · exact ok.bk _ H4 _ H5 (q.trans r) S4.setU z
  · exact ok.ct _ H4 _ H5 (q.trans r) S4.setU z
end
/-! ### isinstance in a suite -/
section
variable {X : Cx} {a C : Addr} {oe : Obj} {pn : List (Addr × Obj)} {b : Bool}
theorem ca_isE {M : Addr} (c : ExcC X.K C) (hz : Zc (.ref C) none oe) (hf : ∃ vs, oe.data = .fields vs) (hk : PySem.W.kitOne X.K (.ref C) (.ref M) = some b) : CaD (X.suite a ((a, oe) :: pn)) (.builtin "isinstance") [.cls a, .cls M] (.bl b) := .flat (call_isE c hz hf) (fun _ => rfl) fun vs H h Q q => by
  obtain ⟨v, w, e, h1, h2⟩ := is2 h
  rw [show v = _ from h1, show w = _ from h2] at e
  exact ⟨.ref M, .ref M, b, e, fun u r => r, hk, q⟩
theorem ca_isET {T : String} (c : ExcC X.K C) (hz : Zc (.ref C) none oe) (hf : ∃ vs, oe.data = .fields vs) (hk : PySem.W.kitOne X.K (.ref C) (.type T) = some b) : CaD (X.suite a ((a, oe) :: pn)) (.builtin "isinstance") [.cls a, .ty T] (.bl b) := .flat (call_isE c hz hf) (fun _ => rfl) fun vs H h Q q => by
  obtain ⟨v, w, e, h1, h2⟩ := is2 h
  rw [show v = _ from h1, show w = _ from h2] at e
  exact ⟨.ty T, .type T, b, e, fun u r => r, hk, q⟩
end
end Mw
set_option maxHeartbeats 4000000
namespace Mw
open PySem PySem.Spec PyProof.Rows L2
section
variable {X : Cx} {as : DE} {a b c : Expr} {pos : Pos}
/-! ### is of bools -/
theorem oc_isB {k l : Bool} : OpD X (compareOp .Is) (.bl k) (.bl l) (.bl (decide (k = l))) := .flat op_isBl (fun _ => rfl) fun v w H h1 h2 Q q => ⟨k, l, h1, h2, q⟩
theorem oc_notB {k l : Bool} : OpD X (compareOp .IsNot) (.bl k) (.bl l) (.bl (!decide (k = l))) := .flat op_notBl (fun _ => rfl) fun v w H h1 h2 Q q => ⟨k, l, h1, h2, q⟩
/-! ### lists put together -/
def rCatL (K : PySem.W.Frag) : R2 := fun x y H Q => ∃ a b xs ys, x = .ref a ∧ y = .ref b ∧ SqL K H a xs ∧ SqL K H b ys ∧ xs.length + ys.length ≤ sizeLine ∧ ∀ p, H p = none → Q (.ref p) (upd H p (.lst (xs ++ ys)))
theorem op_catL : OpR X (binaryOp .Add) (rCatL X.K) := by
  intro pins s σ H x y v u Q I rx ry h
  obtain ⟨l, b, xs, zs, rfl, rfl, hx, hy, hz, q⟩ := h
  cases rx
  cases ry
  obtain ⟨its, r, ⟨⟨cls, dd, data, sl⟩, n, ho, hc, hd, hs⟩, z⟩ := I.list hx
  obtain ⟨its2, r2, ⟨⟨cls2, dd2, data2, sl2⟩, n2, ho2, hc2, hd2, hs2⟩, z2⟩ := I.list hy
  simp only at hc hd hs hc2 hd2 hs2
  subst hc hd hs hc2 hd2 hs2
  have l1 := r.length
  have l2 := r2.length
  refine concat_meets ⟨_, ho, rfl⟩ ⟨_, ho2, rfl⟩ PySem.noFill_list_add PySem.seq_list_add PySem.F.slot_list_add PySem.F.entry_list_add (PySem.F.args_list_add_2 _ _) (PyProof.Rows.list_addW l b its.toArray its2.toArray n n2 none none sl sl2 (by rw [List.size_toArray, List.size_toArray]; omega)) ⟨ho, ho2, ?_⟩
  have ea : its.toArray ++ its2.toArray = (its ++ its2).toArray := by simp
  rw [ea]
  exact ⟨.ref _, _, I.lnew (t' := s.toks) (r.append r2) (by rw [List.length_append]; omega), rfl, q _ I.fresh⟩
theorem od_catL {ds es : List D} (h : ds.length + es.length ≤ sizeLine) : OpD X (binaryOp .Add) (.lst ds) (.lst es) (.lst (ds ++ es)) := ⟨_, op_catL, fun v w H0 H hs h1 h2 Q q => by
  obtain ⟨a, vs, rfl, q1, i1⟩ := h1
  obtain ⟨b, ws, rfl, q2, i2⟩ := h2
  refine ⟨a, b, vs, ws, rfl, rfl, Same.lst hs q1, Same.lst hs q2, by rw [i1.len, i2.len]; exact h, fun p hp => ?_⟩
  exact q _ (upd H0 p (.lst (vs ++ ws))) _ (Grow.laid hs hp) ⟨p, vs ++ ws, rfl, SqL.of upd_same, (i1.app i2).mono (Same.new (hs.free hp))⟩⟩
/-! ### a if c else b, that raises -/
theorem ex_ifT {x : Exn} (h : ET X c as true) (h1 : EX X a as x) : EX X (.IfExp c a b pos) as x := .mk fun σ H0 H hs hf Q q =>
  re_of (pe_ifExp rt_pt re_pe re_pe) (h.run σ H0 H hs hf _ fun H1 H' g => by
    rw [if_pos rfl]
    exact h1.run σ H1 H' g.sub (hf.mono g.frz) _ fun _ _ _ _ g' i' => q _ _ _ _ (g.trans g') i')
theorem ex_ifF {x : Exn} (h : ET X c as false) (h1 : EX X b as x) : EX X (.IfExp c a b pos) as x := .mk fun σ H0 H hs hf Q q =>
  re_of (pe_ifExp rt_pt re_pe re_pe) (h.run σ H0 H hs hf _ fun H1 H' g => by
    rw [if_neg Bool.false_ne_true]
    exact h1.run σ H1 H' g.sub (hf.mono g.frz) _ fun _ _ _ _ g' i' => q _ _ _ _ (g.trans g') i')
end
end Mw
set_option maxHeartbeats 4000000
/-! own exceptions with fields: made by their own __init__, raised, or held as values -/
namespace Mw
section
open PySem PySem.Spec PySem.Calls PyProof.Rows PySem.W PySem.HandSPX
variable {prog : Program} {w : World} {A : Around} {E : Value → Shared → Prop} {s : Shared} {K : Frag} {x D : Addr} {ox od : Obj}
/-- e.__class__, e an own exception with its own dict -/
theorem exv_class {Q : Option Value → Shared → Prop} (C : L2.ExcC K D) (X : K.In s.heap) (I : InstAt s.heap x ox D (some od)) (h : Q (some (.ref D)) { s with toks := s.toks + 1 }) : wpAny (model prog w) A (getAttr? (.ref x) "__class__") Q E s := by
  have hf : findObj K D (some od) "__class__" = some (.bind (.builtin "getset_descriptor.__get__") (.builtin "object.__class__")) :=
    findObj_data (show (clsIn K D).isSome = true by obtain ⟨cd, hc, _⟩ := any_some C.hd; rw [hc]; rfl) C.ha C.hn C.ht
  obtain ⟨hp, g, d, t, os⟩ := s
  have L0 := I.type (M := model prog w)
  have L1 := looks_findIn (M := model prog w) X C.hg
  have L2 := looks_findIn (M := model prog w) X C.hk
  have L3 := looks_find (M := model prog w) X I hf
  have sub : Looks (model prog w) hp (isInstance (.ref x) (.type "BaseException")) true := L0.andThen (looks_subIn X C.hs)
  have n0 : (Value.builtin "BaseException.__getattribute__" == Value.builtin "object.__getattribute__") = false := by decide +kernel
  unfold getAttr? getAttrBy? getAttrBy
  refine wpAny_bind (wpAny_mkText (wpAny_bind (wpAny_attempt (wpAny_holding (wpAny_bind (L0.at (wpAny_bind (L1.at ?_))))))))
  show wpAny _ _ (if (onTheHeap (Value.ref D) && Value.builtin "BaseException.__getattribute__" == Value.builtin "object.__getattribute__") = true then _ else _) _ _ _
  rw [n0, Bool.and_false, if_neg Bool.false_ne_true]
  unfold getAttrByItsOwn hookBefore
  refine wpAny_bind ?_
  rw [if_pos (show onTheHeap (Value.ref D) = true from rfl)]
  refine L2.at (wpAny_bind (wpAny_attempt (wpAny_holding ?_)))
  unfold callGetattribute
  rw [Bool.false_and, if_neg Bool.false_ne_true]
  unfold boundAndCalled
  rw [PySem.F.excAttr_ValueError.ga.bind (.ref x)]
  refine wpAny_bind (wpAny_pure ?_)
  show wpAny _ _ (call (.builtin "BaseException.__getattribute__") [.ref x, .str "__class__" t]) _ _ _
  refine wpAny_call (codeAny_call_builtin PySem.F.excAttr_ValueError.ga.plain PySem.F.entry_bexc_ga ?_)
  refine @check_slot (model prog w) _ _ ⟨hp, g, d, t + 1, os⟩ "BaseException.__getattribute__" "BaseException" "__getattribute__" (.ref x) [.str "__class__" t] [] _ (by decide +kernel) (by decide +kernel) sub (PySem.F.args_bexc_ga (.ref x) (.str "__class__" t)) ?_
  unfold Builtin.«object.__getattribute__»
  refine wpAny_bind (wpAny_of_eq (a := ((Value.ref x : Value), [Value.str "__class__" t])) (by first | rfl | (simp only [slotArgs]; rfl)) ?_)
  refine wpAny_bind (wpAny_pure (wpAny_bind (L0.at (wpAny_bind (L3.at ?_)))))
  show wpAny _ _ (holding [Value.builtin "object.__class__"] (call (.builtin "getset_descriptor.__get__") [.builtin "object.__class__", .ref x, .ref D]) >>= ret) _ _ _
  refine wpAny_bind (wpAny_holding (wpAny_call (class_get (s := ⟨hp, g, d, t + 1, os⟩) (ox := ox) (od := some od) X I C.hm (wpAny_pure ?_))))
  show wpAny _ _ (handedOut (.ref D)) _ _ _
  rw [handedOut_of (v := .ref D) rfl]
  first
    | exact wpAny_pure (wpAny_pure h)
    | exact wpAny_pure h
    | exact wpAny_pure (wpAny_bind (wpAny_pure (wpAny_pure h)))
theorem exv_kit (C : L2.ExcC K D) : KitX K (.ref x) (.ref D) (fun h => InstAt h x ox D (some od)) where
  ty := fun _ _ _ I => I.type
  it := fun _ _ X _ => by
    obtain ⟨cdD, hcD, _⟩ := any_some C.hd
    unfold clsIn at hcD
    split at hcD
    · rename_i ho
      intro A' Q' E' s' k q
      unfold isType loadHead
      exact wpAny_bind (wpAny_loadPart (k _ _ (X _ _ ho)) (wpAny_pure q))
    · cases hcD
  ne := fun h tp dd its n sl X htp => by
    obtain ⟨cdD, hcD, _⟩ := any_some C.hd
    refine Bool.eq_false_iff.mpr fun q => ?_
    obtain rfl : D = tp := Value.ref.inj (beq_iff_eq.mp q)
    unfold clsIn at hcD
    split at hcD
    · rename_i ho
      cases (X _ _ ho).symm.trans htp
    · cases hcD
  ca := fun X I k => exv_class C X I k
end
section
open PySem PySem.Spec PyProof.Rows L2
variable {X : Cx} {pins : List (Addr × Obj)} {σ : L2.St} {H : Hp} {s : Shared} {a C : Addr} {dx : Addr} {gs : List (Str × V)}
/-- the object of an exception held as a value -/
theorem exv_at (I : Inv X pins σ H s) (ea : H a = some (exo a C (some dx))) (ed : H dx = some (exd dx gs)) : ∃ (ox od : Obj) (mA : Str → Option Value), PySem.W.InstAt s.heap a ox C (some od) ∧ (∀ n, PySem.W.lookIn n od = some (mA n)) ∧ ∀ f, RelO (gs.lookup f) (mA f) := by
  obtain ⟨t1, ho⟩ := exo_at I.hok ea
  obtain ⟨mA, hns, rel⟩ := exd_at I.hok ed
  obtain ⟨od, hod, hl⟩ := lookIn_ns hns
  exact ⟨_, od, mA, ⟨ho, rfl, rfl, hod⟩, hl, rel⟩
/-- e.f -/
def tXv (K : PySem.W.Frag) (C : Addr) (f : Str) (te : TE) : TE := fun σ H Q => te σ H fun x H1 => ∃ (a dx : Addr) (gs : List (Str × V)) (v : V), x = .ref a ∧ H1 a = some (exo a C (some dx)) ∧ H1 dx = some (exd dx gs) ∧ gs.lookup f = some v ∧ Q v H1
theorem pe_xv {e : Expr} {te : TE} {pos : Pos} {n : Str} (T : XfC X.K C) (hno : PySem.W.findIn X.K (.ref C) n = some none) (he : PE X e te) (hb : attributeBase e n X.env (eval e X.env) = eval e X.env := by rfl) : PE X (.Attribute e n pos) (tXv X.K C n te) := by
  refine ⟨fun pins s σ H Q I h => ?_⟩
  refine attr_of hb (thn (he.run pins s σ H _ I h) fun u s1 hh => ?_)
  obtain ⟨x, H1, I1, rx, a, dx, gs, v, ex, ea, ed, l, q⟩ := hh
  subst ex
  obtain rfl : u = Value.ref a := rx
  obtain ⟨ox, od, mA, J, hl, hr⟩ := exv_at I1 ea ed
  obtain ⟨u, hu, ru⟩ := RelO.some_of (v := v) (o := mA n) (by rw [← l]; exact hr n)
  exact PySem.HandSPX.exc_get I1.kIn J T.ga T.gg T.exC (PySem.W.findObj_own T.hdC hno rfl (by rw [hl, hu])) (handed_of ru) ⟨v, H1, I1.tok _, ru, q⟩
/-- isinstance(e, c) -/
def rIsV (K : PySem.W.Frag) (C : Addr) : List V → Hp → VK → Prop := fun xs H Q => ∃ (a dx : Addr) (gs : List (Str × V)) (c : V) (cv : Value) (b : Bool), xs = [.ref a, c] ∧ H a = some (exo a C (some dx)) ∧ H dx = some (exd dx gs) ∧ (∀ u, RelV c u → u = cv) ∧ PySem.W.kitOne K (.ref C) cv = some b ∧ Q (.bl b) H
theorem call_isV (T : ExcC X.K C) : CallR X (.builtin "isinstance") (rIsV X.K C) := by
  intro pins s σ H xs us Q I r h
  obtain ⟨a, dx, gs, c, cv, b, rfl, ea, ed, hcv, e, q⟩ := h
  obtain ⟨u0, u1, rfl, rx, rt⟩ := vals2 r
  obtain rfl : u0 = Value.ref a := rx
  obtain rfl := hcv _ rt
  obtain ⟨ox, od, mA, J, _, _⟩ := exv_at I ea ed
  exact PySem.W.kia_one (exv_kit T) I.kIn J e (fun z => nomatch z) fun tk => ⟨.bl b, H, I.kept (t' := tk) fun _ _ z => z, rfl, q⟩
end
/-! ### made by their own __init__ -/
section
open PySem PySem.Spec PyProof.Rows L2
abbrev putF (fs : List Str) (ys : List V) : List (Str × V) := (fs.zip ys).reverse
abbrev putD (fs : List Str) (ds : List D) : List (Str × D) := (fs.zip ds).reverse
/-- an own __init__ that stores its params under fs -/
def spInit (C : Addr) (fs : List Str) : Sp := fun vs H Q _ => ∃ (a : Addr) (ys : List V), vs = .ref a :: ys ∧ ys.length = fs.length ∧ H a = some (exo a C none) ∧
  ∀ (dx : Addr) (H' : Hp), H dx = none → dx ≠ a → H' a = some (exo a C (some dx)) → H' dx = some (exd dx (putF fs ys)) → (∀ b, b ≠ a → b ≠ dx → H' b = H b) → Q .non H'
/-- what a caller has of such a class -/
structure MkE (P : Program) (w : World) (K : PySem.W.Frag) (mg : Str → Option Value) (base : Heap) (k : Nat) (x : Str) (C : Addr) (fs : List Str) : Prop where
  oc : OexC K C
  nn : fs ≠ []
  ex : ∃ (fI : Addr) (fd : FuncData) (ps : List Str), PySem.W.findIn K (.ref C) "__init__" = some (some (.ref fI)) ∧ PySem.W.typeIn K (.ref fI) = some (.type "function") ∧ FnOk P w K mg base (L2.CX P w) k fI fd ps (spInit C fs) ∧ Binds K fd ps []
  g : mg x = some (.ref C)
abbrev MkD (X : Cx) (k : Nat) (x : Str) (C : Addr) (fs : List Str) : Prop := MkE X.prog X.w X.K X.mg X.base k x C fs
theorem isF_zip {K : PySem.W.Frag} {H : Hp} : ∀ {fs : List Str} {ds : List D} {vs : List V}, IsL K H ds vs → IsF K H (fs.zip ds) (fs.zip vs)
  | [], _, _, _ => rfl
  | f :: fs, [], _, h => by
    rw [show _ = [] from h]
    exact rfl
  | f :: fs, d :: ds, _, h => by
    obtain ⟨v, r, h1, h2, h3⟩ := h
    rw [h1]
    exact ⟨v, _, rfl, h2, isF_zip h3⟩
theorem IsF.app {K : PySem.W.Frag} {H : Hp} : ∀ {ds es : List (Str × D)} {vs ws : List (Str × V)}, IsF K H ds vs → IsF K H es ws → IsF K H (ds ++ es) (vs ++ ws)
  | [], _, _, _, h, g => by rw [show _ = [] from h]; exact g
  | (k, d) :: ds, _, _, _, h, g => by
    obtain ⟨v, r, h1, h2, h3⟩ := h
    rw [h1]
    exact ⟨v, _, rfl, h2, IsF.app h3 g⟩
theorem IsF.rev {K : PySem.W.Frag} {H : Hp} : ∀ {ds : List (Str × D)} {vs : List (Str × V)}, IsF K H ds vs → IsF K H ds.reverse vs.reverse
  | [], _, h => by rw [show _ = [] from h]; exact rfl
  | (k, d) :: ds, _, h => by
    obtain ⟨v, r, h1, h2, h3⟩ := h
    rw [h1, List.reverse_cons, List.reverse_cons]
    exact IsF.app h3.rev ⟨v, _, rfl, h2, rfl⟩
theorem IsF.lookup {K : PySem.W.Frag} {H : Hp} {n : Str} {d : D} : ∀ {ds : List (Str × D)} {vs : List (Str × V)}, IsF K H ds vs → ds.lookup n = some d → ∃ v, vs.lookup n = some v ∧ Is K H d v
  | [], _, h, e => nomatch e
  | (k, x) :: ds, _, h, e => by
    obtain ⟨v, r, h1, h2, h3⟩ := h
    rw [h1]
    rw [List.lookup_cons] at e ⊢
    by_cases q : n == k
    · rw [q] at e ⊢
      cases e
      exact ⟨v, rfl, h2⟩
    · rw [Bool.eq_false_iff.mpr q] at e ⊢
      exact IsF.lookup h3 e
variable {X : Cx} {pins : List (Addr × Obj)} {σ : L2.St} {H1 : Hp} {k : Nat} {x : Str} {C : Addr} {fs : List Str}
theorem call_mk {s1 : Shared} {us : List Value} {vs : List V} {Q : Value → Shared → Prop} (M : MkD X k x C fs) (hr : Room (k + 1) X.A) (I1 : Inv X pins σ H1 s1) (r1 : Vals vs us) (hl : vs.length = fs.length) (hz : fs.length ≤ 1000)
    (h : ∀ (a dx : Addr) (H2 : Hp) (s' : Shared), H1 a = none → H1 dx = none → dx ≠ a → Inv X pins σ H2 s' → H2 a = some (exo a C (some dx)) → H2 dx = some (exd dx (putF fs vs)) → (∀ b, b ≠ a → b ≠ dx → H2 b = H1 b) → Q (.ref a) s') : wpAny (model X.prog X.w) X.A (call (.ref C) us) Q X.xe s1 := by
  obtain ⟨fI, fd, ps, iC, tI, F1, hb⟩ := M.ex
  obtain ⟨nm, q, N, bs, bm, sn, sub, ab, col, dd, k0, k1, k2, k3, k5, hC, hbm⟩ := M.oc.cls
  obtain ⟨hp, g, dr, tk, os⟩ := s1
  have hsz : hp.objs.size ≤ hp.objs.size + 1 := Nat.le_succ _
  have hn : H1 (hp.objs.size + 1) = none := I1.hok.fresh hsz
  have kk : ∀ b o, hp.get? b = some o → ((hp.push (PySem.W.kdv_tup us)).push (PySem.HandSPX.excO C hp.objs.size)).get? b = some o := fun b o e => Heap.get?_push_of_some _ (Heap.get?_push_of_some _ e)
  have hget : ((hp.push (PySem.W.kdv_tup us)).push (PySem.HandSPX.excO C hp.objs.size)).get? (hp.objs.size + 1) = some (PySem.HandSPX.excO C hp.objs.size) := by heap_get
  have I2 : Inv X pins σ (upd H1 (hp.objs.size + 1) (exo (hp.objs.size + 1) C none)) ⟨(hp.push (PySem.W.kdv_tup us)).push (PySem.HandSPX.excO C hp.objs.size), g, dr, tk, os⟩ :=
    I1.laid (t' := tk) (a := hp.objs.size + 1) (o := exo (hp.objs.size + 1) C none) (h' := (hp.push (PySem.W.kdv_tup us)).push (PySem.HandSPX.excO C hp.objs.size)) kk hsz (exo_ok hget)
  have hq : spInit C fs (.ref (hp.objs.size + 1) :: vs) (upd H1 (hp.objs.size + 1) (exo (hp.objs.size + 1) C none)) (fun v H2 => v = .non ∧ ∃ dx : Addr, H1 dx = none ∧ dx ≠ hp.objs.size + 1 ∧ H2 (hp.objs.size + 1) = some (exo (hp.objs.size + 1) C (some dx)) ∧ H2 dx = some (exd dx (putF fs vs)) ∧ ∀ b, b ≠ hp.objs.size + 1 → b ≠ dx → H2 b = H1 b) (fun _ _ _ => False) :=
    ⟨_, vs, rfl, hl, upd_same, fun dx H' e1 e2 e3 e4 e5 => ⟨rfl, dx, by rw [upd_ne e2] at e1; exact e1, e2, e3, e4, fun b n1 n2 => by rw [e5 b n1 n2, upd_ne n1]⟩⟩
  have r2 : Vals (V.ref (hp.objs.size + 1) :: vs) (Value.ref (hp.objs.size + 1) :: us) := .cons rfl r1
  have hlen : (Value.ref (hp.objs.size + 1) :: us).length = ps.length := by
    have e := r2.length
    rw [F1.len _ _ _ _ hq] at e
    exact e.symm
  have hus : us.length ≤ sizeLine := by
    rw [← Paired.length r1, sizeLine_eq]
    omega
  have hb2 := hb _ (Value.ref (hp.objs.size + 1) :: us) I2.kIn (by rw [List.append_nil]; exact hlen)
  rw [List.append_nil] at hb2
  refine wpAny_call (PySem.HandSPX.call_own F.excBase_ValueError (fun Y => PySem.HandSPX.refsVE_contains Y bm hbm) (I1.kIn _ _ hC) (PySem.W.looks_findIn I1.kIn iC) (fun self => PySem.W.bind_fn I1.kIn self tI) hus
    (codeAny_mono (F1.run _ X.stack _ _ ⟨Value.ref (hp.objs.size + 1) :: us, []⟩ (Value.ref (hp.objs.size + 1) :: us) _ _ (fun _ _ _ => False) (hr.make C us []) (I2.env0.make C us []) hb2 r2 hq) fun r s' hq' => ?_))
  cases r with
  | error er => exact passes_call wx_takes (E := fun _ _ _ => False) (fun _ _ _ _ z => z.elim) pins σ _ _ er s' I2 hq'
  | ok fl =>
    cases fl with
    | ret u =>
      obtain ⟨v, H2, os2, bare2, un2, hok2, rv, ev, dx, n1, n2, ea, ed, hk⟩ := hq'
      subst ev
      exact ⟨rv, h _ dx H2 _ hn n1 n2 (I2.call' (ch := []) os2 un2 hok2 bare2 fun b z => absurd z (by simp)) ea ed hk⟩
    | next => exact False.elim hq'
    | brk => exact False.elim hq'
    | cont => exact False.elim hq'
/-- C(e, ..) as a value -/
theorem ee_mk {e : Expr} {es : List Expr} {as : DE} {ds : List D} {p pos : Pos} (M : MkD X k x C fs) (hr : Room (k + 1) X.A) (hg : Gl X x) (hdb : (x == ("__debug__" : Str)) = false) (ha : EA X (e :: es) as ds) (hl : ds.length = fs.length) (hz : fs.length ≤ 1000)
    (he : starEach (e :: es) X.env = (false, eval e X.env) :: starEach es X.env := by rfl) (hpl : (backTo pos (starEach es X.env)).any (·.1) = false := by rfl) : EE X (.Call (.Name x p) (e :: es) [] pos) as (.exv C (putD fs ds)) := .mk fun σ H0 H hs hf Q q => by
  intro pins s I
  refine wpAny_Call_Name_kw (ld_glob I hg M.g ?_ hdb)
  refine PySem.W.callWith_K (h₀ := X.base) I.ok.mod.kin M.oc.kC (thn ((ra_pa (es := e :: es)).run pos pins s σ H (fun vs H' => ∃ H0', Grow H0 H H0' H' ∧ IsL X.K H0' ds vs) I (ha.run σ H0 H hs hf _ fun vs H1 H' g i => ⟨H1, g, i⟩)) fun us s1 ⟨vs, H1, I1, r1, H0', g, iv⟩ => ⟨I1.kIn, ?_⟩) he hpl
  show wpAny _ _ (call (.ref C) us) _ _ _
  refine call_mk M hr I1 r1 (by rw [iv.len]; exact hl) hz fun a dx H2 s' n1 n2 ne J ea ed hk => ?_
  have m1 : H0' a = none := g.sub.free n1
  have m2 : H0' dx = none := g.sub.free n2
  have sm : Same H0' (upd (upd H0' a (exo a C (some dx))) dx (exd dx (putF fs vs))) := (Same.new m1).trans (Same.new (by rw [upd_ne ne]; exact m2))
  refine ⟨.ref a, H2, J, rfl, q (.ref a) (upd (upd H0' a (exo a C (some dx))) dx (exd dx (putF fs vs))) H2 (g.trans ⟨sm, fun b o e => ?_, fun b o e => ?_, fun b z => ?_⟩) ⟨a, dx, _, rfl, ?_, upd_same, ?_⟩⟩
  · rw [hk b (ne_of_none e n1) (ne_of_none e n2)]
    exact e
  · by_cases h1 : b = dx
    · subst h1
      rw [upd_same] at e
      rw [ed]
      exact e
    · rw [upd_ne h1] at e
      by_cases h2 : b = a
      · subst h2
        rw [upd_same] at e
        rw [ea]
        exact e
      · rw [upd_ne h2] at e
        rw [hk b h2 h1]
        exact g.sub b o e
  · by_cases h1 : b = dx
    · rw [h1]; exact .inr n2
    · rw [upd_ne h1] at z
      by_cases h2 : b = a
      · rw [h2]; exact .inr n1
      · rw [upd_ne h2] at z
        exact .inl z
  · rw [upd_ne (Ne.symm ne), upd_same]
  · exact (isF_zip (iv.mono sm)).rev
/-- e.f, e an exception held as a value -/
theorem ee_xv {e : Expr} {as : DE} {n : Str} {d : D} {ms : List (Str × D)} {pos : Pos} (T : XfC X.K C) (hno : PySem.W.findIn X.K (.ref C) n = some none) (he : EE X e as (.exv C ms)) (hl : ms.lookup n = some d) (hb : attributeBase e n X.env (eval e X.env) = eval e X.env := by rfl) : EE X (.Attribute e n pos) as d := .mk fun σ H0 H hs hf Q q =>
  re_of (pe_xv T hno re_pe hb) (he.run σ H0 H hs hf _ fun v H1 H' g i => by
    obtain ⟨a, dx, gs, e1, e2, e3, e4⟩ := i
    obtain ⟨v', h1, h2⟩ := e4.lookup hl
    exact ⟨a, dx, gs, v', e1, g.sub _ _ e2, g.sub _ _ e3, h1, q _ _ _ g h2⟩)
theorem ca_isV {M : Addr} {b : Bool} {ms : List (Str × D)} (T : ExcC X.K C) (hk : PySem.W.kitOne X.K (.ref C) (.ref M) = some b) : CaD X (.builtin "isinstance") [.exv C ms, .cls M] (.bl b) := .flat (call_isV T) (fun _ => rfl) fun vs H h Q q => by
  obtain ⟨v, w, e, h1, h2⟩ := is2 h
  obtain ⟨a, dx, gs, e1, e2, e3, e4⟩ := h1
  rw [e1, show w = _ from h2] at e
  exact ⟨a, dx, gs, .ref M, .ref M, b, e, e2, e3, fun u r => r, hk, q⟩
end
end Mw
set_option maxHeartbeats 4000000
/-! own __init__s of exceptions; such exceptions raised -/
namespace Mw
open PySem PySem.Spec PyProof.Rows L2
/-- an own base class of exceptions, without own __init__ -/
structure BaseI (K : PySem.W.Frag) (mg : Str → Option Value) (n : Str) (M : Addr) : Prop where
  g : mg n = some (.ref M)
  ex : ∃ mc, ClX.CRead K M mc ∧ PySem.W.findCls K (.ref M) mc "__init__" = some (.val (.builtin "ValueError.__init__"))
section
variable {X : Cx} {N L gs : List Str} {k : Nat} {sc : Scope} {σ : L2.St} {H : Hp} {E : Ends} {a C M dx : Addr} {y : V} {f n : Str} {i j : Nat} {e : Expr} {es : List Expr} {ta : TA} {p p' p1 p2 p3 pos pos' : Pos} {st : Stmt} {sts : List Stmt}
theorem pe_meinit {pl : Sem Bool} {mc : Value} (hg : Gl X n) (hm : X.mg n = some (.ref M)) (hdb : (n == ("__debug__" : Str)) = false) (r : ClX.CRead X.K M mc) (vV : PySem.W.findCls X.K (.ref M) mc "__init__" = some (.val (.builtin "ValueError.__init__"))) (ha : PA X (e :: es) ta)
    (hc : eval (.Call (.Attribute (.Name n p1) "__init__" p2) (e :: es) [] pos) X.env = (do
      let ov ← eval (.Name n p1) X.env
      standAt p2.atName
      let (f, first) ← holding [ov] (getMethod ov "__init__" pl)
      callWith pos f first (backTo pos (starEach (e :: es) X.env)) (backToKw pos (keywordEach [] X.env))) := by rfl)
    (he : starEach (e :: es) X.env = (false, eval e X.env) :: starEach es X.env := by rfl) (hpl : (backTo pos (starEach es X.env)).any (·.1) = false := by rfl) :
    PE X (.Call (.Attribute (.Name n p1) "__init__" p2) (e :: es) [] pos) (tVeI X.K ta) := by
  refine ⟨fun pins s σ H Q I h => ?_⟩
  refine PySem.W.methodCall_KW (ld_glob I hg hm ?_ hdb) hc
  refine PySem.W.method_cls I.kIn r.ga (PySem.W.cls_value I.kIn r.rd vV (by decide +kernel) ?_)
  show wpAny _ _ (callWith pos (Value.builtin "ValueError.__init__") [] (backTo pos (starEach (e :: es) X.env)) []) _ _ _
  refine PyProof.Rows.callWith_method1 (thn (ha.run pos pins _ σ H _ (I.tok _) h) fun us s1 ⟨vs, H1, I1, r1, a, C, ws, ev, hl, T, ea, q⟩ => ?_) he hpl
  subst ev
  obtain ⟨u0, ur, rfl, ra, rw'⟩ : ∃ u0 ur, us = u0 :: ur ∧ RelV (.ref a) u0 ∧ Vals ws ur := by cases r1; exact ⟨_, _, rfl, ‹_›, ‹_›⟩
  obtain rfl : u0 = Value.ref a := ra
  exact oinit_ok T I1 ea (by rw [← Paired.length rw', sizeLine_eq]; omega) fun s' J => ⟨.non, H1, J, rfl, q⟩
theorem rs_then (h : rs X st { E with nx := fun σ' H' => rss X sts E σ' H' } σ H) : rss X (st :: sts) E σ H := rss_of (pss_cons rs_ps rss_pss) h
theorem rs_last (h : rs X st E σ H) : rss X [st] E σ H := rss_of (pss_one rs_ps) h
/-- B.__init__(self, 'm') -/
theorem st_meinit {m g0 : Str} {z : Nat} (B : Body X N L gs k sc) (hb : BaseI X.K X.mg n M) (hn : At gs n j) (h0 : At L g0 0) (T : OexC X.K C) (hs : σ[0]? = some (some (.ref a))) (ha : H a = some (exo a C none)) (q : E.nx σ H)
    (hw : swapsWith (.Call (.Attribute (.Name n p1) "__init__" p2) [.Name g0 p, .Constant (.str m) z p'] [] pos) none pos'.line X.env = pure false := by rfl)
    (he : starEach [.Name g0 p, .Constant (.str m) z p'] X.env = (false, eval (.Name g0 p) X.env) :: starEach [.Constant (.str m) z p'] X.env := by rfl) (he2 : starEach [.Constant (.str m) z p'] X.env = (false, eval (.Constant (.str m) z p') X.env) :: starEach [] X.env := by rfl)
    (hpl : (backTo pos (starEach [.Constant (.str m) z p'] X.env)).any (·.1) = false := by rfl) {pl : Sem Bool}
    (hc : eval (.Call (.Attribute (.Name n p1) "__init__" p2) [.Name g0 p, .Constant (.str m) z p'] [] pos) X.env = (do
      let ov ← eval (.Name n p1) X.env
      standAt p2.atName
      let (f, first) ← holding [ov] (getMethod ov "__init__" pl)
      callWith pos f first (backTo pos (starEach [.Name g0 p, .Constant (.str m) z p'] X.env)) (backToKw pos (keywordEach [] X.env))) := by rfl) :
    rs X (.Expr (.Call (.Attribute (.Name n p1) "__init__" p2) [.Name g0 p, .Constant (.str m) z p'] [] pos) pos') E σ H := by
  obtain ⟨mc, r, vV⟩ := hb.ex
  obtain ⟨g1, g2, _⟩ := B.gls hn
  obtain ⟨a1, a2, a3, a4⟩ := B.locs h0
  refine rs_of (ps_expr (pe_meinit g1 hb.g g2 r vV (pa_cons (pe_var a1 (loc_vis a2) a3 a4) (pa_cons pe_str pa_nil he2) he) hc he hpl) hw) ?_
  exact ⟨.ref a, hs, a, C, [.str m], rfl, (show 1 ≤ 1000 by decide), T, ha, q⟩
/-- self.f = v, the first one -/
theorem st_first {g q : Str} (B : Body X N L gs k sc) (h0 : At L q 0) (hi : At L g i) (T : OexC X.K C) (hf : PySem.W.findIn X.K (.ref C) f = some none) (hs : σ[0]? = some (some (.ref a))) (hy : σ[i]? = some (some y)) (ha : H a = some (exo a C none))
    (nx : ∀ dx, H dx = none → dx ≠ a → E.nx σ (upd (upd H dx (exd dx [(f, y)])) a (exo a C (some dx)))) (hw : swapsWith (.Name g p) (some (.Attribute (.Name q p1) f p')) pos.line X.env = pure false := by rfl) : rs X (.Assign [.Attribute (.Name q p1) f p'] (.Name g p) pos) E σ H := by
  obtain ⟨a1, a2, a3, a4⟩ := B.locs h0
  obtain ⟨b1, b2, b3, b4⟩ := B.locs hi
  refine rs_of (ps_ost (pe_var a1 (loc_vis a2) a3 a4) (pe_var b1 (loc_vis b2) b3 b4) hw) ?_
  exact ⟨y, hy, .ref a, hs, a, C, rfl, T, hf, .inl ⟨ha, nx⟩⟩
/-- .. a further one -/
theorem st_more {g q : Str} {ms : List (Str × V)} (B : Body X N L gs k sc) (h0 : At L q 0) (hi : At L g i) (T : OexC X.K C) (hf : PySem.W.findIn X.K (.ref C) f = some none) (hs : σ[0]? = some (some (.ref a))) (hy : σ[i]? = some (some y)) (ha : H a = some (exo a C (some dx))) (hd : H dx = some (exd dx ms)) (hl : ms.length ≤ 900)
    (nx : E.nx σ (upd H dx (exd dx ((f, y) :: ms)))) (hw : swapsWith (.Name g p) (some (.Attribute (.Name q p1) f p')) pos.line X.env = pure false := by rfl) : rs X (.Assign [.Attribute (.Name q p1) f p'] (.Name g p) pos) E σ H := by
  obtain ⟨a1, a2, a3, a4⟩ := B.locs h0
  obtain ⟨b1, b2, b3, b4⟩ := B.locs hi
  refine rs_of (ps_ost (pe_var a1 (loc_vis a2) a3 a4) (pe_var b1 (loc_vis b2) b3 b4) hw) ?_
  exact ⟨y, hy, .ref a, hs, a, C, rfl, T, hf, .inr ⟨dx, ms, ha, hd, hl, nx⟩⟩
end
section
variable {P : Program} {w : World} {K : PySem.W.Frag} {mg : Str → Option Value} {base : Heap}
theorem fn_okI {x qual : Str} {st : Stmt} {f C : Addr} {fd : FuncData} {N L ps gs fs : List Str} {k : Nat} (F : Fun K x qual st f fd) (W : BodyOk N L ps gs (defScope st)) (len : ps.length = fs.length + 1)
    (body : ∀ X : Cx, X.prog = P → X.w = w → X.K = K → X.mg = mg → X.base = base → Body X N L gs k (defScope st) → ∀ (a : Addr) (ys : List V) (H : Hp) (Q : VK), ys.length = fs.length → H a = some (exo a C none) →
      (∀ (dx : Addr) (H' : Hp), H dx = none → dx ≠ a → H' a = some (exo a C (some dx)) → H' dx = some (exd dx (putF fs ys)) → (∀ b, b ≠ a → b ≠ dx → H' b = H b) → Q .non H') →
      rss X (defBody st) { nx := fun _ H' => Q .non H', rt := Q } (L2.start N (.ref a :: ys)) H) : FnOk P w K mg base (L2.CX P w) (k + 1) f fd ps (spInit C fs) := by
  refine F.okX W.fs (fun vs H Q E h => ?_) (fun cdv A outer s H vs Q E hr h => ?_)
  · obtain ⟨a, ys, rfl, h1, _⟩ := h
    rw [List.length_cons, h1, len]
  · obtain ⟨a, ys, rfl, h1, h2, h3⟩ := h
    have BX : Body (cxOf (L2.CX P w) P w K mg base N qual (defScope st) f cdv A outer s H E) N L gs k (defScope st) := ⟨rfl, rfl, W.fs.nd, W.pre, W.loc, W.gl, W.fs.kind, W.fs.nofree, fun _ => rfl, hr, rfl, passes_of rfl, rfl, rfl⟩
    exact ⟨_, rss_pss, body _ rfl rfl rfl rfl rfl BX a ys H Q h1 h2 h3⟩
end
/-! ### raise C(e, ..) -/
section
variable {X : Cx} {N L gs : List Str} {k k' : Nat} {sc : Scope} {C : Addr} {n : Str} {j : Nat} {fs : List Str} {e : Expr} {es : List Expr} {as : AS} {ds : List D} {F : Fin} {Gs G : Hp} {p pos pos' : Pos}
theorem t_raiseF (B : Body X N L gs k sc) (M : MkD X k' n C fs) (hn : At gs n j) (hr : Room (k' + 1) X.A) (ha : EA X (e :: es) (vis as) ds) (hl : ds.length = fs.length) (hz : fs.length ≤ 1000) (q : F.ex ⟨C, putD fs ds⟩ (frz as))
    (he : starEach (e :: es) X.env = (false, eval e X.env) :: starEach es X.env := by rfl) (hpl : (backTo pos (starEach es X.env)).any (·.1) = false := by rfl) : S1 X Gs G (.Raise (some (.Call (.Name n p) (e :: es) [] pos)) none pos') as F := by
  obtain ⟨g1, g2, _⟩ := B.gls hn
  obtain ⟨fI, fd, ps, iC, tI, F1, hb⟩ := M.ex
  refine s1_frz ⟨fun σ H H0 S E ok => ?_⟩
  refine rs_of (ps_raise B.calm wx_takes (pmk_oex (dvs := []) M.oc iC tI F1 hr hb .nil (passes_call wx_takes (E := fun _ _ _ => False) (fun _ _ _ _ z => z.elim)) g1 M.g ra_pa g2 he hpl)) ?_
  have sf := S.hid
  rw [vis_frz] at sf
  refine ha.run σ H0 H S.grow.sub sf _ fun vs H1 H' g iv => ?_
  have hlv : vs.length = fs.length := by rw [iv.len]; exact hl
  refine ⟨by omega, fun a na => ?_⟩
  rw [List.append_nil]
  refine ⟨a, vs, rfl, hlv, upd_same, fun dx H2 n1 ne ea ed hk => ⟨rfl, dx, _, ea, ed, by rw [upd_ne ne] at n1; exact n1, ?_⟩⟩
  rw [upd_ne ne] at n1
  have eq : upd (L2.del H2 a) dx (.xd (putF fs vs)) = upd H' dx (.xd (putF fs vs)) := by
    funext b
    by_cases h1 : b = dx
    · rw [h1, upd_same, upd_same]
    · rw [upd_ne h1, upd_ne h1]
      by_cases h2 : b = a
      · rw [h2, L2.del_same, na]
      · rw [L2.del_ne h2, hk b h2 h1, upd_ne h2]
  rw [eq]
  have g2' := g.trans (Grow.laid (o := .xd (putF fs vs)) g.sub n1)
  have nn : putD fs ds ≠ [] := by
    intro z
    have z1 : (fs.zip ds).length = 0 := by rw [← List.length_reverse]; exact congrArg List.length z
    rw [List.length_zip, hl, Nat.min_self] at z1
    exact M.nn (List.length_eq_zero_iff.mp z1)
  exact ok.ex (.ref C) (some dx) σ _ ⟨C, putD fs ds⟩ _ _ g2'.frz (S.more g2') ⟨rfl, .inr ⟨nn, dx, putF fs vs, rfl, upd_same, (isF_zip (iv.mono (Same.new (g.sub.free n1)))).rev⟩⟩ q
end
section
variable {X : Cx} {gs : List Str} {k' : Nat} {C : Addr} {n : Str} {j : Nat} {fs : List Str} {e : Expr} {es : List Expr} {as : DE} {ds : List D} {p pos : Pos} {d : D} {ms : List (Str × D)}
theorem e_mk (B : Gls X gs) (M : MkD X k' n C fs) (h : At gs n j) (hr : Room (k' + 1) X.A) (ha : EA X (e :: es) as ds) (hl : ds.length = fs.length) (hz : fs.length ≤ 1000)
    (he : starEach (e :: es) X.env = (false, eval e X.env) :: starEach es X.env := by rfl) (hpl : (backTo pos (starEach es X.env)).any (·.1) = false := by rfl) : EE X (.Call (.Name n p) (e :: es) [] pos) as (.exv C (putD fs ds)) :=
  let ⟨g1, g2, _⟩ := B.at_ _ _ h
  ee_mk M hr g1 g2 ha hl hz he hpl
/-- what is asked of a class whose instances' fields are read -/
structure XvC (K : PySem.W.Frag) (C : Addr) : Prop where
  x : XfC K C
  e : ExcC K C
abbrev NoAt (K : PySem.W.Frag) (C : Addr) (n : Str) : Prop := PySem.W.findIn K (.ref C) n = some none
theorem e_xv (he : EE X e as (.exv C ms)) (T : XvC X.K C) (hno : NoAt X.K C n) (hl : ms.lookup n = some d) (hb : attributeBase e n X.env (eval e X.env) = eval e X.env := by rfl) : EE X (.Attribute e n pos) as d := ee_xv T.x hno he hl hb
end
end Mw
set_option maxHeartbeats 4000000
/-! objects without fields or with frozen ones: made, their methods, isinstance -/
namespace Mw
open PySem PySem.Spec PyProof.Rows L2
/-- what a caller has of a method of the class at C -/
structure MetE (P : Program) (w : World) (K : PySem.W.Frag) (mg : Str → Option Value) (base : Heap) (k : Nat) (C : Addr) (m : Str) (dds : List D) (S : FS) : Prop where
  c : Cls K C
  ex : ∃ (f : Addr) (fd : FuncData) (ps : List Str) (dvs : List V) (dus : List Value), Meth K C m f ∧ FnOk P w K mg base (L2.CX P w) k f fd ps (spOf K S) ∧ Binds K fd ps dus ∧ Dflt K dds dvs dus
abbrev MetD (X : Cx) (k : Nat) (C : Addr) (m : Str) (dds : List D) (S : FS) : Prop := MetE X.prog X.w X.K X.mg X.base k C m dds S
/-- a class without own __init__ -/
structure New0 (K : PySem.W.Frag) (mg : Str → Option Value) (x : Str) (C : Addr) : Prop where
  makes : PySem.W.makesIn K C = true
  init : PySem.W.findIn K (.ref C) "__init__" = some (some (.builtin "object.__init__"))
  kp : PySem.W.keepIn K (.ref C) = true
  top : PySem.W.mroIn K C (.type "object") = some true
  g : mg x = some (.ref C)
/-- an instance's class, for isinstance -/
structure InsE (K : PySem.W.Frag) (C : Addr) : Prop where
  c : Cls K C
  ha : PySem.W.findIn K (.ref C) "__class__" = some (some (.builtin "object.__class__"))
  hn : PySem.W.specialIn K (.builtin "object.__class__") "__get__" = some (some (.builtin "getset_descriptor.__get__"))
  ht : PySem.W.takesIn K (.builtin "object.__class__") = some true
  hm : PySem.W.mroIn K C (.type "object") = some true
section
variable {X : Cx} {gs : List Str} {k k' : Nat} {C : Addr} {m x : Str} {dds : List D} {S : FS} {fs : List (Str × D)} {o e : Expr} {es : List Expr} {as : DE} {ds : List D} {d : D} {apos pos p : Pos} {to : TE} {ta : TA} {sp : Sp} {f : Addr} {fd : FuncData} {ps : List Str} {dvs : List V} {dus : List Value} {E : L2.St → XK} {j : Nat}
def tMethD (C : Addr) (m : Str) (sp : Sp) (dvs : List V) (E : L2.St → XK) (ta : TE) (t : TA) : TE := fun σ H Q => ta σ H fun x H1 => ∃ a dx fs, x = .ref a ∧ H1 a = some (.ins C dx fs) ∧ fs.lookup m = none ∧
  t σ H1 fun vs H2 => sp (x :: (vs ++ dvs)) H2 Q (E σ)
theorem pe_methD {pl : Sem Bool} {CX : CXT} (he : PE X o to) (c : Cls X.K C) (hm : Meth X.K C m f) (F : FnOk X.prog X.w X.K X.mg X.base CX k f fd ps sp) (hr : Room k X.A) (hb : Binds X.K fd ps dus) (hd : Vals dvs dus) (hx : ∀ σ, PassesAt CX X σ (E σ)) (ha : PA X (e :: es) ta)
    (hst : starEach (e :: es) X.env = (false, eval e X.env) :: starEach es X.env := by rfl) (hpl : (backTo pos (starEach es X.env)).any (·.1) = false := by rfl)
    (ht : eval (.Call (.Attribute o m apos) (e :: es) [] pos) X.env = (do
      let ov ← eval o X.env
      standAt apos.atName
      let (f, first) ← holding [ov] (getMethod ov m pl)
      callWith pos f first (backTo pos (starEach (e :: es) X.env)) (backToKw pos (keywordEach [] X.env))) := by rfl) : PE X (.Call (.Attribute o m apos) (e :: es) [] pos) (tMethD C m sp dvs E to ta) := by
  refine ⟨fun pins s σ H Q I h => ?_⟩
  refine PySem.W.methodCall_KW (pl := pl) (thn (he.run pins s σ H _ I h) fun u s1 ⟨x, H1, I1, rx, a, dx, fs, ex, ea, l, q⟩ => ?_) ht
  subst ex
  obtain rfl : u = Value.ref a := rx
  refine getmeth_ok I1 ea c hm l ?_
  refine PySem.W.callWith_K (first := [.ref a]) (h₀ := X.base) I.ok.mod.kin hm.kp (thn (ha.run pos pins s1 σ H1 _ I1 q) fun us s2 ⟨vs, H2, I2, r, q2⟩ => ⟨I2.kIn, ?_⟩) hst hpl
  exact run_fnD (us := .ref a :: us) (vs := .ref a :: vs) F hr hb hd (hx σ) I2 (.cons rfl r) q2
theorem isF_none {K : PySem.W.Frag} {H : Hp} {n : Str} : ∀ {ds : List (Str × D)} {vs : List (Str × V)}, IsF K H ds vs → ds.lookup n = none → vs.lookup n = none
  | [], _, h, _ => by rw [show _ = [] from h]; rfl
  | (k, x) :: ds, _, h, e => by
    obtain ⟨v, r, h1, h2, h3⟩ := h
    rw [h1]
    rw [List.lookup_cons] at e ⊢
    by_cases q : n == k
    · rw [q] at e; cases e
    · rw [Bool.eq_false_iff.mpr q] at e ⊢
      exact isF_none h3 e
/-- o.m(e, ..) -/
theorem ee_meth {pl : Sem Bool} (M : MetD X k C m dds S) (ho : EE X o as (.obj C fs)) (hl : fs.lookup m = none) (ha : EA X (e :: es) as ds) (hS : S (.obj C fs :: (ds ++ dds)) (.ok d)) (hr : Room k X.A)
    (hst : starEach (e :: es) X.env = (false, eval e X.env) :: starEach es X.env := by rfl) (hpl : (backTo pos (starEach es X.env)).any (·.1) = false := by rfl)
    (ht : eval (.Call (.Attribute o m apos) (e :: es) [] pos) X.env = (do
      let ov ← eval o X.env
      standAt apos.atName
      let (f, first) ← holding [ov] (getMethod ov m pl)
      callWith pos f first (backTo pos (starEach (e :: es) X.env)) (backToKw pos (keywordEach [] X.env))) := by rfl) : EE X (.Call (.Attribute o m apos) (e :: es) [] pos) as d := .mk fun σ H0 H hs hf Q q => by
  obtain ⟨f, fd, ps, dvs, dus, hm, F, hb, hd⟩ := M.ex
  refine re_of (pe_methD (pl := pl) (E := WE (wx X)) re_pe M.c hm F hr hb hd.vals (fun σ => passAt wx_takes σ) ra_pa hst hpl ht) ?_
  refine ho.run σ H0 H hs hf _ fun v H1 H' g i => ?_
  obtain ⟨a, dx, gs, h1, h2, h3⟩ := i
  refine ⟨a, dx, gs, h1, g.sub _ _ h2, isF_none h3 hl, ?_⟩
  refine ha.run σ H1 H' g.sub (hf.mono g.frz) _ fun vs H2 H'' g' i' => ?_
  exact ⟨H2, .obj C fs :: (ds ++ dds), .ok d, g'.sub, IsL.cons (Is.mono g'.frz ⟨a, dx, gs, h1, h2, h3⟩) (i'.app (hd.is H2)), hS, fun v _ _ g'' i'' => q v _ _ ((g.trans g').trans g'') i''⟩
theorem ex_meth {pl : Sem Bool} {xn : Exn} (M : MetD X k C m dds S) (ho : EE X o as (.obj C fs)) (hl : fs.lookup m = none) (ha : EA X (e :: es) as ds) (hS : S (.obj C fs :: (ds ++ dds)) (.error xn)) (hr : Room k X.A)
    (hst : starEach (e :: es) X.env = (false, eval e X.env) :: starEach es X.env := by rfl) (hpl : (backTo pos (starEach es X.env)).any (·.1) = false := by rfl)
    (ht : eval (.Call (.Attribute o m apos) (e :: es) [] pos) X.env = (do
      let ov ← eval o X.env
      standAt apos.atName
      let (f, first) ← holding [ov] (getMethod ov m pl)
      callWith pos f first (backTo pos (starEach (e :: es) X.env)) (backToKw pos (keywordEach [] X.env))) := by rfl) : EX X (.Call (.Attribute o m apos) (e :: es) [] pos) as xn := .mk fun σ H0 H hs hf Q q => by
  obtain ⟨f, fd, ps, dvs, dus, hm, F, hb, hd⟩ := M.ex
  refine re_of (pe_methD (pl := pl) (E := WE (wx X)) re_pe M.c hm F hr hb hd.vals (fun σ => passAt wx_takes σ) ra_pa hst hpl ht) ?_
  refine ho.run σ H0 H hs hf _ fun v H1 H' g i => ?_
  obtain ⟨a, dx, gs, h1, h2, h3⟩ := i
  refine ⟨a, dx, gs, h1, g.sub _ _ h2, isF_none h3 hl, ?_⟩
  refine ha.run σ H1 H' g.sub (hf.mono g.frz) _ fun vs H2 H'' g' i' => ?_
  exact ⟨H2, .obj C fs :: (ds ++ dds), .error xn, g'.sub, IsL.cons (Is.mono g'.frz ⟨a, dx, gs, h1, h2, h3⟩) (i'.app (hd.is H2)), hS, fun c dd _ _ g'' i'' => q c dd _ _ ((g.trans g').trans g'') i''⟩
/-- C() where there is no __init__ but object's -/
theorem pe_new00 (N : New0 X.K X.mg x C) (hg : Gl X x) (hdb : (x == ("__debug__" : Str)) = false) : PE X (.Call (.Name x p) [] [] pos) (fun _ H Q => ∀ a dx, H a = none → H dx = none → dx ≠ a → Q (.ref a) (upd (upd H dx (.own a)) a (.ins C dx []))) := by
  refine ⟨fun pins s σ H Q I h => ?_⟩
  refine wpAny_Call_Name_kw (ld_glob I hg N.g ?_ hdb)
  refine PySem.W.callWith_K0 I.kIn N.kp ?_
  have hq := h (s.heap.objs.size + 1) s.heap.objs.size (I.hok.fresh (Nat.le_succ _)) (I.hok.fresh (Nat.le_refl _)) (Nat.ne_of_lt (Nat.lt_succ_self _))
  have I2 := Inv.made (C := C) I
  refine wpAny_call (make_map0 I.kIn N.makes N.init (fun self => PySem.W.Looks.of_pure (PySem.W.oi_bind self)) ?_)
  have hget : ((s.heap.push PySem.W.emptyDict).push (PySem.W.instObj C s.heap.objs.size)).get? (s.heap.objs.size + 1) = some (PySem.W.instObj C s.heap.objs.size) := by heap_get
  have t1 : PySem.W.Looks (model X.prog X.w) ((s.heap.push PySem.W.emptyDict).push (PySem.W.instObj C s.heap.objs.size)) (typeOf (.ref (s.heap.objs.size + 1))) (.ref C) := (PySem.W.Looks.ld hget).andThen .now
  have top : PySem.W.Looks (model X.prog X.w) ((s.heap.push PySem.W.emptyDict).push (PySem.W.instObj C s.heap.objs.size)) (isSubtype (.ref C) (.type "object")) true := PySem.W.looks_mroIn (I2.kIn) N.top
  refine codeAny_call_builtin PySem.W.oi_plain PySem.W.entry_oi (@PySem.W.check_slot (model X.prog X.w) _ _ _ "object.__init__" "object" "__init__" (.ref (s.heap.objs.size + 1)) [] [] _ PySem.W.oi_kind PySem.W.oi_split (t1.andThen top) (PySem.W.oi_args (.ref (s.heap.objs.size + 1))) ?_)
  rw [PySem.W.oi_run]
  exact wpAny_pure (And.intro rfl ⟨V.ref (s.heap.objs.size + 1), _, I2, rfl, hq⟩)
theorem ee_new00 (N : New0 X.K X.mg x C) (hg : Gl X x) (hdb : (x == ("__debug__" : Str)) = false) : EE X (.Call (.Name x p) [] [] pos) as (.obj C []) := .mk fun σ H0 H hs hf Q q =>
  re_of (pe_new00 N hg hdb) fun a dx n1 n2 ne => by
    have m1 : H0 a = none := hs.free n1
    have m2 : H0 dx = none := hs.free n2
    refine q (.ref a) (upd (upd H0 dx (.own a)) a (.ins C dx [])) _ ⟨(Same.new m2).trans (Same.new (by rw [upd_ne (Ne.symm ne)]; exact m1)), (Same.new n2).trans (Same.new (by rw [upd_ne (Ne.symm ne)]; exact n1)), fun b o e => ?_, fun b z => ?_⟩ ⟨a, dx, [], rfl, upd_same, rfl⟩
    · by_cases h1 : b = a
      · rw [h1, upd_same] at e ⊢
        exact e
      · rw [upd_ne h1] at e ⊢
        by_cases h2 : b = dx
        · rw [h2, upd_same] at e ⊢
          exact e
        · rw [upd_ne h2] at e ⊢
          exact hs b o e
    · by_cases h1 : b = a
      · rw [h1]; exact .inr n1
      · rw [upd_ne h1] at z
        by_cases h2 : b = dx
        · rw [h2]; exact .inr n2
        · rw [upd_ne h2] at z
          exact .inl z
theorem e_new0 (B : Gls X gs) (N : New0 X.K X.mg x C) (h : At gs x j) : EE X (.Call (.Name x p) [] [] pos) as (.obj C []) :=
  let ⟨g1, g2, _⟩ := B.at_ _ _ h
  ee_new00 N g1 g2
/-- isinstance(o, M) of an instance -/
theorem ca_isO {M : Addr} {b : Bool} (T : InsE X.K C) (hk : PySem.W.kitOne X.K (.ref C) (.ref M) = some b) : CaD X (.builtin "isinstance") [.obj C fs, .cls M] (.bl b) := .flat call_isi (fun _ => rfl) fun vs H h Q q => by
  obtain ⟨v, w, e, h1, h2⟩ := is2 h
  obtain ⟨a, dx, gs, e1, e2, e3⟩ := h1
  rw [e1, show w = _ from h2] at e
  exact ⟨.ref a, .ref M, _, _, b, e, .own M, .base (.ins e2 T.c T.ha T.hn T.ht T.hm), hk, q⟩
theorem ca_isOT {T' : String} {b : Bool} (T : InsE X.K C) (hk : PySem.W.kitOne X.K (.ref C) (.type T') = some b) (hc : ClsV (.ty T') (.type T')) : CaD X (.builtin "isinstance") [.obj C fs, .ty T'] (.bl b) := .flat call_isi (fun _ => rfl) fun vs H h Q q => by
  obtain ⟨v, w, e, h1, h2⟩ := is2 h
  obtain ⟨a, dx, gs, e1, e2, e3⟩ := h1
  rw [e1, show w = _ from h2] at e
  exact ⟨.ref a, .ty T', _, _, b, e, hc, .base (.ins e2 T.c T.ha T.hn T.ht T.hm), hk, q⟩
end
end Mw
set_option maxHeartbeats 4000000
/-! slices, text * int, methods of texts and lists -/
namespace Mw
open PySem PySem.Spec PyProof.Rows L2
/-! ### slices -/
def ro (X : Cx) (e : Option Expr) : TO := fun σ H Q => ∀ (pins : List (Addr × Obj)) (s : Shared), Inv X pins σ H s → wpAny (model X.prog X.w) X.A (evalPart e X.env) (fun u s' => ∃ o H', Inv X pins σ H' s' ∧ IsPart u o ∧ Q o H') X.xe s
theorem ro_po {X : Cx} {e : Option Expr} : PO X e (ro X e) := ⟨fun pins s σ H Q I h => h pins s I⟩
theorem ro_of {X : Cx} {e : Option Expr} {t : TO} {σ : L2.St} {H : Hp} {Q : Option Int → Hp → Prop} (h : PO X e t) (q : t σ H Q) : ro X e σ H Q := fun pins s I => h.run pins s σ H Q I q
/-- a slice's part -/
structure EO (X : Cx) (o : Option Expr) (as : DE) (i : Option Int) : Prop where
  run : ∀ (σ : L2.St) (H0 H : Hp), Same H0 H → SlF X.K H0 σ as → ∀ Q : Option Int → Hp → Prop, (∀ H0' H', Grow H0 H H0' H' → Q i H') → ro X o σ H Q
section
variable {X : Cx} {as : DE} {e : Expr} {lo hi : Option Expr} {i j : Option Int} {p2 pos : Pos} {z : Str} {ds : List D}
theorem eo_none : EO X none as none := .mk fun σ H0 H hs hf Q q => ro_of po_none (q H0 H (Grow.refl hs))
theorem eo_some {n : Int} (h : EE X e as (.int n)) : EO X (some e) as (some n) := .mk fun σ H0 H hs hf Q q => ro_of (po_some re_pe) (h.run σ H0 H hs hf _ fun v H1 H' g iv => ⟨n, iv, q _ _ g⟩)
theorem ee_slS (he : EE X e as (.str z)) (hl : EO X lo as i) (hu : EO X hi as j) (hz : z.length ≤ sizeLine) : EE X (.Subscript e (.Slice lo hi none p2) pos) as (.str (cutS z i j)) := .mk fun σ H0 H hs hf Q q => by
  refine re_of (pe_slice sl_str re_pe ro_po ro_po) ?_
  refine he.run σ H0 H hs hf _ fun v H1 H' g iv => hl.run σ H1 H' g.sub (hf.mono g.frz) _ fun H2 H'' g' => hu.run σ H2 H'' g'.sub (hf.mono (g.frz.trans g'.frz)) _ fun H3 H3' g'' => ?_
  exact ⟨z, iv, hz, q _ _ _ ((g.trans g').trans g'') rfl⟩
def cutD (ds : List D) (lo hi : Option Int) : List D := (ds.drop (HT.sIx ds.length 0 lo)).take (HT.sIx ds.length ds.length hi - HT.sIx ds.length 0 lo)
theorem IsL.cut {K : PySem.W.Frag} {H : Hp} {vs : List V} (h : IsL K H ds vs) (i j : Option Int) : IsL K H (cutD ds i j) (cutV vs i j) := by
  unfold cutD cutV
  rw [h.len]
  exact (h.drop _).take _
theorem en_slL (he : EE X e as (.lst ds)) (hl : EO X lo as i) (hu : EO X hi as j) : EN X (.Subscript e (.Slice lo hi none p2) pos) as (.lst (cutD ds i j)) := .mk fun σ H0 H hs hf Q q => by
  refine re_of (pe_slice sl_list re_pe ro_po ro_po) ?_
  refine he.run σ H0 H hs hf _ fun v H1 H' g iv => hl.run σ H1 H' g.sub (hf.mono g.frz) _ fun H2 H'' g' => hu.run σ H2 H'' g'.sub (hf.mono (g.frz.trans g'.frz)) _ fun H3 H3' g'' => ?_
  obtain ⟨a, vs, h1, h2, h3⟩ := iv
  have G3 := (g.trans g').trans g''
  refine ⟨a, vs, h1, Same.lst ((g'.frz.trans g''.frz).trans g''.sub) h2, fun p hp => ?_⟩
  exact q p H3 _ (G3.trans (Grow.made g''.sub hp)) (G3.all.free hp) (g''.sub.free hp) ⟨_, upd_same, (h3.mono (g'.frz.trans g''.frz)).cut i j⟩
end
/-! ### text * int -/
def mulS (z : Str) (n : Int) : Str := ⟨(List.replicate n.toNat z.cps).foldl (· ++ ·) #[]⟩
theorem foldl_empty : ∀ n : Nat, (List.replicate n (#[] : Array Nat)).foldl (· ++ ·) #[] = #[]
  | 0 => rfl
  | n + 1 => by
    rw [List.replicate_succ, List.foldl_cons, Array.append_empty]
    exact foldl_empty n
def rMulS : R2 := fun x y H Q => ∃ (z : Str) (n : Int), x = .str z ∧ y = .int n ∧ 0 ≤ n ∧ n < 2 ^ 31 ∧ z.length < 2 ^ 31 ∧ z.length * n.toNat ≤ sizeLine ∧ (mulS z n).length ≤ sizeLine ∧ Q (.str (mulS z n)) H
section
variable {X : Cx}
theorem op_mulS : OpR X (binaryOp .Mult) rMulS := by
  intro pins s σ H x y v u Q I rx ry h
  obtain ⟨z, n, rfl, rfl, h0, h1, h2, h3, h4, q⟩ := h
  obtain ⟨t, rfl⟩ := rx
  obtain ⟨u', rfl⟩ := ry
  refine P.mul_str (by rw [decide_eq_false (by omega), decide_eq_false (by omega)] <;> rfl) (fun a b => ?_) (fun a b => ?_) ?_
  · have hn : 0 < n := by omega
    have : ((2 : Int) ^ 63 - 1) / n ≥ 2 ^ 31 := by
      refine (Int.le_ediv_iff_mul_le hn).mpr ?_
      have : (2 : Int) ^ 31 * n ≤ 2 ^ 31 * (2 ^ 31) := Int.mul_le_mul_of_nonneg_left (by omega) (by decide)
      omega
    omega
  · unfold Builtin.Str.tooLong
    exact decide_eq_false (by omega)
  · by_cases c1 : n < 1
    · rw [if_pos c1]
      have e : mulS z n = Str.empty := by
        unfold mulS
        rw [show n.toNat = 0 by omega]
        rfl
      rw [e] at q
      exact ⟨by decide, .str _, H, I.tok _, ⟨_, rfl⟩, q⟩
    · rw [if_neg c1]
      by_cases c2 : (n == 1 || z.length == 0) = true
      · rw [if_pos c2]
        have e : mulS z n = z := by
          unfold mulS
          rcases Bool.or_eq_true_iff.mp c2 with c | c
          · rw [show n.toNat = 1 by have := eq_of_beq c; omega]
            show Str.mk (#[] ++ z.cps) = z
            rw [Array.empty_append]
          · have hz : z.cps = #[] := Array.eq_empty_of_size_eq_zero (eq_of_beq c)
            rw [hz, foldl_empty, ← hz]
        rw [e] at q
        exact ⟨.str _, H, I, ⟨_, rfl⟩, q⟩
      · rw [if_neg c2]
        exact ⟨h4, .str _, H, I.tok _, ⟨_, rfl⟩, q⟩
theorem od_mulS {z : Str} {n : Int} (h0 : 0 ≤ n) (h1 : n < 2 ^ 31) (h2 : z.length < 2 ^ 31) (h3 : z.length * n.toNat ≤ sizeLine) (h4 : (mulS z n).length ≤ sizeLine) : OpD X (binaryOp .Mult) (.str z) (.int n) (.str (mulS z n)) := .flat op_mulS (fun _ => rfl) fun v w H hx hy Q q => ⟨z, n, hx, hy, h0, h1, h2, h3, h4, q⟩
end
/-! ### methods of builtin things -/
/-- the type that a builtin method is looked up at -/
def tyB : D → Option String
  | .str _ => some "str"
  | .int _ => some "int"
  | .lst _ => some "list"
  | _ => none
theorem tyB_ok {K : PySem.W.Frag} {H : Hp} {T : String} : ∀ {d : D} {v : V}, tyB d = some T → Is K H d v → tyV K T v H
  | .str z, _, e, h => by cases e; rw [show _ = V.str z from h]; rfl
  | .int i, _, e, h => by cases e; rw [show _ = V.int i from h]; rfl
  | .lst ds, _, e, h => by
    cases e
    obtain ⟨a, vs, h1, h2, h3⟩ := h
    rw [h1]
    exact .inl ⟨rfl, vs, h2⟩
def CaM (X : Cx) (id : String) (x : D) (ds : List D) (d : D) : Prop :=
  ∃ r : V → List V → Hp → VK → Prop, MtR X id r ∧ ∀ v vs H0 H, Same H0 H → Is X.K H0 x v → IsL X.K H0 ds vs → ∀ Q : VK, (∀ z H0' H', Grow H0 H H0' H' → Is X.K H0' d z → Q z H') → r v vs H Q
def CaMN (X : Cx) (id : String) (x : D) (ds : List D) (d : D) : Prop :=
  ∃ r : V → List V → Hp → VK → Prop, MtR X id r ∧ ∀ v vs H0 H, Same H0 H → Is X.K H0 x v → IsL X.K H0 ds vs → ∀ Q : VK, (∀ a H0' H', Grow H0 H H0' H' → H a = none → H0' a = none → Own X.K H0' H' a d → Q (.ref a) H') → r v vs H Q
section
variable {X : Cx} {o e : Expr} {es : List Expr} {name : Str} {apos cpos : Pos} {T id : String} {as : DE} {x d : D} {ds : List D}
theorem ee_bm (ho : EE X o as x) (ha : EA X (e :: es) as ds) (hx : tyB x = some T) (pa : PlainAttrs T) (slot : Slot T name id) (hty : typeOf (.builtin id) = pure (.type "method_descriptor")) (hc : CaM X id x ds d)
    (hbase : attributeBase o name X.env (eval o X.env) = eval o X.env := by rfl)
    (hfew : ((backTo cpos (starEach (e :: es) X.env)).all (fun x => !x.1) && (backToKw cpos (keywordEach [] X.env)).all (fun x => x.1.isSome)
      && decide ((e :: es).length + ([] : List Keyword).length + (if ([] : List Keyword).isEmpty then 0 else 1) < 30)) = true := by rfl)
    (hline : (apos.endLine == cpos.line) = true := by rfl) (hs : starEach (e :: es) X.env = (false, eval e X.env) :: starEach es X.env := by rfl) (hplain : (backTo cpos (starEach es X.env)).any (·.1) = false := by rfl) :
    EE X (.Call (.Attribute o name apos) (e :: es) [] cpos) as d := .mk fun σ H0 H hs' hf Q q => by
  obtain ⟨r, hm, hr⟩ := hc
  refine re_of (pe_bm pa slot hty hm re_pe ra_pa hbase hfew hline hs hplain) ?_
  refine ho.run σ H0 H hs' hf _ fun v H1 H' g iv => ⟨tyB_ok hx (iv.mono g.sub), ha.run σ H1 H' g.sub (hf.mono g.frz) _ fun vs H2 H'' g' iv' => ?_⟩
  exact hr v vs H2 H'' g'.sub (iv.mono g'.frz) iv' Q fun z _ _ g'' i'' => q z _ _ ((g.trans g').trans g'') i''
theorem ee_bm0 (ho : EE X o as x) (hx : tyB x = some T) (pa : PlainAttrs T) (slot : Slot T name id) (hty : typeOf (.builtin id) = pure (.type "method_descriptor")) (hc : CaM X id x [] d)
    (hbase : attributeBase o name X.env (eval o X.env) = eval o X.env := by rfl) (hline : (apos.endLine == cpos.line) = true := by rfl) : EE X (.Call (.Attribute o name apos) [] [] cpos) as d := .mk fun σ H0 H hs' hf Q q => by
  obtain ⟨r, hm, hr⟩ := hc
  refine re_of (pe_bm0 pa slot hty hm re_pe hbase hline) ?_
  refine ho.run σ H0 H hs' hf _ fun v H1 H' g iv => ⟨tyB_ok hx (iv.mono g.sub), ?_⟩
  exact hr v [] H1 H' g.sub iv rfl Q fun z _ _ g'' i'' => q z _ _ (g.trans g'') i''
theorem cm_zfill {z : Str} {i : Int} (h : PadOk i = true) : CaM X "str.zfill" (.str z) [.int i] (.str (Txt.zfill z i)) := ⟨_, mt_zfill, fun v vs H0 H hs h1 h2 Q q => by
  obtain ⟨w, e, h3⟩ := is1 h2
  rw [e]
  exact ⟨z, i, h1, by rw [show w = _ from h3], h, q _ _ _ (Grow.refl hs) rfl⟩⟩
end
end Mw
set_option maxHeartbeats 4000000
/-! a def called within an except suite, upon the caught exception: it only looks at it -/
namespace Mw
open PySem PySem.Spec PyProof.Rows L2
/-- names of a def's context, without room -/
structure BodyN (X : Cx) (N L gs : List Str) (sc : Scope) : Prop where
  hN : X.N = N
  hsc : X.env.scope = sc
  nd : N.Nodup
  pre : N.take L.length = L
  loc : L.all (locOk sc) = true
  gl : gs.all (glbOk sc) = true
  fn : ∀ n, X.fn n = true
section
variable {X : Cx} {N L gs : List Str} {sc : Scope} {n : Str} {i : Nat}
theorem BodyN.ndX (B : BodyN X N L gs sc) : X.N.Nodup := by rw [B.hN]; exact B.nd
theorem BodyN.locs (B : BodyN X N L gs sc) (h : At L n i) : X.N[i]? = some n ∧ Loc X.env.scope n ∧ (n == ("__debug__" : Str)) = false ∧ (n == ("__classdict__" : Str)) = false := by
  have q := List.all_eq_true.mp B.loc n h.mem
  unfold locOk at q
  simp only [Bool.and_eq_true, Bool.or_eq_true, Bool.not_eq_true'] at q
  refine ⟨?_, ?_, q.1.2, q.2⟩
  · have e := h.get
    rw [← B.pre] at e
    have hi : i < (N.take L.length).length := (List.getElem?_eq_some_iff.mp e).1
    rw [List.length_take] at hi
    rw [List.getElem?_take_of_lt (by omega)] at e
    rw [B.hN]
    exact e
  · rw [B.hsc]
    rcases q.1.1 with z | z
    · exact .inl (nk_beq z)
    · exact .inr (nk_beq z)
theorem BodyN.gls (B : BodyN X N L gs sc) (h : At gs n i) : Gl X n ∧ (n == ("__debug__" : Str)) = false ∧ n ≠ "__name__" := by
  have q := List.all_eq_true.mp B.gl n h.mem
  unfold glbOk at q
  simp only [Bool.and_eq_true, Bool.not_eq_true'] at q
  refine ⟨?_, q.1.2, by simpa using q.2⟩
  show X.env.scope.names.lookup n = _
  rw [B.hsc]
  exact nk_beq q.1.1
theorem BodyN.nms (B : BodyN X N L gs sc) : Nms X L := ⟨fun n i h => let ⟨a, b, c, d⟩ := B.locs h; ⟨a, loc_vis b, c, d⟩⟩
theorem BodyN.glb (B : BodyN X N L gs sc) : Gls X gs := ⟨fun n i h => B.gls h⟩
theorem Body.names {k : Nat} (B : Body X N L gs k sc) : BodyN X N L gs sc := ⟨B.hN, B.hsc, B.nd, B.pre, B.loc, B.gl, B.fn⟩
theorem BodyN.suite {a : Addr} {pn : List (Addr × Obj)} (B : BodyN X N L gs sc) : BodyN (X.suite a pn) N L gs sc := ⟨B.hN, B.hsc, B.nd, B.pre, B.loc, B.gl, B.fn⟩
theorem h_set {Gs G : Hp} {as as1 : AS} {F : Fin} {d : D} {e : Expr} {p pos : Pos} (B : BodyN X N L gs sc) (h : At L n i) (he : EE X e (hid as) d) (hs : swapsWith e (some (.Name n p)) pos.line X.env = pure false := by rfl) (ha : SetA as i (.fz d) as1) (q : F.nx as1) : S1 X Gs G (.Assign [.Name n p] e pos) as F :=
  let ⟨h1, h2, _, _⟩ := B.locs h
  s1_set i B.ndX h1 h2 he (by rw [ha.eq]; exact q) hs (.inl (B.fn n))
end
/-- isinstance of a pinned exception -/
theorem call_isP {X : Cx} {a D : Addr} {oe : Obj} (C : ExcC X.K D) (hp : (a, oe) ∈ X.pn) (hz : Zc (.ref D) none oe) (hf : ∃ vs, oe.data = .fields vs) : CallR X (.builtin "isinstance") (rIsE X.K D a) := by
  intro pins s σ H xs us Q I r h
  obtain ⟨c, cv, b, rfl, hcv, e, q⟩ := h
  obtain ⟨u0, u1, rfl, rx, rt⟩ := vals2 r
  obtain rfl : u0 = Value.ref a := rx
  obtain rfl := hcv _ rt
  obtain ⟨hget, _⟩ := I.pin (a, oe) (List.mem_append.mpr (.inl hp))
  obtain ⟨vs, hv⟩ := hf
  have J : PySem.W.InstAt s.heap a oe D none := by
    obtain ⟨oc, od, oda, osl⟩ := oe
    obtain ⟨h1, h2⟩ := hz
    dsimp only at h1 h2 hv
    subst h1 h2 hv
    exact ⟨hget, rfl, rfl, trivial⟩
  exact PySem.W.kia_one (PySem.W.handS_kitx_exc C.hg C.hk C.hs C.hd C.ha C.hn C.ht C.hm) I.kIn J e (fun z => nomatch z) fun tk => ⟨.bl b, H, I.kept (t' := tk) fun _ _ z => z, rfl, q⟩
section
variable {X : Cx} {a C : Addr} {oe : Obj} {b : Bool}
theorem ca_isP {M : Addr} (c : ExcC X.K C) (hp : (a, oe) ∈ X.pn) (hz : Zc (.ref C) none oe) (hf : ∃ vs, oe.data = .fields vs) (hk : PySem.W.kitOne X.K (.ref C) (.ref M) = some b) : CaD X (.builtin "isinstance") [.cls a, .cls M] (.bl b) := .flat (call_isP c hp hz hf) (fun _ => rfl) fun vs H h Q q => by
  obtain ⟨v, w, e, h1, h2⟩ := is2 h
  rw [show v = _ from h1, show w = _ from h2] at e
  exact ⟨.ref M, .ref M, b, e, fun u r => r, hk, q⟩
theorem ca_isPT {T : String} (c : ExcC X.K C) (hp : (a, oe) ∈ X.pn) (hz : Zc (.ref C) none oe) (hf : ∃ vs, oe.data = .fields vs) (hk : PySem.W.kitOne X.K (.ref C) (.type T) = some b) : CaD X (.builtin "isinstance") [.cls a, .ty T] (.bl b) := .flat (call_isP c hp hz hf) (fun _ => rfl) fun vs H h Q q => by
  obtain ⟨v, w, e, h1, h2⟩ := is2 h
  rw [show v = _ from h1, show w = _ from h2] at e
  exact ⟨.ty T, .type T, b, e, fun u r => r, hk, q⟩
end
/-! ### the promise -/
/-- a def of one parameter, called upon the caught exception of the class C, of no fields -/
structure HotE (P : Program) (w : World) (K : PySem.W.Frag) (mg : Str → Option Value) (base : Heap) (k : Nat) (x : Str) (S : Addr → D → Prop) : Prop where
  ex : ∃ (f : Addr) (fd : FuncData) (y : Str), mg x = some (.ref f) ∧ PySem.W.keepIn K (.ref f) = true ∧ Binds K fd [y] [] ∧
    ∀ (A : Around) (outer : List Env) (s : Shared) (H : Hp) (args : Args) (C a : Addr) (oe : Obj) (d : D) (Q : VK) (E : XK) (H0 : Hp), Same H0 H → L2H.RoomH k A → L2H.PinOk outer H s (a, oe) → Zc (.ref C) none oe → (∃ vs, oe.data = .fields vs) → S C d →
      Env0 P w K mg base A outer s H → BindsTo s fd args [(y, .ref a)] → (∀ v H0' H', Grow H0 H H0' H' → Is K H0' d v → Q v H') → codeAny (model P w) A (.call (.ref f) args) (CR (L2.CX P w) outer P w H s Q E) s
abbrev HotD (X : Cx) (k : Nat) (x : Str) (S : Addr → D → Prop) : Prop := HotE X.prog X.w X.K X.mg X.base k x S
section
variable {P : Program} {w : World} {K : PySem.W.Frag} {mg : Str → Option Value} {base : Heap}
/-- by its body -/
theorem hot_ok {x y qual : Str} {params : Arguments} {st : Stmt} {kws : List (Str × V)} {f : Addr} {fd : FuncData} {N L gs : List Str} {k : Nat} {S : Addr → D → Prop} (F : FunD K x qual params (defBody st) (defScope st) [] kws f fd) (W : BodyOk N L [y] gs (defScope st)) (g : mg x = some (.ref f)) (bb : Binds K fd [y] [])
    (body : ∀ (X : Cx), X.prog = P → X.w = w → X.K = K → X.mg = mg → X.base = base → BodyN X N L gs (defScope st) → L2H.RoomH k X.A → ∀ (C a : Addr) (oe : Obj), (a, oe) ∈ X.pn → Zc (.ref C) none oe → (∃ vs, oe.data = .fields vs) → ∀ (Gs G : Hp) (d : D), S C d →
      SS X Gs G (defBody st) (startA N [.cls a]) { nx := fun _ => d = .non, rt := fun d' => d' = d }) : HotE P w K mg base (k + 1) x S := by
  obtain ⟨oc, od, dV, kV, doc, pm, an, cdv, ct, osl, rfl, lk, hcd, _, _⟩ := F.ex
  refine ⟨f, _, y, g, F.kp, bb, fun A outer s H args C a oe d Q E H0 hs0 hr hpin hz hf hS e0 hb q => ?_⟩
  have KX : K.In s.heap := e0.mod.kin.keeps fun b o e => (e0.bs b o e).1
  have lim : s.heap.NoLimit := e0.mod.nolimit.keeps fun b o e => (e0.bs b o e).1
  have S0 := W.fs
  have hkind : ∀ z ∈ ([y] : List Str).zip [Value.ref a], (defScope st).names.lookup z.1 = some .local ∨ ((defScope st).names.lookup z.1 = some .cell ∧ ((cellsFrom (s.heap.objs.size + 1) (defScope st).names []).lookup z.1).isSome = true) := fun ⟨n, v⟩ hy => by
    rcases S0.par n (List.of_mem_zip hy).1 with q | q
    · exact .inl q
    · exact .inr ⟨q, PySem.W.cellsFrom_some _ _ _ (.inl q)⟩
  refine codeAny_call_function hr.depth (KX _ _ lk) rfl S0.co S0.gen rfl (PySem.W.codeRec_of KX hcd) (hb _ _ _ _ ?_)
  refine wpAny_newFunctionEnv_cells S0.kind hkind fun env he s1 x => ?_
  subst he
  refine ⟨lim.keeps x.toInCall.keep, codeAny_func ?_⟩
  have I : Inv (L2H.cxH (L2.CX P w) P w K mg base N qual (defScope st) f cdv A outer s H E (a, oe)) [] (L2.start N [.ref a]) H s1 := L2H.inv_startH S0 hpin e0 rfl (.cons rfl .nil) x
  have BX : BodyN (L2H.cxH (L2.CX P w) P w K mg base N qual (defScope st) f cdv A outer s H E (a, oe)) N L gs (defScope st) := ⟨rfl, rfl, S0.nd, W.pre, W.loc, W.gl, fun _ => rfl⟩
  have bd := body _ rfl rfl rfl rfl rfl BX (hr.deeper _) C a oe (List.mem_singleton.mpr rfl) hz hf H0 H d hS
  have st0 : StH K H0 H (L2.start N [.ref a]) H (startA N [.cls a]) H0 := by
    refine ⟨Grow.refl hs0, fun i d e => ?_, fun i d e => ?_, fun i j a d d' e => ?_⟩
    · rcases startA_at e with ⟨d', e1, e2⟩ | e1
      · cases e1
        obtain ⟨v, q1, q2⟩ := (IsL.one (K := K) (H := H0) (d := .cls a) (v := .ref a) rfl).get e2
        exact ⟨v, start_get q1, q2⟩
      · cases e1
    · rcases startA_at e with ⟨d', e1, e2⟩ | e1 <;> cases e1
    · rcases startA_at e with ⟨d', e1, e2⟩ | e1 <;> cases e1
  have run := bd.run _ H H0 st0 { nx := fun _ H' => Q .non H', rt := Q } ⟨fun σ' H' as' H1 _ S' z => by
      have z' : d = .non := z
      subst z'
      exact q .non H1 H' S'.grow rfl, fun v H' d' H1 _ g i z => by
      have z' : d' = d := z
      subst z'
      exact q v H1 H' g i, fun _ _ _ _ _ _ z => z.elim, fun _ _ _ _ _ _ z => z.elim, fun _ _ _ _ _ _ _ _ _ _ z => z.elim⟩
  refine wpAny_mono (run [] s1 I) (fun fl s' hs => ?_) fun e s' hs => hs
  have fin : ∀ {σ' : L2.St} {H' : Hp} {v : V} {u : Value}, Inv (L2H.cxH (L2.CX P w) P w K mg base N qual (defScope st) f cdv A outer s H E (a, oe)) [] σ' H' s' → RelV v u → Q v H' → CE outer P w H s Q u s' :=
    fun {σ' H' v u} J rv q => ⟨v, H', J.os, J.bare, J.base, J.hok, rv, q⟩
  cases fl with
  | ret u =>
    obtain ⟨v, σ', H', J, rv, q⟩ := hs
    exact fin J rv q
  | next =>
    obtain ⟨σ', H', J, q⟩ := hs
    exact fin (v := V.non) (u := Value.none) J rfl q
  | brk =>
    obtain ⟨_, _, _, q⟩ := hs
    exact False.elim q
  | cont =>
    obtain ⟨_, _, _, q⟩ := hs
    exact False.elim q
end
/-- f(e) in the suite -/
theorem e_hot {X : Cx} {gs : List Str} {k : Nat} {x y : Str} {j i : Nat} {S : Addr → D → Prop} {C a : Addr} {oe : Obj} {pn : List (Addr × Obj)} {as : DE} {d : D} {p p1 pos : Pos} {L : List Str} (B : Gls (X.suite a ((a, oe) :: pn)) gs) (Nn : Nms (X.suite a ((a, oe) :: pn)) L) (F : HotD X k x S) (hr : Room k X.A) (h : At gs x j) (hy : At L y i) (ha : as[i]? = some (some (.cls a)))
    (hz : Zc (.ref C) none oe) (hf : ∃ vs, oe.data = .fields vs) (hS : S C d) (he : starEach [.Name y p1] (X.suite a ((a, oe) :: pn)).env = (false, eval (.Name y p1) (X.suite a ((a, oe) :: pn)).env) :: starEach [] (X.suite a ((a, oe) :: pn)).env := by rfl) : EE (X.suite a ((a, oe) :: pn)) (.Call (.Name x p) [.Name y p1] [] pos) as d := .mk fun σ H0 H hs hf' Q q => by
  intro pins s I
  obtain ⟨g1, g2, g3⟩ := B.at_ _ _ h
  obtain ⟨n1, n2, n3, n4⟩ := Nn.at_ _ _ hy
  obtain ⟨f, fd, z, hm, hk, hb, run⟩ := F.ex
  refine wpAny_Call_Name_kw (ld_glob I g1 hm ?_ g2)
  have ea : EA (X.suite a ((a, oe) :: pn)) [.Name y p1] as [.cls a] := ea_cons (ee_name i n1 n2 ha n3 n4) ea_nil he
  refine PySem.W.callWith_K (h₀ := X.base) I.ok.mod.kin hk (thn (ra_pa.run pos pins s σ H (fun vs H' => ∃ H0', Grow H0 H H0' H' ∧ IsL X.K H0' [.cls a] vs) I (ea.run σ H0 H hs hf' _ fun vs H1 H' g i => ⟨H1, g, i⟩)) fun us s1 ⟨vs, H1, I1, r1, H0', g, iv⟩ => ⟨I1.kIn, ?_⟩) he rfl
  obtain ⟨v, rfl, iv1⟩ := is1 iv
  obtain ⟨u, rfl, ru⟩ := vals1 r1
  rw [show v = V.ref a from iv1] at ru
  obtain rfl : u = Value.ref a := ru
  have P1 := I1.pin (a, oe) (List.mem_append_left _ List.mem_cons_self)
  have hpin : L2H.PinOk X.stack H1 s1 (a, oe) := ⟨P1.1, P1.2.1, fun hm => (List.mem_cons.mp (I1.stkSub a hm)).elim P1.2.2.1 P1.2.2.2.1, P1.2.2.2.2⟩
  have hb2 := hb s1 [Value.ref a] I1.kIn rfl
  rw [List.append_nil] at hb2
  refine wpAny_call (codeAny_mono (run _ X.stack s1 H1 ⟨[.ref a], []⟩ C a oe d Q (fun _ _ _ => False) H0' g.sub (L2H.roomH_mark hr _) hpin hz hf hS I1.env0 hb2 fun w H2 H2' g' i' => q w H2 H2' (g.trans g') i') fun r s' hq => ?_)
  cases r with
  | error e => obtain ⟨_, _, _, _, _, _, _, _, _, _, _, _, z⟩ := hq; exact z.elim
  | ok fl =>
    cases fl with
    | ret u => exact I1.after hq
    | next => exact False.elim hq
    | brk => exact False.elim hq
    | cont => exact False.elim hq
end Mw
set_option maxHeartbeats 4000000
/-! x += e; dicts with keys that are ints and texts; list.count, list.index -/
namespace Mw
open PySem PySem.Spec PyProof.Rows L2
section
variable {X : Cx} {N L gs : List Str} {k : Nat} {sc : Scope} {n : Str} {i : Nat} {Gs G : Hp} {as as1 : AS} {F : Fin} {d x y : D} {pos p pos' : Pos} {e : Expr}
/-- an in-place operation on data -/
def IpD (X : Cx) (op : Operator) (x y d : D) : Prop :=
  ∃ ti : TIp, PIp X op ti ∧ ∀ v w H0 H, Same H0 H → Is X.K H0 x v → Is X.K H0 y w → ∀ Q : VK, (∀ z H0' H', Grow H0 H H0' H' → Is X.K H0' d z → Q z H') → ti v w H Q
theorem ip_addI {a b : Int} : IpD X .Add (.int a) (.int b) (.int (a + b)) := ⟨_, ip_add, fun v w H0 H hs h1 h2 Q q => ⟨a, b, h1, h2, q _ _ _ (Grow.refl hs) rfl⟩⟩
theorem ip_subI {a b : Int} : IpD X .Sub (.int a) (.int b) (.int (a - b)) := ⟨_, ip_sub, fun v w H0 H hs h1 h2 Q q => ⟨a, b, h1, h2, q _ _ _ (Grow.refl hs) rfl⟩⟩
/-- x op= e -/
theorem t_aug {op : Operator} (B : Body X N L gs k sc) (h : At L n i) (hx : as[i]? = some (.fz x)) (he : EE X e (hid as) y) (ho : IpD X op x y d) (ha : SetA as i (.fz d) as1) (q : F.nx as1) : S1 X Gs G (.AugAssign (.Name n pos') op e pos) as F := .mk fun σ H H0 S E ok => by
  obtain ⟨a1, a2, _, _⟩ := B.locs h
  obtain ⟨ti, hp, hr⟩ := ho
  obtain ⟨v, e1, iv⟩ := S.fz i x hx
  refine rs_len fun hl => rs_of (ps_aug B.ndX a1 a2 re_pe hp (.inl (B.fn n))) ?_
  refine ⟨v, e1, he.run σ H0 H S.grow.sub S.hid _ fun w H1 H' g iw => hr v w H1 H' g.sub (iv.mono g.frz) iw _ fun z H2 H'' g' iz => ?_⟩
  have gg := g.trans g'
  exact ok.nx _ H'' _ H2 gg.frz ((S.more gg).setF (by rw [hl]; exact (List.getElem?_eq_some_iff.mp a1).1) iz) (by rw [ha.eq]; exact q)
end
/-! ### dicts -/
def kD : Key → D
  | .inl i => .int i
  | .inr z => .str z
theorem kD_is {K : PySem.W.Frag} {H : Hp} {k : Key} {v : V} (h : Is K H (kD k) v) : v = kV k := by
  cases k <;> exact h
def valD (ks : List (Key × D)) (k : Key) : Option D := (ks.find? fun kv => decide (kv.1 = k)).map (·.2)
def putKD (ks : List (Key × D)) (k : Key) (d : D) : List (Key × D) :=
  if (ks.any fun kv => decide (kv.1 = k)) = true then ks.map (fun kv => if kv.1 = k then (kv.1, d) else kv) else ks ++ [(k, d)]
def mergeKD (ks more : List (Key × D)) : List (Key × D) := more.foldl (fun acc kv => putKD acc kv.1 kv.2) ks
section
variable {K : PySem.W.Frag} {H : Hp} {k : Key} {d : D} {v : V}
theorem IsK.any : ∀ {ks : List (Key × D)} {kvs : List (Key × V)}, IsK K H ks kvs → (kvs.any fun kv => decide (kv.1 = k)) = (ks.any fun kv => decide (kv.1 = k))
  | [], _, h => by rw [show _ = [] from h]; rfl
  | (j, x) :: ks, _, h => by
    obtain ⟨w, r, h1, h2, h3⟩ := h
    rw [h1, List.any_cons, List.any_cons, IsK.any h3]
theorem IsK.app : ∀ {ks es : List (Key × D)} {kvs ws : List (Key × V)}, IsK K H ks kvs → IsK K H es ws → IsK K H (ks ++ es) (kvs ++ ws)
  | [], _, _, _, h, g => by rw [show _ = [] from h]; exact g
  | (j, x) :: ks, _, _, _, h, g => by
    obtain ⟨w, r, h1, h2, h3⟩ := h
    rw [h1]
    exact ⟨w, _, rfl, h2, IsK.app h3 g⟩
theorem IsK.over (hd : Is K H d v) : ∀ {ks : List (Key × D)} {kvs : List (Key × V)}, IsK K H ks kvs → IsK K H (ks.map fun kv => if kv.1 = k then (kv.1, d) else kv) (kvs.map fun kv => if kv.1 = k then (kv.1, v) else kv)
  | [], _, h => by rw [show _ = [] from h]; rfl
  | (j, x) :: ks, _, h => by
    obtain ⟨w, r, h1, h2, h3⟩ := h
    rw [h1, List.map_cons, List.map_cons]
    by_cases e : j = k
    · rw [if_pos e, if_pos e]
      exact ⟨v, _, rfl, hd, IsK.over hd h3⟩
    · rw [if_neg e, if_neg e]
      exact ⟨w, _, rfl, h2, IsK.over hd h3⟩
theorem IsK.put {ks : List (Key × D)} {kvs : List (Key × V)} (h : IsK K H ks kvs) (hd : Is K H d v) : IsK K H (putKD ks k d) (putK kvs k v) := by
  unfold putKD putK
  rw [h.any]
  split
  · exact h.over hd
  · exact h.app ⟨v, [], rfl, hd, rfl⟩
theorem IsK.merge : ∀ {more : List (Key × D)} {ms : List (Key × V)} {ks : List (Key × D)} {kvs : List (Key × V)}, IsK K H more ms → IsK K H ks kvs → IsK K H (mergeKD ks more) (mergeK kvs ms)
  | [], _, _, _, h, g => by rw [show _ = [] from h]; exact g
  | (j, x) :: more, _, _, _, h, g => by
    obtain ⟨w, r, h1, h2, h3⟩ := h
    rw [h1]
    show IsK K H (mergeKD (putKD _ j x) more) (mergeK (putK _ j w) r)
    exact IsK.merge h3 (g.put h2)
theorem IsK.val : ∀ {ks : List (Key × D)} {kvs : List (Key × V)}, IsK K H ks kvs → valD ks k = some d → ∃ v, valV kvs k = some v ∧ Is K H d v
  | [], _, h, e => nomatch e
  | (j, x) :: ks, _, h, e => by
    obtain ⟨w, r, h1, h2, h3⟩ := h
    rw [h1]
    by_cases q : j = k
    · rw [valV_pos (p := (j, w)) q]
      have e' : valD ((j, x) :: ks) k = some x := by simp [valD, List.find?_cons, q]
      rw [e'] at e
      cases e
      exact ⟨w, rfl, h2⟩
    · rw [valV_neg (p := (j, w)) q]
      have e' : valD ((j, x) :: ks) k = valD ks k := by simp [valD, List.find?_cons, q]
      rw [e'] at e
      exact IsK.val h3 e
theorem IsK.noval : ∀ {ks : List (Key × D)} {kvs : List (Key × V)}, IsK K H ks kvs → valD ks k = none → valV kvs k = none
  | [], _, h, e => by rw [show _ = [] from h]; rfl
  | (j, x) :: ks, _, h, e => by
    obtain ⟨w, r, h1, h2, h3⟩ := h
    rw [h1]
    by_cases q : j = k
    · have e' : valD ((j, x) :: ks) k = some x := by simp [valD, List.find?_cons, q]
      rw [e'] at e; cases e
    · rw [valV_neg (p := (j, w)) q]
      have e' : valD ((j, x) :: ks) k = valD ks k := by simp [valD, List.find?_cons, q]
      rw [e'] at e
      exact IsK.noval h3 e
theorem IsK.len : ∀ {ks : List (Key × D)} {kvs : List (Key × V)}, IsK K H ks kvs → kvs.length = ks.length
  | [], _, h => by rw [show _ = [] from h]; rfl
  | (j, x) :: ks, _, h => by
    obtain ⟨w, r, h1, h2, h3⟩ := h
    rw [h1, List.length_cons, List.length_cons, h3.len]
end
section
variable {X : Cx} {N L gs : List Str} {kk : Nat} {sc : Scope} {n : Str} {i : Nat} {Gs G : Hp} {as as1 : AS} {F : Fin} {de : DE} {d : D} {k : Key} {ks : List (Key × D)} {pos p pos' : Pos} {e o ie : Expr} {keys : List (Option Expr)} {values : List Expr}
/-- the pairs of a display -/
inductive EPs (X : Cx) (de : DE) : List (Option Expr) → List Expr → List (Key × D) → Prop
  | nil : EPs X de [] [] []
  | cons {ke ve : Expr} {kes : List (Option Expr)} {ves : List Expr} {k : Key} {d : D} {r : List (Key × D)} (hk : EE X ke de (kD k)) (hv : EE X ve de d) (hr : EPs X de kes ves r) : EPs X de (some ke :: kes) (ve :: ves) ((k, d) :: r)
theorem EPs.go {X : Cx} {de : DE} : ∀ {keys : List (Option Expr)} {values : List Expr} {ks : List (Key × D)}, EPs X de keys values ks → ∃ trs : List (TE × TE), PPs X pos keys values trs ∧
    ∀ (σ : L2.St) (H0 H : Hp), Same H0 H → SlF X.K H0 σ de → ∀ Q : List (V × V) → Hp → Prop, (∀ kvs H0' H', Grow H0 H H0' H' → IsK X.K H0' ks kvs → Q (kvs.map fun kv => (kV kv.1, kv.2)) H') → tPairs trs σ H Q
  | _, _, _, .nil => ⟨[], pps_nil, fun σ H0 H hs hf Q q => q [] H0 H (Grow.refl hs) rfl⟩
  | _, _, _, .cons (k := k) (d := d) hk hv hr => by
    obtain ⟨trs, h1, h2⟩ := hr.go
    refine ⟨_, pps_cons re_pe re_pe h1, fun σ H0 H hs hf Q q => ?_⟩
    refine hk.run σ H0 H hs hf _ fun v H1 H' g iv => hv.run σ H1 H' g.sub (hf.mono g.frz) _ fun w H2 H2' g' iw => h2 σ H2 H2' g'.sub (hf.mono (g.frz.trans g'.frz)) _ fun kvs H3 H3' g'' ik => ?_
    have z := q ((k, w) :: kvs) H3 H3' ((g.trans g').trans g'') ⟨w, kvs, rfl, iw.mono g''.frz, ik⟩
    rw [kD_is iv]
    exact z
theorem en_disp (h : EPs X de keys values ks) (hall : keys.all (·.isSome) = true) (hl : keys.length = values.length) (h0 : keys ≠ []) (h15 : keys.length ≤ 15) (hk : ks.length ≤ 15) : EN X (.Dict keys values pos) de (.dct (mergeKD [] ks)) := .mk fun σ H0 H hs hf Q q => by
  obtain ⟨trs, h1, h2⟩ := h.go
  refine re_of (pe_disp h1 hall hl h0 h15) fun p hp => ?_
  refine h2 σ H0 (upd H p (.dK [])) (hs.trans (Same.new hp)) hf _ fun kvs H1 H' g ik => ?_
  have e := g.all p _ upd_same
  refine ⟨e, kvs, rfl, by rw [ik.len]; exact hk, ?_⟩
  have n0 : H0 p = none := hs.free hp
  have hp1 : H1 p = none := by
    cases z : H1 p with
    | none => rfl
    | some u =>
      rcases g.new p (by rw [z]; simp) with w | w
      · exact absurd n0 w
      · rw [upd_same] at w; exact nomatch w
  refine q p H1 _ ⟨g.frz, fun b u eb => ?_, fun b u eb => ?_, fun b z => ?_⟩ hp hp1 ⟨_, upd_same, IsK.merge ik rfl⟩
  · rw [upd_ne (ne_of_none eb hp)]
    exact g.all b u (by rw [upd_ne (ne_of_none eb hp)]; exact eb)
  · rw [upd_ne (ne_of_none eb hp1)]
    exact g.sub b u eb
  · rcases g.new b z with w | w
    · exact .inl w
    · by_cases hb : b = p
      · rw [hb]; exact .inr hp
      · rw [upd_ne hb] at w; exact .inr w
theorem en_dnew : EN X (.Dict [] [] pos) de (.dct []) := .mk fun σ H0 H hs hf Q q =>
  re_of pe_dnewK fun p hp => q p H0 _ (Grow.made hs hp) hp (hs.free hp) ⟨[], upd_same, rfl⟩
/-- o[k] -/
theorem ee_dget (hr : Room kk X.A) (ho : EE X o de (.dct ks)) (hi : EE X ie de (kD k)) (hv : valD ks k = some d) (hn : NoSl ie := by exact fun _ _ => rfl) : EE X (.Subscript o ie pos) de d := .mk fun σ H0 H hs hf Q q => by
  refine re_of (pe_dget (by have := hr.units; omega) re_pe re_pe hn) ?_
  refine ho.run σ H0 H hs hf _ fun v H1 H' g iv => hi.run σ H1 H' g.sub (hf.mono g.frz) _ fun w H2 H2' g' iw => ?_
  obtain ⟨a, kvs, e1, e2, e3⟩ := iv
  obtain ⟨x, hx, ix⟩ := (e3.mono g'.frz).val hv
  exact ⟨a, x, e1, .inl ⟨kvs, k, Same.rd (g'.frz.trans g'.sub) e2, kD_is iw, hx.symm⟩, q x H2 H2' (g.trans g') ix⟩
/-- n[k] = e, the dict owned -/
theorem t_dput (B : Body X N L gs kk sc) (h : At L n i) (ha : as[i]? = some (.ow (.dct ks))) (he : EE X e (hid as) d) (hk : EE X ie (hid as) (kD k)) (hz : ks.length < sizeLine) (hst : SetA as i (.ow (.dct (putKD ks k d))) as1) (q : F.nx as1)
    (hs : swapsWith e (some (.Subscript (.Name n p) ie pos')) pos.line X.env = pure false := by rfl) : S1 X Gs G (.Assign [.Subscript (.Name n p) ie pos'] e pos) as F := .mk fun σ H H0 S E ok => by
  obtain ⟨a1, a2, a3, a4⟩ := B.locs h
  obtain ⟨l, s1, s2, s3, kvs, hu, hi⟩ := S.ow i _ ha
  refine rs_of (ps_dput (by have := B.room.units; omega) (pe_var a1 (loc_vis a2) a3 a4) re_pe re_pe hs) ?_
  refine he.run σ H0 H S.grow.sub S.hid _ fun v H1 H' g iv => ⟨_, s1, ?_⟩
  refine hk.run σ H1 H' g.sub (S.hid.mono g.frz) _ fun w H2 H2' g' iw => ?_
  have gg := g.trans g'
  have e2 := gg.all _ _ hu
  refine ⟨l, _, rfl, .inl ⟨kvs, k, e2, kD_is iw, by rw [hi.len]; exact hz, rfl⟩, ?_⟩
  exact ok.nx σ _ _ H2 gg.frz ((S.more gg).write (d := .dct ks) (d' := .dct (putKD ks k d)) ha s1 ⟨_, upd_same, (hi.mono gg.frz).put (iv.mono g'.frz)⟩) (by rw [hst.eq]; exact q)
end
end Mw
set_option maxHeartbeats 4000000
namespace Mw
open PySem PySem.Spec PyProof.Rows L2
section
variable {X : Cx}
/-- xs.count(k), xs bools -/
def rCountB (K : PySem.W.Frag) : V → List V → Hp → VK → Prop := fun x xs H Q => ∃ (a : Addr) (bs : List Bool) (k : Bool), x = .ref a ∧ xs = [.bl k] ∧ SqL K H a (bs.map V.bl) ∧ Q (.int (bs.count k : Nat)) H
theorem bools_vals {k : Bool} : ∀ {bs : List Bool} {us : List Value}, Vals (bs.map V.bl) us → us.countP (isBoolOf k) = bs.count k ∧ ∀ y ∈ us, ∃ b, y = Value.bool b
  | [], _, r => by cases r; exact ⟨rfl, fun y h => by cases h⟩
  | b :: bs, _, r => by
    rw [List.map_cons] at r
    cases r with
    | cons h t =>
      obtain ⟨h1, h2⟩ := bools_vals (k := k) t
      obtain rfl : _ = Value.bool b := h
      refine ⟨?_, fun y hy => ?_⟩
      · rw [List.countP_cons, List.count_cons, h1]
        rfl
      · rcases List.mem_cons.mp hy with e | e
        · exact ⟨b, e⟩
        · exact h2 y e
theorem mt_countB : MtR X "list.count" (rCountB X.K) := by
  intro pins s σ H x xs v us Q I rx rxs h
  obtain ⟨a, bs, k, rfl, rfl, hs, q⟩ := h
  cases rx
  obtain ⟨u, rfl, ru⟩ := vals1 rxs
  obtain rfl : u = Value.bool k := ru
  obtain ⟨its, r, ⟨⟨cls, dd, data, sl⟩, n, ho, hc, hd, hdt⟩, hz⟩ := I.list hs
  simp only at hc hd hdt
  subst hc hd hdt
  obtain ⟨h1, h2⟩ := bools_vals (k := k) r
  refine call_meets PySem.F.slot_list_count ⟨_, ho, rfl⟩ PySem.F.entry_list_count (PySem.F.args_list_count_2 _ _) (PySem.SeqAt.list_countAt a its.toArray n none sl (.bool k) (isBoolOf k)) ⟨ho, fun y hy => ?_, ?_⟩
  · obtain ⟨b, rfl⟩ := h2 y (by simpa using hy)
    exact PySem.SeqAt.EqAt.bool_bool b k
  · rw [List.toList_toArray, h1]
    exact ⟨.int _, H, I.tok _, ⟨_, rfl⟩, q⟩
theorem isL_bools {K : PySem.W.Frag} {H : Hp} : ∀ {bs : List Bool} {vs : List V}, IsL K H (bs.map D.bl) vs → vs = bs.map V.bl
  | [], _, h => h
  | b :: bs, _, h => by
    obtain ⟨v, r, h1, h2, h3⟩ := h
    rw [h1, show v = V.bl b from h2, isL_bools h3]
    rfl
theorem cm_countB {bs : List Bool} {k : Bool} : CaM X "list.count" (.lst (bs.map D.bl)) [.bl k] (.int (bs.count k : Nat)) := ⟨_, mt_countB, fun v vs H0 H hs h1 h2 Q q => by
  obtain ⟨a, ws, e1, e2, e3⟩ := h1
  obtain ⟨w, e, h3⟩ := is1 h2
  rw [isL_bools e3] at e2
  exact ⟨a, bs, k, e1, by rw [e, show w = _ from h3], Same.lst hs e2, q _ _ _ (Grow.refl hs) rfl⟩⟩
theorem cm_indexB {bs : List Bool} {j : Nat} (hj : bs[j]? = some true) (hn : ∀ m, m < j → bs[m]? = some false) : CaM X "list.index" (.lst (bs.map D.bl)) [.bl true] (.int (j : Nat)) := ⟨_, mt_index, fun v vs H0 H hs h1 h2 Q q => by
  obtain ⟨a, ws, e1, e2, e3⟩ := h1
  obtain ⟨w, e, h3⟩ := is1 h2
  rw [isL_bools e3] at e2
  refine ⟨a, bs.map V.bl, .bl true, j, .bl true, e1, by rw [e, show w = _ from h3], Same.lst hs e2, rfl, ?_, by rw [List.getElem?_map, hj]; rfl, rfl, fun m z hm hz => ?_, q _ _ _ (Grow.refl hs) rfl⟩
  · rw [List.all_map]
    exact List.all_eq_true.mpr fun _ _ => rfl
  · rw [List.getElem?_map, hn m hm] at hz
    cases hz
    rfl⟩
end
end Mw
set_option maxHeartbeats 4000000
/-! methods by name -/
namespace Mw
open PySem PySem.Spec PyProof.Rows L2
section
variable {X : Cx} {gs : List Str} {k : Nat} {C : Addr} {m : Str} {dds : List D} {S : FS} {fs : List (Str × D)} {o e : Expr} {es : List Expr} {as : DE} {ds : List D} {d x : D} {apos cpos pos : Pos} {z : Str} {i : Int} {bs : List Bool}
theorem e_meth {pl : Sem Bool} (ho : EE X o as (.obj C fs)) (M : MetD X k C m dds S) (hl : fs.lookup m = none) (hr : Room k X.A) (ha : EA X (e :: es) as ds) (hS : S (.obj C fs :: (ds ++ dds)) (.ok d))
    (hst : starEach (e :: es) X.env = (false, eval e X.env) :: starEach es X.env := by rfl) (hpl : (backTo pos (starEach es X.env)).any (·.1) = false := by rfl)
    (ht : eval (.Call (.Attribute o m apos) (e :: es) [] pos) X.env = (do
      let ov ← eval o X.env
      standAt apos.atName
      let (f, first) ← holding [ov] (getMethod ov m pl)
      callWith pos f first (backTo pos (starEach (e :: es) X.env)) (backToKw pos (keywordEach [] X.env))) := by rfl) : EE X (.Call (.Attribute o m apos) (e :: es) [] pos) as d := ee_meth (pl := pl) M ho hl ha hS hr hst hpl ht
theorem x_meth {pl : Sem Bool} {xn : Exn} (ho : EE X o as (.obj C fs)) (M : MetD X k C m dds S) (hl : fs.lookup m = none) (hr : Room k X.A) (ha : EA X (e :: es) as ds) (hS : S (.obj C fs :: (ds ++ dds)) (.error xn))
    (hst : starEach (e :: es) X.env = (false, eval e X.env) :: starEach es X.env := by rfl) (hpl : (backTo pos (starEach es X.env)).any (·.1) = false := by rfl)
    (ht : eval (.Call (.Attribute o m apos) (e :: es) [] pos) X.env = (do
      let ov ← eval o X.env
      standAt apos.atName
      let (f, first) ← holding [ov] (getMethod ov m pl)
      callWith pos f first (backTo pos (starEach (e :: es) X.env)) (backToKw pos (keywordEach [] X.env))) := by rfl) : EX X (.Call (.Attribute o m apos) (e :: es) [] pos) as xn := ex_meth (pl := pl) M ho hl ha hS hr hst hpl ht
theorem e_zfill (ho : EE X o as (.str z)) (he : EE X e as (.int i)) (h : PadOk i = true)
    (hbase : attributeBase o "zfill" X.env (eval o X.env) = eval o X.env := by rfl)
    (hfew : ((backTo cpos (starEach [e] X.env)).all (fun x => !x.1) && (backToKw cpos (keywordEach [] X.env)).all (fun x => x.1.isSome)
      && decide ([e].length + ([] : List Keyword).length + (if ([] : List Keyword).isEmpty then 0 else 1) < 30)) = true := by rfl)
    (hline : (apos.endLine == cpos.line) = true := by rfl) (hs : starEach [e] X.env = (false, eval e X.env) :: starEach [] X.env := by rfl) : EE X (.Call (.Attribute o "zfill" apos) [e] [] cpos) as (.str (Txt.zfill z i)) :=
  ee_bm ho (ea_cons he ea_nil hs) rfl PySem.F.plainAttrs_str PySem.F.slot_str_zfill PySem.F.type_str_zfill (cm_zfill h) hbase hfew hline hs rfl
theorem e_countB {b : Bool} (ho : EE X o as (.lst (bs.map D.bl))) (he : EE X e as (.bl b))
    (hbase : attributeBase o "count" X.env (eval o X.env) = eval o X.env := by rfl)
    (hfew : ((backTo cpos (starEach [e] X.env)).all (fun x => !x.1) && (backToKw cpos (keywordEach [] X.env)).all (fun x => x.1.isSome)
      && decide ([e].length + ([] : List Keyword).length + (if ([] : List Keyword).isEmpty then 0 else 1) < 30)) = true := by rfl)
    (hline : (apos.endLine == cpos.line) = true := by rfl) (hs : starEach [e] X.env = (false, eval e X.env) :: starEach [] X.env := by rfl) : EE X (.Call (.Attribute o "count" apos) [e] [] cpos) as (.int (bs.count b : Nat)) :=
  ee_bm ho (ea_cons he ea_nil hs) rfl PySem.F.plainAttrs_list PySem.F.slot_list_count PySem.F.type_list_count cm_countB hbase hfew hline hs rfl
theorem e_indexB {j : Nat} (ho : EE X o as (.lst (bs.map D.bl))) (he : EE X e as (.bl true)) (hj : bs[j]? = some true) (hn : ∀ m, m < j → bs[m]? = some false)
    (hbase : attributeBase o "index" X.env (eval o X.env) = eval o X.env := by rfl)
    (hfew : ((backTo cpos (starEach [e] X.env)).all (fun x => !x.1) && (backToKw cpos (keywordEach [] X.env)).all (fun x => x.1.isSome)
      && decide ([e].length + ([] : List Keyword).length + (if ([] : List Keyword).isEmpty then 0 else 1) < 30)) = true := by rfl)
    (hline : (apos.endLine == cpos.line) = true := by rfl) (hs : starEach [e] X.env = (false, eval e X.env) :: starEach [] X.env := by rfl) : EE X (.Call (.Attribute o "index" apos) [e] [] cpos) as (.int (j : Nat)) :=
  ee_bm ho (ea_cons he ea_nil hs) rfl PySem.F.plainAttrs_list PySem.F.slot_list_index PySem.F.type_list_index (cm_indexB hj hn) hbase hfew hline hs rfl
end
end Mw
set_option maxHeartbeats 4000000
namespace Mw
section
open PySem PySem.SeqAt
theorem dict_declines_str (l : Addr) (es : Array DictEntry) (ep : Nat) (dd : Option Addr) (sl : Array (Option Value)) (b : Str) (u : Tok) :
    Meets (Builtin.«dict.__eq__» ⟨[.ref l, .str b u], []⟩) (fun _ R s => s.heap.get? l = some { cls := .type "dict", dict := dd, data := .dict es ep, slots := sl } ∧ R (.ok (.ret .notImplemented)) s) :=
  .of_wp fun prog w A R s h => by obtain ⟨hp, g, d, tk, os⟩ := s; obtain ⟨hl, h⟩ := h; have f1 := F.sub_str_dict; wp_walk using AutoSeq1.wpAny_loadPart' hl, wpAny_load hl; exact ⟨_, rfl, h⟩
theorem str_declines_dict (b : Str) (u : Tok) (l : Addr) (c : Value) (es : Array DictEntry) (ep : Nat) (dd : Option Addr) (sl : Array (Option Value)) :
    Meets (Builtin.«str.__eq__» ⟨[.str b u, .ref l], []⟩) (fun _ R s => s.heap.get? l = some { cls := c, dict := dd, data := .dict es ep, slots := sl } ∧ R (.ok (.ret .notImplemented)) s) :=
  .of_wp fun prog w A R s h => by obtain ⟨hp, g, d, tk, os⟩ := s; obtain ⟨hl, h⟩ := h; wp_walk using AutoSeq1.wpAny_loadPart' hl, wpAny_load hl; exact ⟨_, rfl, h⟩
theorem rc_dict_str {A : Around} {s : Shared} {l : Addr} {es : Array DictEntry} {ep : Nat} {dd : Option Addr} {sl : Array (Option Value)} (b : Str) (u : Tok) (ho : s.heap.get? l = some { cls := .type "dict", dict := dd, data := .dict es ep, slots := sl }) (hu : A.units < cLine) : RcAt A s (.ref l) (.str b u) false := fun prog w E Q h =>
  rc_eq_decline_or (k := false) ⟨_, ho, rfl⟩ (typeIs_str s b u) (by decide) F.sub_str_dict F.slot_dict_eq F.slot_str_eq_refl
    (fun _ hq => call_meets F.slot_dict_eq ⟨_, ho, rfl⟩ F.entry_dict_eq (F.args_dict_eq_2 _ _) (dict_declines_str l es ep dd sl b u) ⟨ho, hq⟩)
    (fun _ hq => call_meets F.slot_str_eq_refl (typeIs_str s b u) F.entry_str_eq (F.args_str_eq_2 _ _) (str_declines_dict b u l (.type "dict") es ep dd sl) ⟨ho, hq⟩)
    (fun _ hq => wpAny_of_eq (rfl : isSame (.ref l) (.str b u) = pure false) hq) (.inr hu) h
end
section
open PySem PySem.Spec PyProof.Rows L2
theorem op_eq_ds {X : Cx} (hu : X.A.units < cLine) : OpR X (compareOp .Eq) (fun x y H Q => ∃ a kvs z, x = .ref a ∧ Rd H a (.dK kvs) ∧ y = .str z ∧ Q (.bl false) H) := by
  intro pins s σ H x y v u Q I rx ry h
  obtain ⟨a, kvs, z, rfl, hr, rfl, q⟩ := h
  obtain rfl : v = Value.ref a := rx
  obtain ⟨t, rfl⟩ := ry
  obtain ⟨_, _, vs, _, ⟨cls, dd, dt, sl⟩, es, ep, h1, h2, hd, _⟩ := hr.ok I.hok
  obtain ⟨c1, c2, c3⟩ := id h2
  simp only at c1 c2 c3 hd
  subst c1 c2 c3 hd
  exact rc_dict_str z t h1 hu X.prog X.w X.xe (EP X pins σ Q) ⟨.bl false, H, I, rfl, q⟩
theorem oc_eqDS {X : Cx} {k : Nat} {ks : List (Key × D)} {z : Str} (hr : Room k X.A) : OpD X (compareOp .Eq) (.dct ks) (.str z) (.bl false) := .flat (op_eq_ds (by have := hr.units; omega)) (fun _ => rfl) fun v w H h1 h2 Q q => by
  obtain ⟨a, kvs, e1, e2, e3⟩ := h1
  exact ⟨a, kvs, z, e1, e2, h2, q⟩
end
end Mw
set_option maxHeartbeats 4000000
/-! walks over texts, all, sum, list(..), tuple(..), sorted, split, partition, join, dict.get -/
namespace Mw
open PySem PySem.Spec PyProof.Rows L2
section
variable {X : Cx} {as : DE} {d x y : D} {tg a b c e : Expr} {es : List Expr} {ds : List D} {pos p : Pos} {gs : List Str} {j k : Nat} {z : Str}
/-- the signs of a text -/
def signsD (z : Str) : List D := z.cps.toList.map fun c => .str ⟨#[c]⟩
theorem iw_str (h : EE X e as (.str z)) : IW X tg e as (signsD z) := ⟨_, pi_str re_pe, fun σ H0 H hs hf R q => h.run σ H0 H hs hf _ fun v H1 H' g iv => by
  have hl : (signsD z).length = z.cps.size := by unfold signsD; rw [List.length_map, Array.length_toList]
  refine ⟨z, iv, q _ H1 _ g ⟨fun H2 e => by show z.cps.size ≤ _; omega, fun i H2 hi e => by show i < z.cps.size; omega, fun i d H2 H3 x H4 hd e1 e2 hy => ?_⟩⟩
  obtain ⟨rfl, c, hc, rfl⟩ := hy
  refine ⟨H2, Grow.refl e2, ?_⟩
  unfold signsD at hd
  rw [List.getElem?_map, Array.getElem?_toList, hc] at hd
  cases hd
  exact rfl⟩
/-! ### builtins -/
theorem isL_ints {K : PySem.W.Frag} {H : Hp} : ∀ {ns : List Int} {vs : List V}, IsL K H (ns.map D.int) vs → vs = ns.map V.int
  | [], _, h => h
  | n :: ns, _, h => by
    obtain ⟨v, r, h1, h2, h3⟩ := h
    rw [h1, show v = V.int n from h2, isL_ints h3]
    rfl
theorem isL_strs {K : PySem.W.Frag} {H : Hp} : ∀ {ns : List Str} {vs : List V}, IsL K H (ns.map D.str) vs → vs = ns.map V.str
  | [], _, h => h
  | n :: ns, _, h => by
    obtain ⟨v, r, h1, h2, h3⟩ := h
    rw [h1, show v = V.str n from h2, isL_strs h3]
    rfl
theorem strs_isL {K : PySem.W.Frag} {H : Hp} : ∀ ns : List Str, IsL K H (ns.map D.str) (ns.map V.str)
  | [] => rfl
  | n :: ns => ⟨_, _, rfl, rfl, strs_isL ns⟩
theorem ca_all {bs : List Bool} (hc : X.calm = true) : CaD X (.builtin "all") [.lst (bs.map D.bl)] (.bl (bs.all id)) := ⟨_, cr_all hc, fun vs H0 H hs h Q q => by
  obtain ⟨v, e, h1⟩ := is1 h
  obtain ⟨a, ws, e1, e2, e3⟩ := h1
  rw [isL_bools e3] at e2
  exact ⟨a, bs, by rw [e, e1], Same.lst hs e2, q _ _ _ (Grow.refl hs) rfl⟩⟩
theorem ca_any {bs : List Bool} (hc : X.calm = true) : CaD X (.builtin "any") [.lst (bs.map D.bl)] (.bl (bs.any id)) := ⟨_, cr_any hc, fun vs H0 H hs h Q q => by
  obtain ⟨v, e, h1⟩ := is1 h
  obtain ⟨a, ws, e1, e2, e3⟩ := h1
  rw [isL_bools e3] at e2
  exact ⟨a, bs, by rw [e, e1], Same.lst hs e2, q _ _ _ (Grow.refl hs) rfl⟩⟩
theorem ca_sum {ns : List Int} (hc : X.calm = true) : CaD X (.builtin "sum") [.lst (ns.map D.int)] (.int ns.sum) := ⟨_, cr_sum hc, fun vs H0 H hs h Q q => by
  obtain ⟨v, e, h1⟩ := is1 h
  obtain ⟨a, ws, e1, e2, e3⟩ := h1
  rw [isL_ints e3] at e2
  exact ⟨a, ns, by rw [e, e1], Same.lst hs e2, q _ _ _ (Grow.refl hs) rfl⟩⟩
theorem cn_listL : CaN X (.type "list") [.lst ds] (.lst ds) := ⟨_, call_list_of, fun vs H0 H hs h Q q => by
  obtain ⟨v, e, h1⟩ := is1 h
  obtain ⟨a, ws, e1, e2, e3⟩ := h1
  exact ⟨a, ws, by rw [e, e1], .inl (Same.lst hs e2), fun l hl => q l H0 _ (Grow.made hs hl) hl (hs.free hl) ⟨ws, upd_same, e3⟩⟩⟩
theorem cn_listT : CaN X (.type "list") [.tup ds] (.lst ds) := ⟨_, call_list_of, fun vs H0 H hs h Q q => by
  obtain ⟨v, e, h1⟩ := is1 h
  obtain ⟨a, ws, e1, e2, e3⟩ := h1
  exact ⟨a, ws, by rw [e, e1], .inr (Same.tup hs e2), fun l hl => q l H0 _ (Grow.made hs hl) hl (hs.free hl) ⟨ws, upd_same, e3⟩⟩⟩
theorem ca_tupL : CaD X (.type "tuple") [.lst ds] (.tup ds) := ⟨_, call_tuple_of, fun vs H0 H hs h Q q => by
  obtain ⟨v, e, h1⟩ := is1 h
  obtain ⟨a, ws, e1, e2, e3⟩ := h1
  exact ⟨a, ws, by rw [e, e1], .inl ⟨Same.lst hs e2, fun l hl => q (.ref l) (upd H0 l (.tup ws)) _ (Grow.laid hs hl) ⟨l, ws, rfl, SqT.of upd_same, e3.mono (Same.new (hs.free hl))⟩⟩⟩⟩
theorem ca_tupT : CaD X (.type "tuple") [.tup ds] (.tup ds) := ⟨_, call_tuple_of, fun vs H0 H hs h Q q => by
  obtain ⟨v, e, h1⟩ := is1 h
  obtain ⟨a, ws, e1, e2, e3⟩ := id h1
  exact ⟨a, ws, by rw [e, e1], .inr ⟨Same.tup hs e2, q _ _ _ (Grow.refl hs) ⟨a, ws, rfl, e2, e3⟩⟩⟩⟩
/-! ### methods of texts -/
theorem cm_split {z s : Str} (hs0 : (s.length == 0) = false) (hz : z.length + 2 ≤ sizeLine) : CaMN X "str.split" (.str z) [.str s] (.lst ((Txt.split z s).map D.str)) := ⟨_, mt_split, fun v vs H0 H hs h1 h2 Q q => by
  obtain ⟨w, e, h3⟩ := is1 h2
  exact ⟨z, s, h1, by rw [e, show w = _ from h3], hs0, hz, fun p hp => q p H0 _ (Grow.made hs hp) hp (hs.free hp) ⟨_, upd_same, strs_isL _⟩⟩⟩
theorem cm_part {z s : Str} (hs0 : (s.length == 0) = false) (hz : z.length ≤ sizeLine) : CaM X "str.partition" (.str z) [.str s] (.tup [.str (Txt.partition z s).1, .str (Txt.partition z s).2.1, .str (Txt.partition z s).2.2]) := ⟨_, mt_partition, fun v vs H0 H hs h1 h2 Q q => by
  obtain ⟨w, e, h3⟩ := is1 h2
  exact ⟨z, s, h1, by rw [e, show w = _ from h3], hs0, hz, fun p hp => q (.ref p) (upd H0 p (.tup [.str (Txt.partition z s).1, .str (Txt.partition z s).2.1, .str (Txt.partition z s).2.2])) _ (Grow.laid hs hp) ⟨p, _, rfl, SqT.of upd_same, ⟨_, _, rfl, rfl, _, _, rfl, rfl, _, _, rfl, rfl, rfl⟩⟩⟩⟩
theorem cm_joinL {z : Str} {ys : List Str} (hz : (ys.map (·.length)).sum + ys.length * z.length ≤ 16777216) : CaM X "str.join" (.str z) [.lst (ys.map D.str)] (.str (Txt.join z ys)) := ⟨_, mt_join, fun v vs H0 H hs h1 h2 Q q => by
  obtain ⟨w, e, h3⟩ := is1 h2
  obtain ⟨a, ws, e1, e2, e3⟩ := h3
  rw [isL_strs e3] at e2
  exact ⟨z, a, ys, h1, by rw [e, e1], .inl (Same.lst hs e2), hz, q _ _ _ (Grow.refl hs) rfl⟩⟩
theorem en_bm {o : Expr} {name : Str} {apos cpos : Pos} {T id : String} (ho : EE X o as x) (ha : EA X (e :: es) as ds) (hx : tyB x = some T) (pa : PlainAttrs T) (slot : Slot T name id) (hty : typeOf (.builtin id) = pure (.type "method_descriptor")) (hc : CaMN X id x ds d)
    (hbase : attributeBase o name X.env (eval o X.env) = eval o X.env := by rfl)
    (hfew : ((backTo cpos (starEach (e :: es) X.env)).all (fun x => !x.1) && (backToKw cpos (keywordEach [] X.env)).all (fun x => x.1.isSome)
      && decide ((e :: es).length + ([] : List Keyword).length + (if ([] : List Keyword).isEmpty then 0 else 1) < 30)) = true := by rfl)
    (hline : (apos.endLine == cpos.line) = true := by rfl) (hs : starEach (e :: es) X.env = (false, eval e X.env) :: starEach es X.env := by rfl) (hplain : (backTo cpos (starEach es X.env)).any (·.1) = false := by rfl) :
    EN X (.Call (.Attribute o name apos) (e :: es) [] cpos) as d := .mk fun σ H0 H hs' hf Q q => by
  obtain ⟨r, hm, hr⟩ := hc
  refine re_of (pe_bm pa slot hty hm re_pe ra_pa hbase hfew hline hs hplain) ?_
  refine ho.run σ H0 H hs' hf _ fun v H1 H' g iv => ⟨tyB_ok hx (iv.mono g.sub), ha.run σ H1 H' g.sub (hf.mono g.frz) _ fun vs H2 H'' g' iv' => ?_⟩
  exact hr v vs H2 H'' g'.sub (iv.mono g'.frz) iv' Q fun z _ _ g'' h1 h2 h3 => q z _ _ ((g.trans g').trans g'') ((g.trans g').all.free h1) h2 h3
end
end Mw
set_option maxHeartbeats 4000000
/-! sets of texts: set(list of texts), sorted(set) -/
namespace Mw
open PySem PySem.Spec PyProof.Rows L2
theorem strsAt : ∀ {us : List Value} {xs : List Str}, StrsAre us xs → ∀ (i : Nat) (v : Value), us[i]? = some v → ∃ k t, xs[i]? = some k ∧ v = .str k t
  | _, _, .nil, i, v, e => by simp at e
  | _, _, .cons x t r, 0, v, e => ⟨x, t, rfl, (Option.some.inj e).symm⟩
  | _, _, .cons x t r, i + 1, v, e => strsAt r i v e
abbrev SD := PySem.Froz.SD
abbrev sO (D : SD) : Obj := PySem.Froz.sObj "set" D
abbrev addX := PySem.Froz.addTx
/-- the payload D holds the texts l, each once, and can be walked -/
structure SxOk (P : Program) (w : World) (D : SD) (l : List Str) : Prop where
  tx : PySem.Froz.TxOk P w D l
  vals : ((D.1.toList.map (·.2)).map strOf).Perm l
  sv : ∀ e ∈ D.1.toList, ∃ x t, e.2 = Value.str x t
  nd : l.Nodup
  ris : Ris D.2.2.place.toList
  led : w.params.followText "set-order" = true ∨ D.2.2.led = true
section
variable {P : Program} {w : World} {A : Around} {E : Value → Shared → Prop} {s : Shared} {D : SD} {l : List Str} {k : Str}
theorem tail_led {ep : Nat} {es : Array (Int × Value)} {t : SetTable} {b : Bool} (hr : Ris t.place.toList) (hl : w.params.followText "set-order" = true ∨ t.led = true) :
    Ris (PySem.Froz.tailTx ep es t b).2.2.place.toList ∧ (w.params.followText "set-order" = true ∨ (PySem.Froz.tailTx ep es t b).2.2.led = true) ∧ (PySem.Froz.tailTx ep es t b).1.toList.Perm es.toList := by
  unfold PySem.Froz.tailTx
  split
  · exact ⟨relayAll_ris t es _, hl.imp id fun z => by show (relayAll t es _).2.1.led = true; rw [relayAll_led]; exact z, relayAll_perm t es _⟩
  · exact ⟨hr, hl, List.Perm.refl _⟩
theorem SxOk.add (F : SxOk P w D l) (u : Tok) (hk : k ∉ l) : SxOk P w (addX (hashStr w k) (.str k u) D) (k :: l) := by
  obtain ⟨es, ep, t⟩ := D
  have pm := layNew_perm t es (hashStr w k) (.str k u)
  have hr := layNew_ris t es (hashStr w k) (.str k u) F.ris
  have hl : w.params.followText "set-order" = true ∨ (layNew t es (hashStr w k) (.str k u)).2.1.led = true := F.led.imp id fun z => by rw [layNew_led]; exact z
  have q : Ris (addX (hashStr w k) (.str k u) (es, ep, t)).2.2.place.toList ∧ (w.params.followText "set-order" = true ∨ (addX (hashStr w k) (.str k u) (es, ep, t)).2.2.led = true) ∧ (addX (hashStr w k) (.str k u) (es, ep, t)).1.toList.Perm (layNew t es (hashStr w k) (.str k u)).1.toList := by
    show Ris (PySem.Froz.tailTx _ _ _ _).2.2.place.toList ∧ _
    refine tail_led ?_ ?_
    · split <;> exact hr
    · split <;> exact hl
  obtain ⟨q1, q2, q3⟩ := q
  rw [Array.toList_push] at pm
  have pc := q3.trans (pm.trans (List.perm_append_singleton _ _))
  refine ⟨PySem.Froz.add_ok u F.tx, ?_, fun e he => ?_, List.nodup_cons.mpr ⟨hk, F.nd⟩, q1, q2⟩
  · have p1 := (pc.map (fun e : Int × Value => e.2)).map strOf
    exact p1.trans (F.vals.cons k)
  · rcases List.mem_cons.mp (pc.mem_iff.mp he) with z | z
    · exact ⟨k, u, by rw [z]⟩
    · exact F.sv e z
/-- one text more, or none -/
theorem sx_add {a : Addr} {u : Tok} {Q : Bool → Shared → Prop} (ho : s.heap.get? a = some (sO D)) (F : SxOk P w D l) (hb : l.length + 1 < scanBound)
    (h : ∀ (h' : Heap) (D' : SD) (l' : List Str), Heap.SameBut a s.heap h' → h'.get? a = some (sO D') → SxOk P w D' l' → (∀ j, j ∈ l' ↔ j ∈ l ∨ j = k) → l'.length ≤ l.length + 1 → ∀ b, Q b { s with heap := h' }) :
    wpAny (model P w) A (setAddHashed a (.str k u) (hashStr w k)) Q E s := by
  by_cases hk : k ∈ l
  · obtain ⟨es, ep, t⟩ := D
    have hd : (sO (es, ep, t)).data = .set es ep t := rfl
    have hel : ElemsOf (PySem.strKind P w) es.toList := F.tx.el
    have hb0 : es.size < scanBound := by have := F.tx.sz; dsimp only at this; omega
    unfold setAddHashed setAddHashedIn
    refine wpAny_holding (wpAny_bind (wpAny_setState_of ho hd F.tx.fit ?_))
    dsimp only
    rw [byScan_of rfl hb0 hel]
    simp only [↓reduceIte]
    unfold setAddByScan
    refine wpAny_bind ?_
    refine wpAny_bind (wpAny_rule ?_)
    refine wpAny_bind (wpAny_setScan_of (knd := PySem.strKind P w) (k := k) (PySem.Froz.is_str k u) ho hd F.tx.fit hel ?_)
    cases hfi : List.findIdx? (fun e => (PySem.strKind P w).is k e.2) es.toList with
    | some j =>
      dsimp only
      refine wpAny_pure (wpAny_pure ?_)
      exact h s.heap _ l (Heap.SameBut.refl a s.heap) ho F (fun j => ⟨.inl, fun z => z.elim id fun e => e ▸ hk⟩) (Nat.le_succ _) _
    | none =>
      obtain ⟨e, he, q⟩ := (F.tx.mem k).mp hk
      have c := List.findIdx?_eq_none_iff.mp hfi e he
      rw [q] at c
      cases c
  · refine PySem.Froz.add_x ho F.tx hk hb ?_
    have e : Heap.SameBut a s.heap (s.heap.update a fun _ => sO (addX (hashStr w k) (.str k u) D)) := Heap.SameBut.update s.heap a _
    exact h _ _ (k :: l) e (PySem.Froz.get_upd _ ho rfl) (F.add u hk) (fun j => by rw [List.mem_cons]; exact Or.comm) (Nat.le_refl _) _
theorem sx_loop {I : Addr} {fp wr : List Addr} {G : Array GenState → Array GenState → Prop} {n : Nat} {Pv : Nat → Value → Prop} {St : Nat → Shared → Prop} {R : Result → Shared → Prop}
    (W : WalksS P w A.in1 I fp wr G n Pv St) (S : Addr) (hSf : S ∉ fp) (xs : List Str) (hn : n = xs.length) (hb : xs.length + 1 < scanBound) (hval : ∀ i v, Pv i v → ∃ k t, xs[i]? = some k ∧ v = .str k t) :
    ∀ (m i : Nat) (s : Shared), n - i = m → i ≤ n → St i s → (∃ D l, s.heap.get? S = some (sO D) ∧ SxOk P w D l ∧ (∀ j, j ∈ l ↔ j ∈ xs.take i) ∧ l.length ≤ i) →
      (∀ s' D l, Moved (S :: wr) G s s' → s'.heap.get? S = some (sO D) → SxOk P w D l → (∀ j, j ∈ l ↔ j ∈ xs) → l.length ≤ n → R (.ok (.ret .none)) s') →
      codeAny (model P w) A (.builtin "set.update.loop" ⟨[.ref S, .ref I], []⟩) R s := by
  have hSw : S ∉ wr := fun h => hSf (W.sub _ h)
  have hsub : ∀ b ∈ wr, b ∈ S :: wr := fun b hb => List.mem_cons_of_mem _ hb
  intro m
  induction m with
  | zero =>
    rintro i s hk' hi hst ⟨D, l, hS, F, hm, hl⟩ hR
    obtain rfl : i = n := by omega
    refine codeAny_builtin PyProof.Rows.F.entry_set_update_loop ?_
    rw [Around.under_plainId PyProof.Rows.F.plain_set_update_loop _]
    show wpAny _ A.in1 (pyNext (.ref I) >>= _) _ _ s
    refine wpAny_bind (W.done s _ _ hst fun s' mv => ?_)
    rw [List.take_of_length_le (show xs.length ≤ i by omega)] at hm
    show wpAny _ A.in1 (ret Value.none) _ _ s'
    exact wpAny_pure (hR s' D l (mv.mono hsub) (mv.heap S _ hSw hS) F hm hl)
  | succ m ih =>
    rintro i s hk' hi hst ⟨D, l, hS, F, hm, hl⟩ hR
    have hlt : i < n := by omega
    refine codeAny_builtin PyProof.Rows.F.entry_set_update_loop ?_
    rw [Around.under_plainId PyProof.Rows.F.plain_set_update_loop _]
    show wpAny _ A.in1 (pyNext (.ref I) >>= _) _ _ s
    refine wpAny_bind (W.item i s _ _ hlt hst fun v s' hP hst' mv => ?_)
    obtain ⟨z, t, hz, rfl⟩ := hval i v hP
    show wpAny _ A.in1 (holding [Value.str z t] (setAdd S (.str z t)) >>= _) _ _ s'
    refine wpAny_bind (wpAny_holding ?_)
    unfold setAdd
    refine wpAny_holding ?_
    refine wpAny_bind ((PySem.strKind P w).pyHash (k := z) (PySem.Froz.is_str z t) ?_)
    refine sx_add (s := { s' with toks := s'.toks + 1 }) (mv.heap S _ hSw hS) F (by omega) fun h' D' l' hsb ho' F' hm' hl' b => ?_
    have hm2 : ∀ j, j ∈ l' ↔ j ∈ xs.take (i + 1) := fun j => by
      rw [hm' j, hm j, List.take_add_one, hz]
      simp [List.mem_append]
    refine wpAny_pure ⟨plainId_quiet PyProof.Rows.F.plain_set_update_loop _, ih (i + 1) _ (by omega) hlt (W.frame _ s' _ _ hst' (Nat.le_succ _) fun b hb o e => ?_) ⟨D', l', ho', F', hm2, by omega⟩ fun s'' D2 l2 mv2 h2 F2 m2 b2 => ?_⟩
    · rw [hsb.2 b (fun h : b = S => hSf (by rw [← h]; exact hb))]; exact e
    · refine hR s'' D2 l2 (Moved.trans W.gtrans ((mv.mono hsub).then_heap (Nat.le_succ _) fun b o hb e => ?_) mv2) h2 F2 m2 b2
      rw [hsb.2 b (fun h : b = S => hb (by rw [h]; exact List.mem_cons_self))]; exact e
end
section
variable {P : Program} {w : World} {A : Around} {E : Value → Shared → Prop} {s : Shared}
def newS (w : World) : Obj := { cls := .type "set", dict := none, data := .set #[] 0 (.fresh 0 0 (!w.params.followText "set-order")) }
theorem sx_new : SxOk P w (#[], 0, .fresh 0 0 (!w.params.followText "set-order")) [] where
  tx := PySem.Froz.TxOk.nil (by rfl)
  vals := by simp
  sv := fun e he => by simp at he
  nd := List.nodup_nil
  ris := List.Pairwise.nil
  led := by
    show _ ∨ (!w.params.followText "set-order") = true
    cases w.params.followText "set-order"
    · exact .inr rfl
    · exact .inl rfl
set_option maxHeartbeats 3200000 in
theorem call_setX {l : Addr} {items : Array Value} (xs : List Str) {Q : Value → Shared → Prop} (hh : A.handled = none) (hl : s.heap.IsList l items) (hit : StrsAre items.toList xs) (hb : xs.length + 1 < scanBound)
    (h : ∀ (h' : Heap) (tk : Nat) (D : SD) (ls : List Str), h'.get? s.heap.objs.size = some (sO D) → SxOk P w D ls → (∀ j, j ∈ ls ↔ j ∈ xs) → ls.length ≤ xs.length → (∀ b o, s.heap.get? b = some o → h'.get? b = some o) → Q (.ref s.heap.objs.size) { s with heap := h', toks := tk }) :
    wpAny (model P w) A (call (.type "set") [.ref l]) Q E s := by
  have hisz : items.size = xs.length := by rw [← StrsAre.len_eq hit, Array.length_toList]
  obtain ⟨c, tl, hmro⟩ := PySem.F.called_set.mro
  have hmade := PySem.F.called_set.made
  have hsub := PySem.F.called_set.sub
  refine wpAny_call (codeAny_of_tree ?_)
  show wpAny _ _ (callAny (.type "set") _) _ _ _
  refine wpAny_pure ⟨Code.quiet_builtin _ (by decide +kernel), codeAny_builtin PySem.F.entry_type_call ?_⟩
  rw [Around.under_plain (weight_type_call_type "set" [.ref l] []) rfl]
  have h1 := PySem.F.called_set.notType
  have h2 := PySem.F.called_set.canCreate
  have hct := PySem.F.typeCall_set_1 (.ref l)
  repeat (any_goals (first | assumption | wp_step))
  refine codeAny_mono (code_set_led1 (.ref l) (E := E) (Q₁ := fun obj s₁ => obj = .ref s.heap.objs.size ∧ s₁ = { s with heap := s.heap.push (newS w) }) ⟨rfl, rfl⟩) fun r s₁ hr => ?_
  cases r with
  | error e => exact hr
  | ok fl =>
    cases fl with
    | ret obj =>
      obtain ⟨rfl, rfl⟩ := hr
      have hS : (s.heap.push (newS w)).get? s.heap.objs.size = some (newS w) := Heap.get?_push_size _ rfl
      have hT : Shared.TypeIs { s with heap := s.heap.push (newS w) } (.ref s.heap.objs.size) "set" := ⟨_, hS, rfl⟩
      have hli := PySem.F.called_set.init.lookup
      have hbi := PySem.F.called_set.init.bind (.ref s.heap.objs.size)
      repeat (any_goals (first | assumption | wp_step))
      refine codeAny_mono (codeAny_call_builtin (R := wants (fun r s₂ => r = .none ∧ ∃ h' tk D ls, s₂ = { s with heap := h', toks := tk } ∧ h'.get? s.heap.objs.size = some (sO D) ∧ SxOk P w D ls ∧ (∀ j, j ∈ ls ↔ j ∈ xs) ∧ ls.length ≤ xs.length ∧
          (∀ b o, s.heap.get? b = some o → h'.get? b = some o)) E) PySem.F.called_set.init.plain PySem.F.entry_set_init (check_set_init_1 hT ?_)) fun r₂ s₂ hr₂ => ?_
      · obtain ⟨⟨ocls, odict, odata, oslots⟩, hol, hcl, nl, hdl⟩ := hl
        simp only at hcl hdl
        subst hcl; subst hdl
        have hol' : (s.heap.push (newS w)).get? l = some { cls := .type "list", dict := odict, data := .seq items nl, slots := oslots } := Heap.get?_push_of_some _ hol
        have hsls := PySem.F.sub_list_set
        have hslf := PySem.F.sub_list_frozenset
        have hne : (Value.type "list" == Value.type "dict") = false := by decide
        have hl1 : (s.heap.push (newS w)).IsList l items := ⟨_, hol', rfl, nl, rfl⟩
        unfold Builtin.«set.__init__» noKeywords Builtin.Frozenset.updateFrom
        generalize hPI : pyIter = PI
        wp_walk
        subst hPI
        refine wpAny_pyIter_list hl1 ?_
        refine wpAny_bind (wpAny_runValue ?_)
        have hlS : l < s.heap.objs.size := Heap.lt_size hol
        have hh3 : A.in1.in1.in1.handled = none := by simp [hh]
        have hneI : l ≠ (s.heap.push (newS w)).objs.size := by
          rw [Heap.size_push]; exact Nat.ne_of_lt (Nat.lt_succ_of_lt hlS)
        have hSf : s.heap.objs.size ∉ [(s.heap.push (newS w)).objs.size, l] := by
          rw [Heap.size_push]; simp only [List.mem_cons, List.mem_singleton, List.not_mem_nil, or_false, not_or]
          exact ⟨Nat.ne_of_lt (Nat.lt_succ_self _), Nat.ne_of_gt hlS⟩
        have hval : ∀ (i : Nat) (v : Value), items[i]? = some v → ∃ k t, xs[i]? = some k ∧ v = .str k t := fun i v hv => by
          have hi : i < xs.length := by rw [← hisz]; exact (Array.getElem?_eq_some_iff.mp hv).1
          exact strsAt hit i v (by rw [Array.getElem?_toList]; exact hv)
        refine sx_loop ((Walks.list hh3 _ l hneI items).toS) s.heap.objs.size
          hSf xs hisz hb hval (items.size - 0) 0 _ (by omega) (Nat.zero_le _)
          ⟨⟨_, Heap.get?_push_size _ rfl, rfl, rfl⟩, (hl1.push _)⟩ ?hS0 ?hR
        case hS0 => exact ⟨(#[], 0, .fresh 0 0 (!w.params.followText "set-order")), [], Heap.get?_push_of_some _ hS, sx_new, fun j => by simp, Nat.le_refl 0⟩
        case hR =>
          intro s' D ls hm hS' F' hms hls
          obtain ⟨h', g2, d', tk', os'⟩ := s'
          have eg : g2 = s.gens := hm.gens
          have ed : d' = s.drawn := hm.drawn
          have eo : os' = s.os := hm.os
          subst eg; subst ed; subst eo
          show wpAny _ _ _ _ _ _
          refine wpAny_pure ?_
          show wpAny _ _ (ret Value.none) _ _ _
          refine wpAny_pure ⟨rfl, h', tk', D, ls, rfl, hS', F', hms, by rw [← hisz]; exact hls, fun b o e => ?_⟩
          have hb0 : b < s.heap.objs.size := Heap.lt_size e
          have hb1 : b ≠ s.heap.objs.size := Nat.ne_of_lt hb0
          have hb2 : b ≠ (s.heap.push (newS w)).objs.size := by
            rw [Heap.size_push]; exact Nat.ne_of_lt (Nat.lt_succ_of_lt hb0)
          exact hm.heap b o (by simp only [List.mem_cons, List.mem_singleton, List.not_mem_nil, or_false, not_or]; exact ⟨hb1, hb2⟩) (Heap.get?_push_of_some _ (Heap.get?_push_of_some _ e))
      · cases r₂ with
        | error e => exact hr₂
        | ok fl₂ =>
          cases fl₂ with
          | ret r =>
            obtain ⟨rfl, h', tk, D, ls, rfl, hS', F', hms, hls, hk'⟩ := hr₂
            repeat (any_goals (first | assumption | wp_step))
            exact h _ _ _ _ hS' F' hms hls hk'
          | _ => exact hr₂.elim
    | _ => exact hr.elim
/-- sorted(set) -/
theorem sorted_setX {a : Addr} {D : SD} {l : List Str} {Q : Value → Shared → Prop} (ho : s.heap.get? a = some (sO D)) (F : SxOk P w D l) (hh : A.handled = none) (h64 : l.length < 64)
    (hQ : ∀ s' p (out : Array Value) (c : Nat) (ss : List Str), (∀ b o, s.heap.get? b = some o → s'.heap.get? b = some o) → s'.gens = s.gens → s'.os = s.os → s.heap.objs.size ≤ p →
      s'.heap.get? p = some (seqObj "list" out c) → StrsAre out.toList ss → ss.Perm l → sortedS ss = true → Q (.ref p) s') :
    wpAny (model P w) A (call (.builtin "sorted") [.ref a]) Q E s := by
  obtain ⟨es, ep, t⟩ := D
  have hsz : es.size = l.length := F.tx.sz
  refine Calls.call_function_entry kind_sorted plain_sorted entry_sorted (args_sorted1 _) ?_
  unfold Builtin.«sorted»
  refine wpAny_bind (m := checkCount "sorted" 1 1 _) (wpAny_pure ?_)
  refine wpAny_bind (collect_set (A := A.in1) hh (es := es) (ep := ep) (t := t) ⟨_, ho, rfl, rfl⟩ F.tx.fit (by rw [hsz]; unfold scanBound; omega) F.ris F.led fun s1 vs k1 hz g1 o1 pm => ?_)
  have hvl : vs.length = l.length := by rw [pm.length_eq, List.length_map, Array.length_toList]; exact hsz
  have hI : StrsAre vs (vs.map strOf) := strsAre_map vs fun v hv => by
    obtain ⟨e, he, q⟩ := List.mem_map.mp (pm.mem_iff.mp hv)
    obtain ⟨x, tk, h1⟩ := F.sv e he
    exact ⟨x, tk, by rw [← q]; exact h1⟩
  have pk : (vs.map strOf).Perm l := (pm.map strOf).trans F.vals
  refine wpAny_bind (wpAny_newList ?_ (by rw [hvl, sizeLine_eq]; omega))
  have hoL : (s1.heap.push (seqObj "list" vs.toArray 0)).get? s1.heap.objs.size = some (seqObj "list" vs.toArray 0) := Heap.get?_push_size _ rfl
  refine wpAny_bind (wpAny_holding (wpAny_call_entry slot_list_sort ⟨_, hoL, rfl⟩ entry_list_sort (list_sort_treeK strKind_oneLt hoL hI.keysOf (fun v₁ v₂ rest e => keyKind_strs (by rw [← e]; exact hI)) (by rw [hvl]; exact h64) fun st' a1 a2 => ⟨_, rfl, ?_⟩) (args_list_sort _)))
  obtain ⟨ss, b1, b2, b3⟩ := sorted_out_str hI a1 a2
  obtain ⟨c, hc⟩ := sortedHeap_at (vs := vs) (out := (arrOf st').map (·.2)) hoL
  refine wpAny_pure ⟨_, rfl, hQ _ s1.heap.objs.size _ c ss (fun b u e => ?_) g1 o1 hz hc b1 (b2.trans pk) b3⟩
  have q := k1 b u e
  have hlt := Heap.lt_size q
  show (sortedHeap (s1.heap.push (seqObj "list" vs.toArray 0)) s1.heap.objs.size vs _).get? b = some u
  rw [sortedHeap_old (Nat.ne_of_lt hlt) (by rw [size_push']; exact Nat.lt_succ_of_lt hlt)]
  exact Heap.get?_push_of_some _ q
end
end Mw
set_option maxHeartbeats 4000000
/-! texts in order: sorted(set(..)), sorted(dict); dict.get, in; list(d.items()); xs[::-1]; tuples put together -/
namespace Mw
open PySem PySem.Spec PyProof.Rows L2
/-! ### the order of texts -/
abbrev ltT (a b : Str) : Bool := ltCps a.cps.toList b.cps.toList
theorem ltC_irr : ∀ a : List Nat, ltCps a a = false
  | [] => rfl
  | a :: r => by
    show (decide (a < a) || (a == a && ltCps r r)) = false
    rw [ltC_irr r]
    simp
theorem ltC_tri : ∀ a b : List Nat, ltCps a b = false → ltCps b a = false → a = b
  | [], [], _, _ => rfl
  | [], _ :: _, h, _ => nomatch h
  | _ :: _, [], _, h => nomatch h
  | a :: r, b :: t, h, g => by
    have h' : (decide (a < b) || (a == b && ltCps r t)) = false := h
    have g' : (decide (b < a) || (b == a && ltCps t r)) = false := g
    simp only [Bool.or_eq_false_iff, Bool.and_eq_false_iff, decide_eq_false_iff_not, beq_eq_false_iff_ne, ne_eq] at h' g'
    have e : a = b := by omega
    subst e
    rw [ltC_tri r t (h'.2.resolve_left fun z => z rfl) (g'.2.resolve_left fun z => z rfl)]
theorem ltC_trans : ∀ a b c : List Nat, ltCps a b = true → ltCps b c = true → ltCps a c = true
  | [], _, [], _, h => by
    rename_i b _
    cases b <;> exact (nomatch h)
  | [], _, _ :: _, _, _ => rfl
  | _ :: _, [], _, h, _ => nomatch h
  | _ :: _, _ :: _, [], _, h => nomatch h
  | a :: r, b :: t, c :: u, h, g => by
    have h' : (decide (a < b) || (a == b && ltCps r t)) = true := h
    have g' : (decide (b < c) || (b == c && ltCps t u)) = true := g
    show (decide (a < c) || (a == c && ltCps r u)) = true
    simp only [Bool.or_eq_true, Bool.and_eq_true, decide_eq_true_eq, beq_iff_eq] at h' g' ⊢
    rcases h' with h1 | ⟨h1, h2⟩
    · rcases g' with g1 | ⟨g1, g2⟩
      · exact .inl (by omega)
      · exact .inl (by omega)
    · rcases g' with g1 | ⟨g1, g2⟩
      · exact .inl (by omega)
      · exact .inr ⟨by omega, ltC_trans r t u h2 g2⟩
theorem ltT_tri {a b : Str} (h : ltT a b = false) (g : ltT b a = false) : a = b := by
  have e := ltC_tri _ _ h g
  cases a; cases b
  simp only [Str.mk.injEq]
  exact Array.toList_inj.mp e
def insT (x : Str) : List Str → List Str
  | [] => [x]
  | y :: r => if ltT x y = true then x :: y :: r else if x = y then y :: r else y :: insT x r
def sortT (xs : List Str) : List Str := xs.foldr insT []
def RisT (l : List Str) : Prop := l.Pairwise fun a b => ltT a b = true
theorem mem_insT {x z : Str} : ∀ {l : List Str}, z ∈ insT x l ↔ z = x ∨ z ∈ l
  | [] => by simp [insT]
  | y :: r => by
    unfold insT
    split
    · rw [List.mem_cons]
    · split
      · rename_i e
        rw [e, List.mem_cons]
        exact ⟨.inr, fun h => h.elim .inl id⟩
      · rw [List.mem_cons, mem_insT, List.mem_cons]
        exact ⟨fun h => h.elim (fun a => .inr (.inl a)) fun a => a.elim .inl fun b => .inr (.inr b), fun h => h.elim (fun a => .inr (.inl a)) fun a => a.elim .inl fun b => .inr (.inr b)⟩
theorem ris_insT {x : Str} : ∀ {l : List Str}, RisT l → RisT (insT x l)
  | [], _ => List.pairwise_singleton _ _
  | y :: r, h => by
    have h1 := List.pairwise_cons.mp h
    unfold insT
    split
    · rename_i e
      refine List.pairwise_cons.mpr ⟨fun z hz => ?_, h⟩
      rcases List.mem_cons.mp hz with q | q
      · rw [q]; exact e
      · exact ltC_trans _ _ _ e (h1.1 z q)
    · split
      · exact h
      · rename_i e1 e2
        refine List.pairwise_cons.mpr ⟨fun z hz => ?_, ris_insT h1.2⟩
        rcases mem_insT.mp hz with q | q
        · rw [q]
          cases g : ltT y x with
          | true => rfl
          | false => exact absurd (ltT_tri (by simpa using e1) g) e2
        · exact h1.1 z q
theorem mem_sortT {z : Str} : ∀ {l : List Str}, z ∈ sortT l ↔ z ∈ l
  | [] => Iff.rfl
  | x :: l => by
    show z ∈ insT x (sortT l) ↔ _
    rw [mem_insT, mem_sortT, List.mem_cons]
theorem ris_sortT : ∀ l : List Str, RisT (sortT l)
  | [] => List.Pairwise.nil
  | x :: l => ris_insT (ris_sortT l)
/-- rising texts with the same members are the same -/
theorem ris_uniq : ∀ {l m : List Str}, RisT l → RisT m → (∀ z, z ∈ l ↔ z ∈ m) → l = m
  | [], [], _, _, _ => rfl
  | [], y :: m, _, _, h => by have := (h y).mpr List.mem_cons_self; cases this
  | x :: l, [], _, _, h => by have := (h x).mp List.mem_cons_self; cases this
  | x :: l, y :: m, hl, hm, h => by
    have h1 := List.pairwise_cons.mp hl
    have h2 := List.pairwise_cons.mp hm
    have e : x = y := by
      rcases List.mem_cons.mp ((h x).mp List.mem_cons_self) with q | q
      · exact q
      rcases List.mem_cons.mp ((h y).mpr List.mem_cons_self) with q' | q'
      · exact q'.symm
      have a := h2.1 x q
      have b := h1.1 y q'
      have c := ltC_trans _ _ _ a b
      rw [ltC_irr] at c
      cases c
    subst e
    rw [ris_uniq h1.2 h2.2 fun z => ?_]
    have nl : x ∉ l := fun q => by have := h1.1 x q; rw [show ltT x x = false from ltC_irr _] at this; cases this
    have nm : x ∉ m := fun q => by have := h2.1 x q; rw [show ltT x x = false from ltC_irr _] at this; cases this
    constructor
    · intro q
      rcases List.mem_cons.mp ((h z).mp (List.mem_cons_of_mem _ q)) with r | r
      · rw [r] at q; exact absurd q nl
      · exact r
    · intro q
      rcases List.mem_cons.mp ((h z).mpr (List.mem_cons_of_mem _ q)) with r | r
      · rw [r] at q; exact absurd q nm
      · exact r
theorem rising_all : ∀ {p : Str} {l : List Str}, risingS p l = true → (∀ x ∈ l, ltT x p = false) ∧ l.Pairwise (fun a b => ltT b a = false)
  | p, [], _ => ⟨fun x h => (nomatch h), List.Pairwise.nil⟩
  | p, x :: r, h => by
    have h' : (!ltCps x.cps.toList p.cps.toList && risingS x r) = true := h
    rw [Bool.and_eq_true, Bool.not_eq_true'] at h'
    obtain ⟨q1, q2⟩ := rising_all h'.2
    refine ⟨fun y hy => ?_, List.pairwise_cons.mpr ⟨q1, q2⟩⟩
    rcases List.mem_cons.mp hy with e | e
    · rw [e]; exact h'.1
    · have a := q1 y e
      cases g : ltT y p with
      | false => rfl
      | true =>
        cases g2 : ltT p x with
        | true => have c := ltC_trans _ _ _ g g2; rw [show ltCps y.cps.toList x.cps.toList = false from a] at c; cases c
        | false =>
          have e2 : p = x := ltT_tri g2 h'.1
          rw [e2] at g
          rw [show ltT y x = false from a] at g
          cases g
theorem ris_of_sorted {l : List Str} (h : sortedS l = true) (nd : l.Nodup) : RisT l := by
  cases l with
  | nil => exact List.Pairwise.nil
  | cons x r =>
    obtain ⟨q1, q2⟩ := rising_all (p := x) (l := r) h
    refine List.Pairwise.imp₂ (fun a b h1 h2 => ?_) (List.pairwise_cons.mpr ⟨q1, q2⟩ : (x :: r).Pairwise fun a b => ltT b a = false) nd
    cases g : ltT a b with
    | true => rfl
    | false => exact absurd (ltT_tri g h1) h2
theorem sortT_eq {l m : List Str} (h : sortedS l = true) (nd : l.Nodup) (hm : ∀ z, z ∈ l ↔ z ∈ m) : l = sortT m := ris_uniq (ris_of_sorted h nd) (ris_sortT m) fun z => (hm z).trans mem_sortT.symm
theorem len_insT {x : Str} : ∀ l : List Str, (insT x l).length ≤ l.length + 1
  | [] => Nat.le_refl _
  | y :: r => by
    unfold insT
    split
    · exact Nat.le_refl _
    · split
      · exact Nat.le_succ _
      · have := len_insT (x := x) r
        rw [List.length_cons, List.length_cons]
        omega
theorem len_sortT : ∀ l : List Str, (sortT l).length ≤ l.length
  | [] => Nat.le_refl _
  | x :: l => by
    have h := len_insT (x := x) (sortT l)
    have g := len_sortT l
    show (insT x (sortT l)).length ≤ _
    rw [List.length_cons]
    omega
theorem IsL.rev {K : PySem.W.Frag} {H : Hp} : ∀ {ds : List D} {vs : List V}, IsL K H ds vs → IsL K H ds.reverse vs.reverse
  | [], _, h => by rw [show _ = [] from h]; rfl
  | d :: ds, _, h => by
    obtain ⟨v, r, h1, h2, h3⟩ := h
    rw [h1, List.reverse_cons, List.reverse_cons]
    exact (IsL.rev h3).app (.one h2)
/-! ### sorted(set(xs)) -/
def SetX (P : Program) (w : World) (a : Addr) (xs : List Str) : HO := .ext fun h => ∃ D ls, h.get? a = some (sO D) ∧ SxOk P w D ls ∧ (∀ j, j ∈ ls ↔ j ∈ xs) ∧ ls.length ≤ xs.length
section
variable {X : Cx}
theorem setX_new {P : Program} {w : World} {H : Hp} {h : Heap} {a : Addr} {xs ls : List Str} {D : SD} (h1 : h.get? a = some (sO D)) (h2 : SxOk P w D ls) (h3 : ∀ j, j ∈ ls ↔ j ∈ xs) (h4 : ls.length ≤ xs.length) : ObjOk P w H h a (SetX P w a xs) :=
  ⟨⟨D, ls, h1, h2, h3, h4⟩, ⟨_, h1⟩, fun _ _ ⟨D', ls', g1, g⟩ k => ⟨D', ls', k _ g1, g⟩⟩
theorem strs_of_vals : ∀ {xs : List Str} {us : List Value}, Vals (xs.map V.str) us → StrsAre us xs
  | [], _, .nil => .nil
  | x :: xs, _, .cons ⟨t, e⟩ r => by rw [e]; exact .cons x t (strs_of_vals r)
theorem vals_of_strs : ∀ {xs : List Str} {us : List Value}, StrsAre us xs → Vals (xs.map V.str) us
  | _, _, .nil => .nil
  | _, _, .cons x t r => .cons ⟨t, rfl⟩ (vals_of_strs r)
def rSetX (K : PySem.W.Frag) (P : Program) (w : World) : List V → Hp → VK → Prop := fun vs H Q => ∃ (l : Addr) (xs : List Str), vs = [V.ref l] ∧ SqL K H l (xs.map V.str) ∧ xs.length < 64 ∧ ∀ a, H a = none → Q (.ref a) (upd H a (SetX P w a xs))
theorem cr_setX (hc : X.calm = true) : CallR X (.type "set") (rSetX X.K X.prog X.w) := by
  intro pins s σ H vs us Q I r h
  obtain ⟨l, xs, rfl, hl, hf, q⟩ := h
  rw [Vals.ref1 r]
  obtain ⟨its, rv, pl, hz⟩ := I.list hl
  refine call_setX (P := X.prog) (w := X.w) xs (I.ok.hd hc) pl.isList (by simpa using strs_of_vals rv) (by unfold scanBound; omega) fun h' tk D ls g1 g2 g3 g4 k => ?_
  exact ⟨.ref s.heap.objs.size, upd H s.heap.objs.size (SetX X.prog X.w s.heap.objs.size xs), I.laid (t' := tk) k (Nat.le_refl _) (setX_new g1 g2 g3 g4), rfl, q _ (I.hok.fresh (Nat.le_refl _))⟩
def rSortX (P : Program) (w : World) : List V → Hp → VK → Prop := fun vs H Q => ∃ (a : Addr) (xs : List Str), vs = [V.ref a] ∧ H a = some (SetX P w a xs) ∧ xs.length < 64 ∧ ∀ p, H p = none → Q (.ref p) (upd H p (.lst ((sortT xs).map V.str)))
theorem cr_sortX (hc : X.calm = true) : CallR X (.builtin "sorted") (rSortX X.prog X.w) := by
  intro pins s σ H vs us Q I r h
  obtain ⟨a, xs, rfl, ha, h64, q⟩ := h
  obtain ⟨D, ls, g1, g2, g3, g4⟩ := (I.hok a _ ha).1
  rw [Vals.ref1 r]
  refine sorted_setX g1 g2 (I.ok.hd hc) (by omega) fun s' p out c ss k g o hp hg hi pm hs => ?_
  have es : ss = sortT xs := sortT_eq hs (pm.nodup_iff.mpr g2.nd) fun z => pm.mem_iff.trans (g3 z)
  subst es
  have hlen : ((sortT xs).map V.str).length ≤ sizeLine := by have := len_sortT xs; rw [List.length_map, sizeLine_eq]; omega
  have hn : H p = none := I.hok.fresh hp
  have J : Inv X pins σ (upd H p (.lst ((sortT xs).map V.str))) { s with heap := s'.heap, gens := s'.gens, drawn := s'.drawn, toks := s'.toks } :=
    I.call (ch := []) (Un.laid k hp hn) (I.hok.laid k hp ⟨hlen, out.toList, c, vals_of_strs hi, hg⟩) (by rw [g]; exact I.bare) (fun _ z => nomatch z)
  have e : s' = { s with heap := s'.heap, gens := s'.gens, drawn := s'.drawn, toks := s'.toks } := by
    cases s'
    cases s
    cases o
    rfl
  rw [e]
  exact ⟨.ref p, _, J, rfl, q p hn⟩
end
section
variable {X : Cx} {gs : List Str} {as : DE} {e : Expr} {xs : List Str} {p p2 pos pos2 : Pos} {i j : Nat}
theorem boot_sorted' : bootBuiltins "sorted" = some (.builtin "sorted") := by first | exact boot_sorted | rfl | kernel_rfl
theorem boot_set' : bootBuiltins "set" = some (.type "set") := by first | exact boot_set | rfl | kernel_rfl
theorem en_sortSet (B : Gls X gs) (hc : X.calm = true) (h1 : At gs "sorted" i) (h2 : At gs "set" j) (m1 : X.mg "sorted" = none) (m2 : X.mg "set" = none) (he : EE X e as (.lst (xs.map D.str))) (hl : xs.length < 64)
    (hs : starEach [e] X.env = (false, eval e X.env) :: starEach [] X.env := by rfl)
    (hs2 : starEach [.Call (.Name "set" p2) [e] [] pos2] X.env = (false, eval (.Call (.Name "set" p2) [e] [] pos2) X.env) :: starEach [] X.env := by rfl) :
    EN X (.Call (.Name "sorted" p) [.Call (.Name "set" p2) [e] [] pos2] [] pos) as (.lst ((sortT xs).map D.str)) := .mk fun σ H0 H hsm hf Q q => by
  obtain ⟨g1, g2, g3⟩ := B.at_ _ _ h1
  obtain ⟨f1, f2, f3⟩ := B.at_ _ _ h2
  refine re_of (pe_callB (cr_sortX hc) g1 m1 boot_sorted' (pa_cons (pe_callTy (cr_setX hc) f1 m2 boot_set' (pa_cons re_pe pa_nil hs) f3 f2 hs rfl) pa_nil hs2) g3 g2 hs2 rfl) ?_
  refine he.run σ H0 H hsm hf _ fun v H1 H' g iv => ?_
  obtain ⟨a, ws, rfl, hq, hv⟩ := iv
  rw [isL_strs hv] at hq
  refine ⟨a, xs, rfl, Same.lst g.sub hq, hl, fun b hb => ?_⟩
  refine ⟨b, xs, rfl, upd_same, hl, fun c hc2 => ?_⟩
  have gg := (g.trans (Grow.made g.sub hb)).trans (Grow.made (o := .lst ((sortT xs).map V.str)) (g.sub.trans (Same.new hb)) hc2)
  exact q c H1 _ gg ((g.trans (Grow.made (o := SetX X.prog X.w b xs) g.sub hb)).all.free hc2) ((g.sub.trans (Same.new hb)).free hc2) ⟨_, upd_same, strs_isL _⟩
/-! ### sorted(d) -/
def keysT (ks : List (Str × D)) : List (Key × D) := ks.map fun k => (Sum.inr k.1, k.2)
theorem en_sortD {ks : List (Str × D)} (B : Gls X gs) (hc : X.calm = true) (h1 : At gs "sorted" i) (m1 : X.mg "sorted" = none) (he : EE X e as (.dct (keysT ks))) (nd : (ks.map (·.1)).Nodup) (hl : ks.length < 64)
    (hs : starEach [e] X.env = (false, eval e X.env) :: starEach [] X.env := by rfl) :
    EN X (.Call (.Name "sorted" p) [e] [] pos) as (.lst ((sortT (ks.map (·.1))).map D.str)) := .mk fun σ H0 H hsm hf Q q => by
  obtain ⟨g1, g2, g3⟩ := B.at_ _ _ h1
  refine re_of (pe_callB (call_sortedD hc) g1 m1 boot_sorted' (pa_cons re_pe pa_nil hs) g3 g2 hs rfl) ?_
  refine he.run σ H0 H hsm hf _ fun v H1 H' g iv => ?_
  obtain ⟨a, kvs, rfl, hq, hv⟩ := iv
  have hk : kvs.map (·.1) = (ks.map (·.1)).map Sum.inr := by
    have : ∀ (ks : List (Str × D)) (kvs : List (Key × V)), IsK X.K H1 (keysT ks) kvs → kvs.map (·.1) = (ks.map (·.1)).map Sum.inr := by
      intro ks
      induction ks with
      | nil => intro kvs h; rw [show kvs = [] from h]; rfl
      | cons k ks ih =>
        intro kvs h
        obtain ⟨w, r, h1, _, h3⟩ := h
        rw [h1, List.map_cons, ih r h3]
        rfl
    exact this ks kvs hv
  refine ⟨a, kvs, ks.map (·.1), rfl, Same.rd g.sub hq, hk, by rw [List.length_map]; exact hl, fun ys b pm hs hb => ?_⟩
  have es : ys = sortT (ks.map (·.1)) := sortT_eq hs (pm.nodup_iff.mpr nd) fun z => pm.mem_iff
  subst es
  exact q b H1 _ (g.trans (Grow.made g.sub hb)) (g.all.free hb) (g.sub.free hb) ⟨_, upd_same, strs_isL _⟩
/-! ### d.get(k, x), k in d -/
variable {k : Key} {d : D} {ks : List (Key × D)} {o f : Expr} {kk : Nat} {apos cpos : Pos}
theorem ee_dget2 {x : D} (hr : Room kk X.A) (ho : EE X o as (.dct ks)) (he : EE X e as (kD k)) (hf : EE X f as x)
    (m : M2 X o "get" apos e f cpos := by exact ⟨rfl, rfl, rfl, rfl⟩) : EE X (.Call (.Attribute o "get" apos) [e, f] [] cpos) as ((valD ks k).getD x) := .mk fun σ H0 H hs hsl Q q => by
  refine re_of (pe_dget2 (by have := hr.units; omega) re_pe re_pe re_pe m) ?_
  refine ho.run σ H0 H hs hsl _ fun v H1 H' g iv => ?_
  obtain ⟨a, kvs, e1, e2, e3⟩ := iv
  refine ⟨a, e1, .inl ⟨kvs, Same.rd g.sub e2⟩, ?_⟩
  refine he.run σ H1 H' g.sub (hsl.mono g.frz) _ fun w H2 H2' g' iw => hf.run σ H2 H2' g'.sub (hsl.mono (g.frz.trans g'.frz)) _ fun z H3 H3' g'' iz => ?_
  have fr := g'.frz.trans g''.frz
  refine ⟨valV kvs k, .inl ⟨kvs, k, Same.rd (fr.trans g''.sub) e2, kD_is iw, rfl⟩, ?_⟩
  have gg := (g.trans g').trans g''
  cases hv : valD ks k with
  | none =>
    rw [(e3.mono fr).noval hv]
    exact q z H3 H3' gg (by rw [hv]; exact iz)
  | some d =>
    obtain ⟨x, hx, ix⟩ := (e3.mono fr).val hv
    rw [hx]
    exact q x H3 H3' gg (by rw [hv]; exact ix)
theorem op_inK (hu : X.A.units + 1 < cLine) : OpR X (compareOp .In) (fun x y H Q => ∃ a kvs k, x = kV k ∧ y = .ref a ∧ Rd H a (.dK kvs) ∧ Q (.bl (valV kvs k).isSome) H) := by
  intro pins s σ H x y v u Q I rx ry h
  obtain ⟨a, kvs, k, rfl, rfl, hr, q⟩ := h
  obtain rfl : u = Value.ref a := ry
  exact d_in hu I (.inl ⟨kvs, k, hr, rfl, rfl⟩) rx fun s3 I3 => ⟨.bl (valV kvs k).isSome, H, I3, rfl, q⟩
theorem op_ninK (hu : X.A.units + 1 < cLine) : OpR X (compareOp .NotIn) (fun x y H Q => ∃ a kvs k, x = kV k ∧ y = .ref a ∧ Rd H a (.dK kvs) ∧ Q (.bl (!(valV kvs k).isSome)) H) := by
  intro pins s σ H x y v u Q I rx ry h
  obtain ⟨a, kvs, k, rfl, rfl, hr, q⟩ := h
  obtain rfl : u = Value.ref a := ry
  exact d_notIn hu I (.inl ⟨kvs, k, hr, rfl, rfl⟩) rx fun s3 I3 => ⟨.bl (!(valV kvs k).isSome), H, I3, rfl, q⟩
theorem IsK.isSome {K : PySem.W.Frag} {H : Hp} {kvs : List (Key × V)} (h : IsK K H ks kvs) : (valV kvs k).isSome = (valD ks k).isSome := by
  cases hv : valD ks k with
  | none => rw [h.noval hv]; rfl
  | some d =>
    obtain ⟨x, hx, _⟩ := h.val hv
    rw [hx]; rfl
theorem oc_inK (hr : Room kk X.A) : OpD X (compareOp .In) (kD k) (.dct ks) (.bl (valD ks k).isSome) := .flat (op_inK (by have := hr.units; omega)) (fun _ => rfl) fun v w H h1 h2 Q q => by
  obtain ⟨a, kvs, e1, e2, e3⟩ := h2
  exact ⟨a, kvs, k, kD_is h1, e1, e2, by rw [e3.isSome]; exact q⟩
theorem oc_ninK (hr : Room kk X.A) : OpD X (compareOp .NotIn) (kD k) (.dct ks) (.bl (!(valD ks k).isSome)) := .flat (op_ninK (by have := hr.units; omega)) (fun _ => rfl) fun v w H h1 h2 Q q => by
  obtain ⟨a, kvs, e1, e2, e3⟩ := h2
  exact ⟨a, kvs, k, kD_is h1, e1, e2, by rw [e3.isSome]; exact q⟩
/-! ### xs[::-1], s + t -/
theorem en_revL {ds : List D} {k0 : Nat} {p1 p3 : Pos} (he : EE X e as (.lst ds)) : EN X (.Subscript e (.Slice none none (some (.UnaryOp .USub (.Constant (.int 1) k0 p1) p2)) p3) pos) as (.lst ds.reverse) := .mk fun σ H0 H hs hf Q q => by
  refine re_of (pe_revL re_pe) ?_
  refine he.run σ H0 H hs hf _ fun v H1 H' g iv => ?_
  obtain ⟨a, vs, rfl, hq, hv⟩ := iv
  refine ⟨a, vs, rfl, Same.lst g.sub hq, fun b hb => q b H1 _ (g.trans (Grow.made g.sub hb)) (g.all.free hb) (g.sub.free hb) ⟨_, upd_same, ?_⟩⟩
  exact IsL.rev hv
/-! ### list(d.items()) -/
theorem pe_itemsR {te : TE} (hc : X.calm = true) (he : PE X o te) (hg : Gl X "list") (hm : X.mg "list" = none) (hbase : attributeBase o "items" X.env (eval o X.env) = eval o X.env := by rfl) (hline : (apos.endLine == cpos.line) = true := by rfl)
    (hs : starEach [.Call (.Attribute o "items" apos) [] [] cpos] X.env = (false, eval (.Call (.Attribute o "items" apos) [] [] cpos) X.env) :: starEach [] X.env := by rfl) :
    PE X (.Call (.Name "list" p) [.Call (.Attribute o "items" apos) [] [] cpos] [] pos) (fun σ H Q => te σ H fun x H1 => ∃ (d : Addr) (kvs : List (Key × V)), x = .ref d ∧ Rd H1 d (.dK kvs) ∧
      ∀ (H' : Hp) (p : Addr) (ts : List Addr), (∀ b o, H1 b = some o → H' b = some o) → H1 p = none → (∀ t ∈ ts, H1 t = none) → p ∉ ts → H' p = some (.lst (ts.map V.ref)) → Paired (fun (t : Addr) (q : Key × V) => H' t = some (.tup [kV q.1, q.2])) ts kvs → Q (.ref p) H') := by
  refine ⟨fun pins s σ H Q I hq => ?_⟩
  refine wpAny_Call_Name_kw (ld_blt I hg hm boot_list ?_)
  refine PyProof.Rows.callWith_type1 ?_ hs rfl
  rw [hs]
  show wpAny _ _ (spliced ((false, eval (.Call (.Attribute o "items" apos) [] [] cpos) X.env) :: backTo pos (starEach [] X.env))) _ _ s
  refine Calls.spliced_cons ?_
  refine wpAny_Call_method (T := "dict") (id := "dict.items") hbase rfl hline PySem.F.plainAttrs_dict PySem.F.slot_dict_items PySem.F.type_dict_items (thn (he.run pins s σ H _ I hq) fun u s1 ⟨x, H1, I1, rx, d, kvs, ex, hd, q⟩ => ?_)
  subst ex
  obtain rfl : u = Value.ref d := rx
  obtain ⟨hz, hs0, vs, kv, hdo⟩ := dk_rd I1.hok hd
  obtain ⟨ep, hat⟩ := hdo.dictAt
  have lk : kvs.length = vs.length := Paired.length kv
  have I2 : Inv X pins σ H1 { s1 with heap := s1.heap.push { cls := .type "dict_items", data := .fields #[.ref d] } } := I1.kept (t' := s1.toks) fun b ob q => Heap.get?_push_of_some _ q
  refine ⟨hdo.typeIs, hdo.mapOf.noDict, ?_⟩
  show wpAny _ _ (callWith cpos (.builtin "dict.items") [.ref d] [] []) _ X.xe s1
  refine method_meetsIn PySem.F.slot_dict_items PySem.F.entry_dict_items rfl (PySem.evalArgs_none ⟨rfl, hdo.typeIs, PySem.F.args_dict_items_1 _, _, meets_dict_items (mixKind X.prog X.w) d hs0, ⟨vs, hdo⟩, ?_⟩)
  refine Calls.spliced_nil ?_
  refine PySem.W.kdx_call (knd := mixKind X.prog X.w) (kvs := vs) (ep := ep) (I1.ok.hd hc) ⟨_, Heap.get?_push_size _ rfl, rfl, rfl⟩ (hat.push _) (by omega) fun h' tk acc c as hk hS hl hG hacc => ?_
  obtain ⟨H', k1, k2, k3, k4, k5, k6, J⟩ := LiI.items_laid (tk := tk) I2 hz kv hk hS hl hG hacc
  exact ⟨.ref _, H', J, rfl, q H' _ as k1 k2 k3 k4 k5 k6⟩
theorem is_items {K : PySem.W.Frag} {H0 H' : Hp} : ∀ {ks : List (Key × D)} {kvs : List (Key × V)} {ts : List Addr}, IsK K H0 ks kvs → Paired (fun (t : Addr) (q : Key × V) => H' t = some (.tup [kV q.1, q.2])) ts kvs → ∀ {H1 : Hp}, Same H0 H1 → (∀ t ∈ ts, H1 t = H' t) →
    IsL K H1 (ks.map fun k => .tup [kD k.1, k.2]) (ts.map V.ref)
  | [], _, _, h, hp, _, _, _ => by
    rw [show _ = [] from h] at hp
    cases hp
    exact rfl
  | (k, d) :: ks, _, _, ⟨v, r, h1, h2, h3⟩, hp, H1, e, ht => by
    subst h1
    cases hp with
    | cons a b =>
      rename_i t ts
      refine ⟨.ref t, _, rfl, ⟨t, _, rfl, SqT.of ((ht t List.mem_cons_self).trans a), kV k, [v], rfl, ?_, v, [], rfl, h2.mono e, rfl⟩, is_items h3 b e fun z hz => ht z (List.mem_cons_of_mem _ hz)⟩
      cases k <;> exact rfl
open Classical in
theorem en_items {ks : List (Key × D)} (B : Gls X gs) (hc : X.calm = true) (h1 : At gs "list" i) (m1 : X.mg "list" = none) (ho : EE X o as (.dct ks))
    (hbase : attributeBase o "items" X.env (eval o X.env) = eval o X.env := by rfl) (hline : (apos.endLine == cpos.line) = true := by rfl)
    (hs : starEach [.Call (.Attribute o "items" apos) [] [] cpos] X.env = (false, eval (.Call (.Attribute o "items" apos) [] [] cpos) X.env) :: starEach [] X.env := by rfl) :
    EN X (.Call (.Name "list" p) [.Call (.Attribute o "items" apos) [] [] cpos] [] pos) as (.lst (ks.map fun k => .tup [kD k.1, k.2])) := .mk fun σ H0 H hsm hf Q q => by
  obtain ⟨g1, g2, g3⟩ := B.at_ _ _ h1
  refine re_of (pe_itemsR hc re_pe g1 m1 hbase hline hs) ?_
  refine ho.run σ H0 H hsm hf _ fun v H1 H' g iv => ?_
  obtain ⟨a, kvs, rfl, hq, hv⟩ := iv
  refine ⟨a, kvs, rfl, Same.rd g.sub hq, fun H2 p ts k hp ht hn hl hpr => ?_⟩
  have hnt : ∀ b ∈ ts, H1 b = none := fun b hb => g.sub.free (ht b hb)
  let HF : Hp := fun b => if b ∈ ts then H2 b else H1 b
  have s1 : Same H1 HF := fun b o e => by
    show (if b ∈ ts then H2 b else H1 b) = some o
    split
    · rename_i hb; rw [hnt b hb] at e; cases e
    · exact e
  have s2 : Same HF H2 := fun b o e => by
    have e' : (if b ∈ ts then H2 b else H1 b) = some o := e
    split at e'
    · exact e'
    · exact k b o (g.sub b o e')
  have gg : Grow H1 H' HF H2 := ⟨s1, k, s2, fun b hb => by
    have e' : (if b ∈ ts then H2 b else H1 b) ≠ none := hb
    split at e'
    · rename_i hm; exact .inr (ht b hm)
    · exact .inl e'⟩
  refine q p HF H2 (g.trans gg) (g.all.free hp) ?_ ⟨_, hl, is_items hv hpr s1 fun t hm => if_pos hm⟩
  show (if p ∈ ts then H2 p else H1 p) = none
  rw [if_neg hn]
  exact g.sub.free hp
theorem od_catT {ds es : List D} (h : ds.length + es.length ≤ sizeLine) : OpD X (binaryOp .Add) (.tup ds) (.tup es) (.tup (ds ++ es)) := ⟨_, op_catA, fun v w H0 H hs h1 h2 Q q => by
  obtain ⟨a, vs, rfl, q1, i1⟩ := id h1
  obtain ⟨b, ws, rfl, q2, i2⟩ := id h2
  refine ⟨a, b, vs, ws, rfl, rfl, Same.tup hs q1, Same.tup hs q2, by rw [i1.len, i2.len]; exact h, fun e => ?_, fun _ e => ?_, fun _ _ p hp => ?_⟩
  · subst e
    have e2 : ds = [] := List.eq_nil_of_length_eq_zero (i1.len.symm.trans rfl)
    subst e2
    exact q _ H0 H (Grow.refl hs) h2
  · subst e
    have e2 : es = [] := List.eq_nil_of_length_eq_zero (i2.len.symm.trans rfl)
    subst e2
    rw [List.append_nil] at q
    exact q _ H0 H (Grow.refl hs) h1
  · exact q _ (upd H0 p (.tup (vs ++ ws))) _ (Grow.laid hs hp) ⟨p, vs ++ ws, rfl, SqT.of upd_same, (i1.app i2).mono (Same.new (hs.free hp))⟩⟩
/-! ### methods of texts, builtins by name -/
variable {z sp : Str} {ds : List D} {x : D}
theorem en_split (ho : EE X o as (.str z)) (he : EE X e as (.str sp)) (hs0 : (sp.length == 0) = false) (hz : z.length + 2 ≤ sizeLine)
    (hbase : attributeBase o "split" X.env (eval o X.env) = eval o X.env := by rfl)
    (hfew : ((backTo cpos (starEach [e] X.env)).all (fun x => !x.1) && (backToKw cpos (keywordEach [] X.env)).all (fun x => x.1.isSome)
      && decide ([e].length + ([] : List Keyword).length + (if ([] : List Keyword).isEmpty then 0 else 1) < 30)) = true := by rfl)
    (hline : (apos.endLine == cpos.line) = true := by rfl) (hs : starEach [e] X.env = (false, eval e X.env) :: starEach [] X.env := by rfl) : EN X (.Call (.Attribute o "split" apos) [e] [] cpos) as (.lst ((Txt.split z sp).map D.str)) :=
  en_bm ho (ea_cons he ea_nil hs) rfl PySem.F.plainAttrs_str PySem.F.slot_str_split PySem.F.type_str_split (cm_split hs0 hz) hbase hfew hline hs rfl
theorem e_part (ho : EE X o as (.str z)) (he : EE X e as (.str sp)) (hs0 : (sp.length == 0) = false) (hz : z.length ≤ sizeLine)
    (hbase : attributeBase o "partition" X.env (eval o X.env) = eval o X.env := by rfl)
    (hfew : ((backTo cpos (starEach [e] X.env)).all (fun x => !x.1) && (backToKw cpos (keywordEach [] X.env)).all (fun x => x.1.isSome)
      && decide ([e].length + ([] : List Keyword).length + (if ([] : List Keyword).isEmpty then 0 else 1) < 30)) = true := by rfl)
    (hline : (apos.endLine == cpos.line) = true := by rfl) (hs : starEach [e] X.env = (false, eval e X.env) :: starEach [] X.env := by rfl) : EE X (.Call (.Attribute o "partition" apos) [e] [] cpos) as (.tup [.str (Txt.partition z sp).1, .str (Txt.partition z sp).2.1, .str (Txt.partition z sp).2.2]) :=
  ee_bm ho (ea_cons he ea_nil hs) rfl PySem.F.plainAttrs_str PySem.F.slot_str_partition PySem.F.type_str_partition (cm_part hs0 hz) hbase hfew hline hs rfl
theorem e_join {ys : List Str} (ho : EE X o as (.str z)) (he : EE X e as (.lst (ys.map D.str))) (hz : (ys.map (·.length)).sum + ys.length * z.length ≤ 16777216)
    (hbase : attributeBase o "join" X.env (eval o X.env) = eval o X.env := by rfl)
    (hfew : ((backTo cpos (starEach [e] X.env)).all (fun x => !x.1) && (backToKw cpos (keywordEach [] X.env)).all (fun x => x.1.isSome)
      && decide ([e].length + ([] : List Keyword).length + (if ([] : List Keyword).isEmpty then 0 else 1) < 30)) = true := by rfl)
    (hline : (apos.endLine == cpos.line) = true := by rfl) (hs : starEach [e] X.env = (false, eval e X.env) :: starEach [] X.env := by rfl) : EE X (.Call (.Attribute o "join" apos) [e] [] cpos) as (.str (Txt.join z ys)) :=
  ee_bm ho (ea_cons he ea_nil hs) rfl PySem.F.plainAttrs_str PySem.F.slot_str_join PySem.F.type_str_join (cm_joinL hz) hbase hfew hline hs rfl
theorem e_all {bs : List Bool} (B : Gls X gs) (hc : X.calm = true) (h : At gs "all" i) (hm : X.mg "all" = none) (he : EE X e as (.lst (bs.map D.bl))) (hs : starEach [e] X.env = (false, eval e X.env) :: starEach [] X.env := by rfl) : EE X (.Call (.Name "all" p) [e] [] pos) as (.bl (bs.all id)) :=
  let ⟨h1, h2, h3⟩ := B.at_ _ _ h
  ee_callB (ea_cons he ea_nil hs) (ca_all hc) h1 hm boot_all h3 h2 hs rfl
theorem e_sum {ns : List Int} (B : Gls X gs) (hc : X.calm = true) (h : At gs "sum" i) (hm : X.mg "sum" = none) (he : EE X e as (.lst (ns.map D.int))) (hs : starEach [e] X.env = (false, eval e X.env) :: starEach [] X.env := by rfl) : EE X (.Call (.Name "sum" p) [e] [] pos) as (.int ns.sum) :=
  let ⟨h1, h2, h3⟩ := B.at_ _ _ h
  ee_callB (ea_cons he ea_nil hs) (ca_sum hc) h1 hm boot_sum h3 h2 hs rfl
theorem e_max2 {a b : Int} (B : Gls X gs) (hc : X.calm = true) (h : At gs "max" i) (hm : X.mg "max" = none) (he : EE X e as (.int a)) (hf : EE X f as (.int b)) (hs : starEach [e, f] X.env = (false, eval e X.env) :: starEach [f] X.env := by rfl) (hs2 : starEach [f] X.env = (false, eval f X.env) :: starEach [] X.env := by rfl)
    (hpl : (backTo pos (starEach [f] X.env)).any (·.1) = false := by rfl) : EE X (.Call (.Name "max" p) [e, f] [] pos) as (.int (if b > a then b else a)) :=
  let ⟨h1, h2, h3⟩ := B.at_ _ _ h
  ee_callB (ea_cons he (ea_cons hf ea_nil hs2) hs) (ca_max2 hc) h1 hm boot_max h3 h2 hs hpl
theorem e_tupL (B : Gls X gs) (h : At gs "tuple" i) (hm : X.mg "tuple" = none) (he : EE X e as (.lst ds)) (hs : starEach [e] X.env = (false, eval e X.env) :: starEach [] X.env := by rfl) : EE X (.Call (.Name "tuple" p) [e] [] pos) as (.tup ds) :=
  let ⟨h1, h2, h3⟩ := B.at_ _ _ h
  ee_callTy (ea_cons he ea_nil hs) ca_tupL h1 hm boot_tuple h3 h2 hs rfl
theorem n_listT (B : Gls X gs) (h : At gs "list" i) (hm : X.mg "list" = none) (he : EE X e as (.tup ds)) (hs : starEach [e] X.env = (false, eval e X.env) :: starEach [] X.env := by rfl) : EN X (.Call (.Name "list" p) [e] [] pos) as (.lst ds) :=
  let ⟨h1, h2, h3⟩ := B.at_ _ _ h
  en_callTy (ea_cons he ea_nil hs) cn_listT h1 hm boot_list h3 h2 hs rfl
theorem n_listL (B : Gls X gs) (h : At gs "list" i) (hm : X.mg "list" = none) (he : EE X e as (.lst ds)) (hs : starEach [e] X.env = (false, eval e X.env) :: starEach [] X.env := by rfl) : EN X (.Call (.Name "list" p) [e] [] pos) as (.lst ds) :=
  let ⟨h1, h2, h3⟩ := B.at_ _ _ h
  en_callTy (ea_cons he ea_nil hs) cn_listL h1 hm boot_list h3 h2 hs rfl
end
end Mw
set_option maxHeartbeats 4000000
/-! what is known outside a comprehension is known within -/
namespace Mw
open PySem PySem.Spec PyProof.Rows L2
section
variable {X Y : Cx} {gs : List Str} {n : Str} {d : D} {k : Nat} {dds : List D} {S : FS} {u : Option Value}
theorem cst_in (_ : Gls Y gs) (c : CstD X n d) (hk : Y.K = X.K := by rfl) (hm : Y.mg = X.mg := by rfl) : CstD Y n d := by
  show CstE Y.K Y.mg n d
  rw [hk, hm]
  exact c
theorem mg_in (_ : Gls Y gs) (c : X.mg n = u) (hm : Y.mg = X.mg := by rfl) : Y.mg n = u := by
  rw [hm]
  exact c
theorem fn_in (_ : Gls Y gs) (F : FnD X k n dds S) (h1 : Y.prog = X.prog := by rfl) (h2 : Y.w = X.w := by rfl) (hk : Y.K = X.K := by rfl) (hm : Y.mg = X.mg := by rfl) (hb : Y.base = X.base := by rfl) : FnD Y k n dds S := by
  show FnE Y.prog Y.w Y.K Y.mg Y.base k n dds S
  rw [h1, h2, hk, hm, hb]
  exact F
theorem room_in (_ : Gls Y gs) (h : Room k X.A) (hA : Y.A = X.A := by rfl) : Room k Y.A := by
  rw [hA]
  exact h
end
theorem cdivL {i j : Int} (h : 0 < j) (hs : j.natAbs < 2 ^ 32) : CDivW i j := wide_div h hs (by decide) (by decide)
end Mw
set_option maxHeartbeats 4000000
/-! name = [..]: a comprehension stored in a name at once; n[k] = e of what is flat -/
namespace Mw
open PySem PySem.Spec PyProof.Rows L2
section
variable {X : Cx} {N L gs : List Str} {k : Nat} {sc : Scope} {scope : Scope} {as : DE} {tg iter elt : Expr} {ifs : List Expr} {ds : List D} {pos : Pos}
theorem lc_run (own : List (Str × Nat)) (N' : List (Option Str)) (gs' : List Str) (w : D → Sto) (f : D → D) (pr : D → Bool) (B : Body X N L gs k sc) (hw : IW X tg iter as ds)
    (hok : blkC N sc scope own = true) (hN' : (decide (N'.length ≤ N.length) && seesB scope N N' && gs'.all (glbOk scope)) = true) (hz : ds.length < sizeLine) (how : ∀ (j : Nat) (d : D), ds[j]? = some d → ∀ q ∈ w d, q.1 ∈ own.map (·.2))
    (ht : ∀ (s : Shared) (H : Hp) (cl : List (Str × Addr)) (C : Addr) (fp : List Addr), NmsB (X.blk s H scope (compEnvC scope cl C X.env) fp) N' → ∀ (j : Nat) (d : D), ds[j]? = some d → TgD (X.blk s H scope (compEnvC scope cl C X.env) fp) tg d (w d))
    (hb : ∀ (s : Shared) (H : Hp) (cl : List (Str × Addr)) (C : Addr) (fp : List Addr), NmsB (X.blk s H scope (compEnvC scope cl C X.env) fp) N' → Gls (X.blk s H scope (compEnvC scope cl C X.env) fp) gs' → ∀ (j : Nat) (d : D), ds[j]? = some d →
      ETs (X.blk s H scope (compEnvC scope cl C X.env) fp) ifs (stoE (w d) (wipeE as (own.map (·.2)))) (pr d) ∧ (pr d = true → EE (X.blk s H scope (compEnvC scope cl C X.env) fp) elt (stoE (w d) (wipeE as (own.map (·.2)))) (f d)))
    : ∃ (wi : TI) (g : TG) (tt : TT) (te : TE), PI X tg iter wi ∧ (∀ (s : Shared) (H : Hp) (C : Addr) (cl : List (Str × Addr)) (fp : List Addr), PG (X.blk s H scope (compEnvC scope cl C X.env) fp) tg g) ∧
      (∀ (s : Shared) (H : Hp) (C : Addr) (cl : List (Str × Addr)) (fp : List Addr), PTs (X.blk s H scope (compEnvC scope cl C X.env) fp) ifs tt) ∧ (∀ (s : Shared) (H : Hp) (C : Addr) (cl : List (Str × Addr)) (fp : List Addr), PE (X.blk s H scope (compEnvC scope cl C X.env) fp) elt te) ∧
      ∀ (σ : L2.St) (H0 H : Hp), σ.length = X.N.length → Same H0 H → SlF X.K H0 σ as → ∀ Q : VK, (∀ a H0' H', Grow H0 H H0' H' → H a = none → H0' a = none → Own X.K H0' H' a (.lst ((ds.filter pr).map f)) → Q (.ref a) H') → tLc wi g tt te (own.map (·.2)) σ H Q := by
  obtain ⟨wi, hpi, hwi⟩ := hw.run
  simp only [Bool.and_eq_true, decide_eq_true_eq] at hN'
  obtain ⟨⟨n1, n2⟩, n3⟩ := hN'
  let g : TG := fun v σ H Q => ∀ (s' : Shared) (H' : Hp) (C : Addr) (cl : List (Str × Addr)) (fp : List Addr), rg (X.blk s' H' scope (compEnvC scope cl C X.env) fp) tg v σ H Q
  let tt : TT := fun σ H Q => ∀ (s' : Shared) (H' : Hp) (C : Addr) (cl : List (Str × Addr)) (fp : List Addr), rts (X.blk s' H' scope (compEnvC scope cl C X.env) fp) ifs σ H Q
  let te : TE := fun σ H Q => ∀ (s' : Shared) (H' : Hp) (C : Addr) (cl : List (Str × Addr)) (fp : List Addr), re (X.blk s' H' scope (compEnvC scope cl C X.env) fp) elt σ H Q
  refine ⟨wi, g, tt, te, hpi, fun s' H' C cl fp => ⟨fun pins s σ H v u Q I r h => h s' H' C cl fp pins s u I r⟩, fun s' H' C cl fp => ⟨fun pins s σ H Q I h => h s' H' C cl fp pins s I⟩, fun s' H' C cl fp => ⟨fun pins s σ H Q I h => h s' H' C cl fp pins s I⟩, fun σ H0 H hlen hs hf Q q => ?_⟩
  refine hwi σ H0 H hs hf _ fun J H1 H' gr wk Dl hDl => ?_
  -- W: behind i turns the list holds what was made
  refine ⟨fun i m H2 => m = ds.length - i ∧ i ≤ ds.length ∧ ∃ H3 vs, Grow H1 (upd H' Dl (.lst [])) H3 (upd H2 Dl (.lst [])) ∧ H3 Dl = none ∧ H2 Dl = some (.lst vs) ∧ IsL X.K H3 (((ds.take i).filter pr).map f) vs ∧ (∀ b o, b ≠ Dl → H' b = some o → H2 b = some o), ⟨ds.length, by simp, Nat.zero_le _, H1, [], ?_, gr.sub.free hDl, upd_same, rfl, fun b o hb e => by rw [upd_ne hb]; exact e⟩, ?_⟩
  · rw [upd_upd]
    exact Grow.refl (gr.sub.trans (Same.new hDl))
  rintro i m H2 ⟨rfl, hi, H3, vs, g3, h3D, h2D, hv, hk⟩
  have s32 : Same H3 H2 := fun b o e => by
    have e' := g3.sub b o e
    have hb : b ≠ Dl := fun z => by rw [z, h3D] at e; cases e
    rw [upd_ne hb] at e'
    exact e'
  by_cases hlt : i < ds.length
  · have hd : ds[i]? = some ds[i] := List.getElem?_eq_getElem hlt
    refine .inr ⟨wk.go i H2 hlt (g3.frz.trans s32), fun H4 => ∃ H5 vs', Grow H1 (upd H' Dl (.lst [])) H5 (upd H4 Dl (.lst [])) ∧ H5 Dl = none ∧ H4 Dl = some (.lst vs') ∧ IsL X.K H5 (((ds.take (i + 1)).filter pr).map f) vs' ∧ (∀ b o, b ≠ Dl → H' b = some o → H4 b = some o), fun H4 ⟨H5, vs', a1, a2, a3, a4, a5⟩ => ⟨ds.length - (i + 1), by omega, rfl, hlt, H5, vs', a1, a2, a3, a4, a5⟩, fun x H4 hy => ?_⟩
    obtain ⟨H5, g5, i5⟩ := wk.yld i ds[i] H3 H2 x H4 hd g3.frz s32 hy
    have more : ∀ {Ha Hb Ha' Hb' : Hp}, Grow Ha Hb Ha' Hb' → Ha Dl = none → Hb Dl = some (.lst vs) → Ha' Dl = none ∧ Hb' Dl = some (.lst vs) ∧ Grow Ha (upd Hb Dl (.lst [])) Ha' (upd Hb' Dl (.lst [])) := fun {Ha Hb Ha' Hb'} gg e1 e2 => by
      have e3 : Ha' Dl = none := by
        cases z : Ha' Dl with
        | none => rfl
        | some u =>
          rcases gg.new Dl (by rw [z]; simp) with w | w
          · exact absurd e1 w
          · rw [e2] at w; cases w
      refine ⟨e3, gg.all _ _ e2, gg.frz, fun b o e => ?_, fun b o e => ?_, fun b hb => ?_⟩
      · by_cases z : b = Dl
        · rw [z, upd_same] at e ⊢; exact e
        · rw [upd_ne z] at e ⊢; exact gg.all b o e
      · have z : b ≠ Dl := fun z => by rw [z, e3] at e; cases e
        rw [upd_ne z]
        exact gg.sub b o e
      · rcases gg.new b hb with w | w
        · exact .inl w
        · have z : b ≠ Dl := fun z => by rw [z, e2] at w; cases w
          exact .inr (by rw [upd_ne z]; exact w)
    obtain ⟨d5, d4, gg5⟩ := more g5 h3D h2D
    intro s' Hs C cl fp
    refine (ht s' Hs cl C fp (blk_nms B n1 n2) i ds[i] hd).run _ H5 H4 x g5.sub i5 _ fun ws hp => ?_
    have hmem : ∀ q ∈ ws, q.1 ∈ own.map (·.2) := fun q hq => by
      obtain ⟨a, ha1, ha2⟩ := paired_mem hp q hq
      rw [← ha2.1]
      exact how i ds[i] hd a ha1
    refine ⟨by rw [wipe_sto hmem, wipe_wipe fun _ h => h], ?_⟩
    have hsl : SlF X.K H5 (stoV ws (wipe σ (own.map (·.2)))) (stoE (w ds[i]) (wipeE as (own.map (·.2)))) := SlF.sto (((hf.mono gr.frz).mono (g3.frz.trans g5.frz)).wipe _) (by rw [wipe_length]; exact hlen) hp
    intro s1 Hs1 C1 cl1 fp1
    have bb := hb s1 Hs1 cl1 C1 fp1 (blk_nms B n1 n2) (blk_gls n3) i ds[i] hd
    refine bb.1.run _ H5 H4 g5.sub hsl _ fun H6 H7 g6 => ?_
    obtain ⟨d6, d7, gg6⟩ := more g6 d5 d4
    have tk : ds.take (i + 1) = ds.take i ++ [ds[i]] := by rw [List.take_add_one, hd]; rfl
    cases hpr : pr ds[i] with
    | false =>
      rw [if_neg Bool.false_ne_true]
      refine ⟨H6, vs, (g3.trans gg5).trans gg6, d6, d7, ?_, fun b o hb' e => g6.all b o (g5.all b o (hk b o hb' e))⟩
      rw [tk, List.filter_append, List.filter_cons, if_neg (by rw [hpr]; exact Bool.false_ne_true), List.filter_nil, List.append_nil]
      exact hv.mono (g5.frz.trans g6.frz)
    | true =>
      rw [if_pos rfl]
      intro s2 Hs2 C2 cl2 fp2
      have bb2 := hb s2 Hs2 cl2 C2 fp2 (blk_nms B n1 n2) (blk_gls n3) i ds[i] hd
      refine (bb2.2 hpr).run _ H6 H7 g6.sub (hsl.mono g6.frz) _ fun y H8 H9 g8 i8 => ?_
      obtain ⟨d8, d9, gg8⟩ := more g8 d6 d7
      refine ⟨vs, d9, ?_, H8, vs ++ [y], ?_, d8, upd_same, ?_, fun b o hb' e => by rw [upd_ne hb']; exact g8.all b o (g6.all b o (g5.all b o (hk b o hb' e)))⟩
      · have l1 := hv.len
        rw [l1, List.length_map]
        have l2 := List.length_filter_le pr (ds.take i)
        rw [List.length_take] at l2
        omega
      · rw [upd_upd]
        exact ((g3.trans gg5).trans gg6).trans gg8
      · rw [tk, List.filter_append, List.filter_cons, if_pos hpr, List.filter_nil, List.map_append]
        exact (hv.mono ((g5.frz.trans g6.frz).trans g8.frz)).app (.one i8)
  · have e : i = ds.length := by omega
    subst e
    refine .inl ⟨wk.stop H2 (g3.frz.trans s32), ?_⟩
    rw [List.take_length] at hv
    have g4 : Grow H1 H' H3 H2 := by
      refine ⟨g3.frz, fun b o e => hk b o (fun z => by rw [z, hDl] at e; cases e) e, s32, fun b hb => ?_⟩
      rcases g3.new b hb with w | w
      · exact .inl w
      · have z : b ≠ Dl := fun z => hb (by rw [z]; exact h3D)
        rw [upd_ne z] at w
        exact .inr w
    exact q Dl H3 H2 (gr.trans g4) (gr.all.free hDl) h3D ⟨vs, h2D, hv⟩
end
section
variable {X : Cx} {N L gs : List Str} {k : Nat} {sc : Scope} {n y : Str} {i : Nat} {Gs G : Hp} {as as1 : AS} {F : Fin} {scope : Scope} {tg iter elt : Expr} {ifs : List Expr} {ds : List D} {pos py spos : Pos} {d : D}
theorem t_setLc (own : List (Str × Nat)) (N' : List (Option Str)) (gs' : List Str) (w : D → Sto) (f : D → D) (pr : D → Bool) (B : Body X N L gs k sc) (h : At L y i) (hyl : sc.names.lookup y = some .local) (hw : IW X tg iter (hid as) ds)
    (hok : blkC N sc scope own = true) (hN' : (decide (N'.length ≤ N.length) && seesB scope N N' && gs'.all (glbOk scope)) = true) (hz : ds.length < sizeLine) (how : ∀ (j : Nat) (d : D), ds[j]? = some d → ∀ q ∈ w d, q.1 ∈ own.map (·.2))
    (ht : ∀ (s : Shared) (H : Hp) (cl : List (Str × Addr)) (C : Addr) (fp : List Addr), NmsB (X.blk s H scope (compEnvC scope cl C X.env) fp) N' → ∀ (j : Nat) (d : D), ds[j]? = some d → TgD (X.blk s H scope (compEnvC scope cl C X.env) fp) tg d (w d))
    (hb : ∀ (s : Shared) (H : Hp) (cl : List (Str × Addr)) (C : Addr) (fp : List Addr), NmsB (X.blk s H scope (compEnvC scope cl C X.env) fp) N' → Gls (X.blk s H scope (compEnvC scope cl C X.env) fp) gs' → ∀ (j : Nat) (d : D), ds[j]? = some d →
      ETs (X.blk s H scope (compEnvC scope cl C X.env) fp) ifs (stoE (w d) (wipeE (hid as) (own.map (·.2)))) (pr d) ∧ (pr d = true → EE (X.blk s H scope (compEnvC scope cl C X.env) fp) elt (stoE (w d) (wipeE (hid as) (own.map (·.2)))) (f d)))
    (hsw : swapsWith (.ListComp elt [⟨tg, iter, ifs, 0⟩] scope pos) (some (.Name y py)) spos.line X.env = pure true) (ha : SetA as i (.ow (.lst ((ds.filter pr).map f))) as1) (q : F.nx as1)
    (hss : ∀ x, foldedSetIterable iter X.env x = pure x := by intro _; rfl) : S1 X Gs G (.Assign [.Name y py] (.ListComp elt [⟨tg, iter, ifs, 0⟩] scope pos) spos) as F := .mk fun σ H H0 S E ok => by
  obtain ⟨h1, h2, _, _⟩ := B.locs h
  obtain ⟨wi, g, tt, te, hpi, p1, p2, p3, hr⟩ := lc_run own N' gs' w f pr B hw hok hN' hz how ht hb
  refine rs_len fun hl => rs_of (ps_setLc B.calm B.ndX h1 (by rw [B.hsc]; exact hyl) hsw hpi (by rw [B.hN, B.hsc]; exact blkOk_by hok) p1 p2 p3 hss) ?_
  refine hr σ H0 H hl S.grow.sub S.hid _ fun a H1 H' gg ha' h0 ho => ?_
  refine ok.nx _ H' _ H1 gg.frz ((S.more gg).setO (by rw [hl]; exact (List.getElem?_eq_some_iff.mp h1).1) h0 ?_ ho fun j d' e1 e2 => ?_) (by rw [ha.eq]; exact q)
  · exact S.grow.all.free ha'
  · obtain ⟨b, q1, q2, q3, q4⟩ := S.ow j d' e1
    rw [e2] at q1
    cases q1
    obtain ⟨o, e4⟩ := q4.some
    rw [ha'] at e4
    cases e4
theorem t_setLc1 {p : Pos} (j : Nat) (N' : List (Option Str)) (gs' : List Str) (f : D → D) (pr : D → Bool) (B : Body X N L gs k sc) (h : At L y i) (hw : IW X (.Name n p) iter (hid as) ds) (hc : chk1 N sc scope n j N' gs' = true) (hy : (sc.names.lookup y == some .local && !(scope.names.any fun (m, k) => m == y && (k == .local || k == .cell))) = true) (hln : (py.line == pos.line) = true) (hz : ds.length < sizeLine)
    (hb : ∀ (s : Shared) (H : Hp) (cl : List (Str × Addr)) (C : Addr) (fp : List Addr), NmsB (X.blk s H scope (compEnvC scope cl C X.env) fp) N' → Gls (X.blk s H scope (compEnvC scope cl C X.env) fp) gs' → ∀ (m : Nat) (d : D), ds[m]? = some d →
      ETs (X.blk s H scope (compEnvC scope cl C X.env) fp) ifs (((hid as).set j none).set j (some d)) (pr d) ∧ (pr d = true → EE (X.blk s H scope (compEnvC scope cl C X.env) fp) elt (((hid as).set j none).set j (some d)) (f d)))
    (ha : SetA as i (.ow (.lst ((ds.filter pr).map f))) as1) (q : F.nx as1)
    (hss : ∀ x, foldedSetIterable iter X.env x = pure x := by intro _; rfl) : S1 X Gs G (.Assign [.Name y py] (.ListComp elt [⟨.Name n p, iter, ifs, 0⟩] scope pos) spos) as F := by
  unfold chk1 at hc
  rw [Bool.and_eq_true, Bool.and_eq_true] at hc
  obtain ⟨⟨c1, c2⟩, c3⟩ := hc
  rw [Bool.and_eq_true, Bool.not_eq_true'] at hy
  have hyl := nk_beq hy.1
  have hi : N[j]? = some n := (blkOk_by c1).ix (n, j) (List.mem_singleton.mpr rfl)
  refine t_setLc [(n, j)] N' gs' (fun d => [(j, d)]) f pr B h hyl hw c1 c2 hz (fun m d _ q hq => ?_) (fun s H cl C fp _ m d _ => ?_) hb (sw_true (by rw [B.hsc]; exact B.kind) (by rw [B.hsc]; exact hyl) hln hy.2) ha q hss
  · have e : q = (j, d) := List.mem_singleton.mp hq
    rw [e]
    exact List.mem_singleton.mpr rfl
  · exact tg_name' B.ndX (by show X.N[j]? = _; rw [B.hN]; exact hi) (.inl (blk_own c3)) (.inr (blk_own c3))
theorem t_setLc2 {m : Str} {p p2 p3 : Pos} {k2 : Nat} (j l : Nat) (N' : List (Option Str)) (gs' : List Str) (f : D → D) (pr : D → Bool) (B : Body X N L gs k sc) (h : At L y i) (hw : IW X (.Tuple [.Name n p, .Name m p2] k2 p3) iter (hid as) ds) (hc : chk2 N sc scope n m j l N' gs' = true) (hy : (sc.names.lookup y == some .local && !(scope.names.any fun (m, k) => m == y && (k == .local || k == .cell))) = true) (hln : (py.line == pos.line) = true) (hz : ds.length < sizeLine)
    (h2 : ∀ (t : Nat) (d : D), ds[t]? = some d → ∃ x y, d = .tup [x, y])
    (hb : ∀ (s : Shared) (H : Hp) (cl : List (Str × Addr)) (C : Addr) (fp : List Addr), NmsB (X.blk s H scope (compEnvC scope cl C X.env) fp) N' → Gls (X.blk s H scope (compEnvC scope cl C X.env) fp) gs' → ∀ (t : Nat) (x y : D), ds[t]? = some (.tup [x, y]) →
      ETs (X.blk s H scope (compEnvC scope cl C X.env) fp) ifs (((((hid as).set l none).set j none).set j (some x)).set l (some y)) (pr (.tup [x, y])) ∧ (pr (.tup [x, y]) = true → EE (X.blk s H scope (compEnvC scope cl C X.env) fp) elt (((((hid as).set l none).set j none).set j (some x)).set l (some y)) (f (.tup [x, y]))))
    (ha : SetA as i (.ow (.lst ((ds.filter pr).map f))) as1) (q : F.nx as1)
    (hss : ∀ x, foldedSetIterable iter X.env x = pure x := by intro _; rfl) : S1 X Gs G (.Assign [.Name y py] (.ListComp elt [⟨.Tuple [.Name n p, .Name m p2] k2 p3, iter, ifs, 0⟩] scope pos) spos) as F := by
  unfold chk2 at hc
  obtain ⟨h12, h34⟩ := Bool.and_eq_true_iff.mp hc
  obtain ⟨c1, c2⟩ := Bool.and_eq_true_iff.mp h12
  obtain ⟨c3, c4⟩ := Bool.and_eq_true_iff.mp h34
  rw [Bool.and_eq_true, Bool.not_eq_true'] at hy
  have hyl := nk_beq hy.1
  have hi : N[j]? = some n := (blkOk_by c1).ix (n, j) List.mem_cons_self
  have hj : N[l]? = some m := (blkOk_by c1).ix (m, l) (List.mem_cons_of_mem _ List.mem_cons_self)
  refine t_setLc [(n, j), (m, l)] N' gs' (two j l) f pr B h hyl hw c1 c2 hz (fun t d hd q hq => ?_) (fun s H cl C fp _ t d hd => ?_) (fun s H cl C fp nb gb t d hd => ?_) (sw_true (by rw [B.hsc]; exact B.kind) (by rw [B.hsc]; exact hyl) hln hy.2) ha q hss
  · obtain ⟨x, y, rfl⟩ := h2 t d hd
    have hq' : q ∈ [(j, x), (l, y)] := hq
    rcases List.mem_cons.mp hq' with e | e
    · rw [e]; exact List.mem_cons_self
    · rw [List.mem_singleton.mp e]; exact List.mem_cons_of_mem _ List.mem_cons_self
  · obtain ⟨x, y, rfl⟩ := h2 t d hd
    exact tg_two' B.calm B.ndX (by show X.N[j]? = _; rw [B.hN]; exact hi) (.inl (blk_own c3)) (.inr (blk_own c3)) (by show X.N[l]? = _; rw [B.hN]; exact hj) (.inl (blk_own c4)) (.inr (blk_own c4))
  · obtain ⟨x, y, rfl⟩ := h2 t d hd
    exact hb s H cl C fp nb gb t x y hd
/-- n[k] = e: what is stored is flat; it may read what is owned -/
theorem t_dputV {kk : Nat} {key : Key} {ks : List (Key × D)} {p pos' : Pos} {e ie : Expr} (B : Body X N L gs kk sc) (h : At L n i) (ha : as[i]? = some (.ow (.dct ks))) (he : EE X e (vis as) d) (hd : flatD d = true) (hk : EE X ie (vis as) (kD key)) (hz : ks.length < sizeLine) (hst : SetA as i (.ow (.dct (putKD ks key d))) as1) (q : F.nx as1)
    (hs : swapsWith e (some (.Subscript (.Name n p) ie pos')) pos.line X.env = pure false := by rfl) : S1 X Gs G (.Assign [.Subscript (.Name n p) ie pos'] e pos) as F := .mk fun σ H H0 S E ok => by
  obtain ⟨a1, a2, a3, a4⟩ := B.locs h
  obtain ⟨l, s1, s2, s3, kvs, hu, hi⟩ := S.ow i _ ha
  refine rs_of (ps_dput (by have := B.room.units; omega) (pe_var a1 (loc_vis a2) a3 a4) re_pe re_pe hs) ?_
  refine he.run σ H H (Same.refl _) S.vis _ fun v H1 H' g iv => ⟨_, s1, ?_⟩
  refine hk.run σ H1 H' g.sub (S.vis.mono g.frz) _ fun w H2 H2' g' iw => ?_
  have gg := g.trans g'
  have e2 := gg.all _ _ hu
  refine ⟨l, _, rfl, .inl ⟨kvs, key, e2, kD_is iw, by rw [hi.len]; exact hz, rfl⟩, ?_⟩
  exact ok.nx σ _ _ H0 (Same.refl _) ((S.tmp gg.all).write (d := .dct ks) (d' := .dct (putKD ks key d)) ha s1 ⟨_, upd_same, hi.put (iv.flat hd)⟩) (by rw [hst.eq]; exact q)
/-- a, b, c = e -/
theorem t_three {n1 n2 n3 : Str} {i1 i2 i3 k2 : Nat} {x1 x2 x3 : D} {as2 as3 : AS} {p p2 p3 p4 : Pos} {e : Expr} (B : Body X N L gs k sc) (h1 : At L n1 i1) (h2 : At L n2 i2) (h3 : At L n3 i3) (he : EE X e (hid as) (.tup [x1, x2, x3]))
    (hs : swapsWithSole [.Tuple [.Name n1 p, .Name n2 p2, .Name n3 p4] k2 p3] e pos.line X.env = pure false := by rfl) (hw : swappedStores [.Tuple [.Name n1 p, .Name n2 p2, .Name n3 p4] k2 p3] e X.env = pure none := by rfl) (ha1 : SetA as i1 (.fz x1) as1) (ha2 : SetA as1 i2 (.fz x2) as2) (ha3 : SetA as2 i3 (.fz x3) as3) (q : F.nx as3) : S1 X Gs G (.Assign [.Tuple [.Name n1 p, .Name n2 p2, .Name n3 p4] k2 p3] e pos) as F := .mk fun σ H H0 S E ok => by
  obtain ⟨a1, a2, _, _⟩ := B.locs h1
  obtain ⟨b1, b2, _, _⟩ := B.locs h2
  obtain ⟨c1, c2, _, _⟩ := B.locs h3
  refine rs_len fun hl => rs_of (ps_asg re_pe (pg_tup B.calm (pgs_cons (pg_name B.ndX a1 a2 (.inl (B.fn n1))) (pgs_cons (pg_name B.ndX b1 b2 (.inl (B.fn n2))) (pgs_cons (pg_name B.ndX c1 c2 (.inl (B.fn n3))) pgs_nil)))) hs hw) ?_
  refine he.run σ H0 H S.grow.sub S.hid _ fun v H1 H' g iv => ?_
  obtain ⟨a, vs, rfl, hq, hv⟩ := iv
  obtain ⟨v1, v2, v3, e1, j1, j2, j3⟩ := is3 hv
  subst e1
  refine ⟨a, _, rfl, Same.tup g.sub hq, rfl, v1, [v2, v3], rfl, v2, [v3], rfl, v3, [], rfl, rfl, ?_⟩
  have il : i1 < σ.length := by rw [hl]; exact (List.getElem?_eq_some_iff.mp a1).1
  have jl : i2 < (σ.set i1 (some v1)).length := by rw [List.length_set, hl]; exact (List.getElem?_eq_some_iff.mp b1).1
  have ll : i3 < ((σ.set i1 (some v1)).set i2 (some v2)).length := by rw [List.length_set, List.length_set, hl]; exact (List.getElem?_eq_some_iff.mp c1).1
  exact ok.nx _ H' _ H1 g.frz ((((S.more g).setF il j1).setF jl j2).setF ll j3) (by rw [ha1.eq, ha2.eq, ha3.eq]; exact q)
end
end Mw
set_option maxHeartbeats 4000000
/-! tests that raise -/
namespace Mw
open PySem PySem.Spec PyProof.Rows L2
/-- the test e raises x -/
structure ETX (X : Cx) (e : Expr) (as : DE) (x : Exn) : Prop where
  run : ∀ (σ : L2.St) (H0 H : Hp), Same H0 H → SlF X.K H0 σ as → ∀ Q : Bool → Hp → Prop, (∀ c dd H0' H', Grow H0 H H0' H' → IsX X.K H0' H' c dd x → wx X c dd σ H') → rt X e σ H Q
/-- .. whatever whole is -/
structure EWX (X : Cx) (e : Expr) (as : DE) (x : Exn) : Prop where
  run : ∀ (σ : L2.St) (H0 H : Hp), Same H0 H → SlF X.K H0 σ as → ∀ Q : Bool → Hp → Prop, (∀ c dd H0' H', Grow H0 H H0' H' → IsX X.K H0' H' c dd x → wx X c dd σ H') → rw_ X e σ H Q
section
variable {X : Cx} {a b c e : Expr} {es : List Expr} {as : DE} {x : Exn} {d y : D} {k l : Bool} {pos : Pos} {Gs G : Hp} {st : AS} {F : Fin} {t u : List Stmt}
theorem EWX.et (h : EWX X e as x) : ETX X e as x := .mk fun σ H0 H hs hf Q q pins s I => h.run σ H0 H hs hf Q q _ pins s I
theorem etx_val (h : EX X e as x) (he : ∀ whole, isTrue e X.env whole = (do let v ← whole; standAt e.pos; holding [v] (truthy v)) := by intro _; rfl) : ETX X e as x := .mk fun σ H0 H hs hf Q q =>
  rt_of (pt_val re_pe he) (h.run σ H0 H hs hf _ q)
theorem etx_cmp {op : CmpOp} {z : D} (h : EX X a as x) (ho : OpD X (compareOp op) y z (.bl k)) (hm : behindInMarks op b = false) : ETX X (.Compare a [op] [b] pos) as x := .mk fun σ H0 H hs hf Q q => by
  obtain ⟨r, ho, hr⟩ := ho
  exact rt_of (pt_cmpR ho re_pe re_pe hm) (h.run σ H0 H hs hf _ q)
theorem etx_cmp2 {op : CmpOp} {z : D} (ha : EE X a as d) (h : EX X b as x) (ho : OpD X (compareOp op) y z (.bl k)) (hm : behindInMarks op b = false) : ETX X (.Compare a [op] [b] pos) as x := .mk fun σ H0 H hs hf Q q => by
  obtain ⟨r, ho, hr⟩ := ho
  exact rt_of (pt_cmpR ho re_pe re_pe hm) (ha.run σ H0 H hs hf _ fun v H1 H' g i => h.run σ H1 H' g.sub (hf.mono g.frz) _ fun c dd _ _ g' i' => q c dd _ _ (g.trans g') i')
theorem etx_not (h : ETX X a as x) : ETX X (.UnaryOp .Not a pos) as x := .mk fun σ H0 H hs hf Q q =>
  rt_of (pt_not rt_pt) (h.run σ H0 H hs hf _ q)
theorem ewx_or (h : ETX X a as x) : EWX X (.BoolOp .Or (a :: b :: es) pos) as x := .mk fun σ H0 H hs hf Q q =>
  rw_of (pw_or rt_pt rw_pw) (h.run σ H0 H hs hf _ q)
theorem ewx_or1 (h : ETX X a as x) : EWX X (.BoolOp .Or [a] pos) as x := .mk fun σ H0 H hs hf Q q =>
  rw_of (pw_or1 rt_pt) (h.run σ H0 H hs hf _ q)
theorem ewx_orF (h : ET X a as false) (h2 : EWX X (.BoolOp .Or (b :: es) pos) as x) : EWX X (.BoolOp .Or (a :: b :: es) pos) as x := .mk fun σ H0 H hs hf Q q =>
  rw_of (pw_or rt_pt rw_pw) (h.run σ H0 H hs hf _ fun H1 H' g => by
    rw [if_neg Bool.false_ne_true]
    exact h2.run σ H1 H' g.sub (hf.mono g.frz) _ fun c dd _ _ g' i' => q c dd _ _ (g.trans g') i')
theorem ewx_and (h : ETX X a as x) : EWX X (.BoolOp .And (a :: b :: es) pos) as x := .mk fun σ H0 H hs hf Q q =>
  rw_of (pw_and rt_pt rw_pw) (h.run σ H0 H hs hf _ q)
theorem s1_ifXT (h : ETX X c (vis st) x) (q : F.ex x (frz st)) : S1 X Gs G (.If c t u pos) st F := by
  refine s1_frz ⟨fun σ H H0 S E ok => ?_⟩
  refine rs_of (ps_if rt_pt rss_pss rss_pss) ?_
  have sf := S.hid
  rw [vis_frz] at sf
  exact h.run σ H0 H S.grow.sub sf _ fun c dd H1 H' g iv => ok.ex c dd σ H' x _ H1 g.frz (S.more g) iv q
end
end Mw
set_option maxHeartbeats 4000000
/-! ways that meet -/
namespace Mw
open PySem PySem.Spec PyProof.Rows L2
section
variable {X : Cx} {Gs G : Hp} {st : Stmt} {as as1 : AS} {F : Fin}
/-- all ways lead to the slots as1 -/
theorem s1_mid (h : S1 X Gs G st as { F with nx := fun a => a = as1 }) (q : F.nx as1) : S1 X Gs G st as F := h.imp (fun _ e => e ▸ q) (fun _ z => z) (fun _ z => z) (fun _ z => z) fun _ _ z => z
end
end Mw
set_option maxHeartbeats 4000000
/-! the head: what the top has written, by tests of the text; the law's end -/
namespace Mw
open PySem PySem.Spec PyProof.Rows L2
abbrev Kf := PySem.W.Frag
/-! ### tests -/
abbrev Chk := Kf → Bool
def cGlo (x : Str) : Chk := fun K => (He.Fa.glo x).ok K
def cFree (x : Str) : Chk := fun K => (He.Fa.free x).ok K
def cExc (x : Str) : Chk := fun K => (He.Fa.exc x).ok K
def cExm (x y : Str) (b : Bool) : Chk := fun K => (He.Fa.exm x y b).ok K
def cNo (x f : Str) : Chk := fun K => (He.Fa.noat x f).ok K
def cKit (x y : Str) (b : Bool) : Chk := fun K => decide (PySem.W.kitOne K (.ref (He.ga K x)) (.ref (He.ga K y)) = some b)
def cKitT (x : Str) (T : String) (b : Bool) : Chk := fun K => decide (PySem.W.kitOne K (.ref (He.ga K x)) (.type T) = some b)
def cXf (x : Str) : Chk := fun K => xfB K (He.ga K x)
def cEc (x : Str) : Chk := fun K =>
  He.eqO (PySem.W.findIn K (.ref (He.ga K x)) "__getattribute__") (some (some (.builtin "BaseException.__getattribute__"))) && (He.eqO (PySem.W.findIn K (.ref (He.ga K x)) "__getattr__") (some none) &&
  (decide (PySem.W.subIn K (.ref (He.ga K x)) (.type "BaseException") = some true) && (PySem.W.hasDictIn K (He.ga K x) && (He.eqO (PySem.W.findIn K (.ref (He.ga K x)) "__class__") (some (some (.builtin "object.__class__"))) &&
  (He.eqO (PySem.W.specialIn K (.builtin "object.__class__") "__get__") (some (some (.builtin "getset_descriptor.__get__"))) && (decide (PySem.W.takesIn K (.builtin "object.__class__") = some true) && decide (PySem.W.mroIn K (He.ga K x) (.type "object") = some true)))))))
theorem cEc_ok {K : Kf} {x : Str} (h : cEc x K = true) : ExcC K (He.ga K x) := by
  obtain ⟨h1, h⟩ := Bool.and_eq_true_iff.mp h
  obtain ⟨h2, h⟩ := Bool.and_eq_true_iff.mp h
  obtain ⟨h3, h⟩ := Bool.and_eq_true_iff.mp h
  obtain ⟨h4, h⟩ := Bool.and_eq_true_iff.mp h
  obtain ⟨h5, h⟩ := Bool.and_eq_true_iff.mp h
  obtain ⟨h6, h⟩ := Bool.and_eq_true_iff.mp h
  obtain ⟨h7, h8⟩ := Bool.and_eq_true_iff.mp h
  exact ⟨He.eqO_ok h1, He.eqO_ok h2, of_decide_eq_true h3, h4, He.eqO_ok h5, He.eqO_ok h6, of_decide_eq_true h7, of_decide_eq_true h8⟩
/-- an own exception with an own __init__ -/
def oexB (K : Kf) (C : Addr) : Bool := match K.lookup C with
  | some ⟨.type "type", _, .cls cd, sl⟩ => (match cd.mro, sl.toList with
    | .ref C' :: bm, [_, _, _, _, some (.builtin n), _] => C' == C && n == "ValueError.__new__" && !cd.hasDel && PySem.HandSPX.refsVE bm && cd.hasDict
    | _, _ => false)
  | _ => false
theorem oexB_ok {K : Kf} {C : Addr} (q : oexB K C = true) : ∃ nm q N bs bm sn sub ab col dd k0 k1 k2 k3 k5, K.lookup C = some (excClassObj nm q C N bs bm true sn sub ab col dd k0 k1 k2 k3 k5 "ValueError.__new__") ∧ PySem.HandSPX.refsVE bm = true := by
  unfold oexB at q
  split at q
  · rename_i dd cd sl ho
    split at q
    · rename_i C' bm k0 k1 k2 k3 n k5 hm hs
      simp only [Bool.and_eq_true, beq_iff_eq, Bool.not_eq_true'] at q
      obtain ⟨⟨⟨⟨rfl, rfl⟩, hdel⟩, ht⟩, hd⟩ := q
      obtain ⟨nm, bs, mro, ns, qn, hd', sn, sub, ab, col, del⟩ := cd
      dsimp only at hm hdel hd
      subst hm hdel hd
      have hsl : sl = #[k0, k1, k2, k3, some (.builtin "ValueError.__new__"), k5] := by
        obtain ⟨l⟩ := sl
        simp only at hs
        rw [hs]
      subst hsl
      exact ⟨nm, qn, ns, bs, bm, sn, sub, ab, col, dd, k0, k1, k2, k3, k5, ho, ht⟩
    · cases q
  · cases q
def cOex (x : Str) : Chk := fun K => oexB K (He.ga K x) && (He.eqO (PySem.W.findIn K (.ref (He.ga K x)) "__setattr__") (some (some (.builtin "object.__setattr__"))) &&
  (decide (PySem.W.subIn K (.ref (He.ga K x)) (.type "BaseException") = some true) && (decide (PySem.W.typeIn K (.ref (He.ga K x)) = some (.type "type")) && PySem.W.keepIn K (.ref (He.ga K x)))))
theorem cOex_ok {K : Kf} {x : Str} (h : cOex x K = true) : OexC K (He.ga K x) := by
  obtain ⟨h1, h⟩ := Bool.and_eq_true_iff.mp h
  obtain ⟨h2, h⟩ := Bool.and_eq_true_iff.mp h
  obtain ⟨h3, h⟩ := Bool.and_eq_true_iff.mp h
  obtain ⟨h4, h5⟩ := Bool.and_eq_true_iff.mp h
  exact ⟨oexB_ok h1, He.eqO_ok h2, of_decide_eq_true h3, of_decide_eq_true h4, h5⟩
/-- C's __init__ is a def of the text -/
def cIni (x : Str) : Chk := fun K => He.eqO (PySem.W.findIn K (.ref (He.ga K x)) "__init__") (some (some (.ref (He.ma K (He.ga K x) "__init__")))) && decide (PySem.W.typeIn K (.ref (He.ma K (He.ga K x) "__init__")) = some (.type "function"))
/-- B.__init__ is ValueError's -/
def cBase (x : Str) : Chk := fun K => PySem.W.readsIn K (He.ga K x) (.type "type") && (He.eqO (PySem.W.specialIn K (.ref (He.ga K x)) "__getattribute__") (some (some (.builtin "type.__getattribute__"))) &&
  (match PySem.W.findCls K (.ref (He.ga K x)) (.type "type") "__init__" with
  | some (.val (.builtin n)) => decide (n = "ValueError.__init__")
  | _ => false))
theorem cBase_ok {K : Kf} {mg : Str → Option Value} {x : Str} (g : mg x = some (.ref (He.ga K x))) (h : cBase x K = true) : BaseI K mg x (He.ga K x) := by
  obtain ⟨h1, h⟩ := Bool.and_eq_true_iff.mp h
  obtain ⟨h2, h3⟩ := Bool.and_eq_true_iff.mp h
  refine ⟨g, _, ⟨h1, He.eqO_ok h2⟩, ?_⟩
  split at h3
  · rename_i n e
    rw [e, of_decide_eq_true h3]
  · cases h3
/-! ### the Hook -/
def obsM (cs : List Chk) (fn : List He.DefD) (K : Kf) : He.AlD := ((cs.all fun f => f K) && fn.all fun d => d.ok K, fn.map fun d => He.fnW K d.at_)
def SaysM (cs : List Chk) (fn : List He.DefD) (K : Kf) : Prop := obsM cs fn K = He.valD fn
def obsMG (n : Nat) (cs : List Chk) (fn : List He.DefD) (g : Addr → Option Obj) : He.AlD := obsM cs fn (He.frG g (PySem.cStatics :: He.asD g n))
def hookM (n : Nat) (cs : List Chk) (fn : List He.DefD) : PySem.W.Hook where
  α := He.AlD
  obs := fun s => obsMG n cs fn s.heap.get?
  val := fun _ => He.valD fn
  says := fun _ h => ∃ K : Kf, K.In h ∧ SaysM cs fn K
  of := fun _ _ e => ⟨_, He.frG_in, e⟩
  keeps := fun _ _ _ ⟨K, hK, c⟩ k => ⟨K, PySem.W.Frag.In.keeps hK k, c⟩
theorem obsMG_eq {n : Nat} {cs : List Chk} {fn : List He.DefD} {g : Addr → Option Obj} {s : Shared} (h : ∀ a, g a = s.heap.get? a) : obsMG n cs fn g = (hookM n cs fn).obs s := by
  have e : g = s.heap.get? := funext h
  rw [e] <;> rfl
section
variable {cs : List Chk} {fn : List He.DefD} {K : Kf}
theorem SaysM.chk (c : SaysM cs fn K) (i : Nat) {f : Chk} (h : cs[i]? = some f := by rfl) : f K = true := by
  have c1 := (Bool.and_eq_true_iff.mp (show ((cs.all fun f => f K) && fn.all fun d => d.ok K) = true from congrArg (fun z : He.AlD => z.1) c)).1
  exact List.all_eq_true.mp c1 f (List.mem_of_getElem? h)
theorem SaysM.def_ (c : SaysM cs fn K) (i : Nat) {d : He.DefD} (h : fn[i]? = some d := by rfl) : ∃ fd, FunD K d.name d.qual d.params d.body d.scope (d.dvs K) (d.kws K) (He.fAd K d.at_) fd := by
  have c2 := (Bool.and_eq_true_iff.mp (show ((cs.all fun f => f K) && fn.all fun d => d.ok K) = true from congrArg (fun z : He.AlD => z.1) c)).2
  have e : fn.map (fun d => He.fnW K d.at_) = fn.map He.DefD.val := congrArg (fun z : He.AlD => z.2) c
  have e2 : (fn.map fun d => He.fnW K d.at_)[i]? = (fn.map He.DefD.val)[i]? := by rw [e]
  rw [List.getElem?_map, List.getElem?_map, h] at e2
  exact He.DefD.funD (Option.some.inj e2) (List.all_eq_true.mp c2 d (List.mem_of_getElem? h))
end
/-! ### defs' promises -/
section
variable {P : Program} {w : World} {K : Kf} {mg : Str → Option Value} {base : Heap}
theorem fn_okF {x qual : Str} {params : Arguments} {st : Stmt} {dvs : List V} {kws : List (Str × V)} {f : Addr} {fd : FuncData} {N L ps gs : List Str} {k : Nat} {S : FS} (F : FunD K x qual params (defBody st) (defScope st) dvs kws f fd) (C : BodyOk N L ps gs (defScope st)) (len : ∀ ds r, S ds r → ds.length = ps.length)
    (body : ∀ X : Cx, X.prog = P → X.w = w → X.K = K → X.mg = mg → X.base = base → Body X N L gs k (defScope st) → ∀ (Gs G : Hp) (ds : List D) (r : Except Exn D), S ds r → SS X Gs G (defBody st) (startA N ds) { nx := fun _ => r = .ok .non, rt := fun d => r = .ok d, ex := fun x _ => r = .error x }) :
    FnOk P w K mg base (L2.CX P w) (k + 1) f fd ps (spOf K S) := by
  refine F.ok C.fs (fun vs H Q E h => ?_) (fun cdv A outer s H vs Q E hr h => ?_)
  · obtain ⟨H0, ds, r, _, h1, h2, _⟩ := h
    rw [h1.len]
    exact len ds r h2
  · obtain ⟨H0, ds, r, hs, hi, hS, post⟩ := h
    refine ⟨_, rss_pss, ?_⟩
    have BX : Body (cxOf (L2.CX P w) P w K mg base N qual (defScope st) f cdv A outer s H E) N L gs k (defScope st) := ⟨rfl, rfl, C.fs.nd, C.pre, C.loc, C.gl, C.fs.kind, C.fs.nofree, fun _ => rfl, hr, rfl, passes_of rfl, rfl, rfl⟩
    refine (body _ rfl rfl rfl rfl rfl BX H0 H ds r hS).run _ H H0 ⟨Grow.refl hs, fun i d e => ?_, fun i d e => ?_, fun i j a d d' e => ?_⟩ _ ⟨fun σ' H' as' H1 _ S' z => ?_, fun v H' d H1 _ g i z => ?_, fun _ _ _ _ _ _ z => z.elim, fun _ _ _ _ _ _ z => z.elim, fun c dd σ' H' x as' H1 _ S' i z => ?_⟩
    · rcases startA_at e with ⟨d', e1, e2⟩ | e1
      · cases e1
        obtain ⟨v, q1, q2⟩ := hi.get e2
        exact ⟨v, start_get q1, q2⟩
      · cases e1
    · rcases startA_at e with ⟨d', e1, e2⟩ | e1 <;> cases e1
    · rcases startA_at e with ⟨d', e1, e2⟩ | e1 <;> cases e1
    · have z' : r = .ok .non := z
      subst z'
      exact post .non H1 H' S'.grow rfl
    · have z' : r = .ok d := z
      subst z'
      exact post v H1 H' g i
    · have z' : r = .error x := z
      subst z'
      exact wx_of (takes_of (E := E) rfl rfl rfl rfl) (post c dd H1 H' S'.grow i)
theorem fn_okJ {x qual : Str} {params : Arguments} {st : Stmt} {dvs : List V} {kws : List (Str × V)} {f C : Addr} {fd : FuncData} {N L ps gs fs : List Str} {k : Nat} (F : FunD K x qual params (defBody st) (defScope st) dvs kws f fd) (W : BodyOk N L ps gs (defScope st)) (len : ps.length = fs.length + 1)
    (body : ∀ X : Cx, X.prog = P → X.w = w → X.K = K → X.mg = mg → X.base = base → Body X N L gs k (defScope st) → ∀ (a : Addr) (ys : List V) (H : Hp) (Q : VK), ys.length = fs.length → H a = some (exo a C none) →
      (∀ (dx : Addr) (H' : Hp), H dx = none → dx ≠ a → H' a = some (exo a C (some dx)) → H' dx = some (exd dx (putF fs ys)) → (∀ b, b ≠ a → b ≠ dx → H' b = H b) → Q .non H') →
      rss X (defBody st) { nx := fun _ H' => Q .non H', rt := Q } (L2.start N (.ref a :: ys)) H) : FnOk P w K mg base (L2.CX P w) (k + 1) f fd ps (spInit C fs) := by
  refine F.ok W.fs (fun vs H Q E h => ?_) (fun cdv A outer s H vs Q E hr h => ?_)
  · obtain ⟨a, ys, rfl, h1, _⟩ := h
    rw [List.length_cons, h1, len]
  · obtain ⟨a, ys, rfl, h1, h2, h3⟩ := h
    have BX : Body (cxOf (L2.CX P w) P w K mg base N qual (defScope st) f cdv A outer s H E) N L gs k (defScope st) := ⟨rfl, rfl, W.fs.nd, W.pre, W.loc, W.gl, W.fs.kind, W.fs.nofree, fun _ => rfl, hr, rfl, passes_of rfl, rfl, rfl⟩
    exact ⟨_, rss_pss, body _ rfl rfl rfl rfl rfl BX a ys H Q h1 h2 h3⟩
/-- a def without defaults, to its callers -/
theorem fnE_of {x : Str} {f : Addr} {fd : FuncData} {ps : List Str} {k : Nat} {S : FS} (h : FnOk P w K mg base (L2.CX P w) k f fd ps (spOf K S)) (g : mg x = some (.ref f)) (kp : PySem.W.keepIn K (.ref f) = true) (b : Binds K fd ps []) : FnE P w K mg base k x [] S :=
  ⟨f, fd, ps, [], [], h, g, kp, b, .nil⟩
theorem isL_v {K : Kf} {H : Hp} : ∀ {ds : List D} {vs : List V}, IsL K H ds vs → IsL K H ds vs := fun h => h
/-- .. with its defaults filled up -/
theorem fnE_dfl {x : Str} {f : Addr} {fd : FuncData} {ps : List Str} {k : Nat} {S : FS} {dds : List D} {dvs : List V} (h : FnOk P w K mg base (L2.CX P w) k f fd ps (spOf K S)) (g : mg x = some (.ref f)) (kp : PySem.W.keepIn K (.ref f) = true) (b : ∃ ds, Vals dvs ds ∧ Binds K fd ps ds) (hd : ∀ H, IsL K H dds dvs) : FnE P w K mg base k x dds S := by
  obtain ⟨ds, h1, h2⟩ := b
  exact ⟨f, fd, ps, dvs, ds, h, g, kp, h2, ⟨h1, hd⟩⟩
/-- .. all written -/
theorem fnE_all {x : Str} {f : Addr} {fd : FuncData} {ps : List Str} {k : Nat} {S : FS} (h : FnOk P w K mg base (L2.CX P w) k f fd ps (spOf K S)) (g : mg x = some (.ref f)) (kp : PySem.W.keepIn K (.ref f) = true) (b : ∃ ds, Vals [] ds ∧ Binds K fd ps ds) : FnE P w K mg base k x [] S := by
  obtain ⟨ds, h1, h2⟩ := b
  cases h1
  exact fnE_of h g kp h2
/-- a class with an own __init__, to its callers -/
theorem mkE_of {x : Str} {fd : FuncData} {ps fs : List Str} {k : Nat} (oc : cOex x K = true) (ic : cIni x K = true) (g : mg x = some (.ref (He.ga K x))) (nn : fs ≠ []) (h : FnOk P w K mg base (L2.CX P w) k (He.ma K (He.ga K x) "__init__") fd ps (spInit (He.ga K x) fs)) (b : Binds K fd ps []) : MkE P w K mg base k x (He.ga K x) fs := by
  obtain ⟨h1, h2⟩ := Bool.and_eq_true_iff.mp ic
  exact ⟨cOex_ok oc, nn, ⟨_, fd, ps, He.eqO_ok h1, of_decide_eq_true h2, h, b⟩, g⟩
theorem excE_of {x : Str} (c : cExc x K = true) (g : mg x = some (.ref (He.ga K x))) : ExcE K mg x (He.ga K x) := by
  obtain ⟨h1, h2, h3, h4⟩ := He.exc_ok c
  exact ⟨g, h1, h2, h3, h4⟩
end
/-- the law's end -/
theorem walk_M {l : PySem.W.OpenLaw} {n k : Nat} {q : Program} {loose : List Str} {XP : (Str → Option Value) → Heap → Prop} {YP : World → Heap → Prop} {d : DefRec} {x : Str} {S : FS}
    (hn : l.most = some n) (hn2 : n ≤ sizeLine) (hdf : d.params.defaults = []) (hr : Room k callerA)
    (F : ∀ (w : World) (mg : Str → Option Value) (fa : Addr) (h : Heap), YP w h → h.Ns mainGlobals mg → mg d.name = some (.ref fa) →
      ∃ (K : Kf) (fd : FuncData), K.In h ∧ (∀ (s : Shared) (u : Value), BindsTo s fd ⟨[u], []⟩ [(x, u)]) ∧ ∀ base : Heap, K.In base → base.Ns mainGlobals mg → FnOk l.prog w K mg base (L2.CX l.prog w) k fa fd [x] (spOf K S))
    (hS : ∀ ns : List Int, ns.length ≤ n → (∀ i ∈ ns, Builtin.Int.intBits i ≤ 1048576) → S [.lst (ns.map D.int)] (.ok (.bl true))) :
    PySem.W.WalkO q loose XP YP l.row.toRowW d [] (fun f vs => PySem.call f vs) := by
  refine Att.attach_callB hn hdf fun w s₀ s₁ mg mb fa o pm cd doc a vs ns G Y ho hd hcd hmg hobj hints hlen hbits hg => ?_
  obtain ⟨K, fd, KX, hb, hF⟩ := F w mg fa _ Y G.T.g hmg
  refine law_call KX G.T.g G.T.b G.T.builtins G.T.nolimit hg hobj hints (Nat.le_trans hlen hn2) hr hF hb (fun H _ h => ?_) fun H e s' z => by obtain ⟨_, _, _, _, _, _, _, _, _, _, _, _, z⟩ := z; exact z
  exact ⟨H, [.lst (ns.map D.int)], .ok (.bl true), Same.refl H, ⟨.ref a, [], rfl, ⟨a, ns.map V.int, rfl, h, IsL.map_int⟩, rfl⟩, hS ns hlen hbits, fun v _ _ _ i => i⟩
/-! ### objects, constants -/
def cCls (x : Str) : Chk := fun K => (He.Fa.cls x).ok K
def cMeth (x m : Str) : Chk := fun K => (He.Fa.meth x m).ok K
def cInt (x : Str) (i : Int) : Chk := fun K => (He.Fa.int x i).ok K
def cStr (x z : Str) : Chk := fun K => (He.Fa.str x z).ok K
def cNew0 (x : Str) : Chk := fun K => PySem.W.makesIn K (He.ga K x) && (He.eqO (PySem.W.findIn K (.ref (He.ga K x)) "__init__") (some (some (.builtin "object.__init__"))) && (PySem.W.keepIn K (.ref (He.ga K x)) && decide (PySem.W.mroIn K (He.ga K x) (.type "object") = some true)))
theorem cNew0_ok {K : Kf} {mg : Str → Option Value} {x : Str} (g : mg x = some (.ref (He.ga K x))) (h : cNew0 x K = true) : New0 K mg x (He.ga K x) := by
  obtain ⟨h1, h⟩ := Bool.and_eq_true_iff.mp h
  obtain ⟨h2, h⟩ := Bool.and_eq_true_iff.mp h
  obtain ⟨h3, h4⟩ := Bool.and_eq_true_iff.mp h
  exact ⟨h1, He.eqO_ok h2, h3, of_decide_eq_true h4, g⟩
def cIns (x : Str) : Chk := fun K => He.eqO (PySem.W.findIn K (.ref (He.ga K x)) "__class__") (some (some (.builtin "object.__class__"))) && (He.eqO (PySem.W.specialIn K (.builtin "object.__class__") "__get__") (some (some (.builtin "getset_descriptor.__get__"))) &&
  (decide (PySem.W.takesIn K (.builtin "object.__class__") = some true) && decide (PySem.W.mroIn K (He.ga K x) (.type "object") = some true)))
theorem cIns_ok {K : Kf} {x : Str} (c : cCls x K = true) (h : cIns x K = true) : InsE K (He.ga K x) := by
  obtain ⟨h1, h⟩ := Bool.and_eq_true_iff.mp h
  obtain ⟨h2, h⟩ := Bool.and_eq_true_iff.mp h
  obtain ⟨h3, h4⟩ := Bool.and_eq_true_iff.mp h
  exact ⟨He.cls_ok c, He.eqO_ok h1, He.eqO_ok h2, of_decide_eq_true h3, of_decide_eq_true h4⟩
theorem cst_int {K : Kf} {h : Heap} {mg : Str → Option Value} {x : Str} {i : Int} (X : K.In h) (G : h.Ns mainGlobals mg) (c : cInt x i K = true) : CstE K mg x (.int i) := by
  obtain ⟨t, e⟩ := He.int_ok X G c
  exact ⟨_, .int i, e, ⟨t, rfl⟩, fun _ => rfl⟩
theorem cst_str {K : Kf} {h : Heap} {mg : Str → Option Value} {x z : Str} (X : K.In h) (G : h.Ns mainGlobals mg) (c : cStr x z K = true) : CstE K mg x (.str z) := by
  obtain ⟨t, e⟩ := He.str_ok X G c
  exact ⟨_, .str z, e, ⟨t, rfl⟩, fun _ => rfl⟩
theorem metE_of {P : Program} {w : World} {K : Kf} {mg : Str → Option Value} {base : Heap} {x m : Str} {fd : FuncData} {ps : List Str} {k : Nat} {S : FS} (c : cCls x K = true) (cm : cMeth x m K = true) (h : FnOk P w K mg base (L2.CX P w) k (He.ma K (He.ga K x) m) fd ps (spOf K S)) (b : Binds K fd ps []) : MetE P w K mg base k (He.ga K x) m [] S :=
  ⟨He.cls_ok c, _, fd, ps, [], [], He.meth_ok cm, h, b, .nil⟩
end Mw
set_option maxHeartbeats 4000000
/-! the head: a tuple of texts as a constant -/
namespace Mw
open PySem PySem.Spec PyProof.Rows L2
def cTupS (x : Str) (zs : List Str) : Chk := fun K => He.tupB K x (zs.map He.Dv.str)
theorem IsL.map_dv {K : Kf} {H : Hp} : ∀ {zs : List Str}, IsL K H (zs.map D.str) ((zs.map He.Dv.str).map (He.Dv.v K))
  | [] => rfl
  | _ :: _ => ⟨_, _, rfl, rfl, IsL.map_dv⟩
theorem cst_tupS {K : Kf} {mg : Str → Option Value} {x : Str} {zs : List Str} (g : mg x = some (.ref (He.ga K x))) (c : cTupS x zs K = true) : CstE K mg x (.tup (zs.map D.str)) :=
  ⟨_, .ref (He.ga K x), g, rfl, fun H => ⟨_, _, rfl, He.tupB_ok c H, IsL.map_dv⟩⟩
end Mw
set_option maxHeartbeats 4000000
namespace Mw
open PySem PySem.Spec PyProof.Rows L2
local macro_rules | `(tactic| nest_cls) => `(tactic| (repeat (first | (with_reducible exact Mw.At.here) | (with_reducible apply Mw.At.there))))
local macro_rules | `(tactic| ktu_offL) => `(tactic| (repeat (first | (with_reducible exact Mw.SetA.here) | (with_reducible apply Mw.SetA.there))))
local macro_rules | `(tactic| k_allIn) => `(tactic| (with_reducible first | apply Mw.ca_isI | apply Mw.ca_isB | apply Mw.ca_isS | apply Mw.ca_isT | apply Mw.ca_isL | apply Mw.ca_isDc | apply Mw.ca_lenS | apply Mw.ca_lenT | apply Mw.ca_lenL | exact Mw.ca_intI | exact Mw.ca_intB | apply Mw.ca_intS | apply Mw.ca_strI))
local macro_rules | `(tactic| lcg_sub) => `(tactic| (with_reducible first
  | exact Mw.od_addI | exact Mw.od_subI | exact Mw.oc_eqI | exact Mw.oc_neI | exact Mw.oc_lt | exact Mw.oc_le | exact Mw.oc_gt | exact Mw.oc_ge | exact Mw.oc_isN | exact Mw.oc_notN | exact Mw.oc_isB | exact Mw.oc_notB | exact Mw.oc_eqS | exact Mw.oc_neS
  | apply Mw.od_mod | apply Mw.od_fdiv | apply Mw.od_mul | apply Mw.od_pow | apply Mw.od_addS
  | apply Mw.od_catL | apply Mw.od_mulS
  | apply Mw.oc_inT | apply Mw.oc_inL | apply Mw.oc_ninT | apply Mw.oc_ninL | exact Mw.oc_inS | exact Mw.oc_ninS
  | (apply Mw.oc_eqD; (with_reducible first | assumption | exact Mw.Body.room (by assumption) | exact L2.Room.mono (Mw.Body.room (by assumption)) (by with_unfolding_all decide))) | (apply Mw.oc_neD; (with_reducible first | assumption | exact Mw.Body.room (by assumption) | exact L2.Room.mono (Mw.Body.room (by assumption)) (by with_unfolding_all decide)))))
local macro_rules | `(tactic| k_clsL) => `(tactic| (with_reducible first | exact boot_int | exact boot_bool | exact boot_str | exact boot_tuple | exact boot_list | exact boot_dict))
local macro_rules | `(tactic| lcg_off) => `(tactic| (first
  | with_reducible exact Mw.ee_int | with_reducible exact Mw.ee_str
  | (with_reducible apply Mw.e_name; (with_reducible assumption); nest_cls; with_unfolding_all rfl)
  | (with_reducible apply Mw.e_nameB; (with_reducible assumption); (repeat (first | (with_reducible exact Mw.AtB.here) | (with_reducible apply Mw.AtB.there))); with_unfolding_all rfl)
  | with_reducible apply Mw.ee_bin
  | with_reducible apply Mw.ee_cmp
  | with_reducible apply Mw.ee_chain
  | (with_reducible apply Mw.e_call; (with_reducible assumption); (with_reducible assumption); nest_cls; (with_reducible first | assumption | exact Mw.Body.room (by assumption) | exact L2.Room.mono (Mw.Body.room (by assumption)) (by with_unfolding_all decide)))
  | with_reducible exact Mw.ee_bl | with_reducible exact Mw.ee_non
  | (with_reducible apply Mw.e_isi; (with_reducible assumption); nest_cls; (with_reducible assumption))
  | (with_reducible apply Mw.e_ty; (with_reducible assumption); nest_cls; (with_reducible assumption); k_clsL)
  | (with_reducible apply Mw.e_abs; (with_reducible assumption); nest_cls; (with_reducible assumption))
  | (with_reducible apply Mw.e_len; (with_reducible assumption); nest_cls; (with_reducible assumption))
  | (with_reducible apply Mw.e_divmod; (with_reducible assumption); nest_cls; (with_reducible assumption))
  | (with_reducible apply Mw.e_int; (with_reducible assumption); nest_cls; (with_reducible assumption))
  | (with_reducible apply Mw.e_strc; (with_reducible assumption); nest_cls; (with_reducible assumption))
  | (with_reducible apply Mw.e_cls; (with_reducible assumption); nest_cls; (with_reducible assumption))
  | (with_reducible apply Mw.e_cst; (with_reducible assumption); (with_reducible assumption); nest_cls)
  | with_reducible apply Mw.ee_neg
  | with_reducible apply Mw.ee_not
  | with_reducible apply Mw.ee_one
  | (with_reducible apply Mw.ee_and) | (with_reducible apply Mw.ee_or)
  | with_reducible apply Mw.ee_tup
  | (with_reducible apply Mw.EN.ee; with_reducible apply Mw.en_lst)
  | (with_reducible apply Mw.EN.ee; with_reducible exact Mw.en_dnew)
  | with_reducible apply Mw.ee_slS
  | with_reducible apply Mw.ee_sub
  | (with_reducible apply Mw.e_new0; (with_reducible assumption); (with_reducible assumption); nest_cls)
  | with_reducible apply Mw.e_zfill
  | with_reducible apply Mw.e_meth
  | (with_reducible apply Mw.e_mk; (with_reducible assumption); (with_reducible assumption); nest_cls; (with_reducible first | assumption | exact Mw.Body.room (by assumption) | exact L2.Room.mono (Mw.Body.room (by assumption)) (by with_unfolding_all decide)))
  | with_reducible apply Mw.e_xv
  | with_reducible apply Mw.ee_joined | with_reducible apply Mw.ee_fmt))
local macro_rules | `(tactic| k_memK) => `(tactic| (first
  | (with_reducible change Mw.EE _ _ _ _; lcg_off)
  | (with_reducible change Mw.EA _ _ _ _; (first | with_reducible exact Mw.ea_nil | with_reducible apply Mw.ea_cons))
  | (with_reducible change Mw.OpD _ _ _ _ _; lcg_sub)
  | (with_reducible change Mw.CaD _ _ _ _; k_allIn)
  | (with_reducible change Mw.ET _ _ _ _; (first | with_reducible apply Mw.et_cmp | with_reducible apply Mw.et_chain | with_reducible apply Mw.et_not | (with_reducible apply Mw.EW.et; with_reducible first | apply Mw.ew_and | apply Mw.ew_or) | with_reducible apply Mw.et_val))
  | (with_reducible change Mw.EW _ _ _ _; (with_reducible first | apply Mw.ew_and1 | apply Mw.ew_or1 | apply Mw.ew_and | apply Mw.ew_or))
  | (with_reducible change Mw.EN _ _ _ _; (with_reducible apply Mw.en_lst))
  | (with_reducible change Mw.ETs _ _ _ _; (with_reducible first | exact Mw.ets_nil | apply Mw.ets_one))
  | (with_reducible change (PySem.starEach _ _ = _); with_unfolding_all rfl)
  | (with_reducible change (PySem.behindInMarks _ _ = _); with_unfolding_all rfl)
  | (with_reducible change (PySem.lastMarks _ _ = _); with_unfolding_all rfl)
  | (with_reducible change (List.any _ _ = _); with_unfolding_all rfl)
  | (with_reducible change (PySem.swapsWith _ _ _ _ = _); with_unfolding_all rfl)
  | (with_reducible change (PySem.swapsWithSole _ _ _ _ = _); with_unfolding_all rfl)
  | (with_reducible change (PySem.swappedStores _ _ _ = _); with_unfolding_all rfl)
  | (with_reducible change Mw.SubD _ _ _ _ _; (with_reducible first | apply Mw.sub_T | apply Mw.sub_L))
  | (with_reducible change Mw.FmD _ _; (with_reducible first | (apply Mw.FmD.int; assumption) | apply Mw.FmD.int | apply Mw.FmD.str))
  | (with_reducible change Mw.EJ _ _ _ _ _; (with_reducible first | exact Mw.EJ.nil | apply Mw.EJ.cons))
  | (with_reducible change (L2.atI _ _ = _); with_unfolding_all rfl)
  | (with_reducible change (PySem.attributeBase _ _ _ _ = _); with_unfolding_all rfl)
  | (with_reducible change Mw.EO _ _ _ _; (with_reducible first | exact Mw.eo_none | apply Mw.eo_some))
  | (with_reducible change Mw.MetE _ _ _ _ _ _ _ _ _ _; with_reducible assumption)
  | (with_reducible change L2.Room _ _; (with_reducible first | assumption | exact Mw.Body.room (by assumption) | exact L2.Room.mono (Mw.Body.room (by assumption)) (by with_unfolding_all decide)))
  | (with_reducible change (List.lookup _ _ = none); with_unfolding_all rfl)
  | (with_reducible change (PySem.eval _ _ = _); with_unfolding_all rfl)
  | (with_reducible change (BEq.beq _ _ = true); with_unfolding_all rfl)
  | (with_reducible change ((_ && _) = true); with_unfolding_all rfl)
  | (with_reducible change Mw.IpD _ _ _ _ _; (with_reducible first | exact Mw.ip_addI | exact Mw.ip_subI))
  | (with_reducible change Mw.XvC _ _; with_reducible assumption)
  | (with_reducible change Mw.NoAt _ _ _; with_reducible assumption)
  | (with_reducible change (List.lookup _ _ = some _); with_unfolding_all rfl)
  | (with_reducible change (List.length _ = List.length _); with_unfolding_all rfl)
  | (with_reducible change (List.length _ ≤ 1000); exact Nat.le_of_ble_eq_true (by with_unfolding_all rfl))
  | (with_reducible change (Mw.isThing _ = true); (first | with_reducible assumption | with_unfolding_all rfl))
  | (with_reducible change (L2.PlainIx _); with_unfolding_all exact fun _ _ => rfl)
  | (with_reducible change (_ ≤ sizeLine); with_reducible assumption)
  | (with_reducible change (_ < sizeLine); with_reducible assumption)
  | (with_reducible change (L2.CMulW _ _); with_reducible assumption)
  | (with_reducible change (L2.CDivW _ _); exact Mw.cdivL (by decide) (by decide))
  | (with_reducible change ((0 : Int) < _); decide)
  | (with_reducible change (L2.CPow _ _); with_unfolding_all exact ⟨by decide, by decide, by decide⟩)
  | (with_reducible change (_ ≤ sizeLine); exact Mw.len_le (by with_unfolding_all rfl))
  | (with_reducible change (∀ _, PySem.isTrue _ _ _ = _); with_unfolding_all (intro _; rfl))
  | (with_reducible change (_ = true → Mw.EE _ _ _ _); intro _)
  | (with_reducible change (_ = false → Mw.EE _ _ _ _); intro _)
  | (with_reducible change (_ = true → Mw.EW _ _ _ _); intro _)
  | (with_reducible change (_ = false → Mw.EW _ _ _ _); intro _)
  | (with_reducible change (Mw.SetA _ _ _ _); ktu_offL)))
local macro_rules | `(tactic| ktu_offI) => `(tactic| ((conv => (arg 4; whnf)); have _nm := Mw.Body.nms (by assumption); have _gl := Mw.Body.glb (by assumption); simp only [Mw.startA, List.map_cons, List.map_nil, List.length_cons, List.length_nil, List.cons_append, List.nil_append, List.replicate_succ, List.replicate_zero, Nat.reduceAdd, Nat.reduceSub]))
local macro_rules | `(tactic| k_subL) => `(tactic| (first
  | with_reducible apply Mw.ss_one
  | with_reducible apply Mw.ss_cons
  | with_reducible apply Mw.ss_nil
  | with_reducible apply Mw.s1_ret
  | with_reducible apply Mw.s1_retN
  | with_reducible apply Mw.s1_pass
  | (with_reducible apply Mw.t_set; (with_reducible assumption); nest_cls)
  | (with_reducible apply Mw.h_set; (with_reducible assumption); nest_cls)
  | (with_reducible apply Mw.t_two; (with_reducible assumption); nest_cls; nest_cls)
  | (with_reducible apply Mw.t_raise; (with_reducible assumption); (with_reducible assumption); nest_cls)))
local macro_rules | `(tactic| ktu_off1L) => `(tactic| (repeat k_memK))
local macro_rules | `(tactic| k_places) => `(tactic| (repeat (first | k_subL | k_memK)))
local macro_rules | `(tactic| l_intsW) => `(tactic| (first
  | (with_reducible apply Mw.x_call; (with_reducible assumption); (with_reducible assumption); nest_cls; (with_reducible first | assumption | exact Mw.Body.room (by assumption) | exact L2.Room.mono (Mw.Body.room (by assumption)) (by with_unfolding_all decide)))))
def topS (i : Nat) : Stmt := PySem.Challenge.pw_measurewise_k02_units.main.body.getD i (.Pass ⟨0, 0, 0, 0⟩)
abbrev s_is_whole : Stmt := topS 11
abbrev N_is_whole : List Str := ["thing"]
abbrev L_is_whole : List Str := ["thing"]
abbrev G_is_whole : List Str := ["isinstance", "int", "bool"]
theorem bk_is_whole : BodyOk N_is_whole L_is_whole ["thing"] G_is_whole (defScope s_is_whole) := ⟨⟨rfl, rfl, rfl, by decide +kernel, rfl, by decide +kernel, by decide +kernel⟩, rfl, by decide +kernel, by decide +kernel⟩
abbrev s_is_name : Stmt := topS 12
abbrev N_is_name : List Str := ["thing", "sign"]
abbrev L_is_name : List Str := ["thing"]
abbrev G_is_name : List Str := ["isinstance", "str", "len", "MOST_NAME", "WORDS", "all"]
theorem bk_is_name : BodyOk N_is_name L_is_name ["thing"] G_is_name (defScope s_is_name) := ⟨⟨rfl, rfl, rfl, by decide +kernel, rfl, by decide +kernel, by decide +kernel⟩, rfl, by decide +kernel, by decide +kernel⟩
abbrev s_need_name : Stmt := topS 13
abbrev N_need_name : List Str := ["thing"]
abbrev L_need_name : List Str := ["thing"]
abbrev G_need_name : List Str := ["is_name", "BadName"]
theorem bk_need_name : BodyOk N_need_name L_need_name ["thing"] G_need_name (defScope s_need_name) := ⟨⟨rfl, rfl, rfl, by decide +kernel, rfl, by decide +kernel, by decide +kernel⟩, rfl, by decide +kernel, by decide +kernel⟩
abbrev s_is_text : Stmt := topS 14
abbrev N_is_text : List Str := ["thing", "sign"]
abbrev L_is_text : List Str := ["thing"]
abbrev G_is_text : List Str := ["isinstance", "str", "len", "MOST_SIGNS", "all"]
theorem bk_is_text : BodyOk N_is_text L_is_text ["thing"] G_is_text (defScope s_is_text) := ⟨⟨rfl, rfl, rfl, by decide +kernel, rfl, by decide +kernel, by decide +kernel⟩, rfl, by decide +kernel, by decide +kernel⟩
abbrev s_is_pair : Stmt := topS 17
abbrev N_is_pair : List Str := ["thing"]
abbrev L_is_pair : List Str := ["thing"]
abbrev G_is_pair : List Str := ["isinstance", "tuple", "len", "is_name", "is_whole"]
theorem bk_is_pair : BodyOk N_is_pair L_is_pair ["thing"] G_is_pair (defScope s_is_pair) := ⟨⟨rfl, rfl, rfl, by decide +kernel, rfl, by decide +kernel, by decide +kernel⟩, rfl, by decide +kernel, by decide +kernel⟩
abbrev s_is_unit : Stmt := topS 18
abbrev N_is_unit : List Str := ["thing", "names", "pair"]
abbrev L_is_unit : List Str := ["thing", "names"]
abbrev G_is_unit : List Str := ["isinstance", "tuple", "all", "sorted", "set"]
theorem bk_is_unit : BodyOk N_is_unit L_is_unit ["thing"] G_is_unit (defScope s_is_unit) := ⟨⟨rfl, rfl, rfl, by decide +kernel, rfl, by decide +kernel, by decide +kernel⟩, rfl, by decide +kernel, by decide +kernel⟩
abbrev s_unit_of : Stmt := topS 19
abbrev N_unit_of : List Str := ["pairs", "found", "name", "exponent", "pair"]
abbrev L_unit_of : List Str := ["pairs", "found", "name", "exponent"]
abbrev G_unit_of : List Str := ["isinstance", "list", "all", "BadUnit", "tuple", "sorted"]
theorem bk_unit_of : BodyOk N_unit_of L_unit_of ["pairs"] G_unit_of (defScope s_unit_of) := ⟨⟨rfl, rfl, rfl, by decide +kernel, rfl, by decide +kernel, by decide +kernel⟩, rfl, by decide +kernel, by decide +kernel⟩
abbrev s_joined : Stmt := topS 20
abbrev N_joined : List Str := ["one", "other"]
abbrev L_joined : List Str := ["one", "other"]
abbrev G_joined : List Str := ["unit_of", "list"]
theorem bk_joined : BodyOk N_joined L_joined ["one", "other"] G_joined (defScope s_joined) := ⟨⟨rfl, rfl, rfl, by decide +kernel, rfl, by decide +kernel, by decide +kernel⟩, rfl, by decide +kernel, by decide +kernel⟩
abbrev s_powered : Stmt := topS 21
abbrev N_powered : List Str := ["unit", "exponent", "name", "own"]
abbrev L_powered : List Str := ["unit", "exponent"]
abbrev G_powered : List Str := ["unit_of"]
theorem bk_powered : BodyOk N_powered L_powered ["unit", "exponent"] G_powered (defScope s_powered) := ⟨⟨rfl, rfl, rfl, by decide +kernel, rfl, by decide +kernel, by decide +kernel⟩, rfl, by decide +kernel, by decide +kernel⟩
abbrev s_shown_unit : Stmt := topS 22
abbrev N_shown_unit : List Str := ["unit", "found", "name", "exponent"]
abbrev L_shown_unit : List Str := ["unit", "found", "name", "exponent"]
abbrev G_shown_unit : List Str := []
theorem bk_shown_unit : BodyOk N_shown_unit L_shown_unit ["unit"] G_shown_unit (defScope s_shown_unit) := ⟨⟨rfl, rfl, rfl, by decide +kernel, rfl, by decide +kernel, by decide +kernel⟩, rfl, by decide +kernel, by decide +kernel⟩
abbrev s_exponent_of : Stmt := topS 23
abbrev N_exponent_of : List Str := ["text", "figure"]
abbrev L_exponent_of : List Str := ["text", "figure"]
abbrev G_exponent_of : List Str := ["len", "FIGURES", "int"]
theorem bk_exponent_of : BodyOk N_exponent_of L_exponent_of ["text"] G_exponent_of (defScope s_exponent_of) := ⟨⟨rfl, rfl, rfl, by decide +kernel, rfl, by decide +kernel, by decide +kernel⟩, rfl, by decide +kernel, by decide +kernel⟩
abbrev s_read_unit : Stmt := topS 24
abbrev N_read_unit : List Str := ["text", "found", "word", "name", "mark", "rest", "exponent"]
abbrev L_read_unit : List Str := ["text", "found", "word", "name", "mark", "rest", "exponent"]
abbrev G_read_unit : List Str := ["is_text", "BadUnit", "exponent_of", "is_name", "unit_of", "list"]
theorem bk_read_unit : BodyOk N_read_unit L_read_unit ["text"] G_read_unit (defScope s_read_unit) := ⟨⟨rfl, rfl, rfl, by decide +kernel, rfl, by decide +kernel, by decide +kernel⟩, rfl, by decide +kernel, by decide +kernel⟩
abbrev s__law_mixed : Stmt := topS 26
abbrev N__law_mixed : List Str := ["_law_number_here", "_law_k"]
abbrev L__law_mixed : List Str := ["_law_number_here", "_law_k"]
abbrev G__law_mixed : List Str := []
theorem bk__law_mixed : BodyOk N__law_mixed L__law_mixed ["_law_number_here", "_law_k"] G__law_mixed (defScope s__law_mixed) := ⟨⟨rfl, rfl, rfl, by decide +kernel, rfl, by decide +kernel, by decide +kernel⟩, rfl, by decide +kernel, by decide +kernel⟩
abbrev s__law_number : Stmt := topS 27
abbrev N__law_number : List Str := ["_law_script", "_law_k"]
abbrev L__law_number : List Str := ["_law_script", "_law_k"]
abbrev G__law_number : List Str := ["_law_mixed", "len"]
theorem bk__law_number : BodyOk N__law_number L__law_number ["_law_script", "_law_k"] G__law_number (defScope s__law_number) := ⟨⟨rfl, rfl, rfl, by decide +kernel, rfl, by decide +kernel, by decide +kernel⟩, rfl, by decide +kernel, by decide +kernel⟩
abbrev s__law_names : Stmt := topS 28
abbrev N__law_names : List Str := ["_law_number_here", "_law_signs_here", "_law_rest", "_law_at", "_law_j", "_law_k"]
abbrev L__law_names : List Str := ["_law_number_here", "_law_signs_here", "_law_rest", "_law_at"]
abbrev G__law_names : List Str := ["range"]
theorem bk__law_names : BodyOk N__law_names L__law_names ["_law_number_here"] G__law_names (defScope s__law_names) := ⟨⟨rfl, rfl, rfl, by decide +kernel, rfl, by decide +kernel, by decide +kernel⟩, rfl, by decide +kernel, by decide +kernel⟩
abbrev s__law_sums : Stmt := topS 29
abbrev N__law_sums : List Str := ["_law_pairs_here", "_law_found", "_law_name", "_law_whole", "_law_exponent", "_law_other"]
abbrev L__law_sums : List Str := ["_law_pairs_here", "_law_found", "_law_name", "_law_whole"]
abbrev G__law_sums : List Str := ["sorted", "set", "sum", "tuple"]
theorem bk__law_sums : BodyOk N__law_sums L__law_sums ["_law_pairs_here"] G__law_sums (defScope s__law_sums) := ⟨⟨rfl, rfl, rfl, by decide +kernel, rfl, by decide +kernel, by decide +kernel⟩, rfl, by decide +kernel, by decide +kernel⟩
abbrev s__law_pairs : Stmt := topS 30
abbrev N__law_pairs : List Str := ["_law_number_here", "_law_names_here", "_law_found", "_law_k", "_law_more", "_law_exponent"]
abbrev L__law_pairs : List Str := ["_law_number_here", "_law_names_here", "_law_found", "_law_k", "_law_more", "_law_exponent"]
abbrev G__law_pairs : List Str := ["range", "_law_mixed"]
theorem bk__law_pairs : BodyOk N__law_pairs L__law_pairs ["_law_number_here", "_law_names_here"] G__law_pairs (defScope s__law_pairs) := ⟨⟨rfl, rfl, rfl, by decide +kernel, rfl, by decide +kernel, by decide +kernel⟩, rfl, by decide +kernel, by decide +kernel⟩
abbrev s__law_shown : Stmt := topS 31
abbrev N__law_shown : List Str := ["_law_unit", "_law_name", "_law_exponent"]
abbrev L__law_shown : List Str := ["_law_unit"]
abbrev G__law_shown : List Str := []
theorem bk__law_shown : BodyOk N__law_shown L__law_shown ["_law_unit"] G__law_shown (defScope s__law_shown) := ⟨⟨rfl, rfl, rfl, by decide +kernel, rfl, by decide +kernel, by decide +kernel⟩, rfl, by decide +kernel, by decide +kernel⟩
abbrev s__law_unit_right : Stmt := topS 32
abbrev N__law_unit_right : List Str := ["_law_found", "_law_due", "_law_pair"]
abbrev L__law_unit_right : List Str := ["_law_found", "_law_due"]
abbrev G__law_unit_right : List Str := ["isinstance", "tuple", "is_unit", "all"]
theorem bk__law_unit_right : BodyOk N__law_unit_right L__law_unit_right ["_law_found", "_law_due"] G__law_unit_right (defScope s__law_unit_right) := ⟨⟨rfl, rfl, rfl, by decide +kernel, rfl, by decide +kernel, by decide +kernel⟩, rfl, by decide +kernel, by decide +kernel⟩
abbrev s__law_refused : Stmt := topS 33
abbrev N__law_refused : List Str := ["_law_way", "_law_thing", "e"]
abbrev L__law_refused : List Str := ["_law_way", "_law_thing", "e"]
abbrev G__law_refused : List Str := ["read_unit", "unit_of", "MeasureError", "isinstance", "BadUnit", "ValueError", "BadNumber"]
theorem bk__law_refused : BodyOk N__law_refused L__law_refused ["_law_way", "_law_thing"] G__law_refused (defScope s__law_refused) := ⟨⟨rfl, rfl, rfl, by decide +kernel, rfl, by decide +kernel, by decide +kernel⟩, rfl, by decide +kernel, by decide +kernel⟩
abbrev s__law_read_right : Stmt := topS 34
abbrev N__law_read_right : List Str := ["_law_unit", "_law_number_here", "_law_words", "_law_at", "_law_wrong", "_law_pair"]
abbrev L__law_read_right : List Str := ["_law_unit", "_law_number_here", "_law_words", "_law_at", "_law_wrong"]
abbrev G__law_read_right : List Str := ["_law_shown", "max", "len", "read_unit", "_law_refused"]
theorem bk__law_read_right : BodyOk N__law_read_right L__law_read_right ["_law_unit", "_law_number_here"] G__law_read_right (defScope s__law_read_right) := ⟨⟨rfl, rfl, rfl, by decide +kernel, rfl, by decide +kernel, by decide +kernel⟩, rfl, by decide +kernel, by decide +kernel⟩
abbrev s__law_no_unit : Stmt := topS 35
abbrev N__law_no_unit : List Str := ["_law_number_here", "_law_unit", "_law_names_here", "_law_some", "_law_odd"]
abbrev L__law_no_unit : List Str := ["_law_number_here", "_law_unit", "_law_names_here", "_law_some"]
abbrev G__law_no_unit : List Str := ["list", "is_unit"]
theorem bk__law_no_unit : BodyOk N__law_no_unit L__law_no_unit ["_law_number_here", "_law_unit", "_law_names_here"] G__law_no_unit (defScope s__law_no_unit) := ⟨⟨rfl, rfl, rfl, by decide +kernel, rfl, by decide +kernel, by decide +kernel⟩, rfl, by decide +kernel, by decide +kernel⟩
abbrev s__law_signs : Stmt := topS 36
abbrev N__law_signs : List Str := ["_law_number_here", "_law_names_here", "_law_some", "_law_thing", "_law_words", "_law_due", "_law_told", "e", "_law_texts", "_law_at", "_law_sign"]
abbrev L__law_signs : List Str := ["_law_number_here", "_law_names_here", "_law_some", "_law_thing", "_law_words", "_law_due", "_law_told", "e", "_law_texts", "_law_at"]
abbrev G__law_signs : List Str := ["isinstance", "str", "len", "is_name", "bool", "need_name", "MeasureError", "BadName", "BadUnit", "is_text"]
theorem bk__law_signs : BodyOk N__law_signs L__law_signs ["_law_number_here", "_law_names_here"] G__law_signs (defScope s__law_signs) := ⟨⟨rfl, rfl, rfl, by decide +kernel, rfl, by decide +kernel, by decide +kernel⟩, rfl, by decide +kernel, by decide +kernel⟩
abbrev s_law : Stmt := topS 37
abbrev N_law : List Str := ["_law_script", "_law_number_here", "_law_names_here", "_law_pairs_here", "_law_units", "_law_row", "_law_found", "_law_both", "_law_exponent", "_law_due", "_law_unit", "_law_odd", "_law_k", "_law_name", "_law_own"]
abbrev L_law : List Str := ["_law_script", "_law_number_here", "_law_names_here", "_law_pairs_here", "_law_units", "_law_row", "_law_found", "_law_both", "_law_exponent", "_law_due", "_law_unit", "_law_odd"]
abbrev G_law : List Str := ["_law_number", "_law_names", "range", "unit_of", "_law_unit_right", "_law_sums", "joined", "powered", "shown_unit", "_law_shown", "_law_read_right", "_law_signs", "tuple", "_law_refused", "_law_no_unit"]
theorem bk_law : BodyOk N_law L_law ["_law_script"] G_law (defScope s_law) := ⟨⟨rfl, rfl, rfl, by decide +kernel, rfl, by decide +kernel, by decide +kernel⟩, rfl, by decide +kernel, by decide +kernel⟩
/-! ### what the defs do: numbers, fractions -/
section
variable {X : Cx} {Gs G : Hp} {ds : List D} {r : Except Exn D} {C : Addr}
abbrev finOf (r : Except Exn D) : Fin := { nx := fun _ => r = .ok .non, rt := fun d => r = .ok d, ex := fun x _ => r = .error x }
def isWhole : D → Bool
  | .int _ => true
  | _ => false
theorem isWhole_int {d : D} (h : isWhole d = true) : ∃ i, d = .int i := by
  cases d <;> first | exact ⟨_, rfl⟩ | cases h
def S_is_whole : FS := fun ds r => ∃ d, ds = [d] ∧ isThing d = true ∧ r = .ok (.bl (isWhole d))
/-- a whole number between the bounds -/
def needOk (d : D) (lo : Int) (m : Option Int) : Bool :=
  match d with
  | .int i => decide (lo ≤ i) && (match m with | none => true | some hi => decide (i ≤ hi))
  | _ => false
def optD : Option Int → D
  | none => .non
  | some i => .int i
def S_need_whole (C : Addr) : FS := fun ds r => ∃ d lo m, ds = [d, .int lo, optD m] ∧ isThing d = true ∧ r = if needOk d lo m = true then .ok d else .error ⟨C, []⟩
/-- of natural numbers, for the greatest common divisor -/
def S_common : FS := fun ds r => ∃ a b : Nat, ds = [.int a, .int b] ∧ b < 2 ^ 8000 ∧ r = .ok (.int (Nat.gcd a b : Nat))
/-- a number of less than 2 ^ n in size -/
abbrev Sm (n : Nat) (i : Int) : Prop := i.natAbs < 2 ^ n
theorem sm_div {i : Int} (h : 0 < i) (hs : Sm 8000 i) : CDivW i i := wide_div h hs (by decide) (by decide)
theorem cdivW_of {i j : Int} (h : 0 < j) (hs : Sm 8000 j) : CDivW i j := wide_div h hs (by decide) (by decide)
theorem cmulW_of {i j : Int} {n m : Nat} (hi : Sm n i) (hj : Sm m j) (h0 : 0 < n) (h1 : 0 < m) (h : n + m ≤ 1000000) : CMulW i j := wide_mul hi hj h0 h1 h
theorem Sm.mul {i j : Int} {n m : Nat} (hi : Sm n i) (hj : Sm m j) : Sm (n + m) (i * j) := wide_lt hi hj
theorem Sm.mono {i : Int} {n m : Nat} (h : Sm n i) (hm : n ≤ m) : Sm m i := Nat.lt_of_lt_of_le h (Nat.pow_le_pow_right (by decide) hm)
theorem Sm.add {i j : Int} {n : Nat} (hi : Sm n i) (hj : Sm n j) : Sm (n + 1) (i + j) := by
  unfold Sm at *
  rw [Nat.pow_succ]
  omega
theorem Sm.neg {i : Int} {n : Nat} (hi : Sm n i) : Sm n (-i) := by
  unfold Sm at *
  omega
theorem abs_if (i : Int) : (if i < 0 then -i else i) = (i.natAbs : Int) := by split <;> omega
/-- the fraction of a over b, told shortest -/
def fracD (a b : Int) : D := .tup [.int (a / (Nat.gcd a.natAbs b.natAbs : Nat)), .int (b / (Nat.gcd a.natAbs b.natAbs : Nat))]
def S_fraction (C : Addr) : FS := fun ds r => ∃ x y, ds = [x, y] ∧ isThing x = true ∧ isThing y = true ∧ (∀ b, y = .int b → Sm 8000 b) ∧
  ((∃ a b, x = .int a ∧ y = .int b ∧ 0 < b ∧ r = .ok (fracD a b)) ∨ ((isWhole x = false ∨ needOk y 1 none = false) ∧ r = .error ⟨C, []⟩))
/-- two parts that are things -/
def pairOk (d : D) : Prop := ∀ x y, d = .tup [x, y] → isThing x = true ∧ isThing y = true ∧ ∀ b, y = .int b → Sm 8000 b
def isFrac : D → Bool
  | .tup [.int a, .int b] => decide (0 < b) && decide (Nat.gcd a.natAbs b.natAbs = 1)
  | _ => false
def S_is_fraction : FS := fun ds r => ∃ d, ds = [d] ∧ isThing d = true ∧ pairOk d ∧ r = .ok (.bl (isFrac d))
theorem isFrac_tup {l : List D} (h : l.length ≠ 2) : isFrac (.tup l) = false := by
  match l, h with
  | [], _ => rfl
  | [x], _ => cases x <;> rfl
  | [_, _], h => exact absurd rfl h
  | x :: y :: _ :: _, _ => cases x <;> first | rfl | (cases y <;> rfl)
end
section
/-- a fraction with parts of less than 2 ^ n -/
def Fr2 (n : Nat) (d : D) (a b : Int) : Prop := d = .tup [.int a, .int b] ∧ 0 < b ∧ Sm n a ∧ Sm n b
def S_sum_of : FS := fun ds r => ∃ a b c d, ds = [.tup [.int a, .int b], .tup [.int c, .int d]] ∧ 0 < b ∧ 0 < d ∧ Sm 3000 a ∧ Sm 3000 b ∧ Sm 3000 c ∧ Sm 3000 d ∧ r = .ok (fracD (a * d + c * b) (b * d))
def S_product_of : FS := fun ds r => ∃ a b c d, ds = [.tup [.int a, .int b], .tup [.int c, .int d]] ∧ 0 < b ∧ 0 < d ∧ Sm 3000 a ∧ Sm 3000 b ∧ Sm 3000 c ∧ Sm 3000 d ∧ r = .ok (fracD (a * c) (b * d))
def S_is_less : FS := fun ds r => ∃ a b c d, ds = [.tup [.int a, .int b], .tup [.int c, .int d]] ∧ Sm 3000 a ∧ Sm 3000 b ∧ Sm 3000 c ∧ Sm 3000 d ∧ r = .ok (.bl (decide (a * d < c * b)))
/-- one over a / b -/
def overD (a b : Int) : Int × Int := if a < 0 then (0 - b, 0 - a) else (b, a)
def S_turned_over : FS := fun ds r => ∃ a b, ds = [.tup [.int a, .int b]] ∧ r = .ok (.tup [.int (overD a b).1, .int (overD a b).2])
/-- a power's two parts -/
def powP (a b e : Int) : Int × Int := if e < 0 then overD a b else (a, b)
def powD (a b e : Int) : D := .tup [.int ((powP a b e).1 ^ e.natAbs), .int ((powP a b e).2 ^ e.natAbs)]
def S_power_of (C : Addr) : FS := fun ds r => ∃ a b y, ds = [.tup [.int a, .int b], y] ∧ isThing y = true ∧
  ((∃ e n, y = .int e ∧ (e < 0 → a ≠ 0) ∧ 0 < n ∧ Sm n a ∧ Sm n b ∧ (e.natAbs + 1) * n ≤ 900000 ∧ r = .ok (powD a b e)) ∨ ((isWhole y = false ∨ (∃ e, y = .int e ∧ e < 0 ∧ a = 0)) ∧ r = .error ⟨C, []⟩))
theorem Sm.pow {i : Int} {n : Nat} (h : Sm n i) : ∀ k : Nat, Sm (k * n + 1) (i ^ k)
  | 0 => by show (i ^ 0).natAbs < 2 ^ (0 * n + 1); simp
  | k + 1 => by
    have ih := Sm.pow h k
    have q := Sm.mul ih h
    rw [Int.pow_succ]
    exact q.mono (by rw [Nat.succ_mul]; omega)
end
section
variable {X : Cx} {Gs G : Hp} {ds : List D} {r : Except Exn D} {C : Addr}
theorem b_is_whole (B : Body X N_is_whole L_is_whole G_is_whole 1 (defScope s_is_whole)) (m1 : X.mg "isinstance" = none) (m2 : X.mg "int" = none) (m3 : X.mg "bool" = none) (h : S_is_whole ds r) :
    SS X Gs G (defBody s_is_whole) (startA N_is_whole ds) (finOf r) := by
  obtain ⟨d, rfl, hd, rfl⟩ := h
  ktu_offI
  k_places
  change (Except.ok _ : Except Exn D) = Except.ok _
  cases d <;> rfl
end
/-! ### names and texts -/
section
variable {X : Cx} {Gs G : Hp} {ds : List D} {r : Except Exn D} {C : Addr}
mutual
/-- what may be handed in: texts not too long, of things -/
def dOk : D → Bool
  | .non => true
  | .bl _ => true
  | .int _ => true
  | .str z => decide (z.length ≤ 5000)
  | .tup l => dOks l
  | .lst l => dOks l
  | .dct l => decide (l.length = 0)
  | _ => false
def dOks : List D → Bool
  | [] => true
  | d :: l => dOk d && dOks l
end
theorem dOk.thing : ∀ {d : D}, dOk d = true → isThing d = true
  | .non, _ => rfl
  | .bl _, _ => rfl
  | .int _, _ => rfl
  | .str _, _ => rfl
  | .tup _, _ => rfl
  | .lst _, _ => rfl
  | .dct _, _ => rfl
  | .ty _, h => nomatch h
  | .cls _, h => nomatch h
  | .obj _ _, h => nomatch h
  | .xc _ _ _, h => nomatch h
  | .exv _ _, h => nomatch h
theorem dOks.mem : ∀ {l : List D}, dOks l = true → ∀ d ∈ l, dOk d = true
  | [], _, d, hd => nomatch hd
  | e :: l, h, d, hd => by
    have h' : (dOk e && dOks l) = true := h
    rw [Bool.and_eq_true] at h'
    rcases List.mem_cons.mp hd with q | q
    · rw [q]; exact h'.1
    · exact dOks.mem h'.2 d q
theorem dOks.of : ∀ {l : List D}, (∀ d ∈ l, dOk d = true) → dOks l = true
  | [], _ => rfl
  | e :: l, h => by
    show (dOk e && dOks l) = true
    rw [h e List.mem_cons_self, dOks.of fun d hd => h d (List.mem_cons_of_mem _ hd)] <;> rfl
abbrev lettersS : Str := "abcdefghijklmnopqrstuvwxyz"
abbrev signsS : Str := " !\"#$&'()*+,-./0123456789:;<=>?@ABCDEFGHIJKLMNOPQRSTUVWXYZ[\\]^_`abcdefghijklmnopqrstuvwxyz{|}~\n"
abbrev wordsL : List Str := ["unit", "take", "let", "fun", "show", "if", "then", "else", "loop", "for", "do"]
def isNameS (z : Str) : Bool := (decide (1 ≤ z.length) && decide (z.length ≤ 8)) && !(decide (z ∈ wordsL)) && z.cps.toList.all fun c => decide (c ∈ lettersS.cps.toList)
def isNameD : D → Bool
  | .str z => isNameS z
  | _ => false
theorem isNameD_str {d : D} (h : isNameD d = true) : ∃ z, d = .str z ∧ isNameS z = true := by
  cases d with
  | str z => exact ⟨z, rfl, h⟩
  | _ => cases h
theorem isNameS.len {z : Str} (h : isNameS z = true) : 1 ≤ z.length ∧ z.length ≤ 8 := by
  unfold isNameS at h
  simp only [Bool.and_eq_true, decide_eq_true_eq] at h
  exact h.1.1
def isTextS (z : Str) : Bool := decide (z.length ≤ 4000) && z.cps.toList.all fun c => decide (c ∈ signsS.cps.toList)
def isTextD : D → Bool
  | .str z => isTextS z
  | _ => false
def S_is_name : FS := fun ds r => ∃ d, ds = [d] ∧ dOk d = true ∧ r = .ok (.bl (isNameD d))
def S_need_name (C : Addr) : FS := fun ds r => ∃ d, ds = [d] ∧ dOk d = true ∧ r = if isNameD d = true then .ok d else .error ⟨C, []⟩
def S_is_text : FS := fun ds r => ∃ d, ds = [d] ∧ dOk d = true ∧ r = .ok (.bl (isTextD d))
theorem inD_strs {z : Str} : ∀ {l : List Str}, inD (.str z) (l.map D.str) = decide (z ∈ l)
  | [] => by simp [inD, inV]
  | y :: l => by
    have ih := inD_strs (z := z) (l := l)
    unfold inD at ih ⊢
    rw [List.map_cons, List.map_cons]
    unfold inV at ih ⊢
    rw [List.any_cons, ih]
    by_cases e : z = y
    · subst e
      simp [toV, eqV]
    · have e2 : ¬ y = z := fun q => e q.symm
      simp [toV, eqV, e, e2]
/-- all signs of a text in another one -/
def inB (t : Str) : D → D
  | .str z => .bl (match z.cps.toList with | [c] => decide (c ∈ t.cps.toList) | _ => false)
  | _ => .bl false
theorem signs_map (z t : Str) : ((signsD z).filter fun _ => true).map (inB t) = (z.cps.toList.map fun c => decide (c ∈ t.cps.toList)).map D.bl := by
  rw [List.filter_eq_self.mpr fun _ _ => rfl]
  unfold signsD
  rw [List.map_map, List.map_map]
  rfl
theorem signs_all (z t : Str) : (z.cps.toList.map fun c => decide (c ∈ t.cps.toList)).all id = z.cps.toList.all fun c => decide (c ∈ t.cps.toList) := by
  rw [List.all_map]
  rfl
theorem b_is_name (B : Body X N_is_name L_is_name G_is_name 1 (defScope s_is_name)) (c1 : CstD X "MOST_NAME" (.int 8)) (c2 : CstD X "WORDS" (.tup (wordsL.map D.str))) (c3 : CstD X "LETTERS" (.str lettersS)) (m1 : X.mg "isinstance" = none) (m2 : X.mg "str" = none) (m3 : X.mg "len" = none) (m4 : X.mg "all" = none) (h : S_is_name ds r) :
    SS X Gs G (defBody s_is_name) (startA N_is_name ds) (finOf r) := by
  obtain ⟨d, rfl, hd, rfl⟩ := h
  have ht := dOk.thing hd
  ktu_offI
  k_subL
  cases hs : isTyS d with
  | false =>
    refine s1_ifT (EW.et (ew_orT (et_is (k := !isTyS d) ?_ (by rw [hs]; rfl)))) ?_
    · ktu_off1L
    · k_places
      change (Except.ok _ : Except Exn D) = Except.ok _
      cases d <;> first | rfl | cases hs
  | true =>
    obtain ⟨z, rfl⟩ : ∃ z, d = .str z := by cases d <;> first | exact ⟨_, rfl⟩ | cases hs
    have hz : z.length ≤ sizeLine := Nat.le_trans (of_decide_eq_true hd) (by decide)
    refine s1_if (b := !(decide (1 ≤ z.length) && decide (z.length ≤ 8)) || decide (z ∈ wordsL)) (EW.et (ew_is (k := !isTyS (.str z) || (!(decide ((1 : Int) ≤ (z.length : Nat)) && decide (((z.length : Nat) : Int) ≤ 8)) || inD (.str z) (wordsL.map D.str))) ?_ ?_)) (fun hb => ?_) fun hb => ?_
    · ktu_off1L
      · rfl
      · rfl
      ktu_off1L
    · rw [inD_strs]
      have e1 : decide ((1 : Int) ≤ (z.length : Nat)) = decide (1 ≤ z.length) := dec_iff (by omega)
      have e2 : decide (((z.length : Nat) : Int) ≤ 8) = decide (z.length ≤ 8) := dec_iff (by omega)
      rw [e1, e2]
      rfl
    · k_places
      change (Except.ok _ : Except Exn D) = Except.ok _
      show Except.ok (D.bl (isNameS z)) = _
      unfold isNameS
      cases h1 : (decide (1 ≤ z.length) && decide (z.length ≤ 8)) with
      | false => rfl
      | true =>
        rw [h1] at hb
        rw [show decide (z ∈ wordsL) = true from hb]
        rfl
    · k_subL
      k_subL
      refine s1_ret (d := .bl (z.cps.toList.all fun c => decide (c ∈ lettersS.cps.toList))) ?_ ?_
      · refine ee_is (e_all (bs := z.cps.toList.map fun c => decide (c ∈ lettersS.cps.toList)) (by assumption) B.calm (by nest_cls) (by assumption) (ee_is (EN.ee (en_lc1 (ds := signsD z) 1 [none, some "sign"] ["LETTERS"] (inB lettersS) (fun _ => true) B (iw_str ?_) (by decide +kernel) ?_ ?_)) ?_)) ?_
        · ktu_off1L
        · unfold signsD
          rw [List.length_map, Array.length_toList]
          exact Nat.lt_of_le_of_lt (of_decide_eq_true hd) (by decide)
        · intro s H cl C fp nb gb j d hd'
          obtain ⟨c, rfl⟩ : ∃ c, d = .str ⟨#[c]⟩ := by
            unfold signsD at hd'
            obtain ⟨c, _, e⟩ := map_at hd'
            exact ⟨c, e.symm⟩
          refine ⟨ets_nil, fun _ => ?_⟩
          have c3' := cst_in gb c3
          refine ee_is (d := .bl (decide (c ∈ lettersS.cps.toList))) ?_ rfl
          ktu_off1L
        · rw [signs_map]
        · rw [signs_all]
      · change (Except.ok _ : Except Exn D) = Except.ok _
        show Except.ok (D.bl (isNameS z)) = _
        unfold isNameS
        rw [Bool.or_eq_false_iff] at hb
        have h1 : (decide (1 ≤ z.length) && decide (z.length ≤ 8)) = true := by simpa using hb.1
        rw [h1, hb.2]
        rfl
theorem b_need_name (B : Body X N_need_name L_need_name G_need_name 3 (defScope s_need_name)) (F1 : FnD X 2 "is_name" [] S_is_name) (E1 : ExcOk X "BadName" C) (h : S_need_name C ds r) :
    SS X Gs G (defBody s_need_name) (startA N_need_name ds) (finOf r) := by
  obtain ⟨d, rfl, hd, rfl⟩ := h
  ktu_offI
  k_subL
  refine s1_if (b := !isNameD d) (et_not (et_val ?_)) (fun hb => ?_) fun hb => ?_
  · ktu_off1L
    · exact ⟨d, rfl, hd, rfl⟩
    ktu_off1L
  · k_places
    change (if isNameD d = true then _ else _) = _
    rw [if_neg (by simpa using hb)]
  · k_places
    change (if isNameD d = true then _ else _) = _
    rw [if_pos (by simpa using hb)]
theorem b_is_text (B : Body X N_is_text L_is_text G_is_text 1 (defScope s_is_text)) (c1 : CstD X "MOST_SIGNS" (.int 4000)) (c3 : CstD X "SIGNS" (.str signsS)) (m1 : X.mg "isinstance" = none) (m2 : X.mg "str" = none) (m3 : X.mg "len" = none) (m4 : X.mg "all" = none) (h : S_is_text ds r) :
    SS X Gs G (defBody s_is_text) (startA N_is_text ds) (finOf r) := by
  obtain ⟨d, rfl, hd, rfl⟩ := h
  have ht := dOk.thing hd
  ktu_offI
  k_subL
  cases hs : isTyS d with
  | false =>
    refine s1_ifT (EW.et (ew_orT (et_is (k := !isTyS d) ?_ (by rw [hs]; rfl)))) ?_
    · ktu_off1L
    · k_places
      change (Except.ok _ : Except Exn D) = Except.ok _
      cases d <;> first | rfl | cases hs
  | true =>
    obtain ⟨z, rfl⟩ : ∃ z, d = .str z := by cases d <;> first | exact ⟨_, rfl⟩ | cases hs
    have hz : z.length ≤ sizeLine := Nat.le_trans (of_decide_eq_true hd) (by decide)
    refine s1_if (b := !decide (z.length ≤ 4000)) (EW.et (ew_is (k := !isTyS (.str z) || decide ((4000 : Int) < (z.length : Nat))) ?_ ?_)) (fun hb => ?_) fun hb => ?_
    · ktu_off1L
    · rw [show (!isTyS (.str z)) = false from rfl, Bool.false_or, ← decide_not]
      exact dec_iff (by omega)
    · k_places
      change (Except.ok _ : Except Exn D) = Except.ok _
      show Except.ok (D.bl (isTextS z)) = _
      unfold isTextS
      rw [show decide (z.length ≤ 4000) = false by simpa using hb]
      rfl
    · k_subL
      k_subL
      refine s1_ret (d := .bl (z.cps.toList.all fun c => decide (c ∈ signsS.cps.toList))) ?_ ?_
      · refine ee_is (e_all (bs := z.cps.toList.map fun c => decide (c ∈ signsS.cps.toList)) (by assumption) B.calm (by nest_cls) (by assumption) (ee_is (EN.ee (en_lc1 (ds := signsD z) 1 [none, some "sign"] ["SIGNS"] (inB signsS) (fun _ => true) B (iw_str ?_) (by decide +kernel) ?_ ?_)) ?_)) ?_
        · ktu_off1L
        · unfold signsD
          rw [List.length_map, Array.length_toList]
          exact Nat.lt_of_le_of_lt (of_decide_eq_true hd) (by decide)
        · intro s H cl C fp nb gb j d hd'
          obtain ⟨c, rfl⟩ : ∃ c, d = .str ⟨#[c]⟩ := by
            unfold signsD at hd'
            obtain ⟨c, _, e⟩ := map_at hd'
            exact ⟨c, e.symm⟩
          refine ⟨ets_nil, fun _ => ?_⟩
          have c3' := cst_in gb c3
          refine ee_is (d := .bl (decide (c ∈ signsS.cps.toList))) ?_ rfl
          ktu_off1L
        · rw [signs_map]
        · rw [signs_all]
      · change (Except.ok _ : Except Exn D) = Except.ok _
        show Except.ok (D.bl (isTextS z)) = _
        unfold isTextS
        rw [show decide (z.length ≤ 4000) = true by simpa using hb]
        rfl
end
/-! ### units: plain -/
section
mutual
/-- without True and False: what is equal is the same -/
def noB : D → Bool
  | .non => true
  | .int _ => true
  | .str _ => true
  | .tup l => noBs l
  | .lst l => noBs l
  | _ => false
def noBs : List D → Bool
  | [] => true
  | d :: l => noB d && noBs l
end
mutual
theorem eqv_same : ∀ {x y : D}, noB x = true → noB y = true → PyData.eqv (toPy x) (toPy y) = true → x = y
  | .non, .non, _, _, _ => rfl
  | .int i, .int j, _, _, h => by rw [eq_of_beq (show (i == j) = true from h)]
  | .str i, .str j, _, _, h => by rw [eq_of_beq (show (i == j) = true from h)]
  | .tup l, .tup m, a, b, h => by rw [eqvs_same (l := l) (m := m) a b h]
  | .lst l, .lst m, a, b, h => by rw [eqvs_same (l := l) (m := m) a b h]
  | .non, .int _, _, _, h => nomatch h
  | .non, .str _, _, _, h => nomatch h
  | .non, .tup _, _, _, h => nomatch h
  | .non, .lst _, _, _, h => nomatch h
  | .int _, .non, _, _, h => nomatch h
  | .int _, .str _, _, _, h => nomatch h
  | .int _, .tup _, _, _, h => nomatch h
  | .int _, .lst _, _, _, h => nomatch h
  | .str _, .non, _, _, h => nomatch h
  | .str _, .int _, _, _, h => nomatch h
  | .str _, .tup _, _, _, h => nomatch h
  | .str _, .lst _, _, _, h => nomatch h
  | .tup _, .non, _, _, h => nomatch h
  | .tup _, .int _, _, _, h => nomatch h
  | .tup _, .str _, _, _, h => nomatch h
  | .tup _, .lst _, _, _, h => nomatch h
  | .lst _, .non, _, _, h => nomatch h
  | .lst _, .int _, _, _, h => nomatch h
  | .lst _, .str _, _, _, h => nomatch h
  | .lst _, .tup _, _, _, h => nomatch h
  | .bl _, _, a, _, _ => nomatch a
  | .ty _, _, a, _, _ => nomatch a
  | .cls _, _, a, _, _ => nomatch a
  | .dct _, _, a, _, _ => nomatch a
  | .obj _ _, _, a, _, _ => nomatch a
  | .xc _ _ _, _, a, _, _ => nomatch a
  | .exv _ _, _, a, _, _ => nomatch a
  | .non, .bl _, _, b, _ => nomatch b
  | .non, .ty _, _, b, _ => nomatch b
  | .non, .cls _, _, b, _ => nomatch b
  | .non, .dct _, _, b, _ => nomatch b
  | .non, .obj _ _, _, b, _ => nomatch b
  | .non, .xc _ _ _, _, b, _ => nomatch b
  | .non, .exv _ _, _, b, _ => nomatch b
  | .int _, .bl _, _, b, _ => nomatch b
  | .int _, .ty _, _, b, _ => nomatch b
  | .int _, .cls _, _, b, _ => nomatch b
  | .int _, .dct _, _, b, _ => nomatch b
  | .int _, .obj _ _, _, b, _ => nomatch b
  | .int _, .xc _ _ _, _, b, _ => nomatch b
  | .int _, .exv _ _, _, b, _ => nomatch b
  | .str _, .bl _, _, b, _ => nomatch b
  | .str _, .ty _, _, b, _ => nomatch b
  | .str _, .cls _, _, b, _ => nomatch b
  | .str _, .dct _, _, b, _ => nomatch b
  | .str _, .obj _ _, _, b, _ => nomatch b
  | .str _, .xc _ _ _, _, b, _ => nomatch b
  | .str _, .exv _ _, _, b, _ => nomatch b
  | .tup _, .bl _, _, b, _ => nomatch b
  | .tup _, .ty _, _, b, _ => nomatch b
  | .tup _, .cls _, _, b, _ => nomatch b
  | .tup _, .dct _, _, b, _ => nomatch b
  | .tup _, .obj _ _, _, b, _ => nomatch b
  | .tup _, .xc _ _ _, _, b, _ => nomatch b
  | .tup _, .exv _ _, _, b, _ => nomatch b
  | .lst _, .bl _, _, b, _ => nomatch b
  | .lst _, .ty _, _, b, _ => nomatch b
  | .lst _, .cls _, _, b, _ => nomatch b
  | .lst _, .dct _, _, b, _ => nomatch b
  | .lst _, .obj _ _, _, b, _ => nomatch b
  | .lst _, .xc _ _ _, _, b, _ => nomatch b
  | .lst _, .exv _ _, _, b, _ => nomatch b
theorem eqvs_same : ∀ {l m : List D}, noBs l = true → noBs m = true → PyData.eqvAll (toPys l) (toPys m) = true → l = m
  | [], [], _, _, _ => rfl
  | [], _ :: _, _, _, h => nomatch h
  | _ :: _, [], _, _, h => nomatch h
  | x :: l, y :: m, a, b, h => by
    have a' : (noB x && noBs l) = true := a
    have b' : (noB y && noBs m) = true := b
    have h' : (PyData.eqv (toPy x) (toPy y) && PyData.eqvAll (toPys l) (toPys m)) = true := h
    rw [Bool.and_eq_true] at a' b' h'
    rw [eqv_same a'.1 b'.1 h'.1, eqvs_same a'.2 b'.2 h'.2]
end
theorem eqD_ne {x y : D} (hx : noB x = true) (hy : noB y = true) (h : x ≠ y) : eqD x y = false := by
  cases q : eqD x y with
  | false => rfl
  | true => exact absurd (eqv_same hx hy q) h
theorem eqD_refl {d : D} (h : pyOk d = true) : eqD d d = true := PySem.SeqAt.eqv_refl (toPy d) (canLay_plain (pyOk.plain h))
/-! ### pairs, units -/
abbrev UP := Str × Int
def pairD (p : UP) : D := .tup [.str p.1, .int p.2]
def unitD (u : List UP) : D := .tup (u.map pairD)
theorem pairD_inj {p q : UP} (h : pairD p = pairD q) : p = q := by
  unfold pairD at h
  injection h with h
  injection h with h1 h
  injection h1 with h1
  injection h with h2 _
  injection h2 with h2
  exact Prod.ext h1 h2
theorem pairs_inj : ∀ {u v : List UP}, u.map pairD = v.map pairD → u = v
  | [], [], _ => rfl
  | [], _ :: _, h => nomatch h
  | _ :: _, [], h => nomatch h
  | p :: u, q :: v, h => by
    rw [List.map_cons, List.map_cons] at h
    injection h with h1 h2
    rw [pairD_inj h1, pairs_inj h2]
theorem unitD_inj {u v : List UP} (h : unitD u = unitD v) : u = v := by
  unfold unitD at h
  injection h with h
  exact pairs_inj h
def isPairD : D → Bool
  | .tup [x, y] => isNameD x && isWhole y
  | _ => false
theorem isPairD_tup {l : List D} (h : l.length ≠ 2) : isPairD (.tup l) = false := by
  match l, h with
  | [], _ => rfl
  | [x], _ => rfl
  | [_, _], h => exact absurd rfl h
  | x :: y :: _ :: _, _ => rfl
theorem isPairD_of {d : D} (h : isPairD d = true) : ∃ p : UP, d = pairD p ∧ isNameS p.1 = true := by
  match d, h with
  | .tup [x, y], h =>
    have h' : (isNameD x && isWhole y) = true := h
    rw [Bool.and_eq_true] at h'
    obtain ⟨z, rfl, hz⟩ := isNameD_str h'.1
    obtain ⟨i, rfl⟩ := isWhole_int h'.2
    exact ⟨(z, i), rfl, hz⟩
theorem isPairD_pair {p : UP} (h : isNameS p.1 = true) : isPairD (pairD p) = true := by
  show (isNameS p.1 && true) = true
  rw [h]
  rfl
theorem pairs_of : ∀ {l : List D}, l.all isPairD = true → ∃ ps : List UP, l = ps.map pairD ∧ ∀ p ∈ ps, isNameS p.1 = true
  | [], _ => ⟨[], rfl, fun p hp => nomatch hp⟩
  | d :: l, h => by
    rw [List.all_cons, Bool.and_eq_true] at h
    obtain ⟨p, rfl, hp⟩ := isPairD_of h.1
    obtain ⟨ps, rfl, hps⟩ := pairs_of h.2
    refine ⟨p :: ps, rfl, fun q hq => ?_⟩
    rcases List.mem_cons.mp hq with e | e
    · rw [e]; exact hp
    · exact hps q e
/-- the second is not nought -/
def nzD : D → Bool
  | .tup [_, .int e] => !decide (e = 0)
  | _ => false
def fstD : D → D
  | .tup (x :: _) => x
  | _ => .non
def txtD : D → Str
  | .str z => z
  | _ => ""
/-- the sum of a name's exponents -/
def sumAt (ps : List UP) (z : Str) : Int := ((ps.filter fun p => decide (p.1 = z)).map (·.2)).sum
def unitOf (ps : List UP) : List UP := ((sortT (ps.map (·.1))).map fun z => (z, sumAt ps z)).filter fun p => !decide (p.2 = 0)
def isUnitL (u : List UP) : Bool := u.all (fun p => isNameS p.1 && !decide (p.2 = 0)) && decide (u.map (·.1) = sortT (u.map (·.1)))
/-- a unit: rising names, exponents not nought -/
structure UnitOk (u : List UP) : Prop where
  nm : ∀ p ∈ u, isNameS p.1 = true
  nz : ∀ p ∈ u, p.2 ≠ 0
  ris : RisT (u.map (·.1))
def isUnitD : D → Bool
  | .tup l => l.all (fun d => isPairD d && nzD d) && eqD (.lst (l.map fstD)) (.lst ((sortT ((l.map fstD).map txtD)).map D.str))
  | _ => false
def S_is_pair : FS := fun ds r => ∃ d, ds = [d] ∧ dOk d = true ∧ r = .ok (.bl (isPairD d))
def S_is_unit : FS := fun ds r => ∃ d, ds = [d] ∧ dOk d = true ∧ (∀ l, d = .tup l → l.length < 64) ∧ r = .ok (.bl (isUnitD d))
/-- a list of pairs; no such list -/
def S_unit_of (C : Addr) : FS := fun ds r => (∃ ps : List UP, ds = [.lst (ps.map pairD)] ∧ (∀ p ∈ ps, isNameS p.1 = true) ∧ ps.length < 64 ∧ r = .ok (unitD (unitOf ps))) ∨
  (∃ d, ds = [d] ∧ dOk d = true ∧ (∀ l, d = .lst l → l.length < 64 ∧ l.all isPairD = false) ∧ r = .error ⟨C, []⟩)
def S_joined : FS := fun ds r => ∃ u v : List UP, ds = [unitD u, unitD v] ∧ (∀ p ∈ u, isNameS p.1 = true) ∧ (∀ p ∈ v, isNameS p.1 = true) ∧ u.length + v.length < 64 ∧ r = .ok (unitD (unitOf (u ++ v)))
def S_powered : FS := fun ds r => ∃ (u : List UP) (e : Int), ds = [unitD u, .int e] ∧ (∀ p ∈ u, isNameS p.1 = true ∧ Sm 1000 p.2) ∧ Sm 1000 e ∧ u.length < 64 ∧ r = .ok (unitD (unitOf (u.map fun p => (p.1, p.2 * e))))
def wordU (p : UP) : Str := if p.2 = 1 then p.1 else (Str.empty ++ p.1 ++ "^") ++ toString p.2
def shownU (u : List UP) : Str := Txt.join " " (u.map wordU)
def S_shown_unit : FS := fun ds r => ∃ u : List UP, ds = [unitD u] ∧ (∀ p ∈ u, p.1.length ≤ 8 ∧ p.2.natAbs < 2 ^ 1000) ∧ u.length < 64 ∧ r = .ok (.str (shownU u))
/-- the exponent that a text writes -/
def expOf (z : Str) : Option Int := match z.cps.toList with
  | [c] => if 50 ≤ c ∧ c ≤ 57 then some ((c : Int) - 48) else none
  | [m, c] => if m = 45 ∧ 49 ≤ c ∧ c ≤ 57 then some (48 - (c : Int)) else none
  | _ => none
def optI : Option Int → D
  | some i => .int i
  | none => .non
def S_exponent_of : FS := fun ds r => ∃ z : Str, ds = [.str z] ∧ z.length ≤ 5000 ∧ r = .ok (optI (expOf z))
/-- a word's name and exponent -/
def wordRead (w : Str) : Option UP :=
  let p := Txt.partition w "^"
  match (if p.2.1 = "" then some 1 else expOf p.2.2) with
  | some e => if isNameS p.1 = true then some (p.1, e) else none
  | none => none
def wordsRead : List Str → List UP → Option (List UP)
  | [], acc => some acc
  | w :: ws, acc => match wordRead w with
    | some p => if p.1 ∈ acc.map (·.1) then none else wordsRead ws (acc ++ [p])
    | none => none
def wordsOf (z : Str) : List Str := if z = "" then [] else Txt.split z " "
def readU : D → Option (List UP)
  | .str z => if isTextS z = true then (wordsRead (wordsOf z) []).map unitOf else none
  | _ => none
def S_read_unit (C : Addr) : FS := fun ds r => ∃ d, ds = [d] ∧ dOk d = true ∧ (∀ z, d = .str z → (wordsOf z).length < 64) ∧ r = match readU d with | some u => .ok (unitD u) | none => .error ⟨C, []⟩
end
section
variable {X : Cx} {Gs G : Hp} {ds : List D} {r : Except Exn D} {C : Addr}
theorem b_is_pair (B : Body X N_is_pair L_is_pair G_is_pair 3 (defScope s_is_pair)) (F1 : FnD X 2 "is_name" [] S_is_name) (F2 : FnD X 2 "is_whole" [] S_is_whole) (m1 : X.mg "isinstance" = none) (m2 : X.mg "tuple" = none) (m3 : X.mg "len" = none) (h : S_is_pair ds r) :
    SS X Gs G (defBody s_is_pair) (startA N_is_pair ds) (finOf r) := by
  obtain ⟨d, rfl, hd, rfl⟩ := h
  have ht := dOk.thing hd
  ktu_offI
  k_subL
  refine s1_ret (d := .bl (isPairD d)) ?_ rfl
  cases hs : isTyT d with
  | false =>
    refine ee_is (ee_andF (ee_is (d := .bl (isTyT d)) ?_ (by rw [hs]))) ?_
    · ktu_off1L
    · cases d <;> first | rfl | cases hs
  | true =>
    obtain ⟨l, rfl⟩ : ∃ l, d = .tup l := by cases d <;> first | exact ⟨_, rfl⟩ | cases hs
    by_cases hl : l.length = 2
    · obtain ⟨x, y, rfl⟩ : ∃ x y, l = [x, y] := by
        match l, hl with
        | [x, y], _ => exact ⟨x, y, rfl⟩
      have hx : dOk x = true := dOks.mem (l := [x, y]) hd x List.mem_cons_self
      have hy : dOk y = true := dOks.mem (l := [x, y]) hd y (List.mem_cons_of_mem _ List.mem_cons_self)
      refine ee_is (d := .bl (isTyT (.tup [x, y]) && (decide ((([x, y].length : Nat) : Int) = 2) && (isNameD x && isWhole y)))) ?_ rfl
      ktu_off1L
      · exact ⟨x, rfl, hx, rfl⟩
      ktu_off1L
      · exact ⟨y, rfl, dOk.thing hy, rfl⟩
      ktu_off1L
    · refine ee_is (ee_andT (ee_is (d := .bl (isTyT (.tup l))) ?_ rfl) (ee_andF (ee_is (d := .bl (decide (((l.length : Nat) : Int) = 2))) ?_ ?_))) ?_
      · ktu_off1L
      · ktu_off1L
      · rw [decide_eq_false (by omega)]
      · rw [isPairD_tup hl]
end
section
variable {X : Cx} {Gs G : Hp} {ds : List D} {r : Except Exn D} {C : Addr}
theorem all_map_bl (l : List D) (f : D → Bool) : (l.map fun d => D.bl (f d)) = (l.map f).map D.bl := by rw [List.map_map]; rfl
theorem all_id_map {α : Type} (l : List α) (f : α → Bool) : (l.map f).all id = l.all f := by rw [List.all_map]; rfl
theorem filter_true {α : Type} (l : List α) : (l.filter fun _ => true) = l := List.filter_eq_self.mpr fun _ _ => rfl
theorem pyOk_strs {l : List Str} (h : ∀ z ∈ l, PyData.strOk z = true) : pyOk (.lst (l.map D.str)) = true := by
  have h1 : ∀ {l : List Str}, (∀ z ∈ l, PyData.strOk z = true) → plains (l.map D.str) = true ∧ PyData.depthAll (toPys (l.map D.str)) = 0 := by
    intro l
    induction l with
    | nil => intro _; exact ⟨rfl, rfl⟩
    | cons z l ih =>
      intro h
      obtain ⟨a, b⟩ := ih fun y hy => h y (List.mem_cons_of_mem _ hy)
      refine ⟨?_, ?_⟩
      · show (PyData.strOk z && plains (l.map D.str)) = true
        rw [h z List.mem_cons_self, a]
        rfl
      · show max 0 (PyData.depthAll (toPys (l.map D.str))) = 0
        rw [b]
        rfl
  obtain ⟨a, b⟩ := h1 h
  show (plains (l.map D.str) && decide (PyData.depthAll (toPys (l.map D.str)) + 1 ≤ 64)) = true
  rw [a, b]
  rfl
theorem letters_small : ∀ c ∈ lettersS.cps.toList, c < 1114112 := by decide +kernel
theorem isNameS.ok {z : Str} (h : isNameS z = true) : PyData.strOk z = true := by
  unfold isNameS at h
  rw [Bool.and_eq_true] at h
  have h2 := List.all_eq_true.mp h.2
  show z.cps.all _ = true
  rw [← Array.all_toList]
  refine List.all_eq_true.mpr fun c hc => ?_
  have := of_decide_eq_true (h2 c hc)
  exact decide_eq_true (letters_small c this)
theorem noBs_strs : ∀ l : List Str, noBs (l.map D.str) = true
  | [] => rfl
  | z :: l => by
    show (true && noBs (l.map D.str)) = true
    rw [noBs_strs l]
    rfl
theorem strs_inj : ∀ {a b : List Str}, a.map D.str = b.map D.str → a = b
  | [], [], _ => rfl
  | [], _ :: _, h => nomatch h
  | _ :: _, [], h => nomatch h
  | x :: a, y :: b, h => by
    rw [List.map_cons, List.map_cons] at h
    injection h with h1 h2
    injection h1 with h1
    rw [h1, strs_inj h2]
theorem eqD_strs {a b : List Str} (ha : ∀ z ∈ a, PyData.strOk z = true) : eqD (.lst (a.map D.str)) (.lst (b.map D.str)) = decide (a = b) := by
  by_cases e : a = b
  · subst e
    rw [eqD_refl (pyOk_strs ha), decide_eq_true rfl]
  · rw [eqD_ne (x := .lst (a.map D.str)) (y := .lst (b.map D.str)) (noBs_strs a) (noBs_strs b) (fun h => e ?_), decide_eq_false e]
    injection h with h
    exact strs_inj h
theorem b_is_unit (B : Body X N_is_unit L_is_unit G_is_unit 5 (defScope s_is_unit)) (F1 : FnD X 4 "is_pair" [] S_is_pair) (m1 : X.mg "isinstance" = none) (m2 : X.mg "tuple" = none) (m3 : X.mg "all" = none) (m4 : X.mg "sorted" = none) (m5 : X.mg "set" = none) (h : S_is_unit ds r) :
    SS X Gs G (defBody s_is_unit) (startA N_is_unit ds) (finOf r) := by
  obtain ⟨d, rfl, hd, h64, rfl⟩ := h
  have ht := dOk.thing hd
  ktu_offI
  k_subL
  cases hs : isTyT d with
  | false =>
    refine s1_ifT (EW.et (ew_orT (et_is (k := !isTyT d) ?_ (by rw [hs]; rfl)))) ?_
    · ktu_off1L
    · k_places
      change (Except.ok _ : Except Exn D) = Except.ok _
      cases d <;> first | rfl | cases hs
  | true =>
    obtain ⟨l, rfl⟩ : ∃ l, d = .tup l := by cases d <;> first | exact ⟨_, rfl⟩ | cases hs
    have h64 := h64 l rfl
    have hlen : l.length < sizeLine := by rw [sizeLine_eq]; omega
    refine s1_if (b := !(l.all fun d => isPairD d && nzD d)) (EW.et (ew_is (k := !isTyT (.tup l) || !(l.map fun d => isPairD d && nzD d).all id) (ew_or ?_ fun _ => ew_or1 (et_not (et_val (e_all (by assumption) B.calm (by nest_cls) (by assumption) (ee_is (EN.ee (en_lc1 (ds := l) 2 [none, none, some "pair"] ["is_pair"] (fun d => .bl (isPairD d && nzD d)) (fun _ => true) B (iw_tup ?_) (by decide +kernel) hlen ?_)) ?_)) ?_))) ?_)) (fun hb => ?_) fun hb => ?_
    · ktu_off1L
    · ktu_off1L
    · intro s H cl C fp nb gb j d hj
      have hdd : dOk d = true := dOks.mem hd d (List.mem_of_getElem? hj)
      refine ⟨ets_nil, fun _ => ?_⟩
      have F1' := fn_in gb F1
      have r4 := room_in gb (B.room.mono (show 4 ≤ 5 by decide))
      cases hp : isPairD d with
      | false =>
        refine ee_andF (ee_is (d := .bl (isPairD d)) ?_ (by rw [hp]))
        ktu_off1L
        · exact ⟨d, rfl, hdd, rfl⟩
        ktu_off1L
      | true =>
        obtain ⟨p, rfl, hn⟩ := isPairD_of hp
        refine ee_is (d := .bl (isPairD (pairD p) && !decide (p.2 = 0))) ?_ (by rw [hp]; rfl)
        unfold pairD
        ktu_off1L
        · exact ⟨_, rfl, hdd, rfl⟩
        ktu_off1L
    · rw [filter_true, all_map_bl]
    · ktu_off1L
    · show (false || !(l.map fun d => isPairD d && nzD d).all id) = _
      rw [all_id_map, Bool.false_or]
    · k_places
      change (Except.ok _ : Except Exn D) = Except.ok _
      show Except.ok (D.bl ((l.all fun d => isPairD d && nzD d) && _)) = _
      rw [show (l.all fun d => isPairD d && nzD d) = false by simpa using hb]
      rfl
    · have hall : (l.all fun d => isPairD d && nzD d) = true := by simpa using hb
      have hp : l.all isPairD = true := List.all_eq_true.mpr fun d hd => ((Bool.and_eq_true _ _).mp (List.all_eq_true.mp hall d hd)).1
      obtain ⟨ps, rfl, hn⟩ := pairs_of hp
      have hst : ∀ z ∈ ps.map (·.1), PyData.strOk z = true := fun z hz => by
        obtain ⟨p, hp, rfl⟩ := List.mem_map.mp hz
        exact isNameS.ok (hn p hp)
      have hss : ∀ z ∈ sortT (ps.map (·.1)), PyData.strOk z = true := fun z hz => hst z (mem_sortT.mp hz)
      k_subL
      k_subL
      have e0 : (ps.map (·.1)).map D.str = ((ps.map pairD).filter fun _ => true).map fstD := by
        rw [filter_true, List.map_map, List.map_map]
        rfl
      refine t_setLc1 (as1 := [.fz (.tup (ps.map pairD)), .ow (.lst ((ps.map (·.1)).map D.str)), .un]) 2 [none, none, some "pair"] [] fstD (fun _ => true) B (by nest_cls) (iw_tup (ds := ps.map pairD) ?_) (by decide +kernel) (by decide +kernel) rfl hlen ?_ (by rw [← e0]; ktu_offL) ?_
      · ktu_off1L
      · intro s H cl C fp nb gb j d hj
        obtain ⟨p, _, rfl⟩ := map_at hj
        refine ⟨ets_nil, fun _ => ?_⟩
        unfold pairD
        ktu_off1L
      · k_subL
        refine s1_ret (d := .bl (eqD (.lst ((ps.map (·.1)).map D.str)) (.lst ((sortT (ps.map (·.1))).map D.str)))) (ee_cmp ?_ (EN.ee (en_sortSet (by assumption) B.calm (by nest_cls) (by nest_cls) (by assumption) (by assumption) ?_ ?_ ?_ ?_)) (oc_eqD B.room (pyOk_strs hst) (pyOk_strs hss)) ?_) ?_
        · ktu_off1L
        · ktu_off1L
        · rw [List.length_map]; rw [List.length_map] at h64; exact h64
        · ktu_off1L
        · ktu_off1L
        · ktu_off1L
        · change (Except.ok _ : Except Exn D) = Except.ok _
          show Except.ok (D.bl ((((ps.map pairD).all fun d => isPairD d && nzD d)) && _)) = _
          rw [hall, Bool.true_and]
          have e1 : (ps.map pairD).map fstD = (ps.map (·.1)).map D.str := by
            rw [List.map_map, List.map_map]
            rfl
          have e2 : ((ps.map pairD).map fstD).map txtD = ps.map (·.1) := by
            rw [e1, List.map_map]
            exact List.map_id _
          rw [e2, e1]
end
/-! ### unit_of -/
section
def getU (a : List UP) (z : Str) : Int := ((a.find? fun p => decide (p.1 = z)).map (·.2)).getD 0
def putU (a : List UP) (z : Str) (i : Int) : List UP := if (a.any fun p => decide (p.1 = z)) = true then a.map (fun p => if p.1 = z then (p.1, i) else p) else a ++ [(z, i)]
def dictOf (ps : List UP) : List UP := ps.foldl (fun a p => putU a p.1 (getU a p.1 + p.2)) []
theorem dictOf_snoc (ps : List UP) (p : UP) : dictOf (ps ++ [p]) = putU (dictOf ps) p.1 (getU (dictOf ps) p.1 + p.2) := by
  unfold dictOf
  rw [List.foldl_append]
  rfl
def kvU (a : List UP) : List (Key × D) := keysT (a.map fun p => (p.1, D.int p.2))
theorem kvU_cons (p : UP) (a : List UP) : kvU (p :: a) = (.inr p.1, .int p.2) :: kvU a := rfl
theorem inr_dec (x z : Str) : decide ((Sum.inr x : Key) = Sum.inr z) = decide (x = z) := dec_iff ⟨fun h => Sum.inr.inj h, fun h => by rw [h]⟩
theorem valD_kvU (z : Str) : ∀ a : List UP, valD (kvU a) (.inr z) = (a.find? fun p => decide (p.1 = z)).map fun p => D.int p.2
  | [] => rfl
  | p :: a => by
    have ih := valD_kvU z a
    unfold valD at ih ⊢
    rw [kvU_cons, List.find?_cons, List.find?_cons, inr_dec]
    cases decide (p.1 = z) with
    | true => rfl
    | false => exact ih
theorem getU_D (a : List UP) (z : Str) : (valD (kvU a) (.inr z)).getD (.int 0) = .int (getU a z) := by
  rw [valD_kvU]
  unfold getU
  cases a.find? fun p => decide (p.1 = z) <;> rfl
theorem any_kvU (z : Str) : ∀ a : List UP, ((kvU a).any fun kv => decide (kv.1 = Sum.inr z)) = a.any fun p => decide (p.1 = z)
  | [] => rfl
  | p :: a => by rw [kvU_cons, List.any_cons, List.any_cons, any_kvU z a, inr_dec]
theorem map_kvU (z : Str) (i : Int) : ∀ a : List UP, ((kvU a).map fun kv => if kv.1 = Sum.inr z then (kv.1, D.int i) else kv) = kvU (a.map fun p => if p.1 = z then (p.1, i) else p)
  | [] => rfl
  | p :: a => by
    rw [kvU_cons, List.map_cons, List.map_cons, kvU_cons, map_kvU z i a]
    by_cases e : p.1 = z
    · rw [if_pos (by rw [e]), if_pos e]
    · rw [if_neg (fun h => e (Sum.inr.inj h)), if_neg e]
theorem put_kvU (a : List UP) (z : Str) (i : Int) : putKD (kvU a) (.inr z) (.int i) = kvU (putU a z i) := by
  unfold putKD putU
  rw [any_kvU]
  split
  · exact map_kvU z i a
  · unfold kvU keysT
    rw [List.map_append, List.map_append]
    rfl
theorem find_putU_same (z : Str) (i : Int) : ∀ a : List UP, getU (putU a z i) z = i := by
  intro a
  unfold putU
  split
  · rename_i h
    induction a with
    | nil => simp at h
    | cons p a ih =>
      by_cases e : p.1 = z
      · simp [getU, List.find?_cons, e]
      · rw [List.any_cons, decide_eq_false e, Bool.false_or] at h
        have q := ih h
        unfold getU at q ⊢
        rw [List.map_cons, if_neg e, List.find?_cons, decide_eq_false e]
        exact q
  · rename_i h
    have h0 : a.find? (fun p => decide (p.1 = z)) = none := by
      rw [List.find?_eq_none]
      intro p hp hq
      exact h (List.any_eq_true.mpr ⟨p, hp, hq⟩)
    unfold getU
    rw [List.find?_append, h0]
    simp
theorem find_putU_ne {y z : Str} (i : Int) (hy : y ≠ z) : ∀ a : List UP, getU (putU a z i) y = getU a y := by
  intro a
  unfold putU
  split
  · rename_i h
    clear h
    induction a with
    | nil => rfl
    | cons p a ih =>
      unfold getU at ih ⊢
      rw [List.map_cons, List.find?_cons, List.find?_cons]
      by_cases e : p.1 = z
      · rw [if_pos e, decide_eq_false (by rw [e]; exact fun h => hy h.symm)]
        exact ih
      · rw [if_neg e]
        cases decide (p.1 = y) with
        | true => rfl
        | false => exact ih
  · unfold getU
    rw [List.find?_append]
    cases a.find? fun p => decide (p.1 = y) with
    | some p => rfl
    | none =>
      rw [List.find?_cons, decide_eq_false (fun h : z = y => hy h.symm)]
      rfl
theorem names_putU (z : Str) (i : Int) (a : List UP) : (putU a z i).map (·.1) = if z ∈ a.map (·.1) then a.map (·.1) else a.map (·.1) ++ [z] := by
  have e : (a.any fun p => decide (p.1 = z)) = decide (z ∈ a.map (·.1)) := by
    rw [Bool.eq_iff_iff, List.any_eq_true, decide_eq_true_eq, List.mem_map]
    exact ⟨fun ⟨p, h1, h2⟩ => ⟨p, h1, of_decide_eq_true h2⟩, fun ⟨p, h1, h2⟩ => ⟨p, h1, decide_eq_true h2⟩⟩
  unfold putU
  rw [e]
  by_cases h : z ∈ a.map (·.1)
  · rw [if_pos (decide_eq_true h), if_pos h, List.map_map]
    refine List.map_congr_left fun p _ => ?_
    show (if p.1 = z then (p.1, i) else p).1 = p.1
    split <;> rfl
  · rw [if_neg (by rw [decide_eq_false h]; exact Bool.false_ne_true), if_neg h, List.map_append]
    rfl
theorem sumAt_snoc (ps : List UP) (p : UP) (z : Str) : sumAt (ps ++ [p]) z = sumAt ps z + (if p.1 = z then p.2 else 0) := by
  unfold sumAt
  rw [List.filter_append, List.map_append, List.sum_append]
  congr 1
  by_cases e : p.1 = z
  · simp [e]
  · simp [e]
theorem snoc_ind {α : Type} {P : List α → Prop} (h0 : P []) (h1 : ∀ l x, P l → P (l ++ [x])) (l : List α) : P l := by
  have h : ∀ m : List α, P m.reverse := by
    intro m
    induction m with
    | nil => exact h0
    | cons x m ih => rw [List.reverse_cons]; exact h1 _ x ih
  have := h l.reverse
  rwa [List.reverse_reverse] at this
/-- what the dict has behind the pairs -/
theorem dictOf_ok : ∀ ps : List UP, (∀ z, getU (dictOf ps) z = sumAt ps z) ∧ ((dictOf ps).map (·.1)).Nodup ∧ (∀ z, z ∈ (dictOf ps).map (·.1) ↔ z ∈ ps.map (·.1)) ∧ (dictOf ps).length ≤ ps.length := by
  refine snoc_ind ⟨fun z => rfl, List.nodup_nil, fun z => Iff.rfl, Nat.le_refl _⟩ fun ps p ih => ?_
  obtain ⟨h1, h2, h3, h4⟩ := ih
  have hn := names_putU p.1 (getU (dictOf ps) p.1 + p.2) (dictOf ps)
  rw [dictOf_snoc]
  refine ⟨fun z => ?_, ?_, fun z => ?_, ?_⟩
  · rw [sumAt_snoc]
    by_cases e : z = p.1
    · subst e
      rw [find_putU_same, h1, if_pos rfl]
    · rw [find_putU_ne _ e, h1, if_neg (fun h => e h.symm), Int.add_zero]
  · rw [hn]
    split
    · exact h2
    · rename_i h
      rw [List.nodup_append]
      refine ⟨h2, by simp, fun a ha b hb e => ?_⟩
      rw [List.mem_singleton.mp hb] at e
      rw [e] at ha
      exact h ha
  · rw [hn, List.map_append]
    split
    · rename_i h
      rw [h3, List.mem_append]
      refine ⟨.inl, fun q => q.elim id fun q => ?_⟩
      rw [List.map_cons, List.map_nil, List.mem_singleton] at q
      rw [q]
      exact (h3 p.1).mp h
    · rw [List.mem_append, List.mem_append, h3]
      rfl
  · have e1 := congrArg List.length hn
    rw [List.length_map] at e1
    rw [e1, List.length_append, List.length_singleton]
    split
    · rw [List.length_map]; omega
    · rw [List.length_append, List.length_map, List.length_singleton]; omega
theorem unitOf_made (ps : List UP) : (((sortT ((dictOf ps).map (·.1))).map D.str).filter fun d => match d with | .str z => !decide (getU (dictOf ps) z = 0) | _ => false).map (fun d => match d with | .str z => pairD (z, getU (dictOf ps) z) | _ => .non) = (unitOf ps).map pairD := by
  obtain ⟨h1, h2, h3, _⟩ := dictOf_ok ps
  have es : sortT ((dictOf ps).map (·.1)) = sortT (ps.map (·.1)) := ris_uniq (ris_sortT _) (ris_sortT _) fun z => by rw [mem_sortT, mem_sortT, h3]
  rw [es]
  unfold unitOf
  rw [List.filter_map, List.map_map, List.filter_map, List.map_map]
  have e2 : (fun z : Str => !decide (getU (dictOf ps) z = 0)) = fun z => !decide (sumAt ps z = 0) := funext fun z => by rw [h1]
  show List.map _ (List.filter (fun z : Str => !decide (getU (dictOf ps) z = 0)) _) = List.map _ (List.filter (fun z => !decide (sumAt ps z = 0)) _)
  rw [e2]
  refine List.map_congr_left fun z _ => ?_
  show pairD (z, getU (dictOf ps) z) = pairD (z, sumAt ps z)
  rw [h1]
end
section
variable {X : Cx} {Gs G : Hp} {ds : List D} {r : Except Exn D} {C : Addr}
theorem dOks_pairs {ps : List UP} (h : ∀ p ∈ ps, isNameS p.1 = true) : dOk (.lst (ps.map pairD)) = true := by
  refine dOks.of fun d hd => ?_
  obtain ⟨p, hp, rfl⟩ := List.mem_map.mp hd
  have := isNameS.len (h p hp)
  show (decide (p.1.length ≤ 5000) && (true && true)) = true
  rw [decide_eq_true (by omega)]
  rfl
theorem all_pairs {ps : List UP} (h : ∀ p ∈ ps, isNameS p.1 = true) : (ps.map pairD).all isPairD = true := by
  rw [List.all_map]
  exact List.all_eq_true.mpr fun p hp => isPairD_pair (h p hp)
theorem b_unit_of (B : Body X N_unit_of L_unit_of G_unit_of 5 (defScope s_unit_of)) (F1 : FnD X 4 "is_pair" [] S_is_pair) (E1 : ExcOk X "BadUnit" C) (m1 : X.mg "isinstance" = none) (m2 : X.mg "list" = none) (m3 : X.mg "all" = none) (m4 : X.mg "sorted" = none) (m5 : X.mg "tuple" = none) (h : S_unit_of C ds r) :
    SS X Gs G (defBody s_unit_of) (startA N_unit_of ds) (finOf r) := by
  rcases h with ⟨ps, rfl, hn, h64, rfl⟩ | ⟨d, rfl, hd, hb, rfl⟩
  · have hd := dOks_pairs hn
    have hlen : (ps.map pairD).length < sizeLine := by rw [List.length_map, sizeLine_eq]; omega
    ktu_offI
    k_subL
    refine s1_ifF (EW.et (ew_is (k := !isTyL (.lst (ps.map pairD)) || !((ps.map pairD).map isPairD).all id) (ew_or ?_ fun _ => ew_or1 (et_not (et_val (e_all (by assumption) B.calm (by nest_cls) (by assumption) (ee_is (EN.ee (en_lc1 (ds := ps.map pairD) 4 [none, none, none, none, some "pair"] ["is_pair"] (fun d => .bl (isPairD d)) (fun _ => true) B (iw_list ?_) (by decide +kernel) hlen ?_)) ?_)) ?_))) ?_)) ?_
    · ktu_off1L
    · ktu_off1L
    · intro s H cl C fp nb gb j d hj
      have hdd : dOk d = true := dOks.mem hd d (List.mem_of_getElem? hj)
      refine ⟨ets_nil, fun _ => ?_⟩
      have F1' := fn_in gb F1
      have r4 := room_in gb (B.room.mono (show 4 ≤ 5 by decide))
      ktu_off1L
      · exact ⟨d, rfl, hdd, rfl⟩
      ktu_off1L
    · rw [filter_true, all_map_bl]
    · ktu_off1L
    · show (false || !((ps.map pairD).map isPairD).all id) = false
      rw [all_id_map, all_pairs hn]
      rfl
    · k_subL
      k_subL
      refine t_setN (as1 := [.fz (.lst (ps.map pairD)), .ow (.dct []), .un, .un, .un]) B (by nest_cls) en_dnew (by ktu_off1L) (by ktu_offL) ?_
      k_subL
      refine t_for B (two 2 3) (iw_list (ds := ps.map pairD) ?_) (fun j as' => ∃ s2 s3, as' = [.fz (.lst (ps.map pairD)), .ow (.dct (kvU (dictOf (ps.take j)))), s2, s3, .un]) ⟨_, _, rfl⟩ ?_ ?_ ?_
      · ktu_off1L
      · intro j d hj
        obtain ⟨p, _, rfl⟩ := map_at hj
        exact tg_two B (by nest_cls) (by nest_cls)
      · rintro j d as' hj ⟨s2, s3, rfl⟩
        obtain ⟨p, hp, rfl⟩ := map_at hj
        show SS X Gs G _ [.fz (.lst (ps.map pairD)), .ow (.dct (kvU (dictOf (ps.take j)))), .fz (.str p.1), .fz (.int p.2), .un] _
        have ez : (kvU (dictOf (ps.take j))).length < sizeLine := by
          have := (dictOf_ok (ps.take j)).2.2.2
          unfold kvU keysT
          rw [List.length_map, List.length_map, sizeLine_eq]
          rw [List.length_take] at this
          omega
        k_subL
        refine t_dputV (key := .inr p.1) (d := .int (getU (dictOf (ps.take j)) p.1 + p.2)) (as1 := [.fz (.lst (ps.map pairD)), .ow (.dct (kvU (dictOf (ps.take (j + 1))))), .fz (.str p.1), .fz (.int p.2), .un]) B (by nest_cls) rfl (ee_bin (x := .int (getU (dictOf (ps.take j)) p.1)) (y := .int p.2) (ee_is (ee_dget2 (k := .inr p.1) (x := .int 0) B.room ?_ ?_ ?_) (getU_D _ _)) ?_ ?_) rfl ?_ ez ?_ ?_
        · ktu_off1L
        · show EE X _ _ (.str p.1)
          ktu_off1L
        · ktu_off1L
        · ktu_off1L
        · ktu_off1L
        · show EE X _ _ (.str p.1)
          ktu_off1L
        · rw [put_kvU, List.take_add_one, hp]
          show SetA _ _ _ [_, .ow (.dct (kvU (dictOf (ps.take j ++ [p])))), _, _, _]
          rw [dictOf_snoc]
          ktu_offL
        · exact ⟨_, _, rfl⟩
      · rintro as' ⟨s2, s3, rfl⟩
        rw [List.length_map, List.take_length]
        obtain ⟨_, d2, d3, d4⟩ := dictOf_ok ps
        have ks : ((dictOf ps).map fun p => (p.1, D.int p.2)).map (·.1) = (dictOf ps).map (·.1) := by
          rw [List.map_map]
          rfl
        k_subL
        refine s1_ret (d := .tup ((unitOf ps).map pairD)) (e_tupL (by assumption) (by nest_cls) (by assumption) (ee_is (EN.ee (en_lc1 (ds := (sortT ((dictOf ps).map (·.1))).map D.str) 2 [none, some "found", some "name"] [] (fun d => match d with | .str z => pairD (z, getU (dictOf ps) z) | _ => .non) (fun d => match d with | .str z => !decide (getU (dictOf ps) z = 0) | _ => false) B (iw_list (ee_is (EN.ee (en_sortD (ks := (dictOf ps).map fun p => (p.1, D.int p.2)) (by assumption) B.calm (by nest_cls) (by assumption) ?_ ?_ ?_ ?_)) ?_)) (by decide +kernel) ?_ ?_)) ?_) ?_) ?_
        · exact e_name (by assumption) (by nest_cls) rfl
        · rw [ks]; exact d2
        · rw [List.length_map]; omega
        · ktu_off1L
        · rw [ks]
        · have := len_sortT ((dictOf ps).map (·.1))
          rw [List.length_map] at this
          rw [List.length_map, sizeLine_eq]
          omega
        · intro s H cl C fp nb gb j d hj
          obtain ⟨z, hz, rfl⟩ := map_at hj
          have hm : z ∈ (dictOf ps).map (·.1) := mem_sortT.mp (List.mem_of_getElem? hz)
          have hv : valD (kvU (dictOf ps)) (.inr z) = some (.int (getU (dictOf ps) z)) := by
            rw [valD_kvU]
            unfold getU
            cases hf : (dictOf ps).find? fun p => decide (p.1 = z) with
            | some p => rfl
            | none =>
              obtain ⟨p, hp, e⟩ := List.mem_map.mp hm
              have := List.find?_eq_none.mp hf p hp
              rw [decide_eq_true e] at this
              exact absurd rfl this
          have r5 := room_in gb B.room
          refine ⟨ets_one (et_cmp (x := .int (getU (dictOf ps) z)) (y := .int 0) (ee_dget (k := .inr z) (ks := kvU (dictOf ps)) r5 ?_ ?_ hv) ?_ oc_neI ?_), fun _ => ?_⟩
          · ktu_off1L
          · show EE _ _ _ (.str z)
            ktu_off1L
          · ktu_off1L
          · ktu_off1L
          · show EE _ _ _ (.tup [.str z, .int (getU (dictOf ps) z)])
            refine ee_tup (ea_cons ?_ (ea_cons (ee_dget (k := .inr z) (ks := kvU (dictOf ps)) r5 ?_ ?_ hv) ea_nil ?_) ?_) (len_le (by rfl))
            · ktu_off1L
            · ktu_off1L
            · show EE _ _ _ (.str z)
              ktu_off1L
            · ktu_off1L
            · ktu_off1L
        · rw [unitOf_made]
        · ktu_off1L
        · rfl
  · have ht := dOk.thing hd
    ktu_offI
    k_subL
    cases hs : isTyL d with
    | false =>
      refine s1_ifT (EW.et (ew_orT (et_is (k := !isTyL d) ?_ (by rw [hs]; rfl)))) ?_
      · ktu_off1L
      · k_places
        rfl
    | true =>
      obtain ⟨l, rfl⟩ : ∃ l, d = .lst l := by cases d <;> first | exact ⟨_, rfl⟩ | cases hs
      obtain ⟨h64, hall⟩ := hb l rfl
      have hlen : l.length < sizeLine := by rw [sizeLine_eq]; omega
      refine s1_ifT (EW.et (ew_is (k := !isTyL (.lst l) || !(l.map isPairD).all id) (ew_or ?_ fun _ => ew_or1 (et_not (et_val (e_all (by assumption) B.calm (by nest_cls) (by assumption) (ee_is (EN.ee (en_lc1 (ds := l) 4 [none, none, none, none, some "pair"] ["is_pair"] (fun d => .bl (isPairD d)) (fun _ => true) B (iw_list ?_) (by decide +kernel) hlen ?_)) ?_)) ?_))) ?_)) ?_
      · ktu_off1L
      · ktu_off1L
      · intro s H cl C fp nb gb j d hj
        have hdd : dOk d = true := dOks.mem hd d (List.mem_of_getElem? hj)
        refine ⟨ets_nil, fun _ => ?_⟩
        have F1' := fn_in gb F1
        have r4 := room_in gb (B.room.mono (show 4 ≤ 5 by decide))
        ktu_off1L
        · exact ⟨d, rfl, hdd, rfl⟩
        ktu_off1L
      · rw [filter_true, all_map_bl]
      · ktu_off1L
      · show (false || !(l.map isPairD).all id) = true
        rw [all_id_map, hall]
        rfl
      · k_places
        rfl
end
section
variable {X : Cx} {Gs G : Hp} {ds : List D} {r : Except Exn D} {C : Addr}
theorem b_joined (B : Body X N_joined L_joined G_joined 7 (defScope s_joined)) (F1 : FnD X 6 "unit_of" [] (S_unit_of C)) (m1 : X.mg "list" = none) (h : S_joined ds r) :
    SS X Gs G (defBody s_joined) (startA N_joined ds) (finOf r) := by
  obtain ⟨u, v, rfl, hu, hv, hl, rfl⟩ := h
  have hsz : (u.map pairD).length + (v.map pairD).length ≤ sizeLine := by rw [List.length_map, List.length_map, sizeLine_eq]; omega
  ktu_offI
  k_subL
  refine s1_ret (d := unitD (unitOf (u ++ v))) (e_call (ds := [.lst (u.map pairD ++ v.map pairD)]) (by assumption) F1 (by nest_cls) (by (with_reducible first | assumption | exact Mw.Body.room (by assumption) | exact L2.Room.mono (Mw.Body.room (by assumption)) (by with_unfolding_all decide))) (ea_cons (ee_bin (EN.ee (n_listT (by assumption) (by nest_cls) (by assumption) ?_ ?_)) (EN.ee (n_listT (by assumption) (by nest_cls) (by assumption) ?_ ?_)) (od_catL hsz)) ea_nil ?_) ?_ ?_ ?_) rfl
  · exact e_name (as := vis [.fz (unitD u), .fz (unitD v)]) (by assumption) (by nest_cls) rfl
  · ktu_off1L
  · exact e_name (as := vis [.fz (unitD u), .fz (unitD v)]) (by assumption) (by nest_cls) rfl
  · ktu_off1L
  · ktu_off1L
  · rw [List.append_nil]
    refine .inl ⟨u ++ v, by rw [List.map_append], fun p hp => ?_, by rw [List.length_append]; exact hl, rfl⟩
    rcases List.mem_append.mp hp with q | q
    · exact hu p q
    · exact hv p q
  · ktu_off1L
  · ktu_off1L
theorem b_powered (B : Body X N_powered L_powered G_powered 7 (defScope s_powered)) (F1 : FnD X 6 "unit_of" [] (S_unit_of C)) (h : S_powered ds r) :
    SS X Gs G (defBody s_powered) (startA N_powered ds) (finOf r) := by
  obtain ⟨u, e, rfl, hu, he, hl, rfl⟩ := h
  have hlen : (u.map pairD).length < sizeLine := by rw [List.length_map, sizeLine_eq]; omega
  ktu_offI
  k_subL
  refine s1_ret (d := unitD (unitOf (u.map fun p => (p.1, p.2 * e)))) (e_call (ds := [.lst ((u.map fun p => (p.1, p.2 * e)).map pairD)]) (by assumption) F1 (by nest_cls) (by (with_reducible first | assumption | exact Mw.Body.room (by assumption) | exact L2.Room.mono (Mw.Body.room (by assumption)) (by with_unfolding_all decide))) (ea_cons (ee_is (EN.ee (en_lc2 (ds := u.map pairD) 2 3 [none, some "exponent", some "name", some "own"] [] (fun d => match d with | .tup [x, .int i] => .tup [x, .int (i * e)] | _ => .non) (fun _ => true) B (iw_tup ?_) (by decide +kernel) hlen ?_ ?_)) ?_) ea_nil ?_) ?_ ?_ ?_) rfl
  · exact e_name (by assumption) (by nest_cls) rfl
  · intro t d hd
    obtain ⟨p, _, rfl⟩ := map_at hd
    exact ⟨_, _, rfl⟩
  · intro s H cl C fp nb gb t x y hd
    obtain ⟨p, hp, e1⟩ := map_at hd
    unfold pairD at e1
    injection e1 with e1
    injection e1 with ex e1
    injection e1 with ey _
    subst ex ey
    have hm := hu p (List.mem_of_getElem? hp)
    have hc : CMulW p.2 e := cmulW_of hm.2 he (by decide) (by decide) (by decide)
    refine ⟨ets_nil, fun _ => ?_⟩
    show EE _ _ _ (.tup [.str p.1, .int (p.2 * e)])
    ktu_off1L
  · rw [filter_true, List.map_map, List.map_map]
    rfl
  · ktu_off1L
  · rw [List.append_nil]
    refine .inl ⟨_, rfl, fun p hp => ?_, by rw [List.length_map]; exact hl, rfl⟩
    obtain ⟨q, hq, rfl⟩ := List.mem_map.mp hp
    exact (hu q hq).1
  · ktu_off1L
  · ktu_off1L
end
section
variable {X : Cx} {Gs G : Hp} {ds : List D} {r : Except Exn D} {C : Addr}
theorem log2_small {i : Int} (h : i.natAbs < 2 ^ 1000) : i.natAbs.log2 < 1920 := Nat.lt_of_lt_of_le (PySem.Flt.log2_lt_of (k := 1000) (by decide) h) (by decide)
theorem b_shown_unit (B : Body X N_shown_unit L_shown_unit G_shown_unit 1 (defScope s_shown_unit)) (h : S_shown_unit ds r) :
    SS X Gs G (defBody s_shown_unit) (startA N_shown_unit ds) (finOf r) := by
  obtain ⟨u, rfl, hu, hl, rfl⟩ := h
  ktu_offI
  k_subL
  refine t_setN B (by nest_cls) (en_lst (ds := []) (by ktu_off1L) (by ktu_off1L)) ?_ (by ktu_offL) ?_
  · ktu_off1L
  k_subL
  refine t_for B (two 2 3) (iw_tup (ds := u.map pairD) ?_) (fun j as' => ∃ s2 s3, as' = [.fz (.tup (u.map pairD)), .ow (.lst ((u.take j).map fun p => .str (wordU p))), s2, s3]) ⟨_, _, rfl⟩ ?_ ?_ ?_
  · exact e_name (by assumption) (by nest_cls) rfl
  · intro j d hj
    obtain ⟨p, _, rfl⟩ := map_at hj
    exact tg_two B (by nest_cls) (by nest_cls)
  · rintro j d as' hj ⟨s2, s3, rfl⟩
    obtain ⟨p, hp, rfl⟩ := map_at hj
    obtain ⟨h8, hb⟩ := hu p (List.mem_of_getElem? hp)
    have hi := log2_small hb
    have hs := PyProof.Rows.int_text_len_1921 hi
    have e0 : (Str.empty : Str).length = 0 := rfl
    have e1 : (("^" : Str)).length = 1 := by decide +kernel
    have z : ∀ n : Nat, n ≤ 10000 → n ≤ sizeLine := fun n h => Nat.le_trans h (by decide)
    have hlen : ((u.take j).map fun p => D.str (wordU p)).length < sizeLine := by rw [List.length_map, List.length_take, sizeLine_eq]; omega
    show SS X Gs G _ [.fz (.tup (u.map pairD)), .ow (.lst ((u.take j).map fun p => .str (wordU p))), .fz (.str p.1), .fz (.int p.2)] _
    k_subL
    refine t_append (as1 := [.fz (.tup (u.map pairD)), .ow (.lst ((u.take j).map (fun p => .str (wordU p)) ++ [.str (wordU p)])), .fz (.str p.1), .fz (.int p.2)]) B (by nest_cls) rfl (d := .str (wordU p)) (ee_is (ee_if (k := decide (p.2 = 1)) (d1 := .str p.1) (d2 := .str ((Str.empty ++ p.1 ++ "^") ++ toString p.2)) ?_ (fun _ => ?_) fun _ => ?_) ?_) hlen ?_ ?_ ?_ ?_ ?_ ?_
    · ktu_off1L
    · ktu_off1L
    · ktu_off1L
      · exact z _ (by omega)
      ktu_off1L
      · exact z _ (by rw [Str.length_append]; omega)
      ktu_off1L
      · exact z _ (by rw [Str.length_append, Str.length_append]; omega)
      ktu_off1L
      · exact z _ (by rw [Str.length_append, Str.length_append, Str.length_append]; omega)
      ktu_off1L
    · unfold wordU
      by_cases h1 : p.2 = 1
      · rw [decide_eq_true h1, if_pos rfl, if_pos h1]
      · rw [decide_eq_false h1, if_neg Bool.false_ne_true, if_neg h1]
    · ktu_off1L
    · rfl
    · ktu_off1L
    · ktu_off1L
    · ktu_offL
    · refine ⟨.fz (.str p.1), .fz (.int p.2), ?_⟩
      rw [List.take_add_one, hp, List.map_append]
      rfl
  · rintro as' ⟨s2, s3, rfl⟩
    rw [List.length_map, List.take_length]
    have hw : ∀ p ∈ u, (wordU p).length ≤ 2000 := fun p hp => by
      obtain ⟨h8, hb⟩ := hu p hp
      have hs := PyProof.Rows.int_text_len_1921 (log2_small hb)
      have e0 : (Str.empty : Str).length = 0 := rfl
      have e1 : (("^" : Str)).length = 1 := by decide +kernel
      unfold wordU
      split
      · omega
      · rw [Str.length_append, Str.length_append, Str.length_append]; omega
    have hsum : ∀ l : List UP, (∀ p ∈ l, (wordU p).length ≤ 2000) → ((l.map wordU).map (·.length)).sum ≤ l.length * 2000 := by
      intro l
      induction l with
      | nil => intro _; exact Nat.le_refl _
      | cons p l ih =>
        intro h
        have a := ih fun q hq => h q (List.mem_cons_of_mem _ hq)
        have b := h p List.mem_cons_self
        rw [List.map_cons, List.map_cons, List.sum_cons, List.length_cons, Nat.succ_mul]
        omega
    have hh := hsum u hw
    have e1 : ((" " : Str)).length = 1 := by decide +kernel
    k_subL
    refine s1_ret (d := .str (shownU u)) (e_join (z := " ") (ys := u.map wordU) ?_ (ee_is (e_name (by assumption) (by nest_cls) rfl) ?_) ?_ ?_ ?_ ?_ ?_) rfl
    · ktu_off1L
    · rw [List.map_map]
      rfl
    · rw [e1, List.length_map]; omega
    · ktu_off1L
    · ktu_off1L
    · rfl
    · ktu_off1L
end
section
variable {X : Cx} {Gs G : Hp} {ds : List D} {r : Except Exn D} {C : Addr}
abbrev figuresS : Str := "123456789"
theorem mem_figures {c : Nat} : c ∈ figuresS.cps.toList ↔ 49 ≤ c ∧ c ≤ 57 := by
  have e : figuresS.cps.toList = [49, 50, 51, 52, 53, 54, 55, 56, 57] := by decide +kernel
  rw [e]
  simp only [List.mem_cons, List.not_mem_nil, or_false]
  omega
/-- what the program looks at: the figure behind a minus -/
def figOf (z : Str) : Str := if cutS z none (some 1) = "-" then cutS z (some 1) none else z
theorem str_eq {a b : Str} (h : a.cps.toList = b.cps.toList) : a = b := by
  cases a; cases b
  simp only [Str.mk.injEq]
  exact Array.toList_inj.mp h
theorem cut_first (z : Str) : (cutS z none (some 1)).cps.toList = z.cps.toList.take 1 := by
  unfold cutS
  rw [HT.sIx_none, show HT.sIx z.length z.length (some 1) = min 1 z.length from HT.sIx_nat _ _ 1, List.drop_zero, Nat.sub_zero]
  show List.take (min 1 z.cps.size) z.cps.toList = _
  rw [← Array.length_toList, List.take_eq_take_iff]
  omega
theorem cut_rest (z : Str) : (cutS z (some 1) none).cps.toList = z.cps.toList.drop 1 := by
  unfold cutS
  rw [HT.sIx_none, show HT.sIx z.length 0 (some 1) = min 1 z.length from HT.sIx_nat _ _ 1]
  show List.take (z.cps.size - min 1 z.cps.size) (List.drop (min 1 z.cps.size) z.cps.toList) = _
  rw [← Array.length_toList]
  cases z.cps.toList with
  | nil => rfl
  | cons a l =>
    have : min 1 (a :: l).length = 1 := by rw [List.length_cons]; omega
    rw [this, List.take_of_length_le]
    rw [List.length_drop]
    exact Nat.le_refl _
theorem minus_list : ("-" : Str).cps.toList = [45] := by decide +kernel
theorem figOf_list (z : Str) : (figOf z).cps.toList = match z.cps.toList with | 45 :: t => t | l => l := by
  unfold figOf
  by_cases h : cutS z none (some 1) = "-"
  · rw [if_pos h, cut_rest]
    have e := congrArg (fun s : Str => s.cps.toList) h
    have e : (cutS z none (some 1)).cps.toList = ("-" : Str).cps.toList := e
    rw [cut_first, minus_list] at e
    cases hl : z.cps.toList with
    | nil => rw [hl] at e; cases e
    | cons a l =>
      rw [hl, List.take_succ_cons, List.take_zero] at e
      injection e with e
      subst e
      rfl
  · rw [if_neg h]
    cases hl : z.cps.toList with
    | nil => rfl
    | cons a l =>
      by_cases ha : a = 45
      · exfalso
        subst ha
        refine h (str_eq ?_)
        rw [cut_first, hl, minus_list]
        rfl
      · show a :: l = (match a :: l with | 45 :: t => t | l => l)
        split
        · rename_i t e
          injection e with e _
          exact absurd e ha
        · rfl
theorem one_list : ("1" : Str).cps.toList = [49] := by decide +kernel
theorem text_one {z : Str} {l : List Nat} (h : z.cps.toList = l) : decide (z = "1") = decide (l = [49]) := dec_iff ⟨fun e => by rw [← h, e, one_list], fun e => str_eq (by rw [h, e, one_list])⟩
theorem b_exponent_of (B : Body X N_exponent_of L_exponent_of G_exponent_of 1 (defScope s_exponent_of)) (c1 : CstD X "FIGURES" (.str figuresS)) (m1 : X.mg "len" = none) (m2 : X.mg "int" = none) (h : S_exponent_of ds r) :
    SS X Gs G (defBody s_exponent_of) (startA N_exponent_of ds) (finOf r) := by
  obtain ⟨z, rfl, h5, rfl⟩ := h
  have hz : z.length ≤ sizeLine := Nat.le_trans h5 (by decide)
  have hzl : z.length = z.cps.toList.length := by rw [Array.length_toList]; rfl
  have hfl : (figOf z).length = (figOf z).cps.toList.length := by rw [Array.length_toList]; rfl
  have hfz : (figOf z).length ≤ z.length := by
    rw [hzl, hfl, figOf_list]
    split
    · rename_i t e; rw [e, List.length_cons]; exact Nat.le_succ _
    · exact Nat.le_refl _
  have hf : (figOf z).length ≤ sizeLine := Nat.le_trans hfz hz
  ktu_offI
  k_subL
  refine t_set (as1 := [.fz (.str z), .fz (.str (figOf z))]) B (by nest_cls) (ee_is (ee_if (k := decide (cutS z none (some 1) = "-")) (d1 := .str (cutS z (some 1) none)) (d2 := .str z) ?_ (fun _ => ?_) fun _ => ?_) ?_) ?_ (by ktu_offL) ?_
  · refine et_cmp (ee_slS ?_ eo_none (eo_some ?_) hz) ?_ oc_eqS ?_
    · ktu_off1L
    · ktu_off1L
    · ktu_off1L
    · ktu_off1L
  · refine ee_slS ?_ (eo_some ?_) eo_none hz
    · ktu_off1L
    · ktu_off1L
  · ktu_off1L
  · unfold figOf
    by_cases hh : cutS z none (some 1) = "-"
    · rw [decide_eq_true hh, if_pos rfl, if_pos hh]
    · rw [decide_eq_false hh, if_neg Bool.false_ne_true, if_neg hh]
  · ktu_off1L
  · k_subL
    by_cases h1 : (figOf z).length = 1
    · obtain ⟨c, hc⟩ : ∃ c, (figOf z).cps.toList = [c] := by
        rw [hfl] at h1
        match (figOf z).cps.toList, h1 with
        | [c], _ => exact ⟨c, rfl⟩
      have hfc : figOf z = ⟨#[c]⟩ := str_eq hc
      rw [hfc]
      rw [hfc] at hf
      refine s1_if (b := !decide (49 ≤ c ∧ c ≤ 57) || decide (z = "1")) (EW.et (ew_is (k := !decide ((((⟨#[c]⟩ : Str).length : Nat) : Int) = 1) || (!decide (c ∈ figuresS.cps.toList) || decide (z = "1"))) ?_ ?_)) (fun hb => ?_) fun hb => ?_
      · ktu_off1L
      · rw [show decide (c ∈ figuresS.cps.toList) = decide (49 ≤ c ∧ c ≤ 57) from dec_iff mem_figures]
        rfl
      · k_places
        change Except.ok (optI (expOf z)) = Except.ok .non
        have : expOf z = none := by
          unfold expOf
          have e := figOf_list z
          rw [hc] at e
          split at e
          · rename_i t hl
            subst e
            rw [hl]
            show (if (45 : Nat) = 45 ∧ 49 ≤ c ∧ c ≤ 57 then _ else none) = none
            rw [text_one hl, show decide ([45, c] = [49]) = false from rfl, Bool.or_false] at hb
            rw [if_neg (fun q => by simp [q.2] at hb)]
          · rw [← e]
            show (if 50 ≤ c ∧ c ≤ 57 then _ else none) = none
            rw [text_one e.symm] at hb
            rw [if_neg (fun q => by simp at hb; omega)]
        rw [this]
        rfl
      · rw [Bool.or_eq_false_iff] at hb
        have h49 : 49 ≤ c ∧ c ≤ 57 := by simpa using hb.1
        have hn : PySem.intText? z = expOf z ∧ ∃ i, expOf z = some i := by
          have e := figOf_list z
          rw [hc] at e
          have key : ∀ (L : List Nat) (i : Int), z.cps.toList = L → PySem.intText? ⟨L.toArray⟩ = some i → expOf z = some i → PySem.intText? z = expOf z ∧ ∃ i, expOf z = some i := fun L i hl h1 h2 => by
            have ez : z = ⟨L.toArray⟩ := str_eq hl
            refine ⟨?_, i, h2⟩
            rw [h2, ez]
            exact h1
          split at e
          · rename_i t hl
            subst e
            have ex : expOf z = some (48 - (c : Int)) := by
              unfold expOf
              rw [hl]
              exact if_pos ⟨rfl, h49⟩
            refine key _ _ hl ?_ ex
            have : c = 49 ∨ c = 50 ∨ c = 51 ∨ c = 52 ∨ c = 53 ∨ c = 54 ∨ c = 55 ∨ c = 56 ∨ c = 57 := by omega
            rcases this with rfl | rfl | rfl | rfl | rfl | rfl | rfl | rfl | rfl <;> decide +kernel
          · have h50 : c ≠ 49 := by
              have q := hb.2
              rw [text_one e.symm] at q
              simpa using q
            have ex : expOf z = some ((c : Int) - 48) := by
              unfold expOf
              rw [← e]
              exact if_pos ⟨by omega, h49.2⟩
            refine key _ _ e.symm ?_ ex
            have : c = 50 ∨ c = 51 ∨ c = 52 ∨ c = 53 ∨ c = 54 ∨ c = 55 ∨ c = 56 ∨ c = 57 := by omega
            rcases this with rfl | rfl | rfl | rfl | rfl | rfl | rfl | rfl <;> decide +kernel
        obtain ⟨hn1, i, hi⟩ := hn
        have h640 : z.length ≤ 640 := by
          have e := figOf_list z
          rw [hc] at e
          rw [hzl]
          split at e
          · rename_i t hl; rw [hl, ← e]; exact (by decide : 2 ≤ 640)
          · rw [← e]; exact (by decide : 1 ≤ 640)
        k_subL
        k_subL
        refine s1_ret (d := .int i) ?_ ?_
        rotate_left
        · change Except.ok (optI (expOf z)) = Except.ok (D.int i)
          rw [hi]
          rfl
        refine e_int (by assumption) (by nest_cls) (by assumption) (x := .str z) ?_ (ca_intS (by rw [hn1, hi]) h640) ?_
        · ktu_off1L
        · ktu_off1L
    · refine s1_ifT (EW.et (ew_orT (et_is (k := !decide ((((figOf z).length : Nat) : Int) = 1)) ?_ ?_))) ?_
      · ktu_off1L
      · rw [decide_eq_false (by omega)]
        rfl
      · k_places
        change Except.ok (optI (expOf z)) = Except.ok .non
        have : expOf z = none := by
          have e := figOf_list z
          rw [hfl, e] at h1
          unfold expOf
          split
          · rename_i c hl
            rw [hl] at h1
            by_cases hc : c = 45
            · subst hc
              rfl
            · exfalso
              apply h1
              split
              · rename_i t e2; injection e2 with e2 _; exact absurd e2 hc
              · rfl
          · rename_i m c hl
            rw [hl] at h1
            by_cases hm : m = 45
            · subst hm
              exact absurd rfl h1
            · rw [if_neg fun q => hm q.1]
          · rfl
        rw [this]
        rfl
end
section
variable {X : Cx} {Gs G : Hp} {ds : List D} {r : Except Exn D} {C : Addr}
theorem split_ok {z : Str} (hz : z.length ≤ 5000) : z.length + 2 ≤ sizeLine := Nat.le_trans (Nat.add_le_add_right hz 2) (by decide)
theorem caret_list : ("^" : Str).cps.toList = [94] := by decide +kernel
theorem part_len (w : Str) : (Txt.partition w "^").1.length ≤ w.length ∧ (Txt.partition w "^").2.2.length ≤ w.length := by
  have h := congrArg (fun s : Str => s.length) (StrLaws.partition_sum w "^")
  have h' : ((Txt.partition w "^").1 ++ (Txt.partition w "^").2.1 ++ (Txt.partition w "^").2.2).length = w.length := h
  rw [Str.length_append, Str.length_append] at h'
  omega
theorem split_parts {z s : Str} : ∀ w ∈ Txt.split z s, w.length ≤ z.length := by
  have h : ∀ l : List Str, ∀ w ∈ l, w.length ≤ (Str.join s l).length := by
    intro l
    induction l with
    | nil => intro w hw; cases hw
    | cons x l ih =>
      intro w hw
      cases l with
      | nil =>
        rw [List.mem_singleton.mp hw]
        exact Nat.le_refl _
      | cons y l =>
        have e : Str.join s (x :: y :: l) = x ++ s ++ Str.join s (y :: l) := rfl
        rw [e, Str.length_append, Str.length_append]
        rcases List.mem_cons.mp hw with q | q
        · rw [q]; omega
        · have := ih w q; omega
  intro w hw
  have := h _ w hw
  rwa [StrLaws.join_split] at this
theorem putU_new {a : List UP} {z : Str} {i : Int} (h : z ∉ a.map (·.1)) : putU a z i = a ++ [(z, i)] := by
  unfold putU
  rw [if_neg]
  intro q
  obtain ⟨p, hp, e⟩ := List.any_eq_true.mp q
  exact h (List.mem_map.mpr ⟨p, hp, of_decide_eq_true e⟩)
theorem isSome_kvU (a : List UP) (z : Str) : (valD (kvU a) (.inr z)).isSome = decide (z ∈ a.map (·.1)) := by
  rw [valD_kvU, Option.isSome_map, List.isSome_find?]
  rw [Bool.eq_iff_iff, List.any_eq_true, decide_eq_true_eq, List.mem_map]
  exact ⟨fun ⟨p, h1, h2⟩ => ⟨p, h1, of_decide_eq_true h2⟩, fun ⟨p, h1, h2⟩ => ⟨p, h1, decide_eq_true h2⟩⟩
theorem wordsRead_some : ∀ {ws : List Str} {acc u : List UP}, wordsRead ws acc = some u → (∀ p ∈ acc, isNameS p.1 = true) → (∀ p ∈ u, isNameS p.1 = true) ∧ u.length = acc.length + ws.length
  | [], acc, u, h, ha => by
    have e : acc = u := Option.some.inj h
    rw [← e]
    exact ⟨ha, rfl⟩
  | w :: ws, acc, u, h, ha => by
    unfold wordsRead at h
    cases hw : wordRead w with
    | none => rw [hw] at h; cases h
    | some p =>
      rw [hw] at h
      dsimp only at h
      split at h
      · cases h
      · have hp : isNameS p.1 = true := by
          unfold wordRead at hw
          dsimp only at hw
          split at hw
          · split at hw
            · rename_i hn
              rw [← Option.some.inj hw]
              exact hn
            · cases hw
          · cases hw
        obtain ⟨q1, q2⟩ := wordsRead_some h fun q hq => by
          rcases List.mem_append.mp hq with e | e
          · exact ha q e
          · rw [List.mem_singleton.mp e]; exact hp
        refine ⟨q1, ?_⟩
        rw [q2, List.length_append, List.length_cons, List.length_cons, List.length_nil]
        omega
theorem b_read_unit (B : Body X N_read_unit L_read_unit G_read_unit 7 (defScope s_read_unit)) (F1 : FnD X 2 "is_text" [] S_is_text) (F2 : FnD X 2 "exponent_of" [] S_exponent_of) (F3 : FnD X 2 "is_name" [] S_is_name) (F4 : FnD X 6 "unit_of" [] (S_unit_of C)) (E1 : ExcOk X "BadUnit" C) (m1 : X.mg "list" = none) (h : S_read_unit C ds r) :
    SS X Gs G (defBody s_read_unit) (startA N_read_unit ds) (finOf r) := by
  obtain ⟨d, rfl, hd, h64, rfl⟩ := h
  ktu_offI
  k_subL
  cases ht : isTextD d with
  | false =>
    have hr : readU d = none := by
      cases d with
      | str z =>
        show (if isTextS z = true then _ else none) = none
        rw [if_neg (by rw [show isTextS z = false from ht]; exact Bool.false_ne_true)]
      | _ => rfl
    rw [hr]
    refine s1_ifT (et_is (k := !isTextD d) (et_not (et_val ?_ ?_)) (by rw [ht]; rfl)) ?_
    · ktu_off1L
      · exact ⟨d, rfl, hd, rfl⟩
      ktu_off1L
    · ktu_off1L
    · k_places
      rfl
  | true =>
    obtain ⟨z, rfl⟩ : ∃ z, d = .str z := by cases d <;> first | exact ⟨_, rfl⟩ | cases ht
    have h64 := h64 z rfl
    have hz : z.length ≤ 5000 := of_decide_eq_true hd
    have hr : readU (.str z) = (wordsRead (wordsOf z) []).map unitOf := if_pos ht
    have hwl : ∀ w ∈ wordsOf z, w.length ≤ 5000 := fun w hw => by
      unfold wordsOf at hw
      split at hw
      · cases hw
      · exact Nat.le_trans (split_parts w hw) hz
    rw [hr]
    generalize hws : wordsOf z = ws at *
    refine s1_ifF (et_is (k := !isTextD (.str z)) (et_not (et_val ?_ ?_)) (by rw [ht]; rfl)) ?_
    · ktu_off1L
      · exact ⟨_, rfl, hd, rfl⟩
      ktu_off1L
    · ktu_off1L
    k_subL
    k_subL
    refine t_setN (as1 := [.fz (.str z), .ow (.dct []), .un, .un, .un, .un, .un]) B (by nest_cls) en_dnew (by ktu_off1L) (by ktu_offL) ?_
    k_subL
    refine t_for B (fun d => [(2, d)]) (iw_list (ds := ws.map D.str) (ee_is (ee_if (k := !decide (z = "")) (d1 := .lst ((Txt.split z " ").map D.str)) (d2 := .lst []) ?_ (fun _ => EN.ee (en_split ?_ ?_ (by decide +kernel) (split_ok hz) ?_ ?_ ?_ ?_)) fun _ => ?_) ?_)) (fun j as' => ∃ acc s2 s3 s4 s5 s6, as' = [.fz (.str z), .ow (.dct (kvU acc)), s2, s3, s4, s5, s6] ∧ acc.length = j ∧ wordsRead ws [] = wordsRead (ws.drop j) acc ∧ ∀ p ∈ acc, isNameS p.1 = true) ⟨[], _, _, _, _, _, rfl, rfl, rfl, fun p hp => nomatch hp⟩ ?_ ?_ ?_
    · ktu_off1L
    · ktu_off1L
    · ktu_off1L
    · ktu_off1L
    · ktu_off1L
    · rfl
    · ktu_off1L
    · ktu_off1L
    · rw [← hws]
      unfold wordsOf
      by_cases e : z = ""
      · rw [decide_eq_true e, if_pos e]
        rfl
      · rw [decide_eq_false e, if_neg e]
        rfl
    · intro j d hj
      exact tg_name B (by nest_cls)
    · rintro j d as' hj ⟨acc, s2, s3, s4, s5, s6, rfl, hl, hw, hn⟩
      obtain ⟨w, hjw, rfl⟩ := map_at hj
      have hwm := List.mem_of_getElem? hjw
      have hw5 := hwl w hwm
      have hjl : j < ws.length := (List.getElem?_eq_some_iff.mp hjw).1
      obtain ⟨p1, p2⟩ := part_len w
      have hdrop : ws.drop j = w :: ws.drop (j + 1) := by
        rw [List.drop_eq_getElem_cons hjl]
        rw [List.getElem?_eq_getElem hjl] at hjw
        rw [Option.some.inj hjw]
      show SS X Gs G _ [.fz (.str z), .ow (.dct (kvU acc)), .fz (.str w), s3, s4, s5, s6] _
      k_subL
      refine t_three (as1 := [.fz (.str z), .ow (.dct (kvU acc)), .fz (.str w), .fz (.str (Txt.partition w "^").1), s4, s5, s6]) (as2 := [.fz (.str z), .ow (.dct (kvU acc)), .fz (.str w), .fz (.str (Txt.partition w "^").1), .fz (.str (Txt.partition w "^").2.1), s5, s6]) (as3 := [.fz (.str z), .ow (.dct (kvU acc)), .fz (.str w), .fz (.str (Txt.partition w "^").1), .fz (.str (Txt.partition w "^").2.1), .fz (.str (Txt.partition w "^").2.2), s6]) B (by nest_cls) (by nest_cls) (by nest_cls) (e_part (z := w) (sp := "^") ?_ ?_ (by decide +kernel) (Nat.le_trans hw5 (by decide)) ?_ ?_ ?_ ?_) ?_ ?_ (by ktu_offL) (by ktu_offL) (by ktu_offL) ?_
      · ktu_off1L
      · ktu_off1L
      · ktu_off1L
      · ktu_off1L
      · rfl
      · ktu_off1L
      · ktu_off1L
      · ktu_off1L
      generalize hpt : Txt.partition w "^" = pt at p1 p2
      k_subL
      have hwr : wordRead w = match (if pt.2.1 = "" then some 1 else expOf pt.2.2) with | some e => if isNameS pt.1 = true then some (pt.1, e) else none | none => none := by
        unfold wordRead
        rw [hpt]
      generalize heo : (if pt.2.1 = "" then some 1 else expOf pt.2.2) = eo at hwr
      refine t_set (as1 := [.fz (.str z), .ow (.dct (kvU acc)), .fz (.str w), .fz (.str pt.1), .fz (.str pt.2.1), .fz (.str pt.2.2), .fz (optI eo)]) B (by nest_cls) (ee_is (ee_if (k := decide (pt.2.1 = "")) (d1 := .int 1) (d2 := optI (expOf pt.2.2)) ?_ (fun _ => ?_) fun _ => ?_) ?_) ?_ (by ktu_offL) ?_
      · ktu_off1L
      · ktu_off1L
      · ktu_off1L
        · exact ⟨_, rfl, Nat.le_trans p2 hw5, rfl⟩
        ktu_off1L
      · rw [← heo]
        by_cases e : pt.2.1 = ""
        · rw [decide_eq_true e, if_pos e]
          rfl
        · rw [decide_eq_false e, if_neg e]
          rfl
      · ktu_off1L
      k_subL
      refine s1_if (b := !isNameS pt.1 || (eo.isNone || decide (pt.1 ∈ acc.map (·.1)))) (EW.et (ew_is (k := !isNameD (.str pt.1) || (isNon (optI eo) || (valD (kvU acc) (.inr pt.1)).isSome)) (ew_or (et_not (et_val ?_ ?_)) fun _ => ew_or (et_cmp ?_ ?_ oc_isN ?_) fun _ => ew_or1 (et_cmp (x := kD (.inr pt.1)) (y := .dct (kvU acc)) ?_ ?_ (oc_inK B.room) ?_)) ?_)) (fun hb => ?_) fun hb => ?_
      · ktu_off1L
        · exact ⟨_, rfl, decide_eq_true (Nat.le_trans p1 hw5), rfl⟩
        ktu_off1L
      · ktu_off1L
      · ktu_off1L
      · ktu_off1L
      · ktu_off1L
      · show EE X _ _ (.str pt.1)
        ktu_off1L
      · ktu_off1L
      · ktu_off1L
      · rw [isSome_kvU]
        cases eo <;> rfl
      · k_places
        change (match (wordsRead ws []).map unitOf with | some u => (Except.ok (unitD u) : Except Exn D) | none => Except.error ⟨C, []⟩) = _
        have : wordsRead ws [] = none := by
          rw [hw, hdrop]
          unfold wordsRead
          rw [hwr]
          cases eo with
          | none => rfl
          | some e =>
            dsimp only
            cases hn1 : isNameS pt.1 with
            | false => rfl
            | true =>
              rw [if_pos rfl]
              dsimp only
              rw [hn1] at hb
              rw [if_pos (by simpa using hb)]
        rw [this]
        rfl
      · rw [Bool.or_eq_false_iff, Bool.or_eq_false_iff] at hb
        obtain ⟨hb1, hb2, hb3⟩ := hb
        have hn1 : isNameS pt.1 = true := by simpa using hb1
        have hni : pt.1 ∉ acc.map (·.1) := by simpa using hb3
        obtain ⟨e, rfl⟩ : ∃ e, eo = some e := by
          cases eo with
          | none => cases hb2
          | some e => exact ⟨e, rfl⟩
        have ez : (kvU acc).length < sizeLine := by
          unfold kvU keysT
          rw [List.length_map, List.length_map, sizeLine_eq]
          omega
        k_subL
        k_subL
        refine t_dputV (key := .inr pt.1) (d := .int e) (as1 := [.fz (.str z), .ow (.dct (kvU (acc ++ [(pt.1, e)]))), .fz (.str w), .fz (.str pt.1), .fz (.str pt.2.1), .fz (.str pt.2.2), .fz (optI (some e))]) B (by nest_cls) rfl ?_ rfl ?_ ez ?_ ?_
        · exact e_name (by assumption) (by nest_cls) rfl
        · show EE X _ _ (.str pt.1)
          ktu_off1L
        · rw [put_kvU, putU_new hni]
          ktu_offL
        · refine ⟨acc ++ [(pt.1, e)], _, _, _, _, _, rfl, by rw [List.length_append, hl]; rfl, ?_, fun q hq => ?_⟩
          · rw [hw, hdrop]
            conv => lhs; unfold wordsRead
            rw [hwr]
            dsimp only
            rw [if_pos hn1]
            dsimp only
            rw [if_neg hni]
          · rcases List.mem_append.mp hq with q1 | q1
            · exact hn q q1
            · rw [List.mem_singleton.mp q1]; exact hn1
    · rintro as' ⟨acc, s2, s3, s4, s5, s6, rfl, hl, hw, hn⟩
      rw [List.length_map] at hl hw
      rw [List.drop_length] at hw
      have hw : wordsRead ws [] = some acc := hw
      k_subL
      refine s1_ret (d := unitD (unitOf acc)) (e_call (ds := [.lst (acc.map pairD)]) (by assumption) F4 (by nest_cls) (by (with_reducible first | assumption | exact Mw.Body.room (by assumption) | exact L2.Room.mono (Mw.Body.room (by assumption)) (by with_unfolding_all decide))) (ea_cons (ee_is (EN.ee (en_items (ks := kvU acc) (by assumption) B.calm (by nest_cls) (by assumption) ?_ ?_ ?_ ?_)) ?_) ea_nil ?_) ?_ ?_ ?_) ?_
      · exact e_name (by assumption) (by nest_cls) rfl
      · ktu_off1L
      · rfl
      · ktu_off1L
      · unfold kvU keysT
        rw [List.map_map, List.map_map]
        rfl
      · ktu_off1L
      · rw [List.append_nil]
        exact .inl ⟨acc, rfl, hn, by rw [← hl] at h64; exact h64, rfl⟩
      · ktu_off1L
      · ktu_off1L
      · change (match (wordsRead ws []).map unitOf with | some u => (Except.ok (unitD u) : Except Exn D) | none => Except.error ⟨C, []⟩) = _
        rw [hw]
        rfl
end
/-! ### what is shown is read -/
section
open PySem.Builtin PySem.Builtin.Str
def joinN (c : Nat) : List (List Nat) → List Nat
  | [] => []
  | [x] => x
  | x :: y :: r => x ++ c :: joinN c (y :: r)
theorem join_list (c : Nat) : ∀ l : List Str, (Str.join ⟨#[c]⟩ l).cps.toList = joinN c (l.map fun s => s.cps.toList)
  | [] => rfl
  | [x] => rfl
  | x :: y :: r => by
    have ih := join_list c (y :: r)
    have e : Str.join ⟨#[c]⟩ (x :: y :: r) = x ++ ⟨#[c]⟩ ++ Str.join ⟨#[c]⟩ (y :: r) := rfl
    rw [e]
    have e2 : (x ++ ⟨#[c]⟩ ++ Str.join ⟨#[c]⟩ (y :: r)).cps.toList = (x.cps.toList ++ [c]) ++ (Str.join ⟨#[c]⟩ (y :: r)).cps.toList := by
      show ((x.cps ++ #[c]) ++ (Str.join ⟨#[c]⟩ (y :: r)).cps).toList = _
      rw [Array.toList_append, Array.toList_append]
    rw [e2, ih, List.append_assoc]
    rfl
theorem cut_inj {c : Nat} : ∀ {a b r s : List Nat}, c ∉ a → c ∉ b → a ++ c :: r = b ++ c :: s → a = b ∧ r = s
  | [], [], r, s, _, _, h => by
    injection h with _ h
    exact ⟨rfl, h⟩
  | [], y :: b, r, s, _, hb, h => by
    injection h with h _
    exact absurd (by rw [h]; exact List.mem_cons_self) hb
  | x :: a, [], r, s, ha, _, h => by
    injection h with h _
    exact absurd (by rw [← h]; exact List.mem_cons_self) ha
  | x :: a, y :: b, r, s, ha, hb, h => by
    injection h with h1 h2
    obtain ⟨e1, e2⟩ := cut_inj (fun z => ha (List.mem_cons_of_mem _ z)) (fun z => hb (List.mem_cons_of_mem _ z)) h2
    exact ⟨by rw [h1, e1], e2⟩
theorem joinN_inj {c : Nat} : ∀ {A B : List (List Nat)}, A ≠ [] → B ≠ [] → (∀ a ∈ A, c ∉ a) → (∀ b ∈ B, c ∉ b) → joinN c A = joinN c B → A = B
  | [], _, h, _, _, _, _ => absurd rfl h
  | _, [], _, h, _, _, _ => absurd rfl h
  | [a], [b], _, _, _, _, h => by rw [show a = b from h]
  | [a], b :: b' :: B, _, _, ha, _, h => by
    have h' : a = b ++ c :: joinN c (b' :: B) := h
    exact absurd (by rw [h']; simp) (ha a List.mem_cons_self)
  | a :: a' :: A, [b], _, _, _, hb, h => by
    have h' : a ++ c :: joinN c (a' :: A) = b := h
    exact absurd (by rw [← h']; simp) (hb b List.mem_cons_self)
  | a :: a' :: A, b :: b' :: B, _, _, ha, hb, h => by
    have h' : a ++ c :: joinN c (a' :: A) = b ++ c :: joinN c (b' :: B) := h
    obtain ⟨e1, e2⟩ := cut_inj (ha a List.mem_cons_self) (hb b List.mem_cons_self) h'
    rw [e1, joinN_inj (A := a' :: A) (B := b' :: B) (List.cons_ne_nil _ _) (List.cons_ne_nil _ _) (fun x hx => ha x (List.mem_cons_of_mem _ hx)) (fun x hx => hb x (List.mem_cons_of_mem _ hx)) e2]
theorem lists_inj : ∀ {A B : List Str}, A.map (fun s => s.cps.toList) = B.map (fun s => s.cps.toList) → A = B
  | [], [], _ => rfl
  | [], _ :: _, h => nomatch h
  | _ :: _, [], h => nomatch h
  | a :: A, b :: B, h => by
    rw [List.map_cons, List.map_cons] at h
    injection h with h1 h2
    rw [str_eq h1, lists_inj h2]
theorem blank_eq : (" " : Str) = ⟨#[32]⟩ := str_eq (by decide +kernel)
theorem caret_eq : ("^" : Str) = ⟨#[94]⟩ := str_eq (by decide +kernel)
theorem txt_join (s : Str) (l : List Str) : Txt.join s l = Str.join s l := StrLaws.glued_eq_join s l
theorem split_join {c : Nat} {ws : List Str} (h0 : ws ≠ []) (h : ∀ w ∈ ws, c ∉ w.cps.toList) : Txt.split (Txt.join ⟨#[c]⟩ ws) ⟨#[c]⟩ = ws := by
  have e := StrLaws.join_split (Txt.join ⟨#[c]⟩ ws) ⟨#[c]⟩
  have f := StrLaws.split_free (Txt.join ⟨#[c]⟩ ws) c
  have p := PyProof.Rows.split_pos (Txt.join ⟨#[c]⟩ ws) ⟨#[c]⟩
  generalize Txt.split (Txt.join ⟨#[c]⟩ ws) ⟨#[c]⟩ = S at *
  rw [txt_join] at e
  have e2 := congrArg (fun s : Str => s.cps.toList) e
  have e3 : (Str.join ⟨#[c]⟩ S).cps.toList = (Str.join ⟨#[c]⟩ ws).cps.toList := e2
  rw [join_list, join_list] at e3
  refine lists_inj (joinN_inj (c := c) (fun q => ?_) (fun q => ?_) (fun a ha => ?_) (fun a ha => ?_) e3)
  · rw [List.map_eq_nil_iff.mp q] at p
    exact absurd p (by decide)
  · exact h0 (List.map_eq_nil_iff.mp q)
  · obtain ⟨w, hw, rfl⟩ := List.mem_map.mp ha
    exact f w hw
  · obtain ⟨w, hw, rfl⟩ := List.mem_map.mp ha
    exact h w hw
theorem part_free {c : Nat} {w : Str} (h : c ∉ w.cps.toList) : Txt.partition w ⟨#[c]⟩ = (w, Str.empty, Str.empty) := by
  have e := PyProof.Rows.empty_one w c
  rw [decide_eq_false h, Bool.not_false] at e
  unfold Txt.partition
  rw [List.isEmpty_iff.mp e]
theorem part_found {c : Nat} {x : Str} (h : c ∈ x.cps.toList) : (Txt.partition x ⟨#[c]⟩).2.1 = ⟨#[c]⟩ ∧ c :: (Txt.partition x ⟨#[c]⟩).2.2.cps.toList = x.cps.toList.dropWhile (· != c) ∧ (Txt.partition x ⟨#[c]⟩).1.cps.toList ++ c :: (Txt.partition x ⟨#[c]⟩).2.2.cps.toList = x.cps.toList := by
  have e : (occurrences x ⟨#[c]⟩ 0 x.length 1).isEmpty = false := by
    rw [PyProof.Rows.empty_one, decide_eq_true h]
    rfl
  have hd := PyProof.Rows.from_first_some (y := ⟨#[c]⟩) (z := ⟨#[c]⟩) rfl rfl e
  have hs := StrLaws.partition_sum x ⟨#[c]⟩
  have hm : (Txt.partition x ⟨#[c]⟩).2.1 = ⟨#[c]⟩ := by
    unfold Txt.partition
    cases ho : occurrences x ⟨#[c]⟩ 0 x.length 1 with
    | nil => rw [ho] at e; cases e
    | cons i r => rfl
  rw [hm] at hs
  generalize Txt.partition x ⟨#[c]⟩ = p at *
  refine ⟨hm, ?_, ?_⟩
  · have hd2 := eq_of_beq hd
    have hd3 := congrArg (fun s : Str => s.cps.toList) hd2
    have q : ((⟨#[c]⟩ : Str) ++ p.2.2).cps.toList = c :: p.2.2.cps.toList := by
      show (#[c] ++ p.2.2.cps).toList = _
      rw [Array.toList_append]
      rfl
    rw [← q]
    exact hd3
  · have hs2 := congrArg (fun s : Str => s.cps.toList) hs
    refine Eq.trans ?_ hs2
    show _ = ((p.1.cps ++ #[c]) ++ p.2.2.cps).toList
    rw [Array.toList_append, Array.toList_append, List.append_assoc]
    rfl
theorem drop_to {c : Nat} {t : List Nat} : ∀ l : List Nat, c ∉ l → (l ++ c :: t).dropWhile (· != c) = c :: t
  | [], _ => by simp
  | x :: l, hl => by
    have hxc : x ≠ c := fun z => hl (by rw [z]; exact List.mem_cons_self)
    rw [List.cons_append, List.dropWhile_cons, if_pos (by simpa using hxc)]
    exact drop_to l fun z => hl (List.mem_cons_of_mem _ z)
theorem part_cut {c : Nat} {n t : Str} (h : c ∉ n.cps.toList) : Txt.partition (n ++ ⟨#[c]⟩ ++ t) ⟨#[c]⟩ = (n, ⟨#[c]⟩, t) := by
  have hx : (n ++ ⟨#[c]⟩ ++ t).cps.toList = n.cps.toList ++ c :: t.cps.toList := by
    show ((n.cps ++ #[c]) ++ t.cps).toList = _
    rw [Array.toList_append, Array.toList_append, List.append_assoc]
    rfl
  obtain ⟨x, ex⟩ : ∃ x, x = n ++ ⟨#[c]⟩ ++ t := ⟨_, rfl⟩
  rw [← ex] at hx ⊢
  obtain ⟨q1, q2, q3⟩ := part_found (c := c) (x := x) (by rw [hx]; simp)
  rw [hx] at q2 q3
  rw [drop_to _ h] at q2
  generalize Txt.partition x ⟨#[c]⟩ = p at *
  obtain ⟨a, b, d⟩ := p
  injection q2 with _ q2
  have ed : d = t := str_eq q2
  subst ed
  have ea : a = n := str_eq (List.append_cancel_right q3)
  rw [ea, show b = _ from q1]
theorem letter_of {z : Str} (h : isNameS z = true) {c : Nat} (hc : c ∈ z.cps.toList) : 97 ≤ c ∧ c ≤ 122 := by
  unfold isNameS at h
  rw [Bool.and_eq_true] at h
  have q := of_decide_eq_true (List.all_eq_true.mp h.2 c hc)
  have e : lettersS.cps.toList = [97, 98, 99, 100, 101, 102, 103, 104, 105, 106, 107, 108, 109, 110, 111, 112, 113, 114, 115, 116, 117, 118, 119, 120, 121, 122] := by decide +kernel
  rw [e] at q
  simp only [List.mem_cons, List.not_mem_nil, or_false] at q
  omega
/-- a small exponent: not 0, not 1 -/
def smallE (e : Int) : Prop := e.natAbs ≤ 9 ∧ e ≠ 0
theorem expOf_text {e : Int} (h : smallE e) (h1 : e ≠ 1) : expOf (toString e) = some e ∧ (∀ c ∈ (toString e : Str).cps.toList, c = 45 ∨ 48 ≤ c ∧ c ≤ 57) ∧ (toString e : Str).length ≤ 2 := by
  have : e = -9 ∨ e = -8 ∨ e = -7 ∨ e = -6 ∨ e = -5 ∨ e = -4 ∨ e = -3 ∨ e = -2 ∨ e = -1 ∨ e = 2 ∨ e = 3 ∨ e = 4 ∨ e = 5 ∨ e = 6 ∨ e = 7 ∨ e = 8 ∨ e = 9 := by
    obtain ⟨a, b⟩ := h
    omega
  rcases this with rfl | rfl | rfl | rfl | rfl | rfl | rfl | rfl | rfl | rfl | rfl | rfl | rfl | rfl | rfl | rfl | rfl <;> decide +kernel
theorem empty_cat (z : Str) : Str.empty ++ z = z := str_eq (by
  show (#[] ++ z.cps).toList = _
  rw [Array.toList_append]
  rfl)
theorem wordU_signs {p : UP} (hn : isNameS p.1 = true) (he : smallE p.2) : (∀ c ∈ (wordU p).cps.toList, 97 ≤ c ∧ c ≤ 122 ∨ c = 94 ∨ c = 45 ∨ 48 ≤ c ∧ c ≤ 57) ∧ (wordU p).length ≤ 11 ∧ 1 ≤ (wordU p).length := by
  have hl := isNameS.len hn
  unfold wordU
  by_cases h1 : p.2 = 1
  · rw [if_pos h1]
    exact ⟨fun c hc => .inl (letter_of hn hc), by omega, hl.1⟩
  · rw [if_neg h1, empty_cat]
    obtain ⟨_, q2, q3⟩ := expOf_text he h1
    have e1 : (("^" : Str)).length = 1 := by decide +kernel
    refine ⟨fun c hc => ?_, by rw [Str.length_append, Str.length_append]; omega, by rw [Str.length_append, Str.length_append]; omega⟩
    have hc' : c ∈ ((p.1.cps ++ ("^" : Str).cps) ++ (toString p.2 : Str).cps).toList := hc
    rw [Array.toList_append, Array.toList_append, List.mem_append, List.mem_append, caret_list] at hc'
    rcases hc' with (q | q) | q
    · exact .inl (letter_of hn q)
    · exact .inr (.inl (List.mem_singleton.mp q))
    · exact .inr (.inr (q2 c q))
theorem wordRead_word {p : UP} (hn : isNameS p.1 = true) (he : smallE p.2) : wordRead (wordU p) = some p := by
  have h94 : 94 ∉ p.1.cps.toList := fun z => by have := letter_of hn z; omega
  unfold wordRead wordU
  rw [caret_eq]
  by_cases h1 : p.2 = 1
  · rw [if_pos h1, part_free h94]
    show (match (if Str.empty = "" then some 1 else expOf Str.empty) with | some e => if isNameS p.1 = true then some (p.1, e) else none | none => none) = some p
    rw [if_pos (str_eq (by decide +kernel))]
    show (if isNameS p.1 = true then some (p.1, (1 : Int)) else none) = some p
    rw [if_pos hn, ← h1]
  · rw [if_neg h1, empty_cat, part_cut h94]
    show (match (if (⟨#[94]⟩ : Str) = "" then some 1 else expOf (toString p.2)) with | some e => if isNameS p.1 = true then some (p.1, e) else none | none => none) = some p
    rw [if_neg (fun z => by have := congrArg (fun s : Str => s.length) z; revert this; decide +kernel), (expOf_text he h1).1]
    show (if isNameS p.1 = true then some (p.1, p.2) else none) = some p
    rw [if_pos hn]
theorem wordsRead_words : ∀ {u acc : List UP}, (∀ p ∈ u, isNameS p.1 = true ∧ smallE p.2) → (u.map (·.1)).Nodup → (∀ p ∈ u, p.1 ∉ acc.map (·.1)) → wordsRead (u.map wordU) acc = some (acc ++ u)
  | [], acc, _, _, _ => by rw [List.append_nil]; rfl
  | p :: u, acc, h, nd, hd => by
    obtain ⟨h1, h2⟩ := h p List.mem_cons_self
    rw [List.map_cons] at nd
    have n2 := List.nodup_cons.mp nd
    rw [List.map_cons]
    unfold wordsRead
    rw [wordRead_word h1 h2]
    dsimp only
    rw [if_neg (hd p List.mem_cons_self), wordsRead_words (fun q hq => h q (List.mem_cons_of_mem _ hq)) n2.2 fun q hq => ?_, List.append_assoc]
    · rfl
    · rw [List.map_append, List.mem_append]
      rintro (z | z)
      · exact hd q (List.mem_cons_of_mem _ hq) z
      · have e : q.1 = p.1 := List.mem_singleton.mp z
        exact n2.1 (e ▸ List.mem_map.mpr ⟨q, hq, rfl⟩)
theorem ris_nodup {l : List Str} (h : RisT l) : l.Nodup := List.Pairwise.imp (fun {a b} (q : ltT a b = true) e => by rw [e, show ltT b b = false from ltC_irr _] at q; cases q) h
theorem perm_sum {l m : List Int} (h : l.Perm m) : l.sum = m.sum := by
  induction h with
  | nil => rfl
  | cons x _ ih => rw [List.sum_cons, List.sum_cons, ih]
  | swap x y l => rw [List.sum_cons, List.sum_cons, List.sum_cons, List.sum_cons]; omega
  | trans _ _ a b => exact a.trans b
theorem sumAt_perm {u v : List UP} (h : u.Perm v) (z : Str) : sumAt u z = sumAt v z := by
  unfold sumAt
  exact perm_sum ((h.filter _).map _)
theorem unitOf_perm {u v : List UP} (h : u.Perm v) : unitOf u = unitOf v := by
  unfold unitOf
  have e : sortT (u.map (·.1)) = sortT (v.map (·.1)) := ris_uniq (ris_sortT _) (ris_sortT _) fun z => by rw [mem_sortT, mem_sortT, (h.map _).mem_iff]
  rw [e]
  congr 1
  exact List.map_congr_left fun z _ => by rw [sumAt_perm h]
theorem sumAt_one : ∀ {u : List UP}, (u.map (·.1)).Nodup → ∀ p ∈ u, sumAt u p.1 = p.2
  | [], _, p, hp => nomatch hp
  | q :: u, nd, p, hp => by
    rw [List.map_cons] at nd
    have n2 := List.nodup_cons.mp nd
    unfold sumAt
    rw [List.filter_cons]
    rcases List.mem_cons.mp hp with e | e
    · subst e
      rw [if_pos (by simp), List.map_cons, List.sum_cons]
      have : u.filter (fun r => decide (r.1 = p.1)) = [] := by
        rw [List.filter_eq_nil_iff]
        intro r hr q
        exact n2.1 (of_decide_eq_true q ▸ List.mem_map.mpr ⟨r, hr, rfl⟩)
      rw [this]
      simp
    · have hne : ¬ q.1 = p.1 := fun z => n2.1 (z ▸ List.mem_map.mpr ⟨p, e, rfl⟩)
      rw [if_neg (by simpa using hne)]
      exact sumAt_one n2.2 p e
theorem unitOf_unit {u : List UP} (h : UnitOk u) : unitOf u = u := by
  unfold unitOf
  have nd := ris_nodup h.ris
  have e : sortT (u.map (·.1)) = u.map (·.1) := ris_uniq (ris_sortT _) h.ris fun z => mem_sortT
  rw [e, List.map_map]
  have e2 : u.map ((fun z => (z, sumAt u z)) ∘ (·.1)) = u := by
    conv => rhs; rw [← List.map_id u]
    exact List.map_congr_left fun p hp => by
      show (p.1, sumAt u p.1) = p
      rw [sumAt_one nd p hp]
  rw [e2, List.filter_eq_self]
  intro p hp
  simpa using h.nz p hp
theorem unitOf_ok {ps : List UP} (h : ∀ p ∈ ps, isNameS p.1 = true) : UnitOk (unitOf ps) where
  nm := fun p hp => by
    unfold unitOf at hp
    obtain ⟨hp, _⟩ := List.mem_filter.mp hp
    obtain ⟨z, hz, rfl⟩ := List.mem_map.mp hp
    obtain ⟨q, hq, e⟩ := List.mem_map.mp (mem_sortT.mp hz)
    show isNameS z = true
    rw [← e]
    exact h q hq
  nz := fun p hp => by
    unfold unitOf at hp
    obtain ⟨_, hp⟩ := List.mem_filter.mp hp
    simpa using hp
  ris := by
    unfold unitOf
    have hs : (((sortT (ps.map (·.1))).map fun z => (z, sumAt ps z)).filter fun p => !decide (p.2 = 0)).map (·.1) = (((sortT (ps.map (·.1))).map fun z => (z, sumAt ps z)).filter fun p => !decide (p.2 = 0)).map (·.1) := rfl
    refine List.Pairwise.sublist ((List.filter_sublist).map _) ?_
    rw [List.map_map]
    have : (sortT (ps.map (·.1))).map ((fun p : UP => p.1) ∘ fun z => (z, sumAt ps z)) = sortT (ps.map (·.1)) := List.map_id _
    rw [this]
    exact ris_sortT _
theorem unitOf_len (ps : List UP) : (unitOf ps).length ≤ ps.length := by
  unfold unitOf
  refine Nat.le_trans (List.length_filter_le _ _) ?_
  rw [List.length_map]
  have := len_sortT (ps.map (·.1))
  rwa [List.length_map] at this
theorem signs_list : signsS.cps.toList = (List.range 5).map (· + 32) ++ (List.range 89).map (· + 38) ++ [10] := by decide +kernel
theorem sign_in {c : Nat} (h : 32 ≤ c ∧ c ≤ 126) (h2 : c ≠ 37) : c ∈ signsS.cps.toList := by
  rw [signs_list, List.mem_append, List.mem_append]
  by_cases h3 : c < 37
  · exact .inl (.inl (List.mem_map.mpr ⟨c - 32, List.mem_range.mpr (by omega), by omega⟩))
  · exact .inl (.inr (List.mem_map.mpr ⟨c - 38, List.mem_range.mpr (by omega), by omega⟩))
theorem shown_list (u : List UP) : (shownU u).cps.toList = joinN 32 ((u.map wordU).map fun s => s.cps.toList) := by
  unfold shownU
  rw [txt_join, blank_eq, join_list]
theorem joinN_mem {c x : Nat} : ∀ {A : List (List Nat)}, x ∈ joinN c A → x = c ∨ ∃ a ∈ A, x ∈ a
  | [], h => nomatch h
  | [a], h => .inr ⟨a, List.mem_cons_self, h⟩
  | a :: b :: A, h => by
    have h' : x ∈ a ++ c :: joinN c (b :: A) := h
    rcases List.mem_append.mp h' with q | q
    · exact .inr ⟨a, List.mem_cons_self, q⟩
    · rcases List.mem_cons.mp q with e | e
      · exact .inl e
      · rcases joinN_mem e with w | ⟨d, hd, w⟩
        · exact .inl w
        · exact .inr ⟨d, List.mem_cons_of_mem _ hd, w⟩
theorem joinN_len {c n : Nat} : ∀ {A : List (List Nat)}, (∀ a ∈ A, a.length ≤ n) → (joinN c A).length ≤ A.length * (n + 1)
  | [], _ => Nat.zero_le _
  | [a], h => by
    have := h a List.mem_cons_self
    show a.length ≤ 1 * (n + 1)
    omega
  | a :: b :: A, h => by
    have h1 := h a List.mem_cons_self
    have ih := joinN_len (c := c) (A := b :: A) fun d hd => h d (List.mem_cons_of_mem _ hd)
    show (a ++ c :: joinN c (b :: A)).length ≤ (b :: A).length.succ * (n + 1)
    rw [List.length_append, List.length_cons, Nat.succ_mul]
    omega
theorem shown_text {u : List UP} (h : ∀ p ∈ u, isNameS p.1 = true ∧ smallE p.2) (hl : u.length < 64) : isTextS (shownU u) = true ∧ (shownU u).length ≤ 4000 := by
  have e : (shownU u).length = (shownU u).cps.toList.length := by rw [Array.length_toList]; rfl
  have hlen : (shownU u).length ≤ 4000 := by
    rw [e, shown_list]
    have := joinN_len (c := 32) (n := 11) (A := (u.map wordU).map fun s => s.cps.toList) fun a ha => by
      rw [List.map_map] at ha
      obtain ⟨p, hp, rfl⟩ := List.mem_map.mp ha
      show (wordU p).cps.toList.length ≤ 11
      rw [Array.length_toList]
      exact (wordU_signs (h p hp).1 (h p hp).2).2.1
    rw [List.length_map, List.length_map] at this
    omega
  refine ⟨?_, hlen⟩
  unfold isTextS
  rw [decide_eq_true hlen, Bool.true_and, List.all_eq_true]
  intro c hc
  rw [shown_list] at hc
  rcases joinN_mem hc with q | ⟨a, ha, hca⟩
  · exact decide_eq_true (sign_in (by omega) (by omega))
  · rw [List.map_map] at ha
    obtain ⟨p, hp, rfl⟩ := List.mem_map.mp ha
    have := (wordU_signs (h p hp).1 (h p hp).2).1 c hca
    exact decide_eq_true (sign_in (by omega) (by omega))
theorem shown_words {u : List UP} (h : ∀ p ∈ u, isNameS p.1 = true ∧ smallE p.2) : wordsOf (shownU u) = u.map wordU := by
  unfold wordsOf
  cases u with
  | nil => rw [if_pos (str_eq (by decide +kernel))]; rfl
  | cons p u =>
    rw [if_neg]
    · unfold shownU
      rw [blank_eq]
      refine split_join (List.cons_ne_nil _ _) fun w hw => ?_
      obtain ⟨q, hq, rfl⟩ := List.mem_map.mp hw
      intro hc
      have := (wordU_signs (h q hq).1 (h q hq).2).1 32 hc
      omega
    · intro z
      have e := congrArg (fun s : Str => s.cps.toList) z
      have e' : (shownU (p :: u)).cps.toList = [] := e
      rw [shown_list] at e'
      have h1 := (wordU_signs (h p List.mem_cons_self).1 (h p List.mem_cons_self).2).2.2
      have h2 : (wordU p).cps.toList.length = (wordU p).length := by rw [Array.length_toList]; rfl
      have h3 : (wordU p).cps.toList = [] := by
        cases u with
        | nil => exact e'
        | cons q u => exact absurd (congrArg List.length (show (wordU p).cps.toList ++ 32 :: _ = [] from e')) (by simp)
      rw [h3] at h2
      rw [← h2] at h1
      exact absurd h1 (by decide)
theorem read_shown {u v : List UP} (hv : UnitOk v) (hp : u.Perm v) (he : ∀ p ∈ v, smallE p.2) (hl : v.length < 64) : readU (.str (shownU u)) = some v := by
  have h : ∀ p ∈ u, isNameS p.1 = true ∧ smallE p.2 := fun p hq => ⟨hv.nm p (hp.mem_iff.mp hq), he p (hp.mem_iff.mp hq)⟩
  have nd : (u.map (·.1)).Nodup := (hp.map _).nodup_iff.mpr (ris_nodup hv.ris)
  show (if isTextS (shownU u) = true then _ else none) = some v
  rw [if_pos (shown_text h (by rw [hp.length_eq]; exact hl)).1, shown_words h, wordsRead_words h nd fun p _ => by simp, List.nil_append]
  show some (unitOf u) = some v
  rw [unitOf_perm hp, unitOf_unit hv]
end
section
theorem atI_pick {l : List D} {i : Int} {d : D} (h0 : 0 ≤ i) (h1 : i < l.length) (h : l.getD i.toNat .non = d) : atI l i = some d := by
  rw [show i = ((i.toNat : Nat) : Int) by omega]
  refine atI_nat ?_
  have hl : i.toNat < l.length := by omega
  rw [List.getElem?_eq_getElem hl, ← h, List.getD_eq_getElem?_getD, List.getElem?_eq_getElem hl]
  rfl
theorem getD_ints {l : List Int} {i : Nat} {e : Int} (h : i < l.length) : (l.map D.int).getD i .non = .int (l.getD i e) := by
  rw [List.getD_eq_getElem?_getD, List.getD_eq_getElem?_getD, List.getElem?_map, List.getElem?_eq_getElem h]
  rfl
theorem getD_all {α : Type} {P : α → Prop} {l : List α} {d : α} (h : ∀ x ∈ l, P x) (h0 : P d) (i : Nat) : P (l.getD i d) := by
  rw [List.getD_eq_getElem?_getD]
  cases e : l[i]? with
  | none => exact h0
  | some x => exact h x (List.mem_of_getElem? e)
theorem frac_parts {a b : Int} (hb : 0 < b) : ∃ p q : Int, fracD a b = .tup [.int p, .int q] ∧ 0 < q ∧ Nat.gcd p.natAbs q.natAbs = 1 ∧ p * b = a * q ∧ p.natAbs ≤ a.natAbs ∧ q.natAbs ≤ b.natAbs := by
  have hg : 0 < Nat.gcd a.natAbs b.natAbs := Nat.gcd_pos_of_pos_right _ (by omega)
  have d1 : ((Nat.gcd a.natAbs b.natAbs : Nat) : Int) ∣ a := Int.ofNat_dvd_left.mpr (Nat.gcd_dvd_left _ _)
  have d2 : ((Nat.gcd a.natAbs b.natAbs : Nat) : Int) ∣ b := Int.ofNat_dvd_left.mpr (Nat.gcd_dvd_right _ _)
  have ee : fracD a b = .tup [.int (a / (Nat.gcd a.natAbs b.natAbs : Nat)), .int (b / (Nat.gcd a.natAbs b.natAbs : Nat))] := rfl
  refine ⟨_, _, ee, ?_⟩
  have e1 := Int.mul_ediv_cancel' d1
  have e2 := Int.mul_ediv_cancel' d2
  generalize hG : Nat.gcd a.natAbs b.natAbs = g at *
  generalize hp : a / (g : Int) = p at *
  generalize hq : b / (g : Int) = q at *
  have n1 : a.natAbs = g * p.natAbs := by rw [← e1, Int.natAbs_mul] <;> rfl
  have n2 : b.natAbs = g * q.natAbs := by rw [← e2, Int.natAbs_mul] <;> rfl
  refine ⟨?_, ?_, ?_, ?_, ?_⟩
  · rcases Int.lt_trichotomy q 0 with h | h | h
    · have := Int.mul_neg_of_pos_of_neg (show (0 : Int) < g by omega) h
      omega
    · rw [h, Int.mul_zero] at e2; omega
    · exact h
  · have h := hG
    rw [n1, n2, Nat.gcd_mul_left] at h
    exact Nat.eq_of_mul_eq_mul_left hg (by rw [h, Nat.mul_one])
  · rw [← e1, ← e2, Int.mul_comm p, Int.mul_assoc, Int.mul_assoc, Int.mul_comm q p]
  · rw [n1]; exact Nat.le_mul_of_pos_left _ hg
  · rw [n2]; exact Nat.le_mul_of_pos_left _ hg
theorem frac_one (a : Int) : fracD a 1 = .tup [.int a, .int 1] := by
  have e : Nat.gcd a.natAbs (1 : Int).natAbs = 1 := Nat.gcd_one_right _
  unfold fracD
  rw [e]
  simp
theorem pick_in {l : List D} {i : Int} (h0 : 0 ≤ i) (h1 : i < l.length) : ∃ d, atI l i = some d ∧ d ∈ l := by
  obtain ⟨j, rfl⟩ : ∃ j : Nat, i = j := ⟨i.toNat, by omega⟩
  have hl : j < l.length := by omega
  exact ⟨l[j], atI_nat (List.getElem?_eq_getElem hl), List.getElem_mem hl⟩
end
theorem cdivW_lit {i j : Int} (h : 0 < j) (hs : j.natAbs < 2 ^ 32) : CDivW i j := cdivW_of h (Sm.mono (n := 32) hs (by decide))
section
/-- the laws' own mixing of numbers -/
def mixV (n k : Int) : Int := (n % 2147483647 + 7919 * k * k + 31 * k) * 48271 % 2147483647 * (69621 + 2 * k) % 2147483629
theorem mixV_nn (n k : Int) : 0 ≤ mixV n k := Int.emod_nonneg _ (by decide)
theorem mixV_lt (n k : Int) : mixV n k < 2147483629 := Int.emod_lt_of_pos _ (by decide)
def numV (ns : List Int) (k : Int) : Int := if ns = [] then mixV 17 k else mixV (ns.getD (k % ns.length).toNat 0) k
theorem numV_nn (ns : List Int) (k : Int) : 0 ≤ numV ns k := by
  unfold numV
  split <;> exact mixV_nn _ _
theorem numV_lt (ns : List Int) (k : Int) : numV ns k < 2147483629 := by
  unfold numV
  split <;> exact mixV_lt _ _
def S_mixed : FS := fun ds r => ∃ n k : Int, ds = [.int n, .int k] ∧ 0 ≤ k ∧ k < 1048576 ∧ r = .ok (.int (mixV n k))
def S_number : FS := fun ds r => ∃ (ns : List Int) (k : Int), ds = [.lst (ns.map D.int), .int k] ∧ 0 ≤ k ∧ k < 1048576 ∧ r = .ok (.int (numV ns k))
theorem plains_ints : ∀ ns : List Int, plains (ns.map D.int) = true
  | [] => rfl
  | n :: ns => by show (plain (.int n) && plains (ns.map D.int)) = true; rw [plains_ints ns] <;> rfl
theorem depth_ints : ∀ ns : List Int, PyData.depthAll (toPys (ns.map D.int)) = 0
  | [] => rfl
  | n :: ns => by
    show max (PyData.depth (.int n)) (PyData.depthAll (toPys (ns.map D.int))) = 0
    rw [depth_ints ns] <;> rfl
theorem pyOk_ints (ns : List Int) : pyOk (.lst (ns.map D.int)) = true := by
  show (plains (ns.map D.int) && decide (PyData.depthAll (toPys (ns.map D.int)) + 1 ≤ 64)) = true
  rw [plains_ints, depth_ints] <;> rfl
theorem eqD_nil (ns : List Int) : eqD (.lst (ns.map D.int)) (.lst []) = decide (ns = []) := by
  cases ns with
  | nil => rfl
  | cons n ns => rfl
theorem sm31 {i : Int} (h : 0 ≤ i) (h2 : i < 4294967296) : Sm 32 i := by
  unfold Sm
  omega
end
section
variable {X : Cx} {Gs G : Hp} {ds : List D} {r : Except Exn D} {C : Addr}
theorem b_law_mixed (B : Body X N__law_mixed L__law_mixed G__law_mixed 1 (defScope s__law_mixed)) (h : S_mixed ds r) :
    SS X Gs G (defBody s__law_mixed) (startA N__law_mixed ds) (finOf r) := by
  obtain ⟨n, k, rfl, hk0, hk1, rfl⟩ := h
  have k1 : Sm 32 k := sm31 hk0 (by omega)
  have c1 : CMulW 7919 k := cmulW_of (n := 32) (m := 32) (by decide) k1 (by decide) (by decide) (by decide)
  have c2 : CMulW (7919 * k) k := cmulW_of (n := 64) (m := 32) (Sm.mul (n := 32) (m := 32) (by decide) k1) k1 (by decide) (by decide) (by decide)
  have c3 : CMulW 31 k := cmulW_of (n := 32) (m := 32) (by decide) k1 (by decide) (by decide) (by decide)
  have c4 : CMulW (n % 2147483647 + 7919 * k * k + 31 * k) 48271 := by
    have a1 : 0 ≤ n % 2147483647 := Int.emod_nonneg _ (by decide)
    have a2 : n % 2147483647 < 2147483647 := Int.emod_lt_of_pos _ (by decide)
    have s1 : Sm 96 (n % 2147483647) := (sm31 a1 (by omega)).mono (by decide)
    have s2 : Sm 96 (7919 * k * k) := Sm.mul (n := 64) (m := 32) (Sm.mul (n := 32) (m := 32) (by decide) k1) k1
    have s3 : Sm 97 (31 * k) := (Sm.mul (n := 32) (m := 32) (by decide) k1).mono (by decide)
    exact cmulW_of (n := 98) (m := 32) ((s1.add s2).add s3) (by decide) (by decide) (by decide) (by decide)
  have c5 : CMulW 2 k := cmulW_of (n := 32) (m := 32) (by decide) k1 (by decide) (by decide) (by decide)
  have c6 : CMulW ((n % 2147483647 + 7919 * k * k + 31 * k) * 48271 % 2147483647) (69621 + 2 * k) := by
    refine cmulW_of (n := 32) (m := 64) (sm31 (Int.emod_nonneg _ (by decide)) (Int.lt_trans (Int.emod_lt_of_pos _ (by decide)) (by decide))) ?_ (by decide) (by decide) (by decide)
    unfold Sm
    omega
  ktu_offI
  iterate 20 (first | (k_places; first | assumption | decide) | skip)
  k_places
  rfl
end
section
variable {X : Cx} {Gs G : Hp} {ds : List D} {r : Except Exn D} {C : Addr}
theorem b_law_number (B : Body X N__law_number L__law_number G__law_number 3 (defScope s__law_number)) (F1 : FnD X 2 "_law_mixed" [] S_mixed) (m1 : X.mg "len" = none) (h : S_number ds r) :
    SS X Gs G (defBody s__law_number) (startA N__law_number ds) (finOf r) := by
  obtain ⟨ns, k, rfl, hk0, hk1, rfl⟩ := h
  ktu_offI
  k_subL
  refine s1_if (b := decide (ns = [])) (et_is (k := eqD (.lst (ns.map D.int)) (.lst [])) ?_ (eqD_nil ns)) (fun hb => ?_) fun hb => ?_
  · ktu_off1L
    · exact pyOk_ints ns
    · rfl
    ktu_off1L
  · have h0 : ns = [] := by simpa using hb
    k_places
    exact ⟨17, k, rfl, hk0, hk1, rfl⟩
    k_places
    change (Except.ok _ : Except Exn D) = Except.ok _
    rw [numV, if_pos h0]
  · have h0 : ¬ ns = [] := by simpa using hb
    have hp : 0 < (ns.map D.int).length := by
      rw [List.length_map]
      exact List.length_pos_iff.mpr h0
    have hr0 : 0 ≤ k % ((ns.map D.int).length : Nat) := Int.emod_nonneg _ (by omega)
    have hr1 : k % ((ns.map D.int).length : Nat) < ((ns.map D.int).length : Nat) := Int.emod_lt_of_pos _ (by omega)
    have hat : atI (ns.map D.int) (k % ((ns.map D.int).length : Nat)) = some (D.int (ns.getD (k % ((ns.map D.int).length : Nat)).toNat 0)) := by
      rw [show k % ((ns.map D.int).length : Nat) = (((k % ((ns.map D.int).length : Nat)).toNat : Nat) : Int) by omega]
      refine atI_nat ?_
      rw [List.getElem?_map, List.getD_eq_getElem?_getD]
      have hl : (k % ((ns.map D.int).length : Nat)).toNat < ns.length := by rw [List.length_map] at *; omega
      rw [show (((k % ((ns.map D.int).length : Nat)).toNat : Nat) : Int).toNat = (k % ((ns.map D.int).length : Nat)).toNat by omega]
      rw [List.getElem?_eq_getElem hl]
      rfl
    k_places
    · omega
    k_places
    · exact hat
    k_places
    exact ⟨_, k, rfl, hk0, hk1, rfl⟩
    k_places
    change (Except.ok _ : Except Exn D) = Except.ok _
    rw [numV, if_neg h0, List.length_map]
end
/-! ### drawn names -/
section
variable {X : Cx} {Gs G : Hp} {ds : List D} {r : Except Exn D} {C : Addr}
theorem num_sm (ns : List Int) (k : Int) : Sm 32 (numV ns k) := by
  have h1 := numV_nn ns k
  have h2 := numV_lt ns k
  unfold Sm
  omega
theorem mix_sm (n k : Int) : Sm 32 (mixV n k) := by
  have h1 := mixV_nn n k
  have h2 := mixV_lt n k
  unfold Sm
  omega
def restC (n : Int) (j : Nat) : Nat := 97 + (mixV n (50 + j) % 26).toNat
theorem restC_ok (n : Int) (j : Nat) : 97 ≤ restC n j ∧ restC n j ≤ 122 := by
  have h1 := Int.emod_nonneg (mixV n (50 + j)) (show (26 : Int) ≠ 0 by decide)
  have h2 := Int.emod_lt_of_pos (mixV n (50 + j)) (show (0 : Int) < 26 by decide)
  unfold restC
  omega
def restL (n : Int) : List Str := (List.range 6).map fun j => (⟨#[restC n j]⟩ : Str)
def restS (n : Int) : Str := Txt.join "" (restL n)
theorem joinE_list : ∀ l : List Nat, (Str.join "" (l.map fun c => (⟨#[c]⟩ : Str))).cps.toList = l
  | [] => rfl
  | [c] => rfl
  | c :: d :: r => by
    have ih := joinE_list (d :: r)
    have e : Str.join "" ((c :: d :: r).map fun c => (⟨#[c]⟩ : Str)) = (⟨#[c]⟩ : Str) ++ "" ++ Str.join "" ((d :: r).map fun c => (⟨#[c]⟩ : Str)) := rfl
    have e2 : ((⟨#[c]⟩ : Str) ++ "" ++ Str.join "" ((d :: r).map fun c => (⟨#[c]⟩ : Str))).cps.toList = ([c] ++ ("" : Str).cps.toList) ++ (Str.join "" ((d :: r).map fun c => (⟨#[c]⟩ : Str))).cps.toList := by
      show ((#[c] ++ ("" : Str).cps) ++ (Str.join "" ((d :: r).map fun c => (⟨#[c]⟩ : Str))).cps).toList = _
      rw [Array.toList_append, Array.toList_append]
    rw [e, e2, ih, show ("" : Str).cps.toList = [] by decide +kernel]
    rfl
theorem restS_list (n : Int) : (restS n).cps.toList = (List.range 6).map (restC n) := by
  unfold restS restL
  rw [txt_join, show (List.range 6).map (fun j => (⟨#[restC n j]⟩ : Str)) = ((List.range 6).map (restC n)).map fun c => (⟨#[c]⟩ : Str) by rw [List.map_map]; rfl, joinE_list]
theorem restS_len (n : Int) : (restS n).length = 6 := by
  have e : (restS n).length = (restS n).cps.toList.length := by rw [Array.length_toList]; rfl
  rw [e, restS_list]
  rfl
def atN (n : Int) : Int := n / 3 % 5
def nameV (n : Int) (k : Nat) : Str :=
  if n % 3 = 1 then "z" ++ cutS (restS n) none (some (0 + (k : Nat) : Int)) else cutS (restS n) none (some (atN n)) ++ (⟨#[[113, 106, 120, 121, 122].getD k 0]⟩ : Str) ++ cutS (restS n) (some (atN n)) (some (atN n + n / 15 % 3))
def namesV (n : Int) : List Str := (List.range 5).map (nameV n)
theorem cut_list (z : Str) (a b : Nat) : ∃ x y : Nat, (cutS z (some (a : Int)) (some (b : Int))).cps.toList = (z.cps.toList.drop x).take y ∧ y ≤ b - a := by
  unfold cutS
  rw [HT.sIx_nat, HT.sIx_nat]
  exact ⟨_, _, rfl, by omega⟩
theorem cut_list0 (z : Str) (b : Nat) : (cutS z none (some (b : Int))).cps.toList = z.cps.toList.take (min b z.length) := by
  unfold cutS
  rw [HT.sIx_none, HT.sIx_nat, List.drop_zero, Nat.sub_zero]
theorem rest_mem {n : Int} {c : Nat} (h : c ∈ (restS n).cps.toList) : 97 ≤ c ∧ c ≤ 122 := by
  rw [restS_list] at h
  obtain ⟨j, _, rfl⟩ := List.mem_map.mp h
  exact restC_ok n j
theorem name_of {z : Str} (h1 : 1 ≤ z.length) (h8 : z.length ≤ 8) (hl : ∀ c ∈ z.cps.toList, 97 ≤ c ∧ c ≤ 122) (hq : ∃ c ∈ z.cps.toList, c ∈ [113, 106, 120, 121, 122]) : isNameS z = true := by
  unfold isNameS
  rw [decide_eq_true h1, decide_eq_true h8]
  have e : lettersS.cps.toList = (List.range 26).map (· + 97) := by decide +kernel
  have h2 : (z.cps.toList.all fun c => decide (c ∈ lettersS.cps.toList)) = true := List.all_eq_true.mpr fun c hc => by
    have := hl c hc
    rw [e]
    exact decide_eq_true (List.mem_map.mpr ⟨c - 97, List.mem_range.mpr (by omega), by omega⟩)
  rw [h2]
  have h3 : z ∉ wordsL := fun hz => by
    obtain ⟨c, hc, hd⟩ := hq
    have hw : ∀ w ∈ wordsL, ∀ c ∈ w.cps.toList, c ∉ [113, 106, 120, 121, 122] := by decide +kernel
    exact hw z hz c hc hd
  rw [decide_eq_false h3]
  rfl
theorem str_len (z : Str) : z.length = z.cps.toList.length := by rw [Array.length_toList]; rfl
theorem cat_list (a b : Str) : (a ++ b).cps.toList = a.cps.toList ++ b.cps.toList := by
  show (a.cps ++ b.cps).toList = _
  rw [Array.toList_append]
theorem nameV_ok (n : Int) (h0 : 0 ≤ n) {k : Nat} (hk : k < 5) : isNameS (nameV n k) = true := by
  have a0 := Int.emod_nonneg (n / 3) (show (5 : Int) ≠ 0 by decide)
  have a1 := Int.emod_lt_of_pos (n / 3) (show (0 : Int) < 5 by decide)
  have b0 := Int.emod_nonneg (n / 15) (show (3 : Int) ≠ 0 by decide)
  have b1 := Int.emod_lt_of_pos (n / 15) (show (0 : Int) < 3 by decide)
  unfold nameV
  split
  · have e : ("z" ++ cutS (restS n) none (some (0 + (k : Nat) : Int)) : Str).cps.toList = 122 :: (restS n).cps.toList.take (min k 6) := by
      rw [cat_list, show ("z" : Str).cps.toList = [122] by decide +kernel, Int.zero_add, cut_list0, restS_len]
      rfl
    have el := str_len ("z" ++ cutS (restS n) none (some (0 + (k : Nat) : Int)))
    rw [e, List.length_cons, List.length_take, ← str_len, restS_len] at el
    refine name_of (by omega) (by omega) (fun c hc => ?_) ⟨122, by rw [e]; exact List.mem_cons_self, by decide⟩
    rw [e] at hc
    rcases List.mem_cons.mp hc with q | q
    · omega
    · exact rest_mem (List.mem_of_mem_take q)
  · obtain ⟨a, ha⟩ : ∃ a : Nat, atN n = a := ⟨(n / 3 % 5).toNat, by unfold atN; omega⟩
    obtain ⟨b, hb⟩ : ∃ b : Nat, atN n + n / 15 % 3 = b := ⟨(n / 3 % 5 + n / 15 % 3).toNat, by unfold atN; omega⟩
    have ha5 : a < 5 := by unfold atN at ha; omega
    have hba : b ≤ a + 2 := by omega
    obtain ⟨x, y, q1, q2⟩ := cut_list (restS n) a b
    have e : (cutS (restS n) none (some (atN n)) ++ (⟨#[[113, 106, 120, 121, 122].getD k 0]⟩ : Str) ++ cutS (restS n) (some (atN n)) (some (atN n + n / 15 % 3))).cps.toList = ((restS n).cps.toList.take (min a 6) ++ [[113, 106, 120, 121, 122].getD k 0]) ++ ((restS n).cps.toList.drop x).take y := by
      rw [cat_list, cat_list, hb, ha, cut_list0, q1, restS_len]
    have el := str_len (cutS (restS n) none (some (atN n)) ++ (⟨#[[113, 106, 120, 121, 122].getD k 0]⟩ : Str) ++ cutS (restS n) (some (atN n)) (some (atN n + n / 15 % 3)))
    rw [e, List.length_append, List.length_append, List.length_take, List.length_take, List.length_singleton, ← str_len, restS_len] at el
    have hm : [113, 106, 120, 121, 122].getD k 0 ∈ [113, 106, 120, 121, 122] := by
      rw [List.getD_eq_getElem?_getD, List.getElem?_eq_getElem (by simpa using hk)]
      exact List.getElem_mem _
    refine name_of (by omega) (by omega) (fun c hc => ?_) ⟨_, by rw [e]; simp, hm⟩
    rw [e, List.mem_append, List.mem_append] at hc
    rcases hc with (q | q) | q
    · exact rest_mem (List.mem_of_mem_take q)
    · rw [List.mem_singleton.mp q]
      have : ∀ c ∈ [113, 106, 120, 121, 122], 97 ≤ c ∧ c ≤ 122 := by decide
      exact this _ hm
    · exact rest_mem (List.mem_of_mem_drop (List.mem_of_mem_take q))
theorem namesV_ok (n : Int) (h0 : 0 ≤ n) : (namesV n).length = 5 ∧ ∀ z ∈ namesV n, isNameS z = true := by
  unfold namesV
  refine ⟨by rw [List.length_map, List.length_range], fun z hz => ?_⟩
  obtain ⟨k, hk, rfl⟩ := List.mem_map.mp hz
  exact nameV_ok n h0 (List.mem_range.mp hk)
theorem atI_pick' {α : Type} {l : List α} {i : Int} {x : α} (h0 : 0 ≤ i) (h : l[i.toNat]? = some x) : atI l i = some x := by
  rw [show i = ((i.toNat : Nat) : Int) by omega]
  exact atI_nat h
def S_names : FS := fun ds r => ∃ n : Int, ds = [.int n] ∧ 0 ≤ n ∧ Sm 32 n ∧ r = .ok (.lst ((namesV n).map D.str))
theorem b_law_names (B : Body X N__law_names L__law_names G__law_names 3 (defScope s__law_names)) (F1 : FnD X 2 "_law_mixed" [] S_mixed) (m1 : X.mg "range" = none) (h : S_names ds r) :
    SS X Gs G (defBody s__law_names) (startA N__law_names ds) (finOf r) := by
  obtain ⟨n, rfl, h0, hn, rfl⟩ := h
  have a0 := Int.emod_nonneg (n / 3) (show (5 : Int) ≠ 0 by decide)
  have a1 := Int.emod_lt_of_pos (n / 3) (show (0 : Int) < 5 by decide)
  have b0 := Int.emod_nonneg (n / 15) (show (3 : Int) ≠ 0 by decide)
  have b1 := Int.emod_lt_of_pos (n / 15) (show (0 : Int) < 3 by decide)
  have hr6 : (restS n).length ≤ sizeLine := by rw [restS_len]; decide
  have el : lettersS.cps.toList = (List.range 26).map (· + 97) := by decide +kernel
  ktu_offI
  k_subL
  k_subL
  ktu_off1L
  k_subL
  refine t_set (as1 := [.fz (.int n), .fz (.str lettersS), .fz (.str (Txt.join "" (restL n))), .un, .un, .un]) B (by nest_cls) (e_join (z := "") (ys := restL n) ?_ (ee_is (EN.ee (en_lc1 (ds := (List.range (6 : Int).toNat).map fun i => D.int (0 + (i : Nat))) 4 [some "_law_number_here", some "_law_signs_here", none, none, some "_law_j"] ["_law_mixed"] (fun d => match d with | .int j => .str ⟨#[97 + (mixV n (50 + j) % 26).toNat]⟩ | _ => .non) (fun _ => true) B (iw_range1 (by assumption) (by nest_cls) (by assumption) ?_ (by decide) ?_) (by decide +kernel) (by decide) ?_)) ?_) ?_ ?_ ?_ ?_ ?_) ?_ (by ktu_offL) ?_
  · ktu_off1L
  · ktu_off1L
  · ktu_off1L
  · intro s H cl C fp nb gb t d hd
    obtain ⟨j, hj, rfl⟩ := map_at hd
    have hj6 : j < 6 := by
      have := List.mem_range.mp (List.mem_of_getElem? hj)
      simpa using this
    have F1' := fn_in gb F1
    have m0 := Int.emod_nonneg (mixV n (50 + (0 + (j : Nat)))) (show (26 : Int) ≠ 0 by decide)
    have m1' := Int.emod_lt_of_pos (mixV n (50 + (0 + (j : Nat)))) (show (0 : Int) < 26 by decide)
    refine ⟨ets_nil, fun _ => ?_⟩
    refine ee_sub ?_ ?_ (sub_S (c := 97 + (mixV n (50 + (0 + (j : Nat))) % 26).toNat) (i := mixV n (50 + (0 + (j : Nat))) % 26) (z := lettersS) (by decide +kernel) ?_ (by exact fun _ _ => rfl))
    · ktu_off1L
    · have r2 := room_in gb (B.room.mono (show 2 ≤ 3 by decide))
      ktu_off1L
      · exact ⟨n, 50 + (0 + (j : Nat)), rfl, by omega, by omega, rfl⟩
      ktu_off1L
    · rw [el]
      refine atI_pick' m0 ?_
      rw [List.getElem?_map, List.getElem?_range (by omega)]
      show some (_ + 97) = _
      rw [Nat.add_comm]
  · rw [filter_true, List.map_map]
    unfold restL
    rw [List.map_map]
    refine congrArg D.lst (List.map_congr_left fun j _ => ?_)
    show D.str ⟨#[97 + (mixV n (50 + (0 + (j : Nat))) % 26).toNat]⟩ = D.str ⟨#[restC n j]⟩
    rw [Int.zero_add]
    rfl
  · rw [show ("" : Str).length = 0 by decide +kernel, Nat.mul_zero, Nat.add_zero]
    unfold restL
    rw [List.map_map]
    show ((List.range 6).map fun _ => 1).sum ≤ _
    decide
  · ktu_off1L
  · ktu_off1L
  · rfl
  · ktu_off1L
  · ktu_off1L
  show SS X Gs G _ [.fz (.int n), .fz (.str lettersS), .fz (.str (restS n)), .un, .un, .un] _
  k_subL
  refine s1_if (b := decide (n % 3 = 1)) ?_ (fun hh => ?_) fun hh => ?_
  · ktu_off1L
  · have h3 : n % 3 = 1 := by simpa using hh
    k_subL
    refine s1_ret (d := .lst ((namesV n).map D.str)) (ee_is (EN.ee (en_lc1 (ds := (List.range (5 : Int).toNat).map fun i => D.int (0 + (i : Nat))) 5 [none, none, some "_law_rest", none, none, some "_law_k"] [] (fun d => match d with | .int j => .str ("z" ++ cutS (restS n) none (some j)) | _ => .non) (fun _ => true) B (iw_range1 (by assumption) (by nest_cls) (by assumption) ?_ (by decide) ?_) (by decide +kernel) (by decide) ?_)) ?_) rfl
    · ktu_off1L
    · ktu_off1L
    · intro s H cl C fp nb gb t d hd
      obtain ⟨j, hj, rfl⟩ := map_at hd
      refine ⟨ets_nil, fun _ => ?_⟩
      refine ee_bin ?_ (ee_slS ?_ eo_none (eo_some ?_) hr6) (od_addS ?_)
      · ktu_off1L
      · ktu_off1L
      · ktu_off1L
      · have : (cutS (restS n) none (some (0 + (j : Nat) : Int))).length ≤ 6 := by
          rw [str_len, Int.zero_add, cut_list0, List.length_take, restS_len]
          omega
        rw [show ("z" : Str).length = 1 by decide +kernel]
        exact Nat.le_trans (Nat.add_le_add_left this 1) (by decide)
    · rw [filter_true, List.map_map]
      unfold namesV
      rw [List.map_map]
      refine congrArg D.lst (List.map_congr_left fun j _ => ?_)
      show D.str ("z" ++ cutS (restS n) none (some (0 + (j : Nat) : Int))) = D.str (nameV n j)
      unfold nameV
      rw [if_pos h3]
  · have h3 : ¬ n % 3 = 1 := by simpa using hh
    k_subL
    k_subL
    refine t_set (d := .int (atN n)) (as1 := [.fz (.int n), .fz (.str lettersS), .fz (.str (restS n)), .fz (.int (atN n)), .un, .un]) B (by nest_cls) (ee_is (d := .int (n / 3 % 5)) ?_ rfl) (by ktu_off1L) (by ktu_offL) ?_
    · ktu_off1L
    k_subL
    have ha : ∃ a : Nat, atN n = a ∧ a < 5 := ⟨(n / 3 % 5).toNat, by unfold atN; omega, by omega⟩
    obtain ⟨a, ha, ha5⟩ := ha
    refine s1_ret (d := .lst ((namesV n).map D.str)) (ee_is (EN.ee (en_lc1 (ds := (List.range (5 : Int).toNat).map fun i => D.int (0 + (i : Nat))) 5 [some "_law_number_here", none, some "_law_rest", some "_law_at", none, some "_law_k"] [] (fun d => match d with | .int j => .str (cutS (restS n) none (some (atN n)) ++ (⟨#[[113, 106, 120, 121, 122].getD j.toNat 0]⟩ : Str) ++ cutS (restS n) (some (atN n)) (some (atN n + n / 15 % 3))) | _ => .non) (fun _ => true) B (iw_range1 (by assumption) (by nest_cls) (by assumption) ?_ (by decide) ?_) (by decide +kernel) (by decide) ?_)) ?_) rfl
    · ktu_off1L
    · ktu_off1L
    · intro s H cl C fp nb gb t d hd
      obtain ⟨j, hj, rfl⟩ := map_at hd
      have hj5 : j < 5 := by
        have := List.mem_range.mp (List.mem_of_getElem? hj)
        simpa using this
      refine ⟨ets_nil, fun _ => ?_⟩
      have l1 : (cutS (restS n) none (some (atN n))).length ≤ 6 := by
        rw [str_len, ha, cut_list0, List.length_take, restS_len]
        omega
      have l2 : (cutS (restS n) (some (atN n)) (some (atN n + n / 15 % 3))).length ≤ 6 := by
        obtain ⟨b, hb⟩ : ∃ b : Nat, atN n + n / 15 % 3 = b := ⟨(atN n + n / 15 % 3).toNat, by omega⟩
        obtain ⟨x, y, q1, q2⟩ := cut_list (restS n) a b
        rw [str_len, hb, ha, q1, List.length_take, List.length_drop, ← str_len, restS_len]
        omega
      have l3 : (⟨#[[113, 106, 120, 121, 122].getD (0 + (j : Nat) : Int).toNat 0]⟩ : Str).length = 1 := rfl
      have z : ∀ n : Nat, n ≤ 100 → n ≤ sizeLine := fun n h => Nat.le_trans h (by decide)
      refine ee_bin (ee_bin (ee_slS ?_ eo_none (eo_some ?_) hr6) (ee_sub ?_ ?_ (sub_S (c := [113, 106, 120, 121, 122].getD (0 + (j : Nat) : Int).toNat 0) (i := 0 + (j : Nat)) (z := "qjxyz") (by decide +kernel) ?_ (by exact fun _ _ => rfl))) (od_addS (z _ ?_))) (ee_slS ?_ (eo_some ?_) (eo_some ?_) hr6) (od_addS (z _ ?_))
      · ktu_off1L
      · ktu_off1L
      · ktu_off1L
      · ktu_off1L
      · rw [show ("qjxyz" : Str).cps.toList = [113, 106, 120, 121, 122] by decide +kernel]
        refine atI_pick' (by omega) ?_
        rw [List.getD_eq_getElem?_getD, List.getElem?_eq_getElem (by simp; omega)]
        rfl
      · rw [l3]; omega
      · ktu_off1L
      · ktu_off1L
      · ktu_off1L
      · rw [Str.length_append, l3]; omega
    · rw [filter_true, List.map_map]
      unfold namesV
      rw [List.map_map]
      refine congrArg D.lst (List.map_congr_left fun j _ => ?_)
      show D.str (cutS (restS n) none (some (atN n)) ++ (⟨#[[113, 106, 120, 121, 122].getD (0 + (j : Nat) : Int).toNat 0]⟩ : Str) ++ cutS (restS n) (some (atN n)) (some (atN n + n / 15 % 3))) = D.str (nameV n j)
      unfold nameV
      rw [if_neg h3, show (0 + (j : Nat) : Int).toNat = j by omega]
end
section
variable {X : Cx} {Gs G : Hp} {ds : List D} {r : Except Exn D} {C : Addr}
def S_sums : FS := fun ds r => ∃ ps : List UP, ds = [.lst (ps.map pairD)] ∧ ps.length < 64 ∧ r = .ok (unitD (unitOf ps))
theorem b_law_sums (B : Body X N__law_sums L__law_sums G__law_sums 1 (defScope s__law_sums)) (m1 : X.mg "sorted" = none) (m2 : X.mg "set" = none) (m3 : X.mg "sum" = none) (m4 : X.mg "tuple" = none) (h : S_sums ds r) :
    SS X Gs G (defBody s__law_sums) (startA N__law_sums ds) (finOf r) := by
  obtain ⟨ps, rfl, hl, rfl⟩ := h
  have hlen : (ps.map pairD).length < sizeLine := by rw [List.length_map, sizeLine_eq]; omega
  have names : ((ps.map pairD).filter fun _ => true).map fstD = (ps.map (·.1)).map D.str := by
    rw [filter_true, List.map_map, List.map_map]
    rfl
  ktu_offI
  k_subL
  refine t_setN B (by nest_cls) (en_lst (ds := []) (by ktu_off1L) (by ktu_off1L)) ?_ (by ktu_offL) ?_
  · ktu_off1L
  k_subL
  have ik : ∀ (z : Str), ((ps.map pairD).filter fun d => match d with | .tup [.str w, _] => decide (w = z) | _ => false).map (fun d => match d with | .tup [_, y] => y | _ => .non) = ((ps.filter fun p => decide (p.1 = z)).map (·.2)).map D.int := fun z => by
    rw [List.filter_map, List.map_map, List.map_map]
    rfl
  refine t_for B (fun d => [(2, d)]) (iw_list (ds := (sortT (ps.map (·.1))).map D.str) (EN.ee (en_sortSet (by assumption) B.calm (by nest_cls) (by nest_cls) (by assumption) (by assumption) (ee_is (EN.ee (en_lc2 (ds := ps.map pairD) 2 4 [none, none, some "_law_name", none, some "_law_exponent"] [] fstD (fun _ => true) B (iw_list ?_) (by decide +kernel) hlen ?_ ?_)) ?_) ?_ ?_ ?_))) (fun j as' => ∃ s2 s3, as' = [.fz (.lst (ps.map pairD)), .ow (.lst (((((sortT (ps.map (·.1))).take j).map fun z => (z, sumAt ps z)).filter fun p => !decide (p.2 = 0)).map pairD)), s2, s3, .un, .un]) ⟨_, _, rfl⟩ ?_ ?_ ?_
  · ktu_off1L
  · intro t d hd
    obtain ⟨p, _, rfl⟩ := map_at hd
    exact ⟨_, _, rfl⟩
  · intro s H cl C fp nb gb t x y hd
    refine ⟨ets_nil, fun _ => ?_⟩
    show EE _ _ _ x
    ktu_off1L
  · rw [names]
  · rw [List.length_map]; exact hl
  · ktu_off1L
  · ktu_off1L
  · intro j d hj
    exact tg_name B (by nest_cls)
  · rintro j d as' hj ⟨s2, s3, rfl⟩
    obtain ⟨z, hz, rfl⟩ := map_at hj
    show SS X Gs G _ [.fz (.lst (ps.map pairD)), .ow (.lst (((((sortT (ps.map (·.1))).take j).map fun z => (z, sumAt ps z)).filter fun p => !decide (p.2 = 0)).map pairD)), .fz (.str z), s3, .un, .un] _
    have htk : (sortT (ps.map (·.1))).take (j + 1) = (sortT (ps.map (·.1))).take j ++ [z] := by rw [List.take_add_one, hz]; rfl
    have hls : (((((sortT (ps.map (·.1))).take j).map fun z => (z, sumAt ps z)).filter fun p => !decide (p.2 = 0)).map pairD).length < sizeLine := by
      have q2 := len_sortT (ps.map (·.1))
      rw [List.length_map] at q2
      rw [List.length_map]
      refine Nat.lt_of_le_of_lt (List.length_filter_le _ _) ?_
      rw [List.length_map, List.length_take, sizeLine_eq]
      omega
    k_subL
    refine t_set (d := .int (sumAt ps z)) (as1 := [.fz (.lst (ps.map pairD)), .ow (.lst (((((sortT (ps.map (·.1))).take j).map fun z => (z, sumAt ps z)).filter fun p => !decide (p.2 = 0)).map pairD)), .fz (.str z), .fz (.int (sumAt ps z)), .un, .un]) B (by nest_cls) (e_sum (ns := (ps.filter fun p => decide (p.1 = z)).map (·.2)) (by assumption) B.calm (by nest_cls) (by assumption) (ee_is (EN.ee (en_lc2 (ds := ps.map pairD) 5 4 [none, none, some "_law_name", none, some "_law_exponent", some "_law_other"] [] (fun d => match d with | .tup [_, y] => y | _ => .non) (fun d => match d with | .tup [.str w, _] => decide (w = z) | _ => false) B (iw_list ?_) (by decide +kernel) hlen ?_ ?_)) ?_) ?_) (by ktu_off1L) (by ktu_offL) ?_
    · ktu_off1L
    · intro t d hd
      obtain ⟨p, _, rfl⟩ := map_at hd
      exact ⟨_, _, rfl⟩
    · intro s H cl C fp nb gb t x y hd
      obtain ⟨p, hp, e1⟩ := map_at hd
      unfold pairD at e1
      injection e1 with e1
      injection e1 with ex e1
      injection e1 with ey _
      subst ex ey
      refine ⟨ets_one ?_, fun _ => ?_⟩
      · ktu_off1L
      · show EE _ _ _ (.int p.2)
        ktu_off1L
    · rw [ik z]
    · ktu_off1L
    k_subL
    refine s1_if (b := !decide (sumAt ps z = 0)) ?_ (fun hb => ?_) fun hb => ?_
    · ktu_off1L
    · k_subL
      refine t_append (as1 := [.fz (.lst (ps.map pairD)), .ow (.lst (((((sortT (ps.map (·.1))).take j).map fun z => (z, sumAt ps z)).filter fun p => !decide (p.2 = 0)).map pairD ++ [.tup [.str z, .int (sumAt ps z)]])), .fz (.str z), .fz (.int (sumAt ps z)), .un, .un]) B (by nest_cls) rfl (d := .tup [.str z, .int (sumAt ps z)]) ?_ hls ?_ ?_ ?_ ?_ ?_ ?_
      · ktu_off1L
      · ktu_off1L
      · rfl
      · ktu_off1L
      · ktu_off1L
      · ktu_offL
      · refine ⟨.fz (.str z), .fz (.int (sumAt ps z)), ?_⟩
        rw [htk, List.map_append, List.filter_append, List.map_append]
        rw [show List.filter (fun p : UP => !decide (p.2 = 0)) ([z].map fun z => (z, sumAt ps z)) = [(z, sumAt ps z)] from by rw [List.map_cons, List.map_nil, List.filter_cons, if_pos hb]; rfl]
        rfl
    · k_subL
      refine ⟨.fz (.str z), .fz (.int (sumAt ps z)), ?_⟩
      rw [htk, List.map_append, List.filter_append, List.map_append]
      rw [show List.filter (fun p : UP => !decide (p.2 = 0)) ([z].map fun z => (z, sumAt ps z)) = [] from by rw [List.map_cons, List.map_nil, List.filter_cons, if_neg (by rw [hb]; exact Bool.false_ne_true)]; rfl, List.map_nil, List.append_nil]
  · rintro as' ⟨s2, s3, rfl⟩
    rw [List.length_map, List.take_length]
    show SS X Gs G _ [.fz (.lst (ps.map pairD)), .ow (.lst ((unitOf ps).map pairD)), s2, s3, .un, .un] _
    k_subL
    refine s1_ret (d := unitD (unitOf ps)) (e_tupL (by assumption) (by nest_cls) (by assumption) ?_ ?_) rfl
    · ktu_off1L
    · ktu_off1L
/-! ### drawn pairs -/
def expV (m : Int) : Int := if m / 200 % 9 = 1 then (m / 7 % 19 - 9) * 10 ^ (12 : Int).toNat else m / 7 % 19 - 9
def pairV (n : Int) (zs : List Str) (k : Nat) : UP := (zs.getD (mixV n k % 5).toNat "", expV (mixV n k))
def pairsV (n : Int) (zs : List Str) : List UP := (List.range (n % 7).toNat).map (pairV n zs)
theorem expV_sm (m : Int) : Sm 100 (expV m) := by
  have a := Int.emod_nonneg (m / 7) (show (19 : Int) ≠ 0 by decide)
  have b := Int.emod_lt_of_pos (m / 7) (show (0 : Int) < 19 by decide)
  have s1 : Sm 10 (m / 7 % 19 - 9) := by unfold Sm; omega
  unfold expV
  split
  · exact (s1.mul (show Sm 60 (10 ^ (12 : Int).toNat) by decide)).mono (by decide)
  · exact s1.mono (by decide)
theorem pairsV_ok {n : Int} {zs : List Str} (h5 : zs.length = 5) : (∀ p ∈ pairsV n zs, p.1 ∈ zs ∧ Sm 100 p.2) ∧ (pairsV n zs).length ≤ 6 := by
  have a := Int.emod_nonneg n (show (7 : Int) ≠ 0 by decide)
  have b := Int.emod_lt_of_pos n (show (0 : Int) < 7 by decide)
  unfold pairsV
  refine ⟨fun p hp => ?_, by rw [List.length_map, List.length_range]; omega⟩
  obtain ⟨k, _, rfl⟩ := List.mem_map.mp hp
  refine ⟨?_, expV_sm _⟩
  have c := Int.emod_nonneg (mixV n k) (show (5 : Int) ≠ 0 by decide)
  have d := Int.emod_lt_of_pos (mixV n k) (show (0 : Int) < 5 by decide)
  have hi : (mixV n k % 5).toNat < zs.length := by omega
  show zs.getD _ _ ∈ zs
  rw [List.getD_eq_getElem?_getD, List.getElem?_eq_getElem hi]
  exact List.getElem_mem hi
def S_pairs : FS := fun ds r => ∃ (n : Int) (zs : List Str), ds = [.int n, .lst (zs.map D.str)] ∧ Sm 32 n ∧ zs.length = 5 ∧ r = .ok (.lst ((pairsV n zs).map pairD))
theorem b_law_pairs (B : Body X N__law_pairs L__law_pairs G__law_pairs 3 (defScope s__law_pairs)) (F1 : FnD X 2 "_law_mixed" [] S_mixed) (m1 : X.mg "range" = none) (h : S_pairs ds r) :
    SS X Gs G (defBody s__law_pairs) (startA N__law_pairs ds) (finOf r) := by
  obtain ⟨n, zs, rfl, hn, h5, rfl⟩ := h
  have a := Int.emod_nonneg n (show (7 : Int) ≠ 0 by decide)
  have b := Int.emod_lt_of_pos n (show (0 : Int) < 7 by decide)
  ktu_offI
  k_subL
  refine t_setN B (by nest_cls) (en_lst (ds := []) (by ktu_off1L) (by ktu_off1L)) ?_ (by ktu_offL) ?_
  · ktu_off1L
  k_subL
  refine t_forR (z := n % 7) B (by nest_cls) (by nest_cls) (by assumption) ?_ (by omega) (fun t as' => ∃ s3 s4 s5, as' = [.fz (.int n), .fz (.lst (zs.map D.str)), .ow (.lst (((List.range t).map (pairV n zs)).map pairD)), s3, s4, s5]) ⟨_, _, _, rfl⟩ ?_ ?_
  · ktu_off1L
  · rintro t as' ht ⟨s3, s4, s5, rfl⟩
    refine ⟨_, by ktu_offL, ?_⟩
    have hls : (((List.range t).map (pairV n zs)).map pairD).length < sizeLine := by rw [List.length_map, List.length_map, List.length_range, sizeLine_eq]; omega
    have m0 := Int.emod_nonneg (mixV n t) (show (5 : Int) ≠ 0 by decide)
    have m1' := Int.emod_lt_of_pos (mixV n t) (show (0 : Int) < 5 by decide)
    k_places
    · exact ⟨n, t, rfl, by omega, by omega, rfl⟩
    k_places
    have e0 := Int.emod_nonneg (mixV n t / 7) (show (19 : Int) ≠ 0 by decide)
    have e1 := Int.emod_lt_of_pos (mixV n t / 7) (show (0 : Int) < 19 by decide)
    have sE : Sm 10 (mixV n t / 7 % 19 - 9) := by unfold Sm; omega
    have cM : CMulW (mixV n t / 7 % 19 - 9) (10 ^ (12 : Int).toNat) := cmulW_of sE (show Sm 60 (10 ^ (12 : Int).toNat) by decide) (by decide) (by decide) (by decide)
    refine s1_if (b := decide (mixV n t / 200 % 9 = 1)) ?_ (fun hb => ?_) fun hb => ?_
    · ktu_off1L
    · have h9 : mixV n t / 200 % 9 = 1 := by simpa using hb
      have ew : (mixV n t / 7 % 19 - 9) * 10 ^ (12 : Int).toNat = expV (mixV n t) := by rw [expV, if_pos h9]
      k_subL
      refine t_set (d := .int (expV (mixV n t))) (as1 := [.fz (.int n), .fz (.lst (zs.map D.str)), .ow (.lst (((List.range t).map (pairV n zs)).map pairD)), .fz (.int t), .fz (.int (mixV n t)), .fz (.int (expV (mixV n t)))]) B (by nest_cls) ?_ (by ktu_off1L) (by ktu_offL) ?_
      · rw [← ew]
        ktu_off1L
      k_subL
      have hat : atI (zs.map D.str) (mixV n t % 5) = some (.str (zs.getD (mixV n t % 5).toNat "")) := atI_pick' m0 (by
        have hi : (mixV n t % 5).toNat < zs.length := by omega
        rw [List.getElem?_map, List.getElem?_eq_getElem hi, List.getD_eq_getElem?_getD, List.getElem?_eq_getElem hi]
        rfl)
      refine t_append (d := pairD (pairV n zs t)) (as1 := [.fz (.int n), .fz (.lst (zs.map D.str)), .ow (.lst (((List.range t).map (pairV n zs)).map pairD ++ [pairD (pairV n zs t)])), .fz (.int t), .fz (.int (mixV n t)), .fz (.int (expV (mixV n t)))]) B (by nest_cls) rfl ?_ hls ?_ ?_ ?_ ?_ ?_ ?_
      · show EE X _ _ (.tup [.str (zs.getD (mixV n t % 5).toNat ""), .int (expV (mixV n t))])
        ktu_off1L
        · exact hat
        ktu_off1L
      · ktu_off1L
      · rfl
      · ktu_off1L
      · ktu_off1L
      · ktu_offL
      · refine ⟨.fz (.int t), .fz (.int (mixV n t)), .fz (.int (expV (mixV n t))), ?_⟩
        rw [List.range_succ, List.map_append, List.map_append]
        rfl
    · have h9 : ¬ mixV n t / 200 % 9 = 1 := by simpa using hb
      have ew : mixV n t / 7 % 19 - 9 = expV (mixV n t) := by rw [expV, if_neg h9]
      rw [ew]
      k_subL
      k_subL
      have hat : atI (zs.map D.str) (mixV n t % 5) = some (.str (zs.getD (mixV n t % 5).toNat "")) := atI_pick' m0 (by
        have hi : (mixV n t % 5).toNat < zs.length := by omega
        rw [List.getElem?_map, List.getElem?_eq_getElem hi, List.getD_eq_getElem?_getD, List.getElem?_eq_getElem hi]
        rfl)
      refine t_append (d := pairD (pairV n zs t)) (as1 := [.fz (.int n), .fz (.lst (zs.map D.str)), .ow (.lst (((List.range t).map (pairV n zs)).map pairD ++ [pairD (pairV n zs t)])), .fz (.int t), .fz (.int (mixV n t)), .fz (.int (expV (mixV n t)))]) B (by nest_cls) rfl ?_ hls ?_ ?_ ?_ ?_ ?_ ?_
      · show EE X _ _ (.tup [.str (zs.getD (mixV n t % 5).toNat ""), .int (expV (mixV n t))])
        ktu_off1L
        · exact hat
        ktu_off1L
      · ktu_off1L
      · rfl
      · ktu_off1L
      · ktu_off1L
      · ktu_offL
      · refine ⟨.fz (.int t), .fz (.int (mixV n t)), .fz (.int (expV (mixV n t))), ?_⟩
        rw [List.range_succ, List.map_append, List.map_append]
        rfl
  · rintro as' ⟨s3, s4, s5, rfl⟩
    show SS X Gs G _ [.fz (.int n), .fz (.lst (zs.map D.str)), .ow (.lst ((pairsV n zs).map pairD)), s3, s4, s5] _
    k_places
    rfl
/-! ### shown, right -/
def wordL (p : UP) : Str := p.1 ++ (if p.2 = 1 then ("" : Str) else (("^" : Str) ++ ((toString p.2 : String) : Str)))
theorem wordL_eq (p : UP) : wordL p = wordU p := by
  unfold wordL wordU
  split
  · exact str_eq (by rw [cat_list, show ("" : Str).cps.toList = [] by decide +kernel, List.append_nil])
  · rw [empty_cat]
    exact str_eq (by rw [cat_list, cat_list, cat_list, cat_list, List.append_assoc])
theorem b_law_shown (B : Body X N__law_shown L__law_shown G__law_shown 1 (defScope s__law_shown)) (m1 : X.mg "str" = none) (m2 : X.mg "int" = none) (h : S_shown_unit ds r) :
    SS X Gs G (defBody s__law_shown) (startA N__law_shown ds) (finOf r) := by
  obtain ⟨u, rfl, hu, hl, rfl⟩ := h
  have hlen : (u.map pairD).length < sizeLine := by rw [List.length_map, sizeLine_eq]; omega
  have e1 : ((" " : Str)).length = 1 := by decide +kernel
  have e2 : (("^" : Str)).length = 1 := by decide +kernel
  have hw : ∀ p ∈ u, (wordU p).length ≤ 2000 := fun p hp => by
    obtain ⟨h8, hb⟩ := hu p hp
    have hs := PyProof.Rows.int_text_len_1921 (log2_small hb)
    have e0 : (Str.empty : Str).length = 0 := rfl
    unfold wordU
    split
    · omega
    · rw [Str.length_append, Str.length_append, Str.length_append]; omega
  have hsum : ∀ l : List UP, (∀ p ∈ l, (wordU p).length ≤ 2000) → ((l.map wordU).map (·.length)).sum ≤ l.length * 2000 := by
    intro l
    induction l with
    | nil => intro _; exact Nat.le_refl _
    | cons p l ih =>
      intro h
      have a := ih fun q hq => h q (List.mem_cons_of_mem _ hq)
      have b := h p List.mem_cons_self
      rw [List.map_cons, List.map_cons, List.sum_cons, List.length_cons, Nat.succ_mul]
      omega
  have hh := hsum u hw
  ktu_offI
  k_subL
  refine s1_ret (d := .str (shownU u)) (e_join (z := " ") (ys := u.map wordU) ?_ (ee_is (EN.ee (en_lc2 (ds := u.map pairD) 1 2 [none, some "_law_name", some "_law_exponent"] ["str", "int"] (fun d => match d with | .tup [.str z, .int e] => .str (wordU (z, e)) | _ => .non) (fun _ => true) B (iw_tup ?_) (by decide +kernel) hlen ?_ ?_)) ?_) ?_ ?_ ?_ ?_ ?_) rfl
  · ktu_off1L
  · exact e_name (as := vis [.fz (unitD u), .un, .un]) (by assumption) (by nest_cls) rfl
  · intro t d hd
    obtain ⟨p, _, rfl⟩ := map_at hd
    exact ⟨_, _, rfl⟩
  · intro s H cl C fp nb gb t x y hd
    obtain ⟨p, hp, ee⟩ := map_at hd
    unfold pairD at ee
    injection ee with ee
    injection ee with ex ee
    injection ee with ey _
    subst ex ey
    obtain ⟨h8, hb⟩ := hu p (List.mem_of_getElem? hp)
    have hi := log2_small hb
    have hs := PyProof.Rows.int_text_len_1921 hi
    have z : ∀ n : Nat, n ≤ 10000 → n ≤ sizeLine := fun n h => Nat.le_trans h (by decide)
    have m1' := mg_in gb m1
    have m2' := mg_in gb m2
    refine ⟨ets_nil, fun _ => ?_⟩
    show EE _ _ _ (.str (wordU (p.1, p.2)))
    rw [← wordL_eq]
    unfold wordL
    refine ee_bin (x := .str p.1) (y := .str (if p.2 = 1 then ("" : Str) else (("^" : Str) ++ ((toString p.2 : String) : Str)))) ?_ (ee_sub (x := .lst [.str (("^" : Str) ++ ((toString p.2 : String) : Str)), .str ""]) (y := .int (if decide (p.2 = 1) = true then 1 else 0)) (EN.ee (en_lst ?_ (len_le (by rfl)))) ?_ (sub_L ?_ (by exact fun _ _ => rfl))) (od_addS ?_)
    · ktu_off1L
    · ktu_off1L
      · exact hi
      ktu_off1L
      · exact z _ (by rw [e2]; omega)
      ktu_off1L
    · ktu_off1L
    · by_cases h1 : p.2 = 1
      · rw [if_pos h1, decide_eq_true h1, if_pos rfl]
        rfl
      · rw [if_neg h1, decide_eq_false h1, if_neg Bool.false_ne_true]
        rfl
    · refine z _ ?_
      split
      · rw [show ("" : Str).length = 0 by decide +kernel]; omega
      · rw [Str.length_append, e2]; omega
  · rw [filter_true, List.map_map, List.map_map]
    rfl
  · rw [e1, List.length_map]; omega
  · ktu_off1L
  · ktu_off1L
  · rfl
  · ktu_off1L
theorem plains_pairs : ∀ {u : List UP}, (∀ p ∈ u, isNameS p.1 = true) → plains (u.map pairD) = true ∧ PyData.depthAll (toPys (u.map pairD)) ≤ 1
  | [], _ => ⟨rfl, Nat.zero_le _⟩
  | p :: u, h => by
    obtain ⟨a, b⟩ := plains_pairs fun q hq => h q (List.mem_cons_of_mem _ hq)
    refine ⟨?_, ?_⟩
    · show ((PyData.strOk p.1 && (true && true)) && plains (u.map pairD)) = true
      rw [isNameS.ok (h p List.mem_cons_self), a]
      rfl
    · show max (max 0 (max 0 0) + 1) (PyData.depthAll (toPys (u.map pairD))) ≤ 1
      omega
theorem pyOk_unit {u : List UP} (h : ∀ p ∈ u, isNameS p.1 = true) : pyOk (unitD u) = true := by
  obtain ⟨a, b⟩ := plains_pairs h
  show (plains (u.map pairD) && decide (PyData.depthAll (toPys (u.map pairD)) + 1 ≤ 64)) = true
  rw [a, decide_eq_true (by omega)]
  rfl
theorem noBs_pairs : ∀ u : List UP, noBs (u.map pairD) = true
  | [] => rfl
  | p :: u => by
    show ((true && (true && true)) && noBs (u.map pairD)) = true
    rw [noBs_pairs u]
    rfl
theorem eqD_unit {u v : List UP} (h : ∀ p ∈ u, isNameS p.1 = true) : eqD (unitD u) (unitD v) = decide (u = v) := by
  by_cases e : u = v
  · subst e
    rw [eqD_refl (pyOk_unit h), decide_eq_true rfl]
  · rw [eqD_ne (x := unitD u) (y := unitD v) (noBs_pairs u) (noBs_pairs v) (fun q => e (unitD_inj q)), decide_eq_false e]
theorem isUnitD_unit {u : List UP} (h : UnitOk u) : isUnitD (unitD u) = true := by
  have e1 : (u.map pairD).map fstD = (u.map (·.1)).map D.str := by
    rw [List.map_map, List.map_map]
    rfl
  have e2 : ((u.map pairD).map fstD).map txtD = u.map (·.1) := by
    rw [e1, List.map_map]
    exact List.map_id _
  have e3 : sortT (u.map (·.1)) = u.map (·.1) := ris_uniq (ris_sortT _) h.ris fun z => mem_sortT
  show ((u.map pairD).all (fun d => isPairD d && nzD d) && eqD _ _) = true
  rw [e2, e1, e3, eqD_strs (fun z hz => by
    obtain ⟨p, hp, rfl⟩ := List.mem_map.mp hz
    exact isNameS.ok (h.nm p hp)), decide_eq_true rfl, Bool.and_true, List.all_map, List.all_eq_true]
  intro p hp
  show (isPairD (pairD p) && !decide (p.2 = 0)) = true
  rw [isPairD_pair (h.nm p hp), decide_eq_false (h.nz p hp)]
  rfl
theorem dOk_unit {u : List UP} (h : ∀ p ∈ u, isNameS p.1 = true) : dOk (unitD u) = true := dOks_pairs h
def S_unit_right : FS := fun ds r => ∃ u : List UP, ds = [unitD u, unitD u] ∧ UnitOk u ∧ u.length < 64 ∧ r = .ok (.bl true)
theorem b_law_unit_right (B : Body X N__law_unit_right L__law_unit_right G__law_unit_right 7 (defScope s__law_unit_right)) (F1 : FnD X 6 "is_unit" [] S_is_unit) (m1 : X.mg "isinstance" = none) (m2 : X.mg "tuple" = none) (m3 : X.mg "all" = none) (m4 : X.mg "bool" = none) (h : S_unit_right ds r) :
    SS X Gs G (defBody s__law_unit_right) (startA N__law_unit_right ds) (finOf r) := by
  obtain ⟨u, rfl, hu, hl, rfl⟩ := h
  have hlen : (u.map pairD).length < sizeLine := by rw [List.length_map, sizeLine_eq]; omega
  have hp := pyOk_unit hu.nm
  ktu_offI
  k_subL
  refine s1_ifF (EW.et (ew_is (k := !isTyT (unitD u) || (!eqD (unitD u) (unitD u) || !decide (isUnitD (unitD u) = true))) ?_ ?_)) ?_
  · ktu_off1L
    · exact hp
    · exact hp
    ktu_off1L
    · exact ⟨_, rfl, dOk_unit hu.nm, fun l hl2 => by injection hl2 with q; rw [← q, List.length_map]; exact hl, rfl⟩
    ktu_off1L
  · rw [eqD_refl hp, isUnitD_unit hu]
    rfl
  · k_subL
    k_subL
    refine s1_ret (d := .bl true) (ee_is (e_all (bs := (u.map pairD).map fun _ => true) (by assumption) B.calm (by nest_cls) (by assumption) (ee_is (EN.ee (en_lc1 (ds := u.map pairD) 2 [none, none, some "_law_pair"] ["isinstance", "tuple", "bool"] (fun _ => .bl true) (fun _ => true) B (iw_tup ?_) (by decide +kernel) hlen ?_)) ?_) ?_) ?_) rfl
    · exact e_name (as := vis [.fz (unitD u), .fz (unitD u), .un]) (by assumption) (by nest_cls) rfl
    · intro s H cl C fp nb gb j d hj
      obtain ⟨p, _, rfl⟩ := map_at hj
      have m1' := mg_in gb m1
      have m2' := mg_in gb m2
      have m4' := mg_in gb m4
      refine ⟨ets_nil, fun _ => ee_is (d := .bl (isTyT (pairD p) && !isTyB (.int p.2))) ?_ rfl⟩
      unfold pairD
      ktu_off1L
    · simp only [filter_true, List.map_map]
      rfl
    · ktu_off1L
    · rw [List.all_map]
      refine congrArg D.bl (List.all_eq_true.mpr fun _ _ => rfl)
end
section
variable {X : Cx} {Gs G : Hp} {ds : List D} {r : Except Exn D} {C M : Addr}
/-- what is asked of a class of errors -/
structure ErrOk (K : PySem.W.Frag) (C M U : Addr) : Prop where
  ec : ExcC K C
  cat : CatE K C M true
  k1 : PySem.W.kitOne K (.ref C) (.ref C) = some true
  k2 : PySem.W.kitOne K (.ref C) (.type "ValueError") = some true
  k3 : PySem.W.kitOne K (.ref C) (.ref U) = some false
/-- a text of no unit; no list of pairs -/
def badTxt (d : D) : Prop := dOk d = true ∧ (∀ z, d = .str z → (wordsOf z).length < 64) ∧ readU d = none
def badPrs (d : D) : Prop := dOk d = true ∧ ∀ l, d = .lst l → l.length < 64 ∧ l.all isPairD = false
def S_refused : FS := fun ds r => ∃ (i : Int) (d : D), ds = [.int i, d] ∧ (i = 0 ∧ badTxt d ∨ i = 1 ∧ badPrs d) ∧ r = .ok (.bl true)
theorem b_law_refused {U : Addr} (B : Body X N__law_refused L__law_refused G__law_refused 9 (defScope s__law_refused)) (F1 : FnD X 8 "read_unit" [] (S_read_unit C)) (F2 : FnD X 6 "unit_of" [] (S_unit_of C)) (m1 : X.mg "isinstance" = none) (m2 : X.mg "ValueError" = none) (hM : X.mg "MeasureError" = some (.ref M)) (hC : X.mg "BadUnit" = some (.ref C)) (hU : X.mg "BadNumber" = some (.ref U)) (EC : ErrOk X.K C M U) (h : S_refused ds r) :
    SS X Gs G (defBody s__law_refused) (startA N__law_refused ds) (finOf r) := by
  obtain ⟨i, d, rfl, hd, rfl⟩ := h
  ktu_offI
  k_subL
  refine t_try (fun xn as' => xn = ⟨C, []⟩ ∧ as' = [.fz (.int i), .fz d, .un]) B (by nest_cls) (nk_beq (by decide +kernel)) (by nest_cls) hM (fun pn xe B' => ?_) ?_
  · have _nm' := B'.nms
    have _gl' := B'.glb
    have F1' : FnD (X.tr pn xe) 8 "read_unit" [] (S_read_unit C) := F1
    have F2' : FnD (X.tr pn xe) 6 "unit_of" [] (S_unit_of C) := F2
    k_subL
    refine s1_if (b := decide (i = 0)) (by ktu_off1L) (fun hh => ?_) fun hh => ?_
    · have h0 : i = 0 := by simpa using hh
      rcases hd with ⟨_, b1, b2, b3⟩ | ⟨h1, _⟩
      · k_subL
        apply s1_exprX
        · l_intsW; ktu_off1L
          refine ⟨_, rfl, b1, b2, ?_⟩
          rw [b3]
          ktu_off1L
        · ktu_off1L
        · exact ⟨rfl, rfl⟩
      · omega
    · have h0 : ¬ i = 0 := by simpa using hh
      rcases hd with ⟨h1, _⟩ | ⟨_, b1, b2⟩
      · exact absurd h1 h0
      · k_subL
        apply s1_exprX
        · l_intsW; ktu_off1L
          exact .inr ⟨_, rfl, b1, b2, rfl⟩
          ktu_off1L
        · ktu_off1L
        · exact ⟨rfl, rfl⟩
  · rintro xn as' ⟨rfl, rfl⟩
    refine ⟨true, EC.cat, (fun z => nomatch z), fun _ a oe dd pn hz hf h0 _ => ?_⟩
    obtain rfl := h0 rfl
    have _nm' : Nms (X.suite a ((a, oe) :: pn)) L__law_refused := Nms.suite (by assumption)
    have _gl' : Gls (X.suite a ((a, oe) :: pn)) G__law_refused := Gls.suite (by assumption)
    have m1' : (X.suite a ((a, oe) :: pn)).mg "isinstance" = none := m1
    have m2' : (X.suite a ((a, oe) :: pn)).mg "ValueError" = none := m2
    have hC' : (X.suite a ((a, oe) :: pn)).mg "BadUnit" = some (.ref C) := hC
    have hU' : (X.suite a ((a, oe) :: pn)).mg "BadNumber" = some (.ref U) := hU
    show SS _ Gs G _ [.fz (.int i), .fz d, .fz (.cls a)] _
    k_subL
    refine s1_ret (d := .bl (true && (true && !false))) ?_ rfl
    ktu_off1L
    · exact ca_isE EC.ec hz hf EC.k1
    ktu_off1L
    · refine e_ty (by assumption) (by nest_cls) (by assumption) boot_ValueError
    · exact ca_isET EC.ec hz hf EC.k2
    ktu_off1L
    · exact ca_isE EC.ec hz hf EC.k3
    ktu_off1L
/-! ### read back -/
abbrev wrongL : List D := ([.str "m^1", .str "m^0", .str "m^", .str "m^+2", .str "m^10", .str "m^-", .str "m^--2", .str "M", .str "unit", .str "for^2", .str "m2", .str "m/s", .str "abcdefghi"] ++ [.str "m^2 m", .str "m ", .str " m"]) ++ [.str "m  s", .str "m^01", .str "^2", .str "m^2^3", .str "m\ts", .non, .int 5, .lst [.str "m"], .str "m^-0", .str "m s^2 s"]
theorem wrong_ok : ∀ d ∈ wrongL, badTxt d := by
  have key : ∀ z : Str, (decide (z.length ≤ 5000) && decide ((wordsOf z).length < 64) && (readU (.str z)).isNone) = true → badTxt (.str z) := fun z h => by
    simp only [Bool.and_eq_true, decide_eq_true_eq] at h
    exact ⟨decide_eq_true h.1.1, fun y e => by injection e with e; rw [← e]; exact h.1.2, Option.isNone_iff_eq_none.mp h.2⟩
  intro d hd
  simp only [wrongL, List.cons_append, List.nil_append, List.mem_cons, List.not_mem_nil, or_false] at hd
  rcases hd with rfl | rfl | rfl | rfl | rfl | rfl | rfl | rfl | rfl | rfl | rfl | rfl | rfl | rfl | rfl | rfl | rfl | rfl | rfl | rfl | rfl | rfl | rfl | rfl | rfl | rfl <;> first | exact key _ (by decide +kernel) | exact ⟨rfl, (fun z e => nomatch e), rfl⟩
theorem shown_split {u : List UP} (h : ∀ p ∈ u, isNameS p.1 = true ∧ smallE p.2) (h0 : u ≠ []) : Txt.split (shownU u) " " = u.map wordU := by
  unfold shownU
  rw [blank_eq]
  refine split_join (fun q => h0 (List.map_eq_nil_iff.mp q)) fun w hw => ?_
  obtain ⟨q, hq, rfl⟩ := List.mem_map.mp hw
  intro hc
  have := (wordU_signs (h q hq).1 (h q hq).2).1 32 hc
  omega
theorem cutD_hi {l : List D} (a : Nat) : cutD l none (some (a : Int)) = l.take a := by
  unfold cutD
  rw [HT.sIx_none, HT.sIx_nat, List.drop_zero, Nat.sub_zero, List.take_eq_take_iff]
  omega
theorem cutD_lo {l : List D} (a : Nat) : cutD l (some (a : Int)) none = l.drop a := by
  unfold cutD
  rw [HT.sIx_none, HT.sIx_nat]
  by_cases h : a ≤ l.length
  · rw [show min a l.length = a by omega, List.take_of_length_le]
    rw [List.length_drop]
    exact Nat.le_refl _
  · rw [List.drop_eq_nil_of_le (show l.length ≤ min a l.length by omega), List.drop_eq_nil_of_le (show l.length ≤ a by omega)]
    rw [List.take_nil]
def S_read_right : FS := fun ds r => ∃ (u : List UP) (n : Int), ds = [unitD u, .int n] ∧ UnitOk u ∧ u.length < 64 ∧ (∀ p ∈ u, Sm 999 p.2) ∧ r = .ok (.bl true)
theorem b_law_read_right (B : Body X N__law_read_right L__law_read_right G__law_read_right 11 (defScope s__law_read_right)) (F1 : FnD X 2 "_law_shown" [] S_shown_unit) (F2 : FnD X 8 "read_unit" [] (S_read_unit C)) (F3 : FnD X 10 "_law_refused" [] S_refused) (m1 : X.mg "abs" = none) (m2 : X.mg "max" = none) (m3 : X.mg "len" = none) (h : S_read_right ds r) :
    SS X Gs G (defBody s__law_read_right) (startA N__law_read_right ds) (finOf r) := by
  obtain ⟨u, n, rfl, hu, hl, hs, rfl⟩ := h
  have hlen : (u.map pairD).length < sizeLine := by rw [List.length_map, sizeLine_eq]; omega
  have hp := pyOk_unit hu.nm
  have e8 : ∀ p ∈ u, p.1.length ≤ 8 ∧ p.2.natAbs < 2 ^ 1000 := fun p hq => ⟨(isNameS.len (hu.nm p hq)).2, (hs p hq).mono (by decide)⟩
  ktu_offI
  k_subL
  have pf : ∀ v : List UP, (∀ p ∈ v, p ∈ u) → pyOk (.lst (v.map pairD)) = true := fun v hv => by
    obtain ⟨a, b⟩ := plains_pairs fun p hq => hu.nm p (hv p hq)
    show (plains (v.map pairD) && decide (PyData.depthAll (toPys (v.map pairD)) + 1 ≤ 64)) = true
    rw [a, decide_eq_true (by omega)]
    rfl
  have el : (u.map pairD).filter (fun d => match d with | .tup [_, .int e] => decide (9 < (if e < 0 then -e else e)) | _ => false) = (u.filter fun p => decide (9 < p.2.natAbs)).map pairD := by
    rw [List.filter_map]
    congr 1
    refine List.filter_congr fun p _ => ?_
    show decide (9 < (if p.2 < 0 then -p.2 else p.2)) = decide (9 < p.2.natAbs)
    rw [abs_if]
    exact dec_iff (by omega)
  refine s1_if (b := !decide ((u.filter fun p => decide (9 < p.2.natAbs)) = [])) (et_is (k := !eqD (.lst ((u.filter fun p => decide (9 < p.2.natAbs)).map pairD)) (.lst [])) (et_cmp (ee_is (EN.ee (en_lc1 (ds := u.map pairD) 5 [none, none, none, none, none, some "_law_pair"] ["abs"] id (fun d => match d with | .tup [_, .int e] => decide (9 < (if e < 0 then -e else e)) | _ => false) B (iw_tup ?_) (by decide +kernel) hlen ?_)) ?_) ?_ (oc_neD B.room (pf _ fun p hq => (List.mem_filter.mp hq).1) rfl) ?_) ?_) (fun hb => ?_) fun hb => ?_
  · exact e_name (as := vis [.fz (unitD u), .fz (.int n), .un, .un, .un, .un]) (by assumption) (by nest_cls) rfl
  · intro s H cl C fp nb gb j d hj
    obtain ⟨p, _, rfl⟩ := map_at hj
    have m1' := mg_in gb m1
    refine ⟨ets_one (et_is (k := decide (9 < (if p.2 < 0 then -p.2 else p.2))) ?_ rfl), fun _ => ?_⟩
    · unfold pairD
      ktu_off1L
    · show EE _ _ _ (pairD p)
      ktu_off1L
  · rw [List.map_id, el]
  · ktu_off1L
  · ktu_off1L
  · congr 1
    have := eqD_unit (u := u.filter fun p => decide (9 < p.2.natAbs)) (v := []) fun p hq => hu.nm p (List.mem_filter.mp hq).1
    exact this
  · k_places
    rfl
  · have hsm : ∀ p ∈ u, isNameS p.1 = true ∧ smallE p.2 := fun p hq => by
      have h0 : (u.filter fun p => decide (9 < p.2.natAbs)) = [] := by simpa using hb
      have := List.filter_eq_nil_iff.mp h0 p hq
      exact ⟨hu.nm p hq, by simpa using this, hu.nz p hq⟩
    have hst : isTextS (shownU u) = true ∧ (shownU u).length ≤ 4000 := shown_text hsm hl
    k_subL
    k_subL
    refine t_set (d := .lst ((u.map wordU).map D.str)) (as1 := [.fz (unitD u), .fz (.int n), .fz (.lst ((u.map wordU).map D.str)), .un, .un, .un]) B (by nest_cls) (ee_is (ee_if (k := !decide (u = [])) (d1 := .lst ((Txt.split (shownU u) " ").map D.str)) (d2 := .lst []) ?_ (fun _ => EN.ee (en_split ?_ ?_ (by decide +kernel) (split_ok (by omega)) ?_ ?_ ?_ ?_)) fun _ => ?_) ?_) ?_ (by ktu_offL) ?_
    · refine et_is (k := !eqD (unitD u) (unitD [])) ?_ (by rw [eqD_unit hu.nm])
      show ET X _ _ (!eqD (unitD u) (.tup []))
      ktu_off1L
      · exact hp
      · rfl
      ktu_off1L
    · ktu_off1L
      · exact ⟨u, rfl, e8, hl, rfl⟩
      ktu_off1L
    · ktu_off1L
    · ktu_off1L
    · ktu_off1L
    · rfl
    · ktu_off1L
    · ktu_off1L
    · by_cases e : u = []
      · subst e
        rfl
      · rw [decide_eq_false e, shown_split hsm e]
        rfl
    · ktu_off1L
    k_subL
    obtain ⟨m, hm, hm1⟩ : ∃ m : Nat, (if ((u.map wordU).map D.str).length > (1 : Int) then ((((u.map wordU).map D.str).length : Nat) : Int) else 1) = m ∧ 1 ≤ m := by
      refine ⟨max 1 u.length, ?_, by omega⟩
      rw [List.length_map, List.length_map]
      split <;> omega
    have n0 := Int.emod_nonneg n (show (m : Int) ≠ 0 by omega)
    have n1 := Int.emod_lt_of_pos n (show (0 : Int) < m by omega)
    obtain ⟨a, ha⟩ : ∃ a : Nat, n % (m : Int) = a := ⟨(n % (m : Int)).toNat, by omega⟩
    refine t_set (d := .int a) (as1 := [.fz (unitD u), .fz (.int n), .fz (.lst ((u.map wordU).map D.str)), .fz (.int a), .un, .un]) B (by nest_cls) (ee_is (ee_bin (x := .int n) (y := .int m) ?_ (ee_is (e_max2 (a := 1) (b := ((((u.map wordU).map D.str).length : Nat) : Int)) (by assumption) B.calm (by nest_cls) (by assumption) ?_ ?_ ?_ ?_ ?_) (by rw [← hm])) (od_mod (by omega))) (by rw [ha])) ?_ (by ktu_offL) ?_
    · ktu_off1L
    · ktu_off1L
    · ktu_off1L
    · ktu_off1L
    · ktu_off1L
    · ktu_off1L
    · ktu_off1L
    k_subL
    have rot : (u.drop a ++ u.take a).Perm u := by
      have := List.perm_append_comm (l₁ := u.drop a) (l₂ := u.take a)
      rwa [List.take_append_drop] at this
    have hsr : ∀ p ∈ u.drop a ++ u.take a, isNameS p.1 = true ∧ smallE p.2 := fun p hq => hsm p (rot.mem_iff.mp hq)
    have hstr := shown_text hsr (by rw [rot.length_eq]; exact hl)
    have r1 := read_shown hu (List.Perm.refl u) (fun p hq => (hsm p hq).2) hl
    have r2 := read_shown hu rot (fun p hq => (hsm p hq).2) hl
    have w1 : (wordsOf (shownU u)).length < 64 := by rw [shown_words hsm, List.length_map]; exact hl
    have w2 : (wordsOf (shownU (u.drop a ++ u.take a))).length < 64 := by rw [shown_words hsr, List.length_map, rot.length_eq]; exact hl
    have z : ∀ n : Nat, n ≤ 10000 → n ≤ sizeLine := fun n h => Nat.le_trans h (by decide)
    have ecat : cutD ((u.map wordU).map D.str) (some (a : Int)) none ++ cutD ((u.map wordU).map D.str) none (some (a : Int)) = ((u.drop a ++ u.take a).map wordU).map D.str := by
      rw [cutD_lo, cutD_hi, ← List.map_drop, ← List.map_drop, ← List.map_take, ← List.map_take, ← List.map_append, ← List.map_append]
    have hcl : (cutD ((u.map wordU).map D.str) (some (a : Int)) none).length + (cutD ((u.map wordU).map D.str) none (some (a : Int))).length ≤ sizeLine := by
      rw [← List.length_append, ecat, List.length_map, List.length_map, rot.length_eq]
      exact z _ (by omega)
    have hsum : ∀ l : List UP, (∀ p ∈ l, isNameS p.1 = true ∧ smallE p.2) → ((l.map wordU).map (·.length)).sum ≤ l.length * 11 := by
      intro l
      induction l with
      | nil => intro _; exact Nat.le_refl _
      | cons p l ih =>
        intro h
        have a := ih fun q hq => h q (List.mem_cons_of_mem _ hq)
        have b := (wordU_signs (h p List.mem_cons_self).1 (h p List.mem_cons_self).2).2.1
        rw [List.map_cons, List.map_cons, List.sum_cons, List.length_cons, Nat.succ_mul]
        omega
    have hh := hsum _ hsr
    rw [rot.length_eq] at hh
    refine s1_ifF (EW.et (ew_is (k := !eqD (unitD u) (unitD u) || !eqD (unitD u) (unitD u)) (ew_or (et_cmp (e_call (ds := [.str (shownU u)]) (by assumption) F2 (by nest_cls) (by (with_reducible first | assumption | exact Mw.Body.room (by assumption) | exact L2.Room.mono (Mw.Body.room (by assumption)) (by with_unfolding_all decide))) (ea_cons ?_ ea_nil ?_) ?_ ?_ ?_) ?_ (oc_neD B.room hp hp) ?_) fun _ => ew_or1 (et_cmp (e_call (ds := [.str (shownU (u.drop a ++ u.take a))]) (by assumption) F2 (by nest_cls) (by (with_reducible first | assumption | exact Mw.Body.room (by assumption) | exact L2.Room.mono (Mw.Body.room (by assumption)) (by with_unfolding_all decide))) (ea_cons (ee_is (e_join (z := " ") (ys := (u.drop a ++ u.take a).map wordU) ?_ (ee_is (ee_bin (EN.ee (en_slL ?_ (eo_some ?_) eo_none)) (EN.ee (en_slL ?_ eo_none (eo_some ?_))) (od_catL hcl)) (by rw [ecat])) ?_ ?_ ?_ ?_ ?_) rfl) ea_nil ?_) ?_ ?_ ?_) ?_ (oc_neD B.room hp hp) ?_)) (by rw [eqD_refl hp]; rfl))) ?_
    · ktu_off1L
      · exact ⟨u, rfl, e8, hl, rfl⟩
      ktu_off1L
    · ktu_off1L
    · exact ⟨_, rfl, decide_eq_true (by omega), fun y e => by injection e with e; rw [← e]; exact w1, by rw [r1]⟩
    · ktu_off1L
    · ktu_off1L
    · ktu_off1L
    · ktu_off1L
    · ktu_off1L
    · ktu_off1L
    · ktu_off1L
    · ktu_off1L
    · ktu_off1L
    · rw [show ((" " : Str)).length = 1 by decide +kernel, List.length_map, rot.length_eq]; omega
    · ktu_off1L
    · ktu_off1L
    · rfl
    · ktu_off1L
    · ktu_off1L
    · exact ⟨_, rfl, decide_eq_true (by omega), fun y e => by injection e with e; rw [← e]; exact w2, by rw [r2]⟩
    · ktu_off1L
    · ktu_off1L
    · ktu_off1L
    · ktu_off1L
    · obtain ⟨d, hd, hm⟩ := pick_in (l := wrongL) (i := n / 7 % 26) (Int.emod_nonneg _ (by decide)) (show n / 7 % 26 < 26 from Int.emod_lt_of_pos _ (by decide))
      have hbad := wrong_ok d hm
      k_places
      · exact hd
      k_places
      · exact ⟨0, d, rfl, .inl ⟨rfl, hbad⟩, rfl⟩
      k_places
      rfl
end
section
variable {X : Cx} {Gs G : Hp} {ds : List D} {r : Except Exn D} {C M : Addr}
def oddU (u : List UP) (x : D) : D := .tup (u.map pairD ++ [.tup [.str "zzzzzzzz", x]])
def someL (u : List UP) : List D := ((([.non, .int 5, .str "m", .lst (u.map pairD)] ++ [.int 0, .bl true, .str "1"].map (oddU u)) ++ [.tup [.tup [.str "b", .int 1], .tup [.str "a", .int 1]], .tup [.tup [.str "a", .int 1], .tup [.str "a", .int 2]], .tup [.tup [.str "unit", .int 1]], .tup [.tup [.str "A", .int 1]]]) ++ [.tup [.lst [.str "a", .int 1]], .tup [.tup [.str "a"]], .tup [.str "a"]])
theorem oddU_ok {u : List UP} (h : ∀ p ∈ u, isNameS p.1 = true) (hl : u.length < 60) {x : D} (hx : dOk x = true) (hb : (isPairD (.tup [.str "zzzzzzzz", x]) && nzD (.tup [.str "zzzzzzzz", x])) = false) : dOk (oddU u x) = true ∧ (∀ l, oddU u x = .tup l → l.length < 64) ∧ isUnitD (oddU u x) = false := by
  refine ⟨?_, fun l hl2 => ?_, ?_⟩
  · show dOks (u.map pairD ++ [D.tup [.str "zzzzzzzz", x]]) = true
    refine dOks.of fun d hd => ?_
    rcases List.mem_append.mp hd with q | q
    · exact dOks.mem (dOks_pairs h) d q
    · rw [List.mem_singleton.mp q]
      show (decide (("zzzzzzzz" : Str).length ≤ 5000) && (dOk x && true)) = true
      rw [hx]
      decide +kernel
  · unfold oddU at hl2
    injection hl2 with q
    rw [← q, List.length_append, List.length_map, List.length_singleton]
    omega
  · show ((u.map pairD ++ [D.tup [.str "zzzzzzzz", x]]).all (fun d => isPairD d && nzD d) && _) = false
    rw [List.all_append, List.all_cons, hb, Bool.false_and, Bool.and_false, Bool.false_and]
theorem someL_ok {u : List UP} (h : ∀ p ∈ u, isNameS p.1 = true) (hl : u.length < 60) : ∀ d ∈ someL u, dOk d = true ∧ (∀ l, d = .tup l → l.length < 64) ∧ isUnitD d = false := by
  have key : ∀ l : List D, (dOk (.tup l) && decide (l.length < 64) && !isUnitD (.tup l)) = true → dOk (.tup l) = true ∧ (∀ m, D.tup l = .tup m → m.length < 64) ∧ isUnitD (.tup l) = false := fun l q => by
    simp only [Bool.and_eq_true, decide_eq_true_eq, Bool.not_eq_true'] at q
    exact ⟨q.1.1, fun m e => by injection e with e; rw [← e]; exact q.1.2, q.2⟩
  intro d hd
  simp only [someL, List.map_cons, List.map_nil, List.cons_append, List.nil_append, List.mem_cons, List.not_mem_nil, or_false] at hd
  rcases hd with rfl | rfl | rfl | rfl | rfl | rfl | rfl | rfl | rfl | rfl | rfl | rfl | rfl | rfl
  · exact ⟨rfl, (fun z e => nomatch e), rfl⟩
  · exact ⟨rfl, (fun z e => nomatch e), rfl⟩
  · exact ⟨by decide +kernel, (fun z e => nomatch e), rfl⟩
  · exact ⟨dOks_pairs h, (fun z e => nomatch e), rfl⟩
  · exact oddU_ok h hl rfl (by decide +kernel)
  · exact oddU_ok h hl rfl (by decide +kernel)
  · exact oddU_ok h hl (by decide +kernel) (by decide +kernel)
  all_goals exact key _ (by decide +kernel)
def S_no_unit : FS := fun ds r => ∃ (n : Int) (u : List UP) (x : D), ds = [.int n, unitD u, x] ∧ (∀ p ∈ u, isNameS p.1 = true) ∧ u.length < 60 ∧ r = .ok (.bl true)
theorem b_law_no_unit (B : Body X N__law_no_unit L__law_no_unit G__law_no_unit 7 (defScope s__law_no_unit)) (F1 : FnD X 6 "is_unit" [] S_is_unit) (m1 : X.mg "list" = none) (h : S_no_unit ds r) :
    SS X Gs G (defBody s__law_no_unit) (startA N__law_no_unit ds) (finOf r) := by
  obtain ⟨n, u, x, rfl, hu, hl, rfl⟩ := h
  have z : ∀ n : Nat, n ≤ 10000 → n ≤ sizeLine := fun n h => Nat.le_trans h (by decide)
  obtain ⟨d, hd, hm⟩ := pick_in (l := someL u) (i := n % 14) (Int.emod_nonneg _ (by decide)) (show n % 14 < 14 from Int.emod_lt_of_pos _ (by decide))
  obtain ⟨o1, o2, o3⟩ := someL_ok hu hl d hm
  ktu_offI
  k_subL
  refine t_set (d := .lst [.non, .int 5, .str "m", .lst (u.map pairD)]) (as1 := [.fz (.int n), .fz (unitD u), .fz x, .fz (.lst [.non, .int 5, .str "m", .lst (u.map pairD)]), .un]) B (by nest_cls) (EN.ee (en_lst (ea_cons ?_ (ea_cons ?_ (ea_cons ?_ (ea_cons (EN.ee (n_listT (by assumption) (by nest_cls) (by assumption) (e_name (as := hid [.fz (.int n), .fz (unitD u), .fz x, .un, .un]) (by assumption) (by nest_cls) rfl) ?_)) ea_nil ?_) ?_) ?_) ?_) ?_)) ?_ (by ktu_offL) ?_
  · ktu_off1L
  · ktu_off1L
  · ktu_off1L
  · ktu_off1L
  · ktu_off1L
  · ktu_off1L
  · ktu_off1L
  · ktu_off1L
  · ktu_off1L
  · ktu_off1L
  k_subL
  refine t_set (d := .lst ([.non, .int 5, .str "m", .lst (u.map pairD)] ++ [.int 0, .bl true, .str "1"].map (oddU u))) (as1 := [.fz (.int n), .fz (unitD u), .fz x, .fz (.lst ([.non, .int 5, .str "m", .lst (u.map pairD)] ++ [.int 0, .bl true, .str "1"].map (oddU u))), .un]) B (by nest_cls) (ee_bin (x := .lst [.non, .int 5, .str "m", .lst (u.map pairD)]) (y := .lst ([.int 0, .bl true, .str "1"].map (oddU u))) ?_ (ee_is (EN.ee (en_lc1 (ds := [.int 0, .bl true, .str "1"]) 4 [none, some "_law_unit", none, none, some "_law_odd"] [] (oddU u) (fun _ => true) B (iw_list ?_) (by decide +kernel) (by decide) ?_)) (by rw [filter_true])) (od_catL (len_le (by rfl)))) ?_ (by ktu_offL) ?_
  · ktu_off1L
  · ktu_off1L
  · intro s H cl C fp nb gb j d hj
    refine ⟨ets_nil, fun _ => ?_⟩
    show EE _ _ _ (.tup (u.map pairD ++ [.tup [.str "zzzzzzzz", d]]))
    refine ee_bin (x := .tup (u.map pairD)) (y := .tup [.tup [.str "zzzzzzzz", d]]) ?_ ?_ (od_catT (z _ (by rw [List.length_map, List.length_singleton]; omega)))
    · exact e_nameB (by assumption) (by repeat (first | exact AtB.here | apply AtB.there)) rfl
    · ktu_off1L
  · ktu_off1L
  k_subL
  refine t_set (d := .lst (([.non, .int 5, .str "m", .lst (u.map pairD)] ++ [.int 0, .bl true, .str "1"].map (oddU u)) ++ [.tup [.tup [.str "b", .int 1], .tup [.str "a", .int 1]], .tup [.tup [.str "a", .int 1], .tup [.str "a", .int 2]], .tup [.tup [.str "unit", .int 1]], .tup [.tup [.str "A", .int 1]]])) (as1 := [.fz (.int n), .fz (unitD u), .fz x, .fz (.lst (([.non, .int 5, .str "m", .lst (u.map pairD)] ++ [.int 0, .bl true, .str "1"].map (oddU u)) ++ [.tup [.tup [.str "b", .int 1], .tup [.str "a", .int 1]], .tup [.tup [.str "a", .int 1], .tup [.str "a", .int 2]], .tup [.tup [.str "unit", .int 1]], .tup [.tup [.str "A", .int 1]]])), .un]) B (by nest_cls) (ee_bin ?_ ?_ (od_catL (len_le (by rfl)))) ?_ (by ktu_offL) ?_
  · ktu_off1L
  · ktu_off1L
  · ktu_off1L
  k_subL
  refine t_set (d := .lst (someL u)) (as1 := [.fz (.int n), .fz (unitD u), .fz x, .fz (.lst (someL u)), .un]) B (by nest_cls) (ee_bin ?_ ?_ (od_catL (len_le (by rfl)))) ?_ (by ktu_offL) ?_
  · ktu_off1L
  · ktu_off1L
  · ktu_off1L
  k_subL
  refine s1_ret (d := .bl (decide (isUnitD d = false))) ?_ (by rw [o3] <;> rfl)
  ktu_off1L
  · exact hd
  ktu_off1L
  · exact ⟨d, rfl, o1, o2, rfl⟩
  ktu_off1L
end
section
variable {X : Cx} {Gs G : Hp} {ds : List D} {r : Except Exn D} {C M : Addr}
theorem mulS_list (c n : Nat) : (mulS ⟨#[c]⟩ (n : Int)).cps.toList = List.replicate n c := by
  unfold mulS
  rw [Int.toNat_natCast]
  have : ∀ (n : Nat) (a : Array Nat), ((List.replicate n #[c]).foldl (· ++ ·) a).toList = a.toList ++ List.replicate n c := by
    intro n
    induction n with
    | zero => intro a; simp
    | succ n ih =>
      intro a
      rw [List.replicate_succ, List.foldl_cons, ih, Array.toList_append, List.replicate_succ, List.append_assoc]
      rfl
  rw [this n #[]]
  rfl
theorem x_eq : ("x" : Str) = ⟨#[120]⟩ := str_eq (by decide +kernel)
theorem mulX (i : Int) (n : Nat) (h : i = n) : (mulS "x" i).length = n ∧ ∀ c ∈ (mulS "x" i).cps.toList, c = 120 := by
  subst h
  rw [x_eq]
  refine ⟨by rw [str_len, mulS_list, List.length_replicate], fun c hc => ?_⟩
  rw [mulS_list] at hc
  exact (List.mem_replicate.mp hc).2
abbrev textsP (a b : Str) : List D := [.str "", .str "a b~", .str "a\nb", .str a, .str b, .str "a\tb", .non, .int 5, .lst [.str "a"], .tup [.str "a"]]
theorem texts_ok {a b : Str} (ha : a.length = 4000 ∧ ∀ c ∈ a.cps.toList, c = 120) (hb : b.length = 4001) {i : Int} (h0 : 0 ≤ i) (h1 : i < 10) : ∃ d, atI (textsP a b) i = some d ∧ dOk d = true ∧ isTextD d = decide (i < 4) := by
  have hi : i = 0 ∨ i = 1 ∨ i = 2 ∨ i = 3 ∨ i = 4 ∨ i = 5 ∨ i = 6 ∨ i = 7 ∨ i = 8 ∨ i = 9 := by omega
  rcases hi with rfl | rfl | rfl | rfl | rfl | rfl | rfl | rfl | rfl | rfl
  · exact ⟨_, rfl, by decide +kernel, by decide +kernel⟩
  · exact ⟨_, rfl, by decide +kernel, by decide +kernel⟩
  · exact ⟨_, rfl, by decide +kernel, by decide +kernel⟩
  · refine ⟨_, rfl, decide_eq_true (by omega), ?_⟩
    show isTextS a = true
    unfold isTextS
    rw [ha.1, decide_eq_true (Nat.le_refl _), Bool.true_and, List.all_eq_true]
    intro c hc
    rw [ha.2 c hc]
    exact decide_eq_true (sign_in (by decide) (by decide))
  · refine ⟨_, rfl, decide_eq_true (by omega), ?_⟩
    show isTextS b = false
    unfold isTextS
    rw [decide_eq_false (by omega)]
    rfl
  · exact ⟨_, rfl, by decide +kernel, by decide +kernel⟩
  · exact ⟨_, rfl, rfl, rfl⟩
  · exact ⟨_, rfl, rfl, rfl⟩
  · exact ⟨_, rfl, by decide +kernel, rfl⟩
  · exact ⟨_, rfl, by decide +kernel, rfl⟩
def thingsL (zs : List Str) : List D := (zs.map D.str ++ [.str "", .str "abcdefghi", .str "abcdefgh", .str "A", .str "a1", .str "unit", .str "do", .str "else", .str " a", .str "a "]) ++ [.non, .int 5, .lst [.str "a"], .bl true, .str "then"]
theorem things_ok {zs : List Str} (h : ∀ z ∈ zs, isNameS z = true) : ∀ d ∈ thingsL zs, dOk d = true ∧ pyOk d = true := by
  intro d hd
  rcases List.mem_append.mp hd with hd | hd
  · rcases List.mem_append.mp hd with hd | hd
    · obtain ⟨z, hz, rfl⟩ := List.mem_map.mp hd
      have := isNameS.len (h z hz)
      refine ⟨decide_eq_true (by omega), ?_⟩
      show (PyData.strOk z && decide _) = true
      rw [isNameS.ok (h z hz)]
      rfl
    · simp only [List.mem_cons, List.not_mem_nil, or_false] at hd
      rcases hd with rfl | rfl | rfl | rfl | rfl | rfl | rfl | rfl | rfl | rfl <;> exact ⟨by decide +kernel, by decide +kernel⟩
  · simp only [List.mem_cons, List.not_mem_nil, or_false] at hd
    rcases hd with rfl | rfl | rfl | rfl | rfl <;> exact ⟨by decide +kernel, by decide +kernel⟩
/-- what the law looks at first -/
def due1 : D → Bool
  | .str z => (decide (1 ≤ z.length) && decide (z.length ≤ 8)) && !decide (z ∈ wordsL)
  | _ => false
theorem due1_str {d : D} (h : due1 d = true) : ∃ z, d = .str z := by cases d <;> first | exact ⟨_, rfl⟩ | cases h
theorem signs_bad (z : Str) : (signsD z).filter (fun d => match d with | .str w => !decide (w.cps.toList.all (fun c => decide (c ∈ lettersS.cps.toList)) = true) | _ => false) = ((z.cps.toList.filter fun c => !decide (c ∈ lettersS.cps.toList)).map fun c => (⟨#[c]⟩ : Str)).map D.str := by
  unfold signsD
  rw [List.filter_map, List.map_map]
  congr 1
  refine List.filter_congr fun c _ => ?_
  show (!decide (([c].all fun c => decide (c ∈ lettersS.cps.toList)) = true)) = _
  simp
def S_signs : FS := fun ds r => ∃ (n : Int) (zs : List Str), ds = [.int n, .lst (zs.map D.str)] ∧ zs.length = 5 ∧ (∀ z ∈ zs, isNameS z = true) ∧ r = .ok (.bl true)
theorem b_law_signs {U : Addr} (B : Body X N__law_signs L__law_signs G__law_signs 5 (defScope s__law_signs)) (F1 : FnD X 2 "is_name" [] S_is_name) (F2 : FnD X 4 "need_name" [] (S_need_name C)) (F3 : FnD X 2 "is_text" [] S_is_text) (m1 : X.mg "isinstance" = none) (m2 : X.mg "str" = none) (m3 : X.mg "len" = none) (m4 : X.mg "bool" = none) (hM : X.mg "MeasureError" = some (.ref M)) (hC : X.mg "BadName" = some (.ref C)) (hU : X.mg "BadUnit" = some (.ref U)) (EC : ErrOk X.K C M U) (h : S_signs ds r) :
    SS X Gs G (defBody s__law_signs) (startA N__law_signs ds) (finOf r) := by
  obtain ⟨n, zs, rfl, h5, hz, rfl⟩ := h
  have z : ∀ n : Nat, n ≤ 10000 → n ≤ sizeLine := fun n h => Nat.le_trans h (by decide)
  have len20 : (thingsL zs).length = 20 := by
    unfold thingsL
    rw [List.length_append, List.length_append, List.length_map, h5]
    rfl
  obtain ⟨d, hd, hm⟩ := pick_in (l := thingsL zs) (i := n % 20) (Int.emod_nonneg _ (by decide)) (by rw [len20]; exact Int.emod_lt_of_pos _ (by decide))
  obtain ⟨o1, o2⟩ := things_ok hz d hm
  have ot := dOk.thing o1
  have x4 := mulX 4000 4000 rfl
  have x5 := mulX 4001 4001 rfl
  obtain ⟨d2, hd2, p1, p2⟩ := texts_ok x4 x5.1 (i := n / 20 % 10) (Int.emod_nonneg _ (by decide)) (Int.emod_lt_of_pos _ (by decide))
  ktu_offI
  k_subL
  refine t_set (d := .lst (zs.map D.str ++ [.str "", .str "abcdefghi", .str "abcdefgh", .str "A", .str "a1", .str "unit", .str "do", .str "else", .str " a", .str "a "])) (as1 := [.fz (.int n), .fz (.lst (zs.map D.str)), .fz (.lst (zs.map D.str ++ [.str "", .str "abcdefghi", .str "abcdefgh", .str "A", .str "a1", .str "unit", .str "do", .str "else", .str " a", .str "a "])), .un, .un, .un, .un, .un, .un, .un, .un]) B (by nest_cls) (ee_bin ?_ ?_ (od_catL (z _ ?_))) ?_ (by ktu_offL) ?_
  · ktu_off1L
  · ktu_off1L
  · rw [List.length_map, h5]; decide
  · ktu_off1L
  k_subL
  refine t_set (d := .lst (thingsL zs)) (as1 := [.fz (.int n), .fz (.lst (zs.map D.str)), .fz (.lst (thingsL zs)), .un, .un, .un, .un, .un, .un, .un, .un]) B (by nest_cls) (ee_bin ?_ ?_ (od_catL (z _ ?_))) ?_ (by ktu_offL) ?_
  · ktu_off1L
  · ktu_off1L
  · rw [List.length_append, List.length_map, h5]; decide
  · ktu_off1L
  k_subL
  refine t_set (d := d) (as1 := [.fz (.int n), .fz (.lst (zs.map D.str)), .fz (.lst (thingsL zs)), .fz d, .un, .un, .un, .un, .un, .un, .un]) B (by nest_cls) ?_ (by ktu_off1L) (by ktu_offL) ?_
  · ktu_off1L
    · exact hd
    ktu_off1L
  k_subL
  refine t_set (d := .lst (wordsL.map D.str)) (as1 := [.fz (.int n), .fz (.lst (zs.map D.str)), .fz (.lst (thingsL zs)), .fz d, .fz (.lst (wordsL.map D.str)), .un, .un, .un, .un, .un, .un]) B (by nest_cls) ?_ (by ktu_off1L) (by ktu_offL) ?_
  · show EE X _ _ (.lst [.str "unit", .str "take", .str "let", .str "fun", .str "show", .str "if", .str "then", .str "else", .str "loop", .str "for", .str "do"])
    ktu_off1L
  k_subL
  refine t_set (d := .bl (due1 d)) (as1 := [.fz (.int n), .fz (.lst (zs.map D.str)), .fz (.lst (thingsL zs)), .fz d, .fz (.lst (wordsL.map D.str)), .fz (.bl (due1 d)), .un, .un, .un, .un, .un]) B (by nest_cls) ?_ (by ktu_off1L) (by ktu_offL) ?_
  · cases hs : isTyS d with
    | false =>
      refine ee_is (ee_andF (ee_is (d := .bl (isTyS d)) ?_ (by rw [hs]))) ?_
      · ktu_off1L
      · cases d <;> first | rfl | cases hs
    | true =>
      obtain ⟨w, rfl⟩ : ∃ w, d = .str w := by cases d <;> first | exact ⟨_, rfl⟩ | cases hs
      have hw : w.length ≤ sizeLine := Nat.le_trans (of_decide_eq_true o1) (by decide)
      refine ee_is (d := .bl (isTyS (.str w) && ((decide ((1 : Int) ≤ (w.length : Nat)) && decide (((w.length : Nat) : Int) ≤ 8)) && !inD (.str w) (wordsL.map D.str)))) ?_ ?_
      · ktu_off1L
        · rfl
        · rfl
        ktu_off1L
      · rw [inD_strs]
        have e1 : decide ((1 : Int) ≤ (w.length : Nat)) = decide (1 ≤ w.length) := dec_iff (by omega)
        have e2 : decide (((w.length : Nat) : Int) ≤ 8) = decide (w.length ≤ 8) := dec_iff (by omega)
        rw [e1, e2]
        rfl
  k_subL
  refine s1_mid (as1 := [.fz (.int n), .fz (.lst (zs.map D.str)), .fz (.lst (thingsL zs)), .fz d, .fz (.lst (wordsL.map D.str)), .fz (.bl (isNameD d)), .un, .un, .un, .un, .un]) ?_ ?_
  · refine s1_if (b := due1 d) (et_val ?_ ?_) (fun hb => ?_) fun hb => ?_
    · ktu_off1L
    · ktu_off1L
    · obtain ⟨w, rfl⟩ := due1_str hb
      have hw : w.length < sizeLine := Nat.lt_of_le_of_lt (of_decide_eq_true o1) (by decide)
      have hso : PyData.strOk w = true := pyOk.plain o2
      have hbad : ∀ y ∈ ((w.cps.toList.filter fun c => !decide (c ∈ lettersS.cps.toList)).map fun c => (⟨#[c]⟩ : Str)), PyData.strOk y = true := fun y hy => by
        obtain ⟨c, hc, rfl⟩ := List.mem_map.mp hy
        have hc2 := (List.mem_filter.mp hc).1
        have hso2 : w.cps.all (fun c => decide (c < 1114112)) = true := hso
        rw [← Array.all_toList] at hso2
        have := List.all_eq_true.mp hso2 c hc2
        show (#[c] : Array Nat).all _ = true
        rw [← Array.all_toList]
        show ([c].all fun c => decide (c < 1114112)) = true
        rw [List.all_cons, this]
        rfl
      k_subL
      refine t_set (d := .bl (isNameD (.str w))) (as1 := [.fz (.int n), .fz (.lst (zs.map D.str)), .fz (.lst (thingsL zs)), .fz (.str w), .fz (.lst (wordsL.map D.str)), .fz (.bl (isNameD (.str w))), .un, .un, .un, .un, .un]) B (by nest_cls) (ee_is (ee_cmp (ee_is (EN.ee (en_lc1 (ds := signsD w) 10 [none, none, none, none, none, none, none, none, none, none, some "_law_sign"] [] id (fun d => match d with | .str w => !decide (w.cps.toList.all (fun c => decide (c ∈ lettersS.cps.toList)) = true) | _ => false) B (iw_str ?_) (by decide +kernel) ?_ ?_)) (by rw [List.map_id, signs_bad])) ?_ (oc_eqD B.room (pyOk_strs hbad) (y := .lst []) rfl) ?_) ?_) ?_ (by ktu_offL) rfl
      · ktu_off1L
      · unfold signsD
        rw [List.length_map, Array.length_toList]
        exact hw
      · intro s H cl C fp nb gb j x hj
        obtain ⟨c, rfl⟩ : ∃ c, x = .str ⟨#[c]⟩ := by
          unfold signsD at hj
          obtain ⟨c, _, e⟩ := map_at hj
          exact ⟨c, e.symm⟩
        refine ⟨ets_one (et_is (k := !decide (c ∈ lettersS.cps.toList)) ?_ ?_), fun _ => ?_⟩
        · ktu_off1L
        · show _ = (!decide (([c].all fun c => decide (c ∈ lettersS.cps.toList)) = true))
          simp
        · show EE _ _ _ (.str ⟨#[c]⟩)
          ktu_off1L
      · ktu_off1L
      · ktu_off1L
      · have e1 := eqD_strs (a := (w.cps.toList.filter fun c => !decide (c ∈ lettersS.cps.toList)).map fun c => (⟨#[c]⟩ : Str)) (b := []) hbad
        refine congrArg D.bl (Eq.trans e1 ?_)
        have hb' : ((decide (1 ≤ w.length) && decide (w.length ≤ 8)) && !decide (w ∈ wordsL)) = true := hb
        show _ = isNameS w
        unfold isNameS
        rw [hb', Bool.true_and]
        rw [Bool.eq_iff_iff, decide_eq_true_eq, List.map_eq_nil_iff, List.filter_eq_nil_iff, List.all_eq_true]
        exact ⟨fun h c hc => by simpa using h c hc, fun h c hc => by simpa using h c hc⟩
      · ktu_off1L
    · have e : isNameD d = due1 d := by
        rw [hb]
        cases d with
        | str w =>
          show isNameS w = false
          unfold isNameS
          rw [show ((decide (1 ≤ w.length) && decide (w.length ≤ 8)) && !decide (w ∈ wordsL)) = false from hb]
          rfl
        | _ => rfl
      rw [e]
      k_subL
      rfl
  k_subL
  refine t_set (d := .bl (isNameD d)) (as1 := [.fz (.int n), .fz (.lst (zs.map D.str)), .fz (.lst (thingsL zs)), .fz d, .fz (.lst (wordsL.map D.str)), .fz (.bl (isNameD d)), .fz (.bl (isNameD d)), .un, .un, .un, .un]) B (by nest_cls) ?_ (by ktu_off1L) (by ktu_offL) ?_
  · ktu_off1L
    · exact ⟨d, rfl, o1, rfl⟩
    ktu_off1L
  k_subL
  have eb : eqD (.bl (isNameD d)) (.bl (isNameD d)) = true := by cases isNameD d <;> rfl
  refine s1_ifF (EW.et (ew_is (k := !isTyB (.bl (isNameD d)) || !eqD (.bl (isNameD d)) (.bl (isNameD d))) ?_ (by rw [eb]; rfl))) ?_
  · ktu_off1L
    · rfl
    · rfl
    ktu_off1L
  k_subL
  k_subL
  refine s1_mid (as1 := [.fz (.int n), .fz (.lst (zs.map D.str)), .fz (.lst (thingsL zs)), .fz d, .fz (.lst (wordsL.map D.str)), .fz (.bl (isNameD d)), .fz (.bl (isNameD d)), .un, .un, .un, .un]) ?_ ?_
  · cases hN : isNameD d with
    | true =>
      refine t_try (fun _ _ => False) B (by nest_cls) (nk_beq (by decide +kernel)) (by nest_cls) hM (fun pn xe B' => ?_) (fun _ _ z => z.elim)
      have _nm' := B'.nms
      have _gl' := B'.glb
      have F2' : FnD (X.tr pn xe) 4 "need_name" [] (S_need_name C) := F2
      k_subL
      refine s1_ifF (EW.et (ew_is (k := !eqD d d || !true) ?_ (by rw [eqD_refl o2]; rfl))) ?_
      · ktu_off1L
        · refine ⟨d, rfl, o1, ?_⟩
          rw [if_pos hN]
        ktu_off1L
        · exact o2
        · exact o2
        ktu_off1L
      · k_subL
        rfl
    | false =>
      refine t_try (fun xn as' => xn = ⟨C, []⟩ ∧ as' = [.fz (.int n), .fz (.lst (zs.map D.str)), .fz (.lst (thingsL zs)), .fz d, .fz (.lst (wordsL.map D.str)), .fz (.bl false), .fz (.bl false), .un, .un, .un, .un]) B (by nest_cls) (nk_beq (by decide +kernel)) (by nest_cls) hM (fun pn xe B' => ?_) ?_
      · have _nm' := B'.nms
        have _gl' := B'.glb
        have F2' : FnD (X.tr pn xe) 4 "need_name" [] (S_need_name C) := F2
        k_subL
        refine s1_ifXT (x := ⟨C, []⟩) (EWX.et (ewx_or (etx_cmp ?_ (oc_neI (i := 0) (j := 0)) ?_))) ⟨rfl, rfl⟩
        · l_intsW; ktu_off1L
          · refine ⟨d, rfl, o1, ?_⟩
            rw [if_neg (by rw [hN]; exact Bool.false_ne_true)]
          ktu_off1L
        · ktu_off1L
      · rintro xn as' ⟨rfl, rfl⟩
        refine ⟨true, EC.cat, (fun z => nomatch z), fun _ a oe dd pn hz hf h0 _ => ?_⟩
        obtain rfl := h0 rfl
        have _nm' : Nms (X.suite a ((a, oe) :: pn)) L__law_signs := Nms.suite (by assumption)
        have _gl' : Gls (X.suite a ((a, oe) :: pn)) G__law_signs := Gls.suite (by assumption)
        have m1' : (X.suite a ((a, oe) :: pn)).mg "isinstance" = none := m1
        have hC' : (X.suite a ((a, oe) :: pn)).mg "BadName" = some (.ref C) := hC
        have hU' : (X.suite a ((a, oe) :: pn)).mg "BadUnit" = some (.ref U) := hU
        show SS _ Gs G _ [.fz (.int n), .fz (.lst (zs.map D.str)), .fz (.lst (thingsL zs)), .fz d, .fz (.lst (wordsL.map D.str)), .fz (.bl false), .fz (.bl false), .fz (.cls a), .un, .un, .un] _
        k_subL
        refine s1_ifF (EW.et (ew_is (k := false || (!true || false)) ?_ rfl)) ?_
        · ktu_off1L
          · exact ca_isE EC.ec hz hf EC.k1
          ktu_off1L
          · exact ca_isE EC.ec hz hf EC.k3
          ktu_off1L
        · k_subL
          rfl
  k_subL
  refine t_set (d := .lst (textsP (mulS "x" 4000) (mulS "x" 4001))) (as1 := [.fz (.int n), .fz (.lst (zs.map D.str)), .fz (.lst (thingsL zs)), .fz d, .fz (.lst (wordsL.map D.str)), .fz (.bl (isNameD d)), .fz (.bl (isNameD d)), .un, .fz (.lst (textsP (mulS "x" 4000) (mulS "x" 4001))), .un, .un]) B (by nest_cls) ?_ (by ktu_off1L) (by ktu_offL) ?_
  · have hx : (("x" : Str)).length = 1 := by decide +kernel
    ktu_off1L
    · decide
    · decide
    · rw [hx]; decide
    · rw [hx]; decide
    · rw [x4.1]; decide
    ktu_off1L
    · decide
    · decide
    · rw [hx]; decide
    · rw [hx]; decide
    · rw [x5.1]; decide
    ktu_off1L
  k_subL
  refine t_set (d := .int (n / 20 % 10)) (as1 := [.fz (.int n), .fz (.lst (zs.map D.str)), .fz (.lst (thingsL zs)), .fz d, .fz (.lst (wordsL.map D.str)), .fz (.bl (isNameD d)), .fz (.bl (isNameD d)), .un, .fz (.lst (textsP (mulS "x" 4000) (mulS "x" 4001))), .fz (.int (n / 20 % 10)), .un]) B (by nest_cls) ?_ (by ktu_off1L) (by ktu_offL) ?_
  · ktu_off1L
  k_subL
  refine t_set (d := .bl (isTextD d2)) (as1 := [.fz (.int n), .fz (.lst (zs.map D.str)), .fz (.lst (thingsL zs)), .fz d, .fz (.lst (wordsL.map D.str)), .fz (.bl (isNameD d)), .fz (.bl (isTextD d2)), .un, .fz (.lst (textsP (mulS "x" 4000) (mulS "x" 4001))), .fz (.int (n / 20 % 10)), .un]) B (by nest_cls) ?_ (by ktu_off1L) (by ktu_offL) ?_
  · ktu_off1L
    · exact hd2
    ktu_off1L
    · exact ⟨d2, rfl, p1, rfl⟩
    ktu_off1L
  k_subL
  refine s1_ret (d := .bl (isTyB (.bl (isTextD d2)) && eqD (.bl (isTextD d2)) (.bl (decide (n / 20 % 10 < 4))))) ?_ ?_
  · ktu_off1L
    · rfl
    · rfl
    ktu_off1L
  · rw [p2]
    change Except.ok (D.bl true) = Except.ok (D.bl (true && eqD (.bl (decide (n / 20 % 10 < 4))) (.bl (decide (n / 20 % 10 < 4)))))
    cases decide (n / 20 % 10 < 4) <;> rfl
end
section
variable {X : Cx} {Gs G : Hp} {ds : List D} {r : Except Exn D} {C M : Addr}
def prs (ns : List Int) (k : Nat) : List UP := pairsV (numV ns (2 + (0 + (k : Nat)))) (namesV (numV ns 1))
theorem prs_ok (ns : List Int) (k : Nat) : (∀ p ∈ prs ns k, isNameS p.1 = true ∧ Sm 100 p.2) ∧ (prs ns k).length ≤ 6 := by
  obtain ⟨h5, hn⟩ := namesV_ok (numV ns 1) (numV_nn ns 1)
  obtain ⟨a, b⟩ := pairsV_ok (n := numV ns (2 + (0 + (k : Nat)))) h5
  exact ⟨fun p hp => ⟨hn _ (a p hp).1, (a p hp).2⟩, b⟩
/-- sums of few small ones -/
theorem sum_sm {n : Nat} : ∀ {l : List Int}, (∀ i ∈ l, Sm n i) → Sm (n + l.length) l.sum
  | [], _ => by show (0 : Int).natAbs < _; exact Nat.pow_pos (by decide)
  | i :: l, h => by
    have a := sum_sm fun j hj => h j (List.mem_cons_of_mem _ hj)
    have b := h i List.mem_cons_self
    rw [List.sum_cons, List.length_cons]
    exact (b.mono (Nat.le_add_right _ _)).add a
theorem unitOf_sm {n : Nat} {ps : List UP} (h : ∀ p ∈ ps, Sm n p.2) : ∀ p ∈ unitOf ps, Sm (n + ps.length) p.2 := by
  intro p hp
  unfold unitOf at hp
  obtain ⟨hp, _⟩ := List.mem_filter.mp hp
  obtain ⟨z, _, rfl⟩ := List.mem_map.mp hp
  show Sm _ (sumAt ps z)
  unfold sumAt
  have := sum_sm (n := n) (l := (ps.filter fun p => decide (p.1 = z)).map (·.2)) fun i hi => by
    obtain ⟨q, hq, rfl⟩ := List.mem_map.mp hi
    exact h q (List.mem_filter.mp hq).1
  refine this.mono ?_
  have := List.length_filter_le (fun p : UP => decide (p.1 = z)) ps
  rw [List.length_map]
  omega
theorem sumAt_unit {ps : List UP} (hn : ∀ p ∈ ps, isNameS p.1 = true) (z : Str) : sumAt (unitOf ps) z = sumAt ps z := by
  have hu := unitOf_ok hn
  by_cases hz : ∃ p ∈ unitOf ps, p.1 = z
  · obtain ⟨p, hp, rfl⟩ := hz
    rw [sumAt_one (ris_nodup hu.ris) p hp]
    unfold unitOf at hp
    obtain ⟨hp, _⟩ := List.mem_filter.mp hp
    obtain ⟨z, _, rfl⟩ := List.mem_map.mp hp
    rfl
  · have e0 : sumAt (unitOf ps) z = 0 := by
      unfold sumAt
      rw [List.filter_eq_nil_iff.mpr fun p hp q => hz ⟨p, hp, of_decide_eq_true q⟩]
      rfl
    rw [e0]
    by_cases hm : z ∈ ps.map (·.1)
    · by_cases hs : sumAt ps z = 0
      · exact hs.symm
      · exfalso
        refine hz ⟨(z, sumAt ps z), ?_, rfl⟩
        unfold unitOf
        exact List.mem_filter.mpr ⟨List.mem_map.mpr ⟨z, mem_sortT.mpr hm, rfl⟩, by simpa using hs⟩
    · unfold sumAt
      rw [List.filter_eq_nil_iff.mpr fun p hp q => hm (List.mem_map.mpr ⟨p, hp, of_decide_eq_true q⟩)]
      rfl
/-- units are told by their sums -/
theorem unitOf_sums {u v : List UP} (h : ∀ z, sumAt u z = sumAt v z) : unitOf u = unitOf v := by
  have key : ∀ {u v : List UP}, (∀ z, sumAt u z = sumAt v z) → ∀ p, p ∈ unitOf u → p ∈ unitOf v := fun {u v} h p hp => by
    unfold unitOf at hp ⊢
    obtain ⟨hp, h0⟩ := List.mem_filter.mp hp
    obtain ⟨z, hz, rfl⟩ := List.mem_map.mp hp
    refine List.mem_filter.mpr ⟨?_, h0⟩
    rw [h z]
    refine List.mem_map.mpr ⟨z, mem_sortT.mpr ?_, rfl⟩
    by_cases hm : z ∈ v.map (·.1)
    · exact hm
    · exfalso
      have e : sumAt v z = 0 := by
        unfold sumAt
        rw [List.filter_eq_nil_iff.mpr fun p hp q => hm (List.mem_map.mpr ⟨p, hp, of_decide_eq_true q⟩)]
        rfl
      have h0' : (!decide (sumAt u z = 0)) = true := h0
      rw [h z, e] at h0'
      cases h0'
  have k1 : (unitOf u).map (·.1) = (unitOf v).map (·.1) := by
    have r : ∀ w : List UP, RisT ((unitOf w).map (·.1)) := fun w => by
      unfold unitOf
      refine List.Pairwise.sublist ((List.filter_sublist).map _) ?_
      rw [List.map_map]
      have : (sortT (w.map (·.1))).map ((fun p : UP => p.1) ∘ fun z => (z, sumAt w z)) = sortT (w.map (·.1)) := List.map_id _
      rw [this]
      exact ris_sortT _
    refine ris_uniq (r u) (r v) fun z => ?_
    constructor
    · intro hz
      obtain ⟨p, hp, rfl⟩ := List.mem_map.mp hz
      exact List.mem_map.mpr ⟨p, key h p hp, rfl⟩
    · intro hz
      obtain ⟨p, hp, rfl⟩ := List.mem_map.mp hz
      exact List.mem_map.mpr ⟨p, key (fun z => (h z).symm) p hp, rfl⟩
  have f : ∀ w : List UP, unitOf w = ((unitOf w).map (·.1)).map fun z => (z, sumAt w z) := fun w => by
    rw [List.map_map]
    conv => lhs; rw [← List.map_id (unitOf w)]
    refine List.map_congr_left fun p hp => ?_
    unfold unitOf at hp
    obtain ⟨hp, _⟩ := List.mem_filter.mp hp
    obtain ⟨z, _, rfl⟩ := List.mem_map.mp hp
    rfl
  rw [f u, f v, k1]
  exact List.map_congr_left fun z _ => by rw [h z]
theorem sumAt_append (u v : List UP) (z : Str) : sumAt (u ++ v) z = sumAt u z + sumAt v z := by
  unfold sumAt
  rw [List.filter_append, List.map_append, List.sum_append]
theorem unitOf_joined {p q : List UP} (hp : ∀ x ∈ p, isNameS x.1 = true) (hq : ∀ x ∈ q, isNameS x.1 = true) : unitOf (unitOf p ++ unitOf q) = unitOf (p ++ q) :=
  unitOf_sums fun z => by rw [sumAt_append, sumAt_append, sumAt_unit hp, sumAt_unit hq]
theorem sumAt_mul (u : List UP) (e : Int) (z : Str) : sumAt (u.map fun p => (p.1, p.2 * e)) z = sumAt u z * e := by
  unfold sumAt
  rw [List.filter_map, List.map_map]
  show (((u.filter fun p => decide (p.1 = z)).map fun p => p.2 * e)).sum = _
  induction u.filter fun p => decide (p.1 = z) with
  | nil => show (0 : Int) = 0 * e; rw [Int.zero_mul]
  | cons p l ih => rw [List.map_cons, List.sum_cons, ih, List.map_cons, List.sum_cons, Int.add_mul]
theorem unitOf_powered {p : List UP} (e : Int) (hp : ∀ x ∈ p, isNameS x.1 = true) : unitOf ((unitOf p).map fun x => (x.1, x.2 * e)) = unitOf (p.map fun x => (x.1, x.2 * e)) :=
  unitOf_sums fun z => by rw [sumAt_mul, sumAt_mul, sumAt_unit hp]
abbrev odd1 (q : List D) : List D := [.non, .tup (q ++ [.tup [.str "a", .int 1]]), .lst [.tup [.str "a", .int 1, .int 2]], .lst [.lst [.str "a", .int 1]], .lst [.tup [.str "A", .int 1]], .lst [.tup [.str "a", .bl true]]]
abbrev odd2 : List D := [.lst [.tup [.str "a", .str "1"]], .lst [.non], .dct [], .str "a", .lst [.tup [.str "do", .int 1]]]
theorem odd_ok {q : List UP} (h : ∀ p ∈ q, isNameS p.1 = true) : ∀ d ∈ odd1 (q.map pairD) ++ odd2, badPrs d := by
  have key : ∀ l : List D, (dOk (.lst l) && decide (l.length < 64) && !l.all isPairD) = true → badPrs (.lst l) := fun l q => by
    simp only [Bool.and_eq_true, decide_eq_true_eq, Bool.not_eq_true'] at q
    exact ⟨q.1.1, fun m e => by injection e with e; rw [← e]; exact ⟨q.1.2, q.2⟩⟩
  intro d hd
  simp only [odd1, odd2, List.cons_append, List.nil_append, List.mem_cons, List.not_mem_nil, or_false] at hd
  rcases hd with rfl | rfl | rfl | rfl | rfl | rfl | rfl | rfl | rfl | rfl | rfl
  · exact ⟨rfl, fun l e => nomatch e⟩
  · refine ⟨dOks.of fun d hd => ?_, fun l e => nomatch e⟩
    rcases List.mem_append.mp hd with q1 | q1
    · exact dOks.mem (dOks_pairs h) d q1
    · rw [List.mem_singleton.mp q1]
      decide +kernel
  · exact key _ (by decide +kernel)
  · exact key _ (by decide +kernel)
  · exact key _ (by decide +kernel)
  · exact key _ (by decide +kernel)
  · exact key _ (by decide +kernel)
  · exact key _ (by decide +kernel)
  · exact ⟨rfl, fun l e => nomatch e⟩
  · exact ⟨by decide +kernel, fun l e => nomatch e⟩
  · exact key _ (by decide +kernel)
def rowsL (ns : List Int) (n : Nat) : List D := (List.range n).map fun k => .lst ((prs ns k).map pairD)
def unitsL (ns : List Int) (n : Nat) : List D := (List.range n).map fun k => unitD (unitOf (prs ns k))
def S_law : FS := fun ds r => ∃ ns : List Int, ds = [.lst (ns.map D.int)] ∧ r = .ok (.bl true)
theorem b_law (B : Body X N_law L_law G_law 13 (defScope s_law)) (F1 : FnD X 4 "_law_number" [] S_number) (F2 : FnD X 4 "_law_names" [] S_names) (F3 : FnD X 4 "_law_pairs" [] S_pairs) (F4 : FnD X 6 "unit_of" [] (S_unit_of C)) (F5 : FnD X 8 "_law_unit_right" [] S_unit_right) (F6 : FnD X 2 "_law_sums" [] S_sums)
    (F7 : FnD X 8 "joined" [] S_joined) (F8 : FnD X 8 "powered" [] S_powered) (F9 : FnD X 2 "shown_unit" [] S_shown_unit) (F10 : FnD X 2 "_law_shown" [] S_shown_unit) (F11 : FnD X 12 "_law_read_right" [] S_read_right) (F12 : FnD X 6 "_law_signs" [] S_signs) (F13 : FnD X 10 "_law_refused" [] S_refused) (F14 : FnD X 8 "_law_no_unit" [] S_no_unit)
    (m1 : X.mg "range" = none) (m2 : X.mg "tuple" = none) (h : S_law ds r) :
    SS X Gs G (defBody s_law) (startA N_law ds) (finOf r) := by
  obtain ⟨ns, rfl, rfl⟩ := h
  have z : ∀ n : Nat, n ≤ 10000 → n ≤ sizeLine := fun n h => Nat.le_trans h (by decide)
  obtain ⟨h5, hnm⟩ := namesV_ok (numV ns 1) (numV_nn ns 1)
  have hpr := fun k => (prs_ok ns k).1
  have hpn : ∀ k, ∀ p ∈ prs ns k, isNameS p.1 = true := fun k p hp => (hpr k p hp).1
  have hpl := fun k => (prs_ok ns k).2
  have hul : ∀ k, (unitOf (prs ns k)).length ≤ 6 := fun k => Nat.le_trans (unitOf_len _) (hpl k)
  have huk : ∀ k, UnitOk (unitOf (prs ns k)) := fun k => unitOf_ok (hpn k)
  have hus : ∀ k, ∀ p ∈ unitOf (prs ns k), Sm 110 p.2 := fun k p hp => (unitOf_sm (fun q hq => (hpr k q hq).2) p hp).mono (by have := hpl k; omega)
  ktu_offI
  k_subL
  refine t_set (d := .int (numV ns 0)) (as1 := [.fz (.lst (ns.map D.int)), .fz (.int (numV ns 0)), .un, .un, .un, .un, .un, .un, .un, .un, .un, .un, .un, .un, .un]) B (by nest_cls) ?_ (by ktu_off1L) (by ktu_offL) ?_
  · ktu_off1L
    · exact ⟨ns, 0, rfl, by decide, by decide, rfl⟩
    ktu_off1L
  k_subL
  refine t_set (d := .lst ((namesV (numV ns 1)).map D.str)) (as1 := [.fz (.lst (ns.map D.int)), .fz (.int (numV ns 0)), .fz (.lst ((namesV (numV ns 1)).map D.str)), .un, .un, .un, .un, .un, .un, .un, .un, .un, .un, .un, .un]) B (by nest_cls) ?_ (by ktu_off1L) (by ktu_offL) ?_
  · ktu_off1L
    · exact ⟨ns, 1, rfl, by decide, by decide, rfl⟩
    ktu_off1L
    · exact ⟨_, rfl, numV_nn _ _, num_sm _ _, rfl⟩
    ktu_off1L
  k_subL
  have erows : ((List.range (3 : Int).toNat).map (fun i => D.int (0 + (i : Nat))) |>.filter fun _ => true).map (fun d => match d with | .int i => .lst ((pairsV (numV ns (2 + i)) (namesV (numV ns 1))).map pairD) | _ => .non) = rowsL ns 3 := by
    rw [filter_true, List.map_map]
    rfl
  refine t_setLc1 (as1 := [.fz (.lst (ns.map D.int)), .fz (.int (numV ns 0)), .fz (.lst ((namesV (numV ns 1)).map D.str)), .ow (.lst (rowsL ns 3)), .un, .un, .un, .un, .un, .un, .un, .un, .un, .un, .un]) 12 [some "_law_script", none, some "_law_names_here", none, none, none, none, none, none, none, none, none, some "_law_k"] ["_law_pairs", "_law_number"] (fun d => match d with | .int i => .lst ((pairsV (numV ns (2 + i)) (namesV (numV ns 1))).map pairD) | _ => .non) (fun _ => true) B (by nest_cls) (iw_range1 (z := 3) (by assumption) (by nest_cls) (by assumption) ?_ (by decide) ?_) (by decide +kernel) (by decide +kernel) rfl (by decide) ?_ (by rw [erows]; ktu_offL) ?_
  · ktu_off1L
  · ktu_off1L
  · intro s H cl C fp nb gb t d hd
    obtain ⟨j, hj, rfl⟩ := map_at hd
    have hj3 : j < 3 := by
      have := List.mem_range.mp (List.mem_of_getElem? hj)
      simpa using this
    have F1' := fn_in gb F1
    have F3' := fn_in gb F3
    have r4 := room_in gb (B.room.mono (show 4 ≤ 13 by decide))
    refine ⟨ets_nil, fun _ => ?_⟩
    show EE _ _ _ (.lst ((pairsV (numV ns (2 + (0 + (j : Nat)))) (namesV (numV ns 1))).map pairD))
    ktu_off1L
    · exact ⟨ns, 2 + (0 + (j : Nat)), rfl, by omega, by omega, rfl⟩
    ktu_off1L
    · exact ⟨_, _, rfl, num_sm _ _, h5, rfl⟩
    ktu_off1L
  k_subL
  refine s1_freeze (fun i => i == 3) ?_
  show S1 X Gs G _ [.fz (.lst (ns.map D.int)), .fz (.int (numV ns 0)), .fz (.lst ((namesV (numV ns 1)).map D.str)), .fz (.lst (rowsL ns 3)), .un, .un, .un, .un, .un, .un, .un, .un, .un, .un, .un] _
  refine t_setN (as1 := [.fz (.lst (ns.map D.int)), .fz (.int (numV ns 0)), .fz (.lst ((namesV (numV ns 1)).map D.str)), .fz (.lst (rowsL ns 3)), .ow (.lst []), .un, .un, .un, .un, .un, .un, .un, .un, .un, .un]) B (by nest_cls) (en_lst (ds := []) (by ktu_off1L) (by ktu_off1L)) ?_ (by ktu_offL) ?_
  · ktu_off1L
  k_subL
  refine t_for B (fun d => [(5, d)]) (iw_list (ds := rowsL ns 3) ?_) (fun j as' => ∃ s5 s6, as' = [.fz (.lst (ns.map D.int)), .fz (.int (numV ns 0)), .fz (.lst ((namesV (numV ns 1)).map D.str)), .fz (.lst (rowsL ns 3)), .ow (.lst (unitsL ns j)), s5, s6, .un, .un, .un, .un, .un, .un, .un, .un]) ⟨_, _, rfl⟩ ?_ ?_ ?_
  · ktu_off1L
  · intro j d hj
    exact tg_name B (by nest_cls)
  · rintro j d as' hj ⟨s5, s6, rfl⟩
    obtain ⟨k, hk, rfl⟩ := map_at hj
    have hk3 := (List.getElem?_eq_some_iff.mp hk).1
    rw [List.length_range] at hk3
    obtain rfl : j = k := by rw [List.getElem?_range hk3] at hk; exact Option.some.inj hk
    have hn := hpn j
    have hl6 := hpl j
    have hu6 := hul j
    have hrev : ((prs ns j).map pairD).reverse = ((prs ns j).reverse).map pairD := by rw [List.map_reverse]
    have hun : (unitsL ns j).length < sizeLine := by unfold unitsL; rw [List.length_map, List.length_range, sizeLine_eq]; omega
    have hpu := pyOk_unit (huk j).nm
    show SS X Gs G _ [.fz (.lst (ns.map D.int)), .fz (.int (numV ns 0)), .fz (.lst ((namesV (numV ns 1)).map D.str)), .fz (.lst (rowsL ns 3)), .ow (.lst (unitsL ns j)), .fz (.lst ((prs ns j).map pairD)), s6, .un, .un, .un, .un, .un, .un, .un, .un] _
    k_subL
    refine t_set (d := unitD (unitOf (prs ns j))) (as1 := [.fz (.lst (ns.map D.int)), .fz (.int (numV ns 0)), .fz (.lst ((namesV (numV ns 1)).map D.str)), .fz (.lst (rowsL ns 3)), .ow (.lst (unitsL ns j)), .fz (.lst ((prs ns j).map pairD)), .fz (unitD (unitOf (prs ns j))), .un, .un, .un, .un, .un, .un, .un, .un]) B (by nest_cls) ?_ (by ktu_off1L) (by ktu_offL) ?_
    · ktu_off1L
      · exact .inl ⟨prs ns j, rfl, hn, by omega, rfl⟩
      ktu_off1L
    k_subL
    refine s1_ifF (EW.et (ew_is (k := !true || !eqD (unitD (unitOf (prs ns j))) (unitD (unitOf (prs ns j)))) (ew_or ?_ fun _ => ew_or1 (et_cmp (e_call (ds := [.lst (((prs ns j).reverse).map pairD)]) (by assumption) F4 (by nest_cls) (by (with_reducible first | assumption | exact Mw.Body.room (by assumption) | exact L2.Room.mono (Mw.Body.room (by assumption)) (by with_unfolding_all decide))) (ea_cons (ee_is (EN.ee (en_revL ?_)) (by rw [hrev])) ea_nil ?_) ?_ ?_ ?_) ?_ (oc_neD B.room hpu hpu) ?_)) (by rw [eqD_refl hpu]; rfl))) ?_
    · ktu_off1L
      · exact ⟨prs ns j, rfl, by omega, rfl⟩
      ktu_off1L
      · exact ⟨_, rfl, huk j, by omega, rfl⟩
      ktu_off1L
    · ktu_off1L
    · ktu_off1L
    · exact .inl ⟨(prs ns j).reverse, rfl, fun p hp => hn p (List.mem_reverse.mp hp), by rw [List.length_reverse]; omega, by rw [unitOf_perm (List.reverse_perm _)]⟩
    · ktu_off1L
    · ktu_off1L
    · ktu_off1L
    · ktu_off1L
    · k_subL
      k_subL
      refine t_append (d := unitD (unitOf (prs ns j))) (as1 := [.fz (.lst (ns.map D.int)), .fz (.int (numV ns 0)), .fz (.lst ((namesV (numV ns 1)).map D.str)), .fz (.lst (rowsL ns 3)), .ow (.lst (unitsL ns j ++ [unitD (unitOf (prs ns j))])), .fz (.lst ((prs ns j).map pairD)), .fz (unitD (unitOf (prs ns j))), .un, .un, .un, .un, .un, .un, .un, .un]) B (by nest_cls) rfl ?_ hun ?_ ?_ ?_ ?_ ?_ ?_
      · ktu_off1L
      · ktu_off1L
      · rfl
      · ktu_off1L
      · ktu_off1L
      · ktu_offL
      · refine ⟨.fz (.lst ((prs ns j).map pairD)), .fz (unitD (unitOf (prs ns j))), ?_⟩
        unfold unitsL
        rw [List.range_succ, List.map_append]
        rfl
  · rintro as' ⟨s5, s6, rfl⟩
    have ulen : (rowsL ns 3).length = 3 := by unfold rowsL; rw [List.length_map, List.length_range]
    rw [ulen]
    have hjn : ∀ p ∈ prs ns 0 ++ prs ns 1, isNameS p.1 = true := fun p hp => by
      rcases List.mem_append.mp hp with q | q
      · exact hpn 0 p q
      · exact hpn 1 p q
    have hbo : UnitOk (unitOf (prs ns 0 ++ prs ns 1)) := unitOf_ok hjn
    have hbl : (unitOf (prs ns 0 ++ prs ns 1)).length ≤ 12 := Nat.le_trans (unitOf_len _) (by rw [List.length_append]; have := hpl 0; have := hpl 1; omega)
    have hbs : ∀ p ∈ unitOf (prs ns 0 ++ prs ns 1), Sm 120 p.2 := fun p hp => (unitOf_sm (n := 100) (fun q hq => by
      rcases List.mem_append.mp hq with w | w
      · exact (hpr 0 q w).2
      · exact (hpr 1 q w).2) p hp).mono (by rw [List.length_append]; have := hpl 0; have := hpl 1; omega)
    have ej1 : unitOf (unitOf (prs ns 0) ++ unitOf (prs ns 1)) = unitOf (prs ns 0 ++ prs ns 1) := unitOf_joined (hpn 0) (hpn 1)
    have ej2 : unitOf (unitOf (prs ns 1) ++ unitOf (prs ns 0)) = unitOf (prs ns 0 ++ prs ns 1) := by
      rw [unitOf_joined (hpn 1) (hpn 0)]
      exact unitOf_perm List.perm_append_comm
    have hpb := pyOk_unit hbo.nm
    have u0 := hul 0
    have u1 := hul 1
    have u2 := hul 2
    have l0 := hpl 0
    have l1 := hpl 1
    have l2 := hpl 2
    k_subL
    refine s1_freeze (fun i => i == 4) ?_
    show S1 X Gs G _ [.fz (.lst (ns.map D.int)), .fz (.int (numV ns 0)), .fz (.lst ((namesV (numV ns 1)).map D.str)), .fz (.lst (rowsL ns 3)), .fz (.lst (unitsL ns 3)), s5, s6, .un, .un, .un, .un, .un, .un, .un, .un] _
    refine t_set (d := unitD (unitOf (prs ns 0 ++ prs ns 1))) (as1 := [.fz (.lst (ns.map D.int)), .fz (.int (numV ns 0)), .fz (.lst ((namesV (numV ns 1)).map D.str)), .fz (.lst (rowsL ns 3)), .fz (.lst (unitsL ns 3)), s5, s6, .fz (unitD (unitOf (prs ns 0 ++ prs ns 1))), .un, .un, .un, .un, .un, .un, .un]) B (by nest_cls) ?_ (by ktu_off1L) (by ktu_offL) ?_
    · ktu_off1L
      · exact ⟨unitOf (prs ns 0), unitOf (prs ns 1), rfl, (huk 0).nm, (huk 1).nm, by omega, by rw [ej1]⟩
      ktu_off1L
    k_subL
    have hcat : ((prs ns 0).map pairD).length + ((prs ns 1).map pairD).length ≤ sizeLine := z _ (by rw [List.length_map, List.length_map]; omega)
    refine s1_ifF (EW.et (ew_is (k := !true || !eqD (unitD (unitOf (prs ns 0 ++ prs ns 1))) (unitD (unitOf (prs ns 0 ++ prs ns 1)))) ?_ (by rw [eqD_refl hpb]; rfl))) ?_
    · ktu_off1L
      · exact ⟨prs ns 0 ++ prs ns 1, by rw [List.map_append]; rfl, by rw [List.length_append]; omega, rfl⟩
      ktu_off1L
      · exact ⟨_, rfl, hbo, by omega, rfl⟩
      ktu_off1L
      · exact ⟨unitOf (prs ns 1), unitOf (prs ns 0), rfl, (huk 1).nm, (huk 0).nm, by omega, by rw [ej2]⟩
      ktu_off1L
      · exact hpb
      · exact hpb
      ktu_off1L
    k_subL
    k_subL
    have x0 := Int.emod_nonneg (numV ns 0) (show (19 : Int) ≠ 0 by decide)
    have x1 := Int.emod_lt_of_pos (numV ns 0) (show (0 : Int) < 19 by decide)
    obtain ⟨e, he⟩ : ∃ e, numV ns 0 % 19 - 9 = e := ⟨_, rfl⟩
    have hes : Sm 10 e := by unfold Sm; omega
    refine t_set (d := .int e) (as1 := [.fz (.lst (ns.map D.int)), .fz (.int (numV ns 0)), .fz (.lst ((namesV (numV ns 1)).map D.str)), .fz (.lst (rowsL ns 3)), .fz (.lst (unitsL ns 3)), s5, s6, .fz (unitD (unitOf (prs ns 0 ++ prs ns 1))), .fz (.int e), .un, .un, .un, .un, .un, .un]) B (by nest_cls) (ee_is (d := .int (numV ns 0 % 19 - 9)) ?_ (by rw [he])) (by ktu_off1L) (by ktu_offL) ?_
    · ktu_off1L
    k_subL
    have hmn : ∀ p ∈ (prs ns 2).map (fun p => (p.1, p.2 * e)), isNameS p.1 = true := fun p hp => by
      obtain ⟨q, hq, rfl⟩ := List.mem_map.mp hp
      exact hpn 2 q hq
    refine t_set (d := unitD (unitOf ((prs ns 2).map fun p => (p.1, p.2 * e)))) (as1 := [.fz (.lst (ns.map D.int)), .fz (.int (numV ns 0)), .fz (.lst ((namesV (numV ns 1)).map D.str)), .fz (.lst (rowsL ns 3)), .fz (.lst (unitsL ns 3)), s5, s6, .fz (unitD (unitOf (prs ns 0 ++ prs ns 1))), .fz (.int e), .fz (unitD (unitOf ((prs ns 2).map fun p => (p.1, p.2 * e)))), .un, .un, .un, .un, .un]) B (by nest_cls) (e_call (ds := [.lst (((prs ns 2).map fun p => (p.1, p.2 * e)).map pairD)]) (by assumption) F6 (by nest_cls) (by (with_reducible first | assumption | exact Mw.Body.room (by assumption) | exact L2.Room.mono (Mw.Body.room (by assumption)) (by with_unfolding_all decide))) (ea_cons (ee_is (EN.ee (en_lc2 (ds := (prs ns 2).map pairD) 13 14 [none, none, none, none, none, none, none, none, some "_law_exponent", none, none, none, none, some "_law_name", some "_law_own"] [] (fun d => match d with | .tup [x, .int i] => .tup [x, .int (i * e)] | _ => .non) (fun _ => true) B (iw_list ?_) (by decide +kernel) ?_ ?_ ?_)) ?_) ea_nil ?_) ?_ ?_ ?_) (by ktu_off1L) (by ktu_offL) ?_
    · ktu_off1L
    · rw [List.length_map, sizeLine_eq]; omega
    · intro t d hd
      obtain ⟨p, _, rfl⟩ := map_at hd
      exact ⟨_, _, rfl⟩
    · intro s H cl C fp nb gb t x y hd
      obtain ⟨p, hp, e1⟩ := map_at hd
      unfold pairD at e1
      injection e1 with e1
      injection e1 with ex e1
      injection e1 with ey _
      subst ex ey
      have hm := hpr 2 p (List.mem_of_getElem? hp)
      have hc : CMulW p.2 e := cmulW_of hm.2 hes (by decide) (by decide) (by decide)
      refine ⟨ets_nil, fun _ => ?_⟩
      show EE _ _ _ (.tup [.str p.1, .int (p.2 * e)])
      ktu_off1L
    · rw [filter_true, List.map_map, List.map_map]
      rfl
    · ktu_off1L
    · exact ⟨_, rfl, by rw [List.length_map]; omega, rfl⟩
    · ktu_off1L
    · ktu_off1L
    k_subL
    refine s1_ifF (et_is (k := !true) ?_ rfl) ?_
    · ktu_off1L
      · exact ⟨unitOf (prs ns 2), e, rfl, fun p hp => ⟨(huk 2).nm p hp, (hus 2 p hp).mono (by decide)⟩, hes.mono (by decide), by omega, by rw [unitOf_powered e (hpn 2)]⟩
      ktu_off1L
      · exact ⟨_, rfl, unitOf_ok hmn, Nat.lt_of_le_of_lt (unitOf_len _) (by rw [List.length_map]; omega), rfl⟩
      ktu_off1L
    k_subL
    k_subL
    have dvo : ∀ d ∈ unitsL ns 3 ++ [unitD (unitOf (prs ns 0 ++ prs ns 1))], ∃ u, d = unitD u ∧ UnitOk u ∧ u.length < 60 ∧ ∀ p ∈ u, Sm 120 p.2 := fun d hd => by
      rcases List.mem_append.mp hd with q | q
      · obtain ⟨k, _, rfl⟩ := List.mem_map.mp q
        exact ⟨_, rfl, huk k, by have := hul k; omega, fun p hp => (hus k p hp).mono (by decide)⟩
      · rw [List.mem_singleton.mp q]
        exact ⟨_, rfl, hbo, by omega, hbs⟩
    refine t_for B (fun d => [(10, d)]) (iw_list (ds := unitsL ns 3 ++ [unitD (unitOf (prs ns 0 ++ prs ns 1))]) ?_) (fun j as' => ∃ s10, as' = [.fz (.lst (ns.map D.int)), .fz (.int (numV ns 0)), .fz (.lst ((namesV (numV ns 1)).map D.str)), .fz (.lst (rowsL ns 3)), .fz (.lst (unitsL ns 3)), s5, s6, .fz (unitD (unitOf (prs ns 0 ++ prs ns 1))), .fz (.int e), .fz (unitD (unitOf ((prs ns 2).map fun p => (p.1, p.2 * e)))), s10, .un, .un, .un, .un]) ⟨_, rfl⟩ ?_ ?_ ?_
    · ktu_off1L
    · intro j d hj
      exact tg_name B (by nest_cls)
    · rintro j d as' hj ⟨s10, rfl⟩
      obtain ⟨u, rfl, ho, hl60, hsm⟩ := dvo d (List.mem_of_getElem? hj)
      have hsh : ∀ p ∈ u, p.1.length ≤ 8 ∧ p.2.natAbs < 2 ^ 1000 := fun p hp => ⟨(isNameS.len (ho.nm p hp)).2, (hsm p hp).mono (by decide)⟩
      show SS X Gs G _ [.fz (.lst (ns.map D.int)), .fz (.int (numV ns 0)), .fz (.lst ((namesV (numV ns 1)).map D.str)), .fz (.lst (rowsL ns 3)), .fz (.lst (unitsL ns 3)), s5, s6, .fz (unitD (unitOf (prs ns 0 ++ prs ns 1))), .fz (.int e), .fz (unitD (unitOf ((prs ns 2).map fun p => (p.1, p.2 * e)))), .fz (unitD u), .un, .un, .un, .un] _
      k_subL
      refine s1_ifF (EW.et (ew_is (k := !decide (shownU u = shownU u) || !true) (ew_or (et_cmp ?_ ?_ oc_neS ?_) fun _ => ?_) (by rw [decide_eq_true rfl]; rfl))) ?_
      · ktu_off1L
        · exact ⟨u, rfl, hsh, by omega, rfl⟩
        ktu_off1L
      · ktu_off1L
        · exact ⟨u, rfl, hsh, by omega, rfl⟩
        ktu_off1L
      · ktu_off1L
      · ktu_off1L
        · exact ⟨u, _, rfl, ho, by omega, fun p hp => (hsm p hp).mono (by decide), rfl⟩
        ktu_off1L
      · k_subL
        exact ⟨_, rfl⟩
    · rintro as' ⟨s10, rfl⟩
      obtain ⟨d, hd, hm⟩ := pick_in (l := odd1 ((prs ns 0).map pairD) ++ odd2) (i := numV ns 0 / 600 % 11) (Int.emod_nonneg _ (by decide)) (show numV ns 0 / 600 % 11 < 11 from Int.emod_lt_of_pos _ (by decide))
      have hbad := odd_ok (hpn 0) d hm
      k_subL
      refine s1_ifF (et_is (k := !true) ?_ rfl) ?_
      · ktu_off1L
        · exact ⟨ns, 8, rfl, by decide, by decide, rfl⟩
        ktu_off1L
        · exact ⟨_, _, rfl, h5, hnm, rfl⟩
        ktu_off1L
      k_subL
      k_subL
      refine t_set (d := .lst (odd1 ((prs ns 0).map pairD))) (as1 := [.fz (.lst (ns.map D.int)), .fz (.int (numV ns 0)), .fz (.lst ((namesV (numV ns 1)).map D.str)), .fz (.lst (rowsL ns 3)), .fz (.lst (unitsL ns 3)), s5, s6, .fz (unitD (unitOf (prs ns 0 ++ prs ns 1))), .fz (.int e), .fz (unitD (unitOf ((prs ns 2).map fun p => (p.1, p.2 * e)))), s10, .fz (.lst (odd1 ((prs ns 0).map pairD))), .un, .un, .un]) B (by nest_cls) (EN.ee (en_lst (ea_cons ?_ (ea_cons (ee_bin (x := .tup ((prs ns 0).map pairD)) (y := .tup [.tup [.str "a", .int 1]]) (e_tupL (by assumption) (by nest_cls) (by assumption) ?_ ?_) ?_ (od_catT (z _ ?_))) ?_ ?_) ?_) ?_)) (by ktu_off1L) (by ktu_offL) ?_
      · ktu_off1L
      · ktu_off1L
      · ktu_off1L
      · ktu_off1L
      · rw [List.length_map, List.length_singleton]; omega
      · ktu_off1L
      · ktu_off1L
      · ktu_off1L
      · exact len_le (by rfl)
      k_subL
      refine t_set (d := .lst (odd1 ((prs ns 0).map pairD) ++ odd2)) (as1 := [.fz (.lst (ns.map D.int)), .fz (.int (numV ns 0)), .fz (.lst ((namesV (numV ns 1)).map D.str)), .fz (.lst (rowsL ns 3)), .fz (.lst (unitsL ns 3)), s5, s6, .fz (unitD (unitOf (prs ns 0 ++ prs ns 1))), .fz (.int e), .fz (unitD (unitOf ((prs ns 2).map fun p => (p.1, p.2 * e)))), s10, .fz (.lst (odd1 ((prs ns 0).map pairD) ++ odd2)), .un, .un, .un]) B (by nest_cls) (ee_bin (x := .lst (odd1 ((prs ns 0).map pairD))) (y := .lst odd2) ?_ ?_ (od_catL (len_le (by rfl)))) (by ktu_off1L) (by ktu_offL) ?_
      · ktu_off1L
      · ktu_off1L
      k_subL
      refine s1_ret (d := .bl (true && true)) ?_ rfl
      ktu_off1L
      · exact hd
      ktu_off1L
      · exact ⟨1, d, rfl, .inr ⟨rfl, hbad⟩, rfl⟩
      ktu_off1L
      · exact ⟨_, unitOf (prs ns 0), _, rfl, (huk 0).nm, by omega, rfl⟩
      ktu_off1L
end
/-! ### the head -/
abbrev R_ : PySem.W.OpenRow := PySem.W.OpenLaw.row PySem.Challenge.rw_measurewise_k02_units
def nm0 : List PySem.Str := ["MeasureError", "BadNumber", "BadName", "BadUnit", "MOST_SIGNS", "MOST_NAME", "LETTERS", "SIGNS", "WORDS", "is_whole", "is_name", "need_name", "is_text", "FIGURES", "is_pair", "is_unit", "unit_of", "joined", "powered", "shown_unit", "exponent_of", "read_unit", "_law_mixed", "_law_number", "_law_names", "_law_sums", "_law_pairs", "_law_shown", "_law_unit_right", "_law_refused"]
def nm1 : List PySem.Str := ["_law_read_right", "_law_no_unit", "_law_signs"]
def names_ : List PySem.Str := nm0 ++ nm1
def d_is_whole : He.DefD := ⟨("is_whole", none), "is_whole", "is_whole", defArgs s_is_whole, defBody s_is_whole, defScope s_is_whole, [], []⟩
def d_is_name : He.DefD := ⟨("is_name", none), "is_name", "is_name", defArgs s_is_name, defBody s_is_name, defScope s_is_name, [], []⟩
def d_need_name : He.DefD := ⟨("need_name", none), "need_name", "need_name", defArgs s_need_name, defBody s_need_name, defScope s_need_name, [], []⟩
def d_is_text : He.DefD := ⟨("is_text", none), "is_text", "is_text", defArgs s_is_text, defBody s_is_text, defScope s_is_text, [], []⟩
def d_is_pair : He.DefD := ⟨("is_pair", none), "is_pair", "is_pair", defArgs s_is_pair, defBody s_is_pair, defScope s_is_pair, [], []⟩
def d_is_unit : He.DefD := ⟨("is_unit", none), "is_unit", "is_unit", defArgs s_is_unit, defBody s_is_unit, defScope s_is_unit, [], []⟩
def d_unit_of : He.DefD := ⟨("unit_of", none), "unit_of", "unit_of", defArgs s_unit_of, defBody s_unit_of, defScope s_unit_of, [], []⟩
def d_joined : He.DefD := ⟨("joined", none), "joined", "joined", defArgs s_joined, defBody s_joined, defScope s_joined, [], []⟩
def d_powered : He.DefD := ⟨("powered", none), "powered", "powered", defArgs s_powered, defBody s_powered, defScope s_powered, [], []⟩
def d_shown_unit : He.DefD := ⟨("shown_unit", none), "shown_unit", "shown_unit", defArgs s_shown_unit, defBody s_shown_unit, defScope s_shown_unit, [], []⟩
def d_exponent_of : He.DefD := ⟨("exponent_of", none), "exponent_of", "exponent_of", defArgs s_exponent_of, defBody s_exponent_of, defScope s_exponent_of, [], []⟩
def d_read_unit : He.DefD := ⟨("read_unit", none), "read_unit", "read_unit", defArgs s_read_unit, defBody s_read_unit, defScope s_read_unit, [], []⟩
def d__law_mixed : He.DefD := ⟨("_law_mixed", none), "_law_mixed", "_law_mixed", defArgs s__law_mixed, defBody s__law_mixed, defScope s__law_mixed, [], []⟩
def d__law_number : He.DefD := ⟨("_law_number", none), "_law_number", "_law_number", defArgs s__law_number, defBody s__law_number, defScope s__law_number, [], []⟩
def d__law_names : He.DefD := ⟨("_law_names", none), "_law_names", "_law_names", defArgs s__law_names, defBody s__law_names, defScope s__law_names, [], []⟩
def d__law_sums : He.DefD := ⟨("_law_sums", none), "_law_sums", "_law_sums", defArgs s__law_sums, defBody s__law_sums, defScope s__law_sums, [], []⟩
def d__law_pairs : He.DefD := ⟨("_law_pairs", none), "_law_pairs", "_law_pairs", defArgs s__law_pairs, defBody s__law_pairs, defScope s__law_pairs, [], []⟩
def d__law_shown : He.DefD := ⟨("_law_shown", none), "_law_shown", "_law_shown", defArgs s__law_shown, defBody s__law_shown, defScope s__law_shown, [], []⟩
def d__law_unit_right : He.DefD := ⟨("_law_unit_right", none), "_law_unit_right", "_law_unit_right", defArgs s__law_unit_right, defBody s__law_unit_right, defScope s__law_unit_right, [], []⟩
def d__law_refused : He.DefD := ⟨("_law_refused", none), "_law_refused", "_law_refused", defArgs s__law_refused, defBody s__law_refused, defScope s__law_refused, [], []⟩
def d__law_read_right : He.DefD := ⟨("_law_read_right", none), "_law_read_right", "_law_read_right", defArgs s__law_read_right, defBody s__law_read_right, defScope s__law_read_right, [], []⟩
def d__law_no_unit : He.DefD := ⟨("_law_no_unit", none), "_law_no_unit", "_law_no_unit", defArgs s__law_no_unit, defBody s__law_no_unit, defScope s__law_no_unit, [], []⟩
def d__law_signs : He.DefD := ⟨("_law_signs", none), "_law_signs", "_law_signs", defArgs s__law_signs, defBody s__law_signs, defScope s__law_signs, [], []⟩
def d_law : He.DefD := ⟨("law", none), "law", "law", defArgs s_law, defBody s_law, defScope s_law, [], []⟩
def fn_ : List He.DefD := [d_is_whole, d_is_name, d_need_name, d_is_text, d_is_pair, d_is_unit, d_unit_of, d_joined, d_powered, d_shown_unit, d_exponent_of, d_read_unit, d__law_mixed, d__law_number, d__law_names, d__law_sums, d__law_pairs, d__law_shown, d__law_unit_right, d__law_refused, d__law_read_right, d__law_no_unit, d__law_signs, d_law]
def cs0 : List Chk := [cFree "ValueError", cFree "abs", cFree "all", cFree "bool", cFree "int", cFree "isinstance", cFree "len", cFree "list", cFree "max", cFree "range", cFree "set", cFree "sorted", cFree "str", cFree "sum", cFree "tuple", cGlo "MeasureError", cGlo "BadNumber", cGlo "BadName", cGlo "BadUnit", cGlo "is_whole"]
def cs1 : List Chk := [cGlo "is_name", cGlo "need_name", cGlo "is_text", cGlo "is_pair", cGlo "is_unit", cGlo "unit_of", cGlo "joined", cGlo "powered", cGlo "shown_unit", cGlo "exponent_of", cGlo "read_unit", cGlo "_law_mixed", cGlo "_law_number", cGlo "_law_names", cGlo "_law_sums", cGlo "_law_pairs", cGlo "_law_shown", cGlo "_law_unit_right", cGlo "_law_refused", cGlo "_law_read_right"]
def cs2 : List Chk := [cGlo "_law_no_unit", cGlo "_law_signs", cGlo "law", cExc "BadName", cExc "BadUnit", cEc "BadUnit", cExm "BadUnit" "MeasureError" true, cKit "BadUnit" "BadUnit" true, cKitT "BadUnit" "ValueError" true, cKit "BadUnit" "BadNumber" false, cEc "BadName", cExm "BadName" "MeasureError" true, cKit "BadName" "BadName" true, cKitT "BadName" "ValueError" true, cKit "BadName" "BadUnit" false, cInt "MOST_NAME" 8, cInt "MOST_SIGNS" 4000, cStr "LETTERS" lettersS, cStr "SIGNS" signsS, cStr "FIGURES" figuresS]
def cs3 : List Chk := [cGlo "WORDS", cTupS "WORDS" wordsL]
def cs_ : List Chk := cs0 ++ cs1 ++ cs2 ++ cs3
abbrev hk_ : PySem.W.Hook := hookM 4 cs_ fn_
def ob_ (s : PySem.W.SharedT) : He.AlD := obsMG 4 cs_ fn_ (HandSHeadRun.getT s)
theorem ob_eq (s : PySem.W.SharedT) : ob_ s = hk_.obs s.abs := obsMG_eq (HandSHeadRun.getT_eq s)
section
set_option maxHeartbeats 0
theorem run_ (w : World) : HandSHeadRun.RunEq R_ (PySem.W.view R_.prog [37]) hk_ ob_ 12000 names_ w := by
  intro os
  kernel_rfl
end
theorem law_wish (ns : List Int) (_ : ns.length ≤ 63) (_ : ∀ i ∈ ns, Builtin.Int.intBits i ≤ 1048576) : S_law [.lst (ns.map D.int)] (.ok (.bl true)) := ⟨ns, rfl, rfl⟩
theorem facts_ {P : Program} {w : World} {K : Kf} {h : Heap} {mg : Str → Option Value} {f : Addr} (X : K.In h) (G : h.Ns mainGlobals mg) (hfa : mg ("law" : Str) = some (.ref f)) (c : SaysM cs_ fn_ K) :
    ∃ fd : FuncData, (∀ (s : Shared) (v : Value), BindsTo s fd ⟨[v], []⟩ [("_law_script", v)]) ∧ ∀ base : Heap, K.In base → base.Ns mainGlobals mg → FnOk P w K mg base (L2.CX P w) 14 f fd ["_law_script"] (spOf K S_law) := by
  have m_ValueError : mg "ValueError" = none := He.free_ok X G (c.chk 0 (f := cFree "ValueError") rfl)
  have m_abs : mg "abs" = none := He.free_ok X G (c.chk 1 (f := cFree "abs") rfl)
  have m_all : mg "all" = none := He.free_ok X G (c.chk 2 (f := cFree "all") rfl)
  have m_bool : mg "bool" = none := He.free_ok X G (c.chk 3 (f := cFree "bool") rfl)
  have m_int : mg "int" = none := He.free_ok X G (c.chk 4 (f := cFree "int") rfl)
  have m_isinstance : mg "isinstance" = none := He.free_ok X G (c.chk 5 (f := cFree "isinstance") rfl)
  have m_len : mg "len" = none := He.free_ok X G (c.chk 6 (f := cFree "len") rfl)
  have m_list : mg "list" = none := He.free_ok X G (c.chk 7 (f := cFree "list") rfl)
  have m_max : mg "max" = none := He.free_ok X G (c.chk 8 (f := cFree "max") rfl)
  have m_range : mg "range" = none := He.free_ok X G (c.chk 9 (f := cFree "range") rfl)
  have m_set : mg "set" = none := He.free_ok X G (c.chk 10 (f := cFree "set") rfl)
  have m_sorted : mg "sorted" = none := He.free_ok X G (c.chk 11 (f := cFree "sorted") rfl)
  have m_str : mg "str" = none := He.free_ok X G (c.chk 12 (f := cFree "str") rfl)
  have m_sum : mg "sum" = none := He.free_ok X G (c.chk 13 (f := cFree "sum") rfl)
  have m_tuple : mg "tuple" = none := He.free_ok X G (c.chk 14 (f := cFree "tuple") rfl)
  have g_MeasureError : mg "MeasureError" = some (.ref (He.ga K "MeasureError")) := He.glo_ok X G (c.chk 15 (f := cGlo "MeasureError") rfl)
  have g_BadNumber : mg "BadNumber" = some (.ref (He.ga K "BadNumber")) := He.glo_ok X G (c.chk 16 (f := cGlo "BadNumber") rfl)
  have g_BadName : mg "BadName" = some (.ref (He.ga K "BadName")) := He.glo_ok X G (c.chk 17 (f := cGlo "BadName") rfl)
  have g_BadUnit : mg "BadUnit" = some (.ref (He.ga K "BadUnit")) := He.glo_ok X G (c.chk 18 (f := cGlo "BadUnit") rfl)
  have g_is_whole : mg "is_whole" = some (.ref (He.ga K "is_whole")) := He.glo_ok X G (c.chk 19 (f := cGlo "is_whole") rfl)
  have g_is_name : mg "is_name" = some (.ref (He.ga K "is_name")) := He.glo_ok X G (c.chk 20 (f := cGlo "is_name") rfl)
  have g_need_name : mg "need_name" = some (.ref (He.ga K "need_name")) := He.glo_ok X G (c.chk 21 (f := cGlo "need_name") rfl)
  have g_is_text : mg "is_text" = some (.ref (He.ga K "is_text")) := He.glo_ok X G (c.chk 22 (f := cGlo "is_text") rfl)
  have g_is_pair : mg "is_pair" = some (.ref (He.ga K "is_pair")) := He.glo_ok X G (c.chk 23 (f := cGlo "is_pair") rfl)
  have g_is_unit : mg "is_unit" = some (.ref (He.ga K "is_unit")) := He.glo_ok X G (c.chk 24 (f := cGlo "is_unit") rfl)
  have g_unit_of : mg "unit_of" = some (.ref (He.ga K "unit_of")) := He.glo_ok X G (c.chk 25 (f := cGlo "unit_of") rfl)
  have g_joined : mg "joined" = some (.ref (He.ga K "joined")) := He.glo_ok X G (c.chk 26 (f := cGlo "joined") rfl)
  have g_powered : mg "powered" = some (.ref (He.ga K "powered")) := He.glo_ok X G (c.chk 27 (f := cGlo "powered") rfl)
  have g_shown_unit : mg "shown_unit" = some (.ref (He.ga K "shown_unit")) := He.glo_ok X G (c.chk 28 (f := cGlo "shown_unit") rfl)
  have g_exponent_of : mg "exponent_of" = some (.ref (He.ga K "exponent_of")) := He.glo_ok X G (c.chk 29 (f := cGlo "exponent_of") rfl)
  have g_read_unit : mg "read_unit" = some (.ref (He.ga K "read_unit")) := He.glo_ok X G (c.chk 30 (f := cGlo "read_unit") rfl)
  have g__law_mixed : mg "_law_mixed" = some (.ref (He.ga K "_law_mixed")) := He.glo_ok X G (c.chk 31 (f := cGlo "_law_mixed") rfl)
  have g__law_number : mg "_law_number" = some (.ref (He.ga K "_law_number")) := He.glo_ok X G (c.chk 32 (f := cGlo "_law_number") rfl)
  have g__law_names : mg "_law_names" = some (.ref (He.ga K "_law_names")) := He.glo_ok X G (c.chk 33 (f := cGlo "_law_names") rfl)
  have g__law_sums : mg "_law_sums" = some (.ref (He.ga K "_law_sums")) := He.glo_ok X G (c.chk 34 (f := cGlo "_law_sums") rfl)
  have g__law_pairs : mg "_law_pairs" = some (.ref (He.ga K "_law_pairs")) := He.glo_ok X G (c.chk 35 (f := cGlo "_law_pairs") rfl)
  have g__law_shown : mg "_law_shown" = some (.ref (He.ga K "_law_shown")) := He.glo_ok X G (c.chk 36 (f := cGlo "_law_shown") rfl)
  have g__law_unit_right : mg "_law_unit_right" = some (.ref (He.ga K "_law_unit_right")) := He.glo_ok X G (c.chk 37 (f := cGlo "_law_unit_right") rfl)
  have g__law_refused : mg "_law_refused" = some (.ref (He.ga K "_law_refused")) := He.glo_ok X G (c.chk 38 (f := cGlo "_law_refused") rfl)
  have g__law_read_right : mg "_law_read_right" = some (.ref (He.ga K "_law_read_right")) := He.glo_ok X G (c.chk 39 (f := cGlo "_law_read_right") rfl)
  have g__law_no_unit : mg "_law_no_unit" = some (.ref (He.ga K "_law_no_unit")) := He.glo_ok X G (c.chk 40 (f := cGlo "_law_no_unit") rfl)
  have g__law_signs : mg "_law_signs" = some (.ref (He.ga K "_law_signs")) := He.glo_ok X G (c.chk 41 (f := cGlo "_law_signs") rfl)
  have g_law : mg "law" = some (.ref (He.ga K "law")) := He.glo_ok X G (c.chk 42 (f := cGlo "law") rfl)
  have ex_BadName : ExcE K mg "BadName" (He.ga K "BadName") := excE_of (c.chk 43 (f := cExc "BadName") rfl) g_BadName
  have ex_BadUnit : ExcE K mg "BadUnit" (He.ga K "BadUnit") := excE_of (c.chk 44 (f := cExc "BadUnit") rfl) g_BadUnit
  have err1 : ErrOk K (He.ga K "BadUnit") (He.ga K "MeasureError") (He.ga K "BadNumber") := ⟨cEc_ok (c.chk 45 (f := cEc "BadUnit") rfl), ⟨He.exm_ok (c.chk 46 (f := cExm "BadUnit" "MeasureError" true) rfl)⟩, of_decide_eq_true (c.chk 47 (f := cKit "BadUnit" "BadUnit" true) rfl), of_decide_eq_true (c.chk 48 (f := cKitT "BadUnit" "ValueError" true) rfl), of_decide_eq_true (c.chk 49 (f := cKit "BadUnit" "BadNumber" false) rfl)⟩
  have err2 : ErrOk K (He.ga K "BadName") (He.ga K "MeasureError") (He.ga K "BadUnit") := ⟨cEc_ok (c.chk 50 (f := cEc "BadName") rfl), ⟨He.exm_ok (c.chk 51 (f := cExm "BadName" "MeasureError" true) rfl)⟩, of_decide_eq_true (c.chk 52 (f := cKit "BadName" "BadName" true) rfl), of_decide_eq_true (c.chk 53 (f := cKitT "BadName" "ValueError" true) rfl), of_decide_eq_true (c.chk 54 (f := cKit "BadName" "BadUnit" false) rfl)⟩
  have k_mn : CstE K mg "MOST_NAME" (.int 8) := cst_int X G (c.chk 55 (f := cInt "MOST_NAME" 8) rfl)
  have k_ms : CstE K mg "MOST_SIGNS" (.int 4000) := cst_int X G (c.chk 56 (f := cInt "MOST_SIGNS" 4000) rfl)
  have k_le : CstE K mg "LETTERS" (.str lettersS) := cst_str X G (c.chk 57 (f := cStr "LETTERS" lettersS) rfl)
  have k_si : CstE K mg "SIGNS" (.str signsS) := cst_str X G (c.chk 58 (f := cStr "SIGNS" signsS) rfl)
  have k_fi : CstE K mg "FIGURES" (.str figuresS) := cst_str X G (c.chk 59 (f := cStr "FIGURES" figuresS) rfl)
  have k_wo : CstE K mg "WORDS" (.tup (wordsL.map D.str)) := cst_tupS (He.glo_ok X G (c.chk 60 (f := cGlo "WORDS") rfl)) (c.chk 61 (f := cTupS "WORDS" wordsL) rfl)
  obtain ⟨fd_is_whole, D_is_whole⟩ := c.def_ 0 (d := d_is_whole) rfl
  obtain ⟨fd_is_name, D_is_name⟩ := c.def_ 1 (d := d_is_name) rfl
  obtain ⟨fd_need_name, D_need_name⟩ := c.def_ 2 (d := d_need_name) rfl
  obtain ⟨fd_is_text, D_is_text⟩ := c.def_ 3 (d := d_is_text) rfl
  obtain ⟨fd_is_pair, D_is_pair⟩ := c.def_ 4 (d := d_is_pair) rfl
  obtain ⟨fd_is_unit, D_is_unit⟩ := c.def_ 5 (d := d_is_unit) rfl
  obtain ⟨fd_unit_of, D_unit_of⟩ := c.def_ 6 (d := d_unit_of) rfl
  obtain ⟨fd_joined, D_joined⟩ := c.def_ 7 (d := d_joined) rfl
  obtain ⟨fd_powered, D_powered⟩ := c.def_ 8 (d := d_powered) rfl
  obtain ⟨fd_shown_unit, D_shown_unit⟩ := c.def_ 9 (d := d_shown_unit) rfl
  obtain ⟨fd_exponent_of, D_exponent_of⟩ := c.def_ 10 (d := d_exponent_of) rfl
  obtain ⟨fd_read_unit, D_read_unit⟩ := c.def_ 11 (d := d_read_unit) rfl
  obtain ⟨fd__law_mixed, D__law_mixed⟩ := c.def_ 12 (d := d__law_mixed) rfl
  obtain ⟨fd__law_number, D__law_number⟩ := c.def_ 13 (d := d__law_number) rfl
  obtain ⟨fd__law_names, D__law_names⟩ := c.def_ 14 (d := d__law_names) rfl
  obtain ⟨fd__law_sums, D__law_sums⟩ := c.def_ 15 (d := d__law_sums) rfl
  obtain ⟨fd__law_pairs, D__law_pairs⟩ := c.def_ 16 (d := d__law_pairs) rfl
  obtain ⟨fd__law_shown, D__law_shown⟩ := c.def_ 17 (d := d__law_shown) rfl
  obtain ⟨fd__law_unit_right, D__law_unit_right⟩ := c.def_ 18 (d := d__law_unit_right) rfl
  obtain ⟨fd__law_refused, D__law_refused⟩ := c.def_ 19 (d := d__law_refused) rfl
  obtain ⟨fd__law_read_right, D__law_read_right⟩ := c.def_ 20 (d := d__law_read_right) rfl
  obtain ⟨fd__law_no_unit, D__law_no_unit⟩ := c.def_ 21 (d := d__law_no_unit) rfl
  obtain ⟨fd__law_signs, D__law_signs⟩ := c.def_ 22 (d := d__law_signs) rfl
  obtain ⟨fd_law, D_law⟩ := c.def_ 23 (d := d_law) rfl
  have e := hfa.symm.trans g_law
  cases e
  refine ⟨fd_law, fun s v => FunD.bindsA (ps := ["_law_script"]) D_law (fun _ _ _ _ _ _ us hl => match us, hl with | [_], _ => rfl) s [v] rfl, fun base _ _ => ?_⟩
  have K_is_whole := fn_okF (P := P) (w := w) (mg := mg) (base := base) (S := S_is_whole) D_is_whole bk_is_whole (fun ds r h => by first | (obtain ⟨_, h, _⟩ := h; rw [h]; rfl; done) | (obtain ⟨_, _, h, _⟩ := h; rw [h]; rfl; done) | (obtain ⟨_, _, _, h, _⟩ := h; rw [h]; rfl; done) | (obtain ⟨_, _, _, _, h, _⟩ := h; rw [h]; rfl; done) | (obtain ⟨_, _, _, _, _, h, _⟩ := h; rw [h]; rfl; done) | (obtain ⟨_, _, _, _, _, _, h, _⟩ := h; rw [h]; rfl; done) | (obtain ⟨_, _, _, _, _, _, _, h, _⟩ := h; rw [h]; rfl; done) | (obtain ⟨_, _, _, _, _, _, _, _, h, _⟩ := h; rw [h]; rfl; done) | (rcases h with h | h <;> (first | (obtain ⟨_, h, _⟩ := h; rw [h]; rfl; done) | (obtain ⟨_, _, h, _⟩ := h; rw [h]; rfl; done) | (obtain ⟨_, _, _, h, _⟩ := h; rw [h]; rfl; done) | (obtain ⟨_, _, _, _, h, _⟩ := h; rw [h]; rfl; done) | (obtain ⟨_, _, _, _, _, h, _⟩ := h; rw [h]; rfl; done) | (obtain ⟨_, _, _, _, _, _, h, _⟩ := h; rw [h]; rfl; done) | (obtain ⟨_, _, _, _, _, _, _, h, _⟩ := h; rw [h]; rfl; done) | (obtain ⟨_, _, _, _, _, _, _, _, h, _⟩ := h; rw [h]; rfl; done))) | (rcases h with h | h | h <;> (first | (obtain ⟨_, h, _⟩ := h; rw [h]; rfl; done) | (obtain ⟨_, _, h, _⟩ := h; rw [h]; rfl; done) | (obtain ⟨_, _, _, h, _⟩ := h; rw [h]; rfl; done) | (obtain ⟨_, _, _, _, h, _⟩ := h; rw [h]; rfl; done) | (obtain ⟨_, _, _, _, _, h, _⟩ := h; rw [h]; rfl; done) | (obtain ⟨_, _, _, _, _, _, h, _⟩ := h; rw [h]; rfl; done) | (obtain ⟨_, _, _, _, _, _, _, h, _⟩ := h; rw [h]; rfl; done) | (obtain ⟨_, _, _, _, _, _, _, _, h, _⟩ := h; rw [h]; rfl; done))) | (rcases h with h | h | h | h <;> (first | (obtain ⟨_, h, _⟩ := h; rw [h]; rfl; done) | (obtain ⟨_, _, h, _⟩ := h; rw [h]; rfl; done) | (obtain ⟨_, _, _, h, _⟩ := h; rw [h]; rfl; done) | (obtain ⟨_, _, _, _, h, _⟩ := h; rw [h]; rfl; done) | (obtain ⟨_, _, _, _, _, h, _⟩ := h; rw [h]; rfl; done) | (obtain ⟨_, _, _, _, _, _, h, _⟩ := h; rw [h]; rfl; done) | (obtain ⟨_, _, _, _, _, _, _, h, _⟩ := h; rw [h]; rfl; done) | (obtain ⟨_, _, _, _, _, _, _, _, h, _⟩ := h; rw [h]; rfl; done)))) (fun Y hP hw hK hm hb B Gs G' ds r h => by subst hP hw hK hm hb; apply b_is_whole <;> assumption)
  have E_is_whole := fnE_of K_is_whole g_is_whole D_is_whole.kp (D_is_whole.bindsN fun _ _ _ _ _ _ us hl => match us, hl with | [_], _ => rfl)
  have K_is_name := fn_okF (P := P) (w := w) (mg := mg) (base := base) (S := S_is_name) D_is_name bk_is_name (fun ds r h => by first | (obtain ⟨_, h, _⟩ := h; rw [h]; rfl; done) | (obtain ⟨_, _, h, _⟩ := h; rw [h]; rfl; done) | (obtain ⟨_, _, _, h, _⟩ := h; rw [h]; rfl; done) | (obtain ⟨_, _, _, _, h, _⟩ := h; rw [h]; rfl; done) | (obtain ⟨_, _, _, _, _, h, _⟩ := h; rw [h]; rfl; done) | (obtain ⟨_, _, _, _, _, _, h, _⟩ := h; rw [h]; rfl; done) | (obtain ⟨_, _, _, _, _, _, _, h, _⟩ := h; rw [h]; rfl; done) | (obtain ⟨_, _, _, _, _, _, _, _, h, _⟩ := h; rw [h]; rfl; done) | (rcases h with h | h <;> (first | (obtain ⟨_, h, _⟩ := h; rw [h]; rfl; done) | (obtain ⟨_, _, h, _⟩ := h; rw [h]; rfl; done) | (obtain ⟨_, _, _, h, _⟩ := h; rw [h]; rfl; done) | (obtain ⟨_, _, _, _, h, _⟩ := h; rw [h]; rfl; done) | (obtain ⟨_, _, _, _, _, h, _⟩ := h; rw [h]; rfl; done) | (obtain ⟨_, _, _, _, _, _, h, _⟩ := h; rw [h]; rfl; done) | (obtain ⟨_, _, _, _, _, _, _, h, _⟩ := h; rw [h]; rfl; done) | (obtain ⟨_, _, _, _, _, _, _, _, h, _⟩ := h; rw [h]; rfl; done))) | (rcases h with h | h | h <;> (first | (obtain ⟨_, h, _⟩ := h; rw [h]; rfl; done) | (obtain ⟨_, _, h, _⟩ := h; rw [h]; rfl; done) | (obtain ⟨_, _, _, h, _⟩ := h; rw [h]; rfl; done) | (obtain ⟨_, _, _, _, h, _⟩ := h; rw [h]; rfl; done) | (obtain ⟨_, _, _, _, _, h, _⟩ := h; rw [h]; rfl; done) | (obtain ⟨_, _, _, _, _, _, h, _⟩ := h; rw [h]; rfl; done) | (obtain ⟨_, _, _, _, _, _, _, h, _⟩ := h; rw [h]; rfl; done) | (obtain ⟨_, _, _, _, _, _, _, _, h, _⟩ := h; rw [h]; rfl; done))) | (rcases h with h | h | h | h <;> (first | (obtain ⟨_, h, _⟩ := h; rw [h]; rfl; done) | (obtain ⟨_, _, h, _⟩ := h; rw [h]; rfl; done) | (obtain ⟨_, _, _, h, _⟩ := h; rw [h]; rfl; done) | (obtain ⟨_, _, _, _, h, _⟩ := h; rw [h]; rfl; done) | (obtain ⟨_, _, _, _, _, h, _⟩ := h; rw [h]; rfl; done) | (obtain ⟨_, _, _, _, _, _, h, _⟩ := h; rw [h]; rfl; done) | (obtain ⟨_, _, _, _, _, _, _, h, _⟩ := h; rw [h]; rfl; done) | (obtain ⟨_, _, _, _, _, _, _, _, h, _⟩ := h; rw [h]; rfl; done)))) (fun Y hP hw hK hm hb B Gs G' ds r h => by subst hP hw hK hm hb; apply b_is_name <;> assumption)
  have E_is_name := fnE_of K_is_name g_is_name D_is_name.kp (D_is_name.bindsN fun _ _ _ _ _ _ us hl => match us, hl with | [_], _ => rfl)
  have K_need_name := fn_okF (P := P) (w := w) (mg := mg) (base := base) (S := (S_need_name (He.ga K "BadName"))) D_need_name bk_need_name (fun ds r h => by first | (obtain ⟨_, h, _⟩ := h; rw [h]; rfl; done) | (obtain ⟨_, _, h, _⟩ := h; rw [h]; rfl; done) | (obtain ⟨_, _, _, h, _⟩ := h; rw [h]; rfl; done) | (obtain ⟨_, _, _, _, h, _⟩ := h; rw [h]; rfl; done) | (obtain ⟨_, _, _, _, _, h, _⟩ := h; rw [h]; rfl; done) | (obtain ⟨_, _, _, _, _, _, h, _⟩ := h; rw [h]; rfl; done) | (obtain ⟨_, _, _, _, _, _, _, h, _⟩ := h; rw [h]; rfl; done) | (obtain ⟨_, _, _, _, _, _, _, _, h, _⟩ := h; rw [h]; rfl; done) | (rcases h with h | h <;> (first | (obtain ⟨_, h, _⟩ := h; rw [h]; rfl; done) | (obtain ⟨_, _, h, _⟩ := h; rw [h]; rfl; done) | (obtain ⟨_, _, _, h, _⟩ := h; rw [h]; rfl; done) | (obtain ⟨_, _, _, _, h, _⟩ := h; rw [h]; rfl; done) | (obtain ⟨_, _, _, _, _, h, _⟩ := h; rw [h]; rfl; done) | (obtain ⟨_, _, _, _, _, _, h, _⟩ := h; rw [h]; rfl; done) | (obtain ⟨_, _, _, _, _, _, _, h, _⟩ := h; rw [h]; rfl; done) | (obtain ⟨_, _, _, _, _, _, _, _, h, _⟩ := h; rw [h]; rfl; done))) | (rcases h with h | h | h <;> (first | (obtain ⟨_, h, _⟩ := h; rw [h]; rfl; done) | (obtain ⟨_, _, h, _⟩ := h; rw [h]; rfl; done) | (obtain ⟨_, _, _, h, _⟩ := h; rw [h]; rfl; done) | (obtain ⟨_, _, _, _, h, _⟩ := h; rw [h]; rfl; done) | (obtain ⟨_, _, _, _, _, h, _⟩ := h; rw [h]; rfl; done) | (obtain ⟨_, _, _, _, _, _, h, _⟩ := h; rw [h]; rfl; done) | (obtain ⟨_, _, _, _, _, _, _, h, _⟩ := h; rw [h]; rfl; done) | (obtain ⟨_, _, _, _, _, _, _, _, h, _⟩ := h; rw [h]; rfl; done))) | (rcases h with h | h | h | h <;> (first | (obtain ⟨_, h, _⟩ := h; rw [h]; rfl; done) | (obtain ⟨_, _, h, _⟩ := h; rw [h]; rfl; done) | (obtain ⟨_, _, _, h, _⟩ := h; rw [h]; rfl; done) | (obtain ⟨_, _, _, _, h, _⟩ := h; rw [h]; rfl; done) | (obtain ⟨_, _, _, _, _, h, _⟩ := h; rw [h]; rfl; done) | (obtain ⟨_, _, _, _, _, _, h, _⟩ := h; rw [h]; rfl; done) | (obtain ⟨_, _, _, _, _, _, _, h, _⟩ := h; rw [h]; rfl; done) | (obtain ⟨_, _, _, _, _, _, _, _, h, _⟩ := h; rw [h]; rfl; done)))) (fun Y hP hw hK hm hb B Gs G' ds r h => by subst hP hw hK hm hb; apply b_need_name <;> assumption)
  have E_need_name := fnE_of K_need_name g_need_name D_need_name.kp (D_need_name.bindsN fun _ _ _ _ _ _ us hl => match us, hl with | [_], _ => rfl)
  have K_is_text := fn_okF (P := P) (w := w) (mg := mg) (base := base) (S := S_is_text) D_is_text bk_is_text (fun ds r h => by first | (obtain ⟨_, h, _⟩ := h; rw [h]; rfl; done) | (obtain ⟨_, _, h, _⟩ := h; rw [h]; rfl; done) | (obtain ⟨_, _, _, h, _⟩ := h; rw [h]; rfl; done) | (obtain ⟨_, _, _, _, h, _⟩ := h; rw [h]; rfl; done) | (obtain ⟨_, _, _, _, _, h, _⟩ := h; rw [h]; rfl; done) | (obtain ⟨_, _, _, _, _, _, h, _⟩ := h; rw [h]; rfl; done) | (obtain ⟨_, _, _, _, _, _, _, h, _⟩ := h; rw [h]; rfl; done) | (obtain ⟨_, _, _, _, _, _, _, _, h, _⟩ := h; rw [h]; rfl; done) | (rcases h with h | h <;> (first | (obtain ⟨_, h, _⟩ := h; rw [h]; rfl; done) | (obtain ⟨_, _, h, _⟩ := h; rw [h]; rfl; done) | (obtain ⟨_, _, _, h, _⟩ := h; rw [h]; rfl; done) | (obtain ⟨_, _, _, _, h, _⟩ := h; rw [h]; rfl; done) | (obtain ⟨_, _, _, _, _, h, _⟩ := h; rw [h]; rfl; done) | (obtain ⟨_, _, _, _, _, _, h, _⟩ := h; rw [h]; rfl; done) | (obtain ⟨_, _, _, _, _, _, _, h, _⟩ := h; rw [h]; rfl; done) | (obtain ⟨_, _, _, _, _, _, _, _, h, _⟩ := h; rw [h]; rfl; done))) | (rcases h with h | h | h <;> (first | (obtain ⟨_, h, _⟩ := h; rw [h]; rfl; done) | (obtain ⟨_, _, h, _⟩ := h; rw [h]; rfl; done) | (obtain ⟨_, _, _, h, _⟩ := h; rw [h]; rfl; done) | (obtain ⟨_, _, _, _, h, _⟩ := h; rw [h]; rfl; done) | (obtain ⟨_, _, _, _, _, h, _⟩ := h; rw [h]; rfl; done) | (obtain ⟨_, _, _, _, _, _, h, _⟩ := h; rw [h]; rfl; done) | (obtain ⟨_, _, _, _, _, _, _, h, _⟩ := h; rw [h]; rfl; done) | (obtain ⟨_, _, _, _, _, _, _, _, h, _⟩ := h; rw [h]; rfl; done))) | (rcases h with h | h | h | h <;> (first | (obtain ⟨_, h, _⟩ := h; rw [h]; rfl; done) | (obtain ⟨_, _, h, _⟩ := h; rw [h]; rfl; done) | (obtain ⟨_, _, _, h, _⟩ := h; rw [h]; rfl; done) | (obtain ⟨_, _, _, _, h, _⟩ := h; rw [h]; rfl; done) | (obtain ⟨_, _, _, _, _, h, _⟩ := h; rw [h]; rfl; done) | (obtain ⟨_, _, _, _, _, _, h, _⟩ := h; rw [h]; rfl; done) | (obtain ⟨_, _, _, _, _, _, _, h, _⟩ := h; rw [h]; rfl; done) | (obtain ⟨_, _, _, _, _, _, _, _, h, _⟩ := h; rw [h]; rfl; done)))) (fun Y hP hw hK hm hb B Gs G' ds r h => by subst hP hw hK hm hb; apply b_is_text <;> assumption)
  have E_is_text := fnE_of K_is_text g_is_text D_is_text.kp (D_is_text.bindsN fun _ _ _ _ _ _ us hl => match us, hl with | [_], _ => rfl)
  have K_is_pair := fn_okF (P := P) (w := w) (mg := mg) (base := base) (S := S_is_pair) D_is_pair bk_is_pair (fun ds r h => by first | (obtain ⟨_, h, _⟩ := h; rw [h]; rfl; done) | (obtain ⟨_, _, h, _⟩ := h; rw [h]; rfl; done) | (obtain ⟨_, _, _, h, _⟩ := h; rw [h]; rfl; done) | (obtain ⟨_, _, _, _, h, _⟩ := h; rw [h]; rfl; done) | (obtain ⟨_, _, _, _, _, h, _⟩ := h; rw [h]; rfl; done) | (obtain ⟨_, _, _, _, _, _, h, _⟩ := h; rw [h]; rfl; done) | (obtain ⟨_, _, _, _, _, _, _, h, _⟩ := h; rw [h]; rfl; done) | (obtain ⟨_, _, _, _, _, _, _, _, h, _⟩ := h; rw [h]; rfl; done) | (rcases h with h | h <;> (first | (obtain ⟨_, h, _⟩ := h; rw [h]; rfl; done) | (obtain ⟨_, _, h, _⟩ := h; rw [h]; rfl; done) | (obtain ⟨_, _, _, h, _⟩ := h; rw [h]; rfl; done) | (obtain ⟨_, _, _, _, h, _⟩ := h; rw [h]; rfl; done) | (obtain ⟨_, _, _, _, _, h, _⟩ := h; rw [h]; rfl; done) | (obtain ⟨_, _, _, _, _, _, h, _⟩ := h; rw [h]; rfl; done) | (obtain ⟨_, _, _, _, _, _, _, h, _⟩ := h; rw [h]; rfl; done) | (obtain ⟨_, _, _, _, _, _, _, _, h, _⟩ := h; rw [h]; rfl; done))) | (rcases h with h | h | h <;> (first | (obtain ⟨_, h, _⟩ := h; rw [h]; rfl; done) | (obtain ⟨_, _, h, _⟩ := h; rw [h]; rfl; done) | (obtain ⟨_, _, _, h, _⟩ := h; rw [h]; rfl; done) | (obtain ⟨_, _, _, _, h, _⟩ := h; rw [h]; rfl; done) | (obtain ⟨_, _, _, _, _, h, _⟩ := h; rw [h]; rfl; done) | (obtain ⟨_, _, _, _, _, _, h, _⟩ := h; rw [h]; rfl; done) | (obtain ⟨_, _, _, _, _, _, _, h, _⟩ := h; rw [h]; rfl; done) | (obtain ⟨_, _, _, _, _, _, _, _, h, _⟩ := h; rw [h]; rfl; done))) | (rcases h with h | h | h | h <;> (first | (obtain ⟨_, h, _⟩ := h; rw [h]; rfl; done) | (obtain ⟨_, _, h, _⟩ := h; rw [h]; rfl; done) | (obtain ⟨_, _, _, h, _⟩ := h; rw [h]; rfl; done) | (obtain ⟨_, _, _, _, h, _⟩ := h; rw [h]; rfl; done) | (obtain ⟨_, _, _, _, _, h, _⟩ := h; rw [h]; rfl; done) | (obtain ⟨_, _, _, _, _, _, h, _⟩ := h; rw [h]; rfl; done) | (obtain ⟨_, _, _, _, _, _, _, h, _⟩ := h; rw [h]; rfl; done) | (obtain ⟨_, _, _, _, _, _, _, _, h, _⟩ := h; rw [h]; rfl; done)))) (fun Y hP hw hK hm hb B Gs G' ds r h => by subst hP hw hK hm hb; apply b_is_pair <;> assumption)
  have E_is_pair := fnE_of K_is_pair g_is_pair D_is_pair.kp (D_is_pair.bindsN fun _ _ _ _ _ _ us hl => match us, hl with | [_], _ => rfl)
  have K_is_unit := fn_okF (P := P) (w := w) (mg := mg) (base := base) (S := S_is_unit) D_is_unit bk_is_unit (fun ds r h => by first | (obtain ⟨_, h, _⟩ := h; rw [h]; rfl; done) | (obtain ⟨_, _, h, _⟩ := h; rw [h]; rfl; done) | (obtain ⟨_, _, _, h, _⟩ := h; rw [h]; rfl; done) | (obtain ⟨_, _, _, _, h, _⟩ := h; rw [h]; rfl; done) | (obtain ⟨_, _, _, _, _, h, _⟩ := h; rw [h]; rfl; done) | (obtain ⟨_, _, _, _, _, _, h, _⟩ := h; rw [h]; rfl; done) | (obtain ⟨_, _, _, _, _, _, _, h, _⟩ := h; rw [h]; rfl; done) | (obtain ⟨_, _, _, _, _, _, _, _, h, _⟩ := h; rw [h]; rfl; done) | (rcases h with h | h <;> (first | (obtain ⟨_, h, _⟩ := h; rw [h]; rfl; done) | (obtain ⟨_, _, h, _⟩ := h; rw [h]; rfl; done) | (obtain ⟨_, _, _, h, _⟩ := h; rw [h]; rfl; done) | (obtain ⟨_, _, _, _, h, _⟩ := h; rw [h]; rfl; done) | (obtain ⟨_, _, _, _, _, h, _⟩ := h; rw [h]; rfl; done) | (obtain ⟨_, _, _, _, _, _, h, _⟩ := h; rw [h]; rfl; done) | (obtain ⟨_, _, _, _, _, _, _, h, _⟩ := h; rw [h]; rfl; done) | (obtain ⟨_, _, _, _, _, _, _, _, h, _⟩ := h; rw [h]; rfl; done))) | (rcases h with h | h | h <;> (first | (obtain ⟨_, h, _⟩ := h; rw [h]; rfl; done) | (obtain ⟨_, _, h, _⟩ := h; rw [h]; rfl; done) | (obtain ⟨_, _, _, h, _⟩ := h; rw [h]; rfl; done) | (obtain ⟨_, _, _, _, h, _⟩ := h; rw [h]; rfl; done) | (obtain ⟨_, _, _, _, _, h, _⟩ := h; rw [h]; rfl; done) | (obtain ⟨_, _, _, _, _, _, h, _⟩ := h; rw [h]; rfl; done) | (obtain ⟨_, _, _, _, _, _, _, h, _⟩ := h; rw [h]; rfl; done) | (obtain ⟨_, _, _, _, _, _, _, _, h, _⟩ := h; rw [h]; rfl; done))) | (rcases h with h | h | h | h <;> (first | (obtain ⟨_, h, _⟩ := h; rw [h]; rfl; done) | (obtain ⟨_, _, h, _⟩ := h; rw [h]; rfl; done) | (obtain ⟨_, _, _, h, _⟩ := h; rw [h]; rfl; done) | (obtain ⟨_, _, _, _, h, _⟩ := h; rw [h]; rfl; done) | (obtain ⟨_, _, _, _, _, h, _⟩ := h; rw [h]; rfl; done) | (obtain ⟨_, _, _, _, _, _, h, _⟩ := h; rw [h]; rfl; done) | (obtain ⟨_, _, _, _, _, _, _, h, _⟩ := h; rw [h]; rfl; done) | (obtain ⟨_, _, _, _, _, _, _, _, h, _⟩ := h; rw [h]; rfl; done)))) (fun Y hP hw hK hm hb B Gs G' ds r h => by subst hP hw hK hm hb; apply b_is_unit <;> assumption)
  have E_is_unit := fnE_of K_is_unit g_is_unit D_is_unit.kp (D_is_unit.bindsN fun _ _ _ _ _ _ us hl => match us, hl with | [_], _ => rfl)
  have K_unit_of := fn_okF (P := P) (w := w) (mg := mg) (base := base) (S := (S_unit_of (He.ga K "BadUnit"))) D_unit_of bk_unit_of (fun ds r h => by first | (obtain ⟨_, h, _⟩ := h; rw [h]; rfl; done) | (obtain ⟨_, _, h, _⟩ := h; rw [h]; rfl; done) | (obtain ⟨_, _, _, h, _⟩ := h; rw [h]; rfl; done) | (obtain ⟨_, _, _, _, h, _⟩ := h; rw [h]; rfl; done) | (obtain ⟨_, _, _, _, _, h, _⟩ := h; rw [h]; rfl; done) | (obtain ⟨_, _, _, _, _, _, h, _⟩ := h; rw [h]; rfl; done) | (obtain ⟨_, _, _, _, _, _, _, h, _⟩ := h; rw [h]; rfl; done) | (obtain ⟨_, _, _, _, _, _, _, _, h, _⟩ := h; rw [h]; rfl; done) | (rcases h with h | h <;> (first | (obtain ⟨_, h, _⟩ := h; rw [h]; rfl; done) | (obtain ⟨_, _, h, _⟩ := h; rw [h]; rfl; done) | (obtain ⟨_, _, _, h, _⟩ := h; rw [h]; rfl; done) | (obtain ⟨_, _, _, _, h, _⟩ := h; rw [h]; rfl; done) | (obtain ⟨_, _, _, _, _, h, _⟩ := h; rw [h]; rfl; done) | (obtain ⟨_, _, _, _, _, _, h, _⟩ := h; rw [h]; rfl; done) | (obtain ⟨_, _, _, _, _, _, _, h, _⟩ := h; rw [h]; rfl; done) | (obtain ⟨_, _, _, _, _, _, _, _, h, _⟩ := h; rw [h]; rfl; done))) | (rcases h with h | h | h <;> (first | (obtain ⟨_, h, _⟩ := h; rw [h]; rfl; done) | (obtain ⟨_, _, h, _⟩ := h; rw [h]; rfl; done) | (obtain ⟨_, _, _, h, _⟩ := h; rw [h]; rfl; done) | (obtain ⟨_, _, _, _, h, _⟩ := h; rw [h]; rfl; done) | (obtain ⟨_, _, _, _, _, h, _⟩ := h; rw [h]; rfl; done) | (obtain ⟨_, _, _, _, _, _, h, _⟩ := h; rw [h]; rfl; done) | (obtain ⟨_, _, _, _, _, _, _, h, _⟩ := h; rw [h]; rfl; done) | (obtain ⟨_, _, _, _, _, _, _, _, h, _⟩ := h; rw [h]; rfl; done))) | (rcases h with h | h | h | h <;> (first | (obtain ⟨_, h, _⟩ := h; rw [h]; rfl; done) | (obtain ⟨_, _, h, _⟩ := h; rw [h]; rfl; done) | (obtain ⟨_, _, _, h, _⟩ := h; rw [h]; rfl; done) | (obtain ⟨_, _, _, _, h, _⟩ := h; rw [h]; rfl; done) | (obtain ⟨_, _, _, _, _, h, _⟩ := h; rw [h]; rfl; done) | (obtain ⟨_, _, _, _, _, _, h, _⟩ := h; rw [h]; rfl; done) | (obtain ⟨_, _, _, _, _, _, _, h, _⟩ := h; rw [h]; rfl; done) | (obtain ⟨_, _, _, _, _, _, _, _, h, _⟩ := h; rw [h]; rfl; done)))) (fun Y hP hw hK hm hb B Gs G' ds r h => by subst hP hw hK hm hb; apply b_unit_of <;> assumption)
  have E_unit_of := fnE_of K_unit_of g_unit_of D_unit_of.kp (D_unit_of.bindsN fun _ _ _ _ _ _ us hl => match us, hl with | [_], _ => rfl)
  have K_joined := fn_okF (P := P) (w := w) (mg := mg) (base := base) (S := S_joined) D_joined bk_joined (fun ds r h => by first | (obtain ⟨_, h, _⟩ := h; rw [h]; rfl; done) | (obtain ⟨_, _, h, _⟩ := h; rw [h]; rfl; done) | (obtain ⟨_, _, _, h, _⟩ := h; rw [h]; rfl; done) | (obtain ⟨_, _, _, _, h, _⟩ := h; rw [h]; rfl; done) | (obtain ⟨_, _, _, _, _, h, _⟩ := h; rw [h]; rfl; done) | (obtain ⟨_, _, _, _, _, _, h, _⟩ := h; rw [h]; rfl; done) | (obtain ⟨_, _, _, _, _, _, _, h, _⟩ := h; rw [h]; rfl; done) | (obtain ⟨_, _, _, _, _, _, _, _, h, _⟩ := h; rw [h]; rfl; done) | (rcases h with h | h <;> (first | (obtain ⟨_, h, _⟩ := h; rw [h]; rfl; done) | (obtain ⟨_, _, h, _⟩ := h; rw [h]; rfl; done) | (obtain ⟨_, _, _, h, _⟩ := h; rw [h]; rfl; done) | (obtain ⟨_, _, _, _, h, _⟩ := h; rw [h]; rfl; done) | (obtain ⟨_, _, _, _, _, h, _⟩ := h; rw [h]; rfl; done) | (obtain ⟨_, _, _, _, _, _, h, _⟩ := h; rw [h]; rfl; done) | (obtain ⟨_, _, _, _, _, _, _, h, _⟩ := h; rw [h]; rfl; done) | (obtain ⟨_, _, _, _, _, _, _, _, h, _⟩ := h; rw [h]; rfl; done))) | (rcases h with h | h | h <;> (first | (obtain ⟨_, h, _⟩ := h; rw [h]; rfl; done) | (obtain ⟨_, _, h, _⟩ := h; rw [h]; rfl; done) | (obtain ⟨_, _, _, h, _⟩ := h; rw [h]; rfl; done) | (obtain ⟨_, _, _, _, h, _⟩ := h; rw [h]; rfl; done) | (obtain ⟨_, _, _, _, _, h, _⟩ := h; rw [h]; rfl; done) | (obtain ⟨_, _, _, _, _, _, h, _⟩ := h; rw [h]; rfl; done) | (obtain ⟨_, _, _, _, _, _, _, h, _⟩ := h; rw [h]; rfl; done) | (obtain ⟨_, _, _, _, _, _, _, _, h, _⟩ := h; rw [h]; rfl; done))) | (rcases h with h | h | h | h <;> (first | (obtain ⟨_, h, _⟩ := h; rw [h]; rfl; done) | (obtain ⟨_, _, h, _⟩ := h; rw [h]; rfl; done) | (obtain ⟨_, _, _, h, _⟩ := h; rw [h]; rfl; done) | (obtain ⟨_, _, _, _, h, _⟩ := h; rw [h]; rfl; done) | (obtain ⟨_, _, _, _, _, h, _⟩ := h; rw [h]; rfl; done) | (obtain ⟨_, _, _, _, _, _, h, _⟩ := h; rw [h]; rfl; done) | (obtain ⟨_, _, _, _, _, _, _, h, _⟩ := h; rw [h]; rfl; done) | (obtain ⟨_, _, _, _, _, _, _, _, h, _⟩ := h; rw [h]; rfl; done)))) (fun Y hP hw hK hm hb B Gs G' ds r h => by subst hP hw hK hm hb; apply b_joined <;> assumption)
  have E_joined := fnE_of K_joined g_joined D_joined.kp (D_joined.bindsN fun _ _ _ _ _ _ us hl => match us, hl with | [_, _], _ => rfl)
  have K_powered := fn_okF (P := P) (w := w) (mg := mg) (base := base) (S := S_powered) D_powered bk_powered (fun ds r h => by first | (obtain ⟨_, h, _⟩ := h; rw [h]; rfl; done) | (obtain ⟨_, _, h, _⟩ := h; rw [h]; rfl; done) | (obtain ⟨_, _, _, h, _⟩ := h; rw [h]; rfl; done) | (obtain ⟨_, _, _, _, h, _⟩ := h; rw [h]; rfl; done) | (obtain ⟨_, _, _, _, _, h, _⟩ := h; rw [h]; rfl; done) | (obtain ⟨_, _, _, _, _, _, h, _⟩ := h; rw [h]; rfl; done) | (obtain ⟨_, _, _, _, _, _, _, h, _⟩ := h; rw [h]; rfl; done) | (obtain ⟨_, _, _, _, _, _, _, _, h, _⟩ := h; rw [h]; rfl; done) | (rcases h with h | h <;> (first | (obtain ⟨_, h, _⟩ := h; rw [h]; rfl; done) | (obtain ⟨_, _, h, _⟩ := h; rw [h]; rfl; done) | (obtain ⟨_, _, _, h, _⟩ := h; rw [h]; rfl; done) | (obtain ⟨_, _, _, _, h, _⟩ := h; rw [h]; rfl; done) | (obtain ⟨_, _, _, _, _, h, _⟩ := h; rw [h]; rfl; done) | (obtain ⟨_, _, _, _, _, _, h, _⟩ := h; rw [h]; rfl; done) | (obtain ⟨_, _, _, _, _, _, _, h, _⟩ := h; rw [h]; rfl; done) | (obtain ⟨_, _, _, _, _, _, _, _, h, _⟩ := h; rw [h]; rfl; done))) | (rcases h with h | h | h <;> (first | (obtain ⟨_, h, _⟩ := h; rw [h]; rfl; done) | (obtain ⟨_, _, h, _⟩ := h; rw [h]; rfl; done) | (obtain ⟨_, _, _, h, _⟩ := h; rw [h]; rfl; done) | (obtain ⟨_, _, _, _, h, _⟩ := h; rw [h]; rfl; done) | (obtain ⟨_, _, _, _, _, h, _⟩ := h; rw [h]; rfl; done) | (obtain ⟨_, _, _, _, _, _, h, _⟩ := h; rw [h]; rfl; done) | (obtain ⟨_, _, _, _, _, _, _, h, _⟩ := h; rw [h]; rfl; done) | (obtain ⟨_, _, _, _, _, _, _, _, h, _⟩ := h; rw [h]; rfl; done))) | (rcases h with h | h | h | h <;> (first | (obtain ⟨_, h, _⟩ := h; rw [h]; rfl; done) | (obtain ⟨_, _, h, _⟩ := h; rw [h]; rfl; done) | (obtain ⟨_, _, _, h, _⟩ := h; rw [h]; rfl; done) | (obtain ⟨_, _, _, _, h, _⟩ := h; rw [h]; rfl; done) | (obtain ⟨_, _, _, _, _, h, _⟩ := h; rw [h]; rfl; done) | (obtain ⟨_, _, _, _, _, _, h, _⟩ := h; rw [h]; rfl; done) | (obtain ⟨_, _, _, _, _, _, _, h, _⟩ := h; rw [h]; rfl; done) | (obtain ⟨_, _, _, _, _, _, _, _, h, _⟩ := h; rw [h]; rfl; done)))) (fun Y hP hw hK hm hb B Gs G' ds r h => by subst hP hw hK hm hb; apply b_powered <;> assumption)
  have E_powered := fnE_of K_powered g_powered D_powered.kp (D_powered.bindsN fun _ _ _ _ _ _ us hl => match us, hl with | [_, _], _ => rfl)
  have K_shown_unit := fn_okF (P := P) (w := w) (mg := mg) (base := base) (S := S_shown_unit) D_shown_unit bk_shown_unit (fun ds r h => by first | (obtain ⟨_, h, _⟩ := h; rw [h]; rfl; done) | (obtain ⟨_, _, h, _⟩ := h; rw [h]; rfl; done) | (obtain ⟨_, _, _, h, _⟩ := h; rw [h]; rfl; done) | (obtain ⟨_, _, _, _, h, _⟩ := h; rw [h]; rfl; done) | (obtain ⟨_, _, _, _, _, h, _⟩ := h; rw [h]; rfl; done) | (obtain ⟨_, _, _, _, _, _, h, _⟩ := h; rw [h]; rfl; done) | (obtain ⟨_, _, _, _, _, _, _, h, _⟩ := h; rw [h]; rfl; done) | (obtain ⟨_, _, _, _, _, _, _, _, h, _⟩ := h; rw [h]; rfl; done) | (rcases h with h | h <;> (first | (obtain ⟨_, h, _⟩ := h; rw [h]; rfl; done) | (obtain ⟨_, _, h, _⟩ := h; rw [h]; rfl; done) | (obtain ⟨_, _, _, h, _⟩ := h; rw [h]; rfl; done) | (obtain ⟨_, _, _, _, h, _⟩ := h; rw [h]; rfl; done) | (obtain ⟨_, _, _, _, _, h, _⟩ := h; rw [h]; rfl; done) | (obtain ⟨_, _, _, _, _, _, h, _⟩ := h; rw [h]; rfl; done) | (obtain ⟨_, _, _, _, _, _, _, h, _⟩ := h; rw [h]; rfl; done) | (obtain ⟨_, _, _, _, _, _, _, _, h, _⟩ := h; rw [h]; rfl; done))) | (rcases h with h | h | h <;> (first | (obtain ⟨_, h, _⟩ := h; rw [h]; rfl; done) | (obtain ⟨_, _, h, _⟩ := h; rw [h]; rfl; done) | (obtain ⟨_, _, _, h, _⟩ := h; rw [h]; rfl; done) | (obtain ⟨_, _, _, _, h, _⟩ := h; rw [h]; rfl; done) | (obtain ⟨_, _, _, _, _, h, _⟩ := h; rw [h]; rfl; done) | (obtain ⟨_, _, _, _, _, _, h, _⟩ := h; rw [h]; rfl; done) | (obtain ⟨_, _, _, _, _, _, _, h, _⟩ := h; rw [h]; rfl; done) | (obtain ⟨_, _, _, _, _, _, _, _, h, _⟩ := h; rw [h]; rfl; done))) | (rcases h with h | h | h | h <;> (first | (obtain ⟨_, h, _⟩ := h; rw [h]; rfl; done) | (obtain ⟨_, _, h, _⟩ := h; rw [h]; rfl; done) | (obtain ⟨_, _, _, h, _⟩ := h; rw [h]; rfl; done) | (obtain ⟨_, _, _, _, h, _⟩ := h; rw [h]; rfl; done) | (obtain ⟨_, _, _, _, _, h, _⟩ := h; rw [h]; rfl; done) | (obtain ⟨_, _, _, _, _, _, h, _⟩ := h; rw [h]; rfl; done) | (obtain ⟨_, _, _, _, _, _, _, h, _⟩ := h; rw [h]; rfl; done) | (obtain ⟨_, _, _, _, _, _, _, _, h, _⟩ := h; rw [h]; rfl; done)))) (fun Y hP hw hK hm hb B Gs G' ds r h => by subst hP hw hK hm hb; apply b_shown_unit <;> assumption)
  have E_shown_unit := fnE_of K_shown_unit g_shown_unit D_shown_unit.kp (D_shown_unit.bindsN fun _ _ _ _ _ _ us hl => match us, hl with | [_], _ => rfl)
  have K_exponent_of := fn_okF (P := P) (w := w) (mg := mg) (base := base) (S := S_exponent_of) D_exponent_of bk_exponent_of (fun ds r h => by first | (obtain ⟨_, h, _⟩ := h; rw [h]; rfl; done) | (obtain ⟨_, _, h, _⟩ := h; rw [h]; rfl; done) | (obtain ⟨_, _, _, h, _⟩ := h; rw [h]; rfl; done) | (obtain ⟨_, _, _, _, h, _⟩ := h; rw [h]; rfl; done) | (obtain ⟨_, _, _, _, _, h, _⟩ := h; rw [h]; rfl; done) | (obtain ⟨_, _, _, _, _, _, h, _⟩ := h; rw [h]; rfl; done) | (obtain ⟨_, _, _, _, _, _, _, h, _⟩ := h; rw [h]; rfl; done) | (obtain ⟨_, _, _, _, _, _, _, _, h, _⟩ := h; rw [h]; rfl; done) | (rcases h with h | h <;> (first | (obtain ⟨_, h, _⟩ := h; rw [h]; rfl; done) | (obtain ⟨_, _, h, _⟩ := h; rw [h]; rfl; done) | (obtain ⟨_, _, _, h, _⟩ := h; rw [h]; rfl; done) | (obtain ⟨_, _, _, _, h, _⟩ := h; rw [h]; rfl; done) | (obtain ⟨_, _, _, _, _, h, _⟩ := h; rw [h]; rfl; done) | (obtain ⟨_, _, _, _, _, _, h, _⟩ := h; rw [h]; rfl; done) | (obtain ⟨_, _, _, _, _, _, _, h, _⟩ := h; rw [h]; rfl; done) | (obtain ⟨_, _, _, _, _, _, _, _, h, _⟩ := h; rw [h]; rfl; done))) | (rcases h with h | h | h <;> (first | (obtain ⟨_, h, _⟩ := h; rw [h]; rfl; done) | (obtain ⟨_, _, h, _⟩ := h; rw [h]; rfl; done) | (obtain ⟨_, _, _, h, _⟩ := h; rw [h]; rfl; done) | (obtain ⟨_, _, _, _, h, _⟩ := h; rw [h]; rfl; done) | (obtain ⟨_, _, _, _, _, h, _⟩ := h; rw [h]; rfl; done) | (obtain ⟨_, _, _, _, _, _, h, _⟩ := h; rw [h]; rfl; done) | (obtain ⟨_, _, _, _, _, _, _, h, _⟩ := h; rw [h]; rfl; done) | (obtain ⟨_, _, _, _, _, _, _, _, h, _⟩ := h; rw [h]; rfl; done))) | (rcases h with h | h | h | h <;> (first | (obtain ⟨_, h, _⟩ := h; rw [h]; rfl; done) | (obtain ⟨_, _, h, _⟩ := h; rw [h]; rfl; done) | (obtain ⟨_, _, _, h, _⟩ := h; rw [h]; rfl; done) | (obtain ⟨_, _, _, _, h, _⟩ := h; rw [h]; rfl; done) | (obtain ⟨_, _, _, _, _, h, _⟩ := h; rw [h]; rfl; done) | (obtain ⟨_, _, _, _, _, _, h, _⟩ := h; rw [h]; rfl; done) | (obtain ⟨_, _, _, _, _, _, _, h, _⟩ := h; rw [h]; rfl; done) | (obtain ⟨_, _, _, _, _, _, _, _, h, _⟩ := h; rw [h]; rfl; done)))) (fun Y hP hw hK hm hb B Gs G' ds r h => by subst hP hw hK hm hb; apply b_exponent_of <;> assumption)
  have E_exponent_of := fnE_of K_exponent_of g_exponent_of D_exponent_of.kp (D_exponent_of.bindsN fun _ _ _ _ _ _ us hl => match us, hl with | [_], _ => rfl)
  have K_read_unit := fn_okF (P := P) (w := w) (mg := mg) (base := base) (S := (S_read_unit (He.ga K "BadUnit"))) D_read_unit bk_read_unit (fun ds r h => by first | (obtain ⟨_, h, _⟩ := h; rw [h]; rfl; done) | (obtain ⟨_, _, h, _⟩ := h; rw [h]; rfl; done) | (obtain ⟨_, _, _, h, _⟩ := h; rw [h]; rfl; done) | (obtain ⟨_, _, _, _, h, _⟩ := h; rw [h]; rfl; done) | (obtain ⟨_, _, _, _, _, h, _⟩ := h; rw [h]; rfl; done) | (obtain ⟨_, _, _, _, _, _, h, _⟩ := h; rw [h]; rfl; done) | (obtain ⟨_, _, _, _, _, _, _, h, _⟩ := h; rw [h]; rfl; done) | (obtain ⟨_, _, _, _, _, _, _, _, h, _⟩ := h; rw [h]; rfl; done) | (rcases h with h | h <;> (first | (obtain ⟨_, h, _⟩ := h; rw [h]; rfl; done) | (obtain ⟨_, _, h, _⟩ := h; rw [h]; rfl; done) | (obtain ⟨_, _, _, h, _⟩ := h; rw [h]; rfl; done) | (obtain ⟨_, _, _, _, h, _⟩ := h; rw [h]; rfl; done) | (obtain ⟨_, _, _, _, _, h, _⟩ := h; rw [h]; rfl; done) | (obtain ⟨_, _, _, _, _, _, h, _⟩ := h; rw [h]; rfl; done) | (obtain ⟨_, _, _, _, _, _, _, h, _⟩ := h; rw [h]; rfl; done) | (obtain ⟨_, _, _, _, _, _, _, _, h, _⟩ := h; rw [h]; rfl; done))) | (rcases h with h | h | h <;> (first | (obtain ⟨_, h, _⟩ := h; rw [h]; rfl; done) | (obtain ⟨_, _, h, _⟩ := h; rw [h]; rfl; done) | (obtain ⟨_, _, _, h, _⟩ := h; rw [h]; rfl; done) | (obtain ⟨_, _, _, _, h, _⟩ := h; rw [h]; rfl; done) | (obtain ⟨_, _, _, _, _, h, _⟩ := h; rw [h]; rfl; done) | (obtain ⟨_, _, _, _, _, _, h, _⟩ := h; rw [h]; rfl; done) | (obtain ⟨_, _, _, _, _, _, _, h, _⟩ := h; rw [h]; rfl; done) | (obtain ⟨_, _, _, _, _, _, _, _, h, _⟩ := h; rw [h]; rfl; done))) | (rcases h with h | h | h | h <;> (first | (obtain ⟨_, h, _⟩ := h; rw [h]; rfl; done) | (obtain ⟨_, _, h, _⟩ := h; rw [h]; rfl; done) | (obtain ⟨_, _, _, h, _⟩ := h; rw [h]; rfl; done) | (obtain ⟨_, _, _, _, h, _⟩ := h; rw [h]; rfl; done) | (obtain ⟨_, _, _, _, _, h, _⟩ := h; rw [h]; rfl; done) | (obtain ⟨_, _, _, _, _, _, h, _⟩ := h; rw [h]; rfl; done) | (obtain ⟨_, _, _, _, _, _, _, h, _⟩ := h; rw [h]; rfl; done) | (obtain ⟨_, _, _, _, _, _, _, _, h, _⟩ := h; rw [h]; rfl; done)))) (fun Y hP hw hK hm hb B Gs G' ds r h => by subst hP hw hK hm hb; apply b_read_unit <;> assumption)
  have E_read_unit := fnE_of K_read_unit g_read_unit D_read_unit.kp (D_read_unit.bindsN fun _ _ _ _ _ _ us hl => match us, hl with | [_], _ => rfl)
  have K__law_mixed := fn_okF (P := P) (w := w) (mg := mg) (base := base) (S := S_mixed) D__law_mixed bk__law_mixed (fun ds r h => by first | (obtain ⟨_, h, _⟩ := h; rw [h]; rfl; done) | (obtain ⟨_, _, h, _⟩ := h; rw [h]; rfl; done) | (obtain ⟨_, _, _, h, _⟩ := h; rw [h]; rfl; done) | (obtain ⟨_, _, _, _, h, _⟩ := h; rw [h]; rfl; done) | (obtain ⟨_, _, _, _, _, h, _⟩ := h; rw [h]; rfl; done) | (obtain ⟨_, _, _, _, _, _, h, _⟩ := h; rw [h]; rfl; done) | (obtain ⟨_, _, _, _, _, _, _, h, _⟩ := h; rw [h]; rfl; done) | (obtain ⟨_, _, _, _, _, _, _, _, h, _⟩ := h; rw [h]; rfl; done) | (rcases h with h | h <;> (first | (obtain ⟨_, h, _⟩ := h; rw [h]; rfl; done) | (obtain ⟨_, _, h, _⟩ := h; rw [h]; rfl; done) | (obtain ⟨_, _, _, h, _⟩ := h; rw [h]; rfl; done) | (obtain ⟨_, _, _, _, h, _⟩ := h; rw [h]; rfl; done) | (obtain ⟨_, _, _, _, _, h, _⟩ := h; rw [h]; rfl; done) | (obtain ⟨_, _, _, _, _, _, h, _⟩ := h; rw [h]; rfl; done) | (obtain ⟨_, _, _, _, _, _, _, h, _⟩ := h; rw [h]; rfl; done) | (obtain ⟨_, _, _, _, _, _, _, _, h, _⟩ := h; rw [h]; rfl; done))) | (rcases h with h | h | h <;> (first | (obtain ⟨_, h, _⟩ := h; rw [h]; rfl; done) | (obtain ⟨_, _, h, _⟩ := h; rw [h]; rfl; done) | (obtain ⟨_, _, _, h, _⟩ := h; rw [h]; rfl; done) | (obtain ⟨_, _, _, _, h, _⟩ := h; rw [h]; rfl; done) | (obtain ⟨_, _, _, _, _, h, _⟩ := h; rw [h]; rfl; done) | (obtain ⟨_, _, _, _, _, _, h, _⟩ := h; rw [h]; rfl; done) | (obtain ⟨_, _, _, _, _, _, _, h, _⟩ := h; rw [h]; rfl; done) | (obtain ⟨_, _, _, _, _, _, _, _, h, _⟩ := h; rw [h]; rfl; done))) | (rcases h with h | h | h | h <;> (first | (obtain ⟨_, h, _⟩ := h; rw [h]; rfl; done) | (obtain ⟨_, _, h, _⟩ := h; rw [h]; rfl; done) | (obtain ⟨_, _, _, h, _⟩ := h; rw [h]; rfl; done) | (obtain ⟨_, _, _, _, h, _⟩ := h; rw [h]; rfl; done) | (obtain ⟨_, _, _, _, _, h, _⟩ := h; rw [h]; rfl; done) | (obtain ⟨_, _, _, _, _, _, h, _⟩ := h; rw [h]; rfl; done) | (obtain ⟨_, _, _, _, _, _, _, h, _⟩ := h; rw [h]; rfl; done) | (obtain ⟨_, _, _, _, _, _, _, _, h, _⟩ := h; rw [h]; rfl; done)))) (fun Y hP hw hK hm hb B Gs G' ds r h => by subst hP hw hK hm hb; apply b_law_mixed <;> assumption)
  have E__law_mixed := fnE_of K__law_mixed g__law_mixed D__law_mixed.kp (D__law_mixed.bindsN fun _ _ _ _ _ _ us hl => match us, hl with | [_, _], _ => rfl)
  have K__law_number := fn_okF (P := P) (w := w) (mg := mg) (base := base) (S := S_number) D__law_number bk__law_number (fun ds r h => by first | (obtain ⟨_, h, _⟩ := h; rw [h]; rfl; done) | (obtain ⟨_, _, h, _⟩ := h; rw [h]; rfl; done) | (obtain ⟨_, _, _, h, _⟩ := h; rw [h]; rfl; done) | (obtain ⟨_, _, _, _, h, _⟩ := h; rw [h]; rfl; done) | (obtain ⟨_, _, _, _, _, h, _⟩ := h; rw [h]; rfl; done) | (obtain ⟨_, _, _, _, _, _, h, _⟩ := h; rw [h]; rfl; done) | (obtain ⟨_, _, _, _, _, _, _, h, _⟩ := h; rw [h]; rfl; done) | (obtain ⟨_, _, _, _, _, _, _, _, h, _⟩ := h; rw [h]; rfl; done) | (rcases h with h | h <;> (first | (obtain ⟨_, h, _⟩ := h; rw [h]; rfl; done) | (obtain ⟨_, _, h, _⟩ := h; rw [h]; rfl; done) | (obtain ⟨_, _, _, h, _⟩ := h; rw [h]; rfl; done) | (obtain ⟨_, _, _, _, h, _⟩ := h; rw [h]; rfl; done) | (obtain ⟨_, _, _, _, _, h, _⟩ := h; rw [h]; rfl; done) | (obtain ⟨_, _, _, _, _, _, h, _⟩ := h; rw [h]; rfl; done) | (obtain ⟨_, _, _, _, _, _, _, h, _⟩ := h; rw [h]; rfl; done) | (obtain ⟨_, _, _, _, _, _, _, _, h, _⟩ := h; rw [h]; rfl; done))) | (rcases h with h | h | h <;> (first | (obtain ⟨_, h, _⟩ := h; rw [h]; rfl; done) | (obtain ⟨_, _, h, _⟩ := h; rw [h]; rfl; done) | (obtain ⟨_, _, _, h, _⟩ := h; rw [h]; rfl; done) | (obtain ⟨_, _, _, _, h, _⟩ := h; rw [h]; rfl; done) | (obtain ⟨_, _, _, _, _, h, _⟩ := h; rw [h]; rfl; done) | (obtain ⟨_, _, _, _, _, _, h, _⟩ := h; rw [h]; rfl; done) | (obtain ⟨_, _, _, _, _, _, _, h, _⟩ := h; rw [h]; rfl; done) | (obtain ⟨_, _, _, _, _, _, _, _, h, _⟩ := h; rw [h]; rfl; done))) | (rcases h with h | h | h | h <;> (first | (obtain ⟨_, h, _⟩ := h; rw [h]; rfl; done) | (obtain ⟨_, _, h, _⟩ := h; rw [h]; rfl; done) | (obtain ⟨_, _, _, h, _⟩ := h; rw [h]; rfl; done) | (obtain ⟨_, _, _, _, h, _⟩ := h; rw [h]; rfl; done) | (obtain ⟨_, _, _, _, _, h, _⟩ := h; rw [h]; rfl; done) | (obtain ⟨_, _, _, _, _, _, h, _⟩ := h; rw [h]; rfl; done) | (obtain ⟨_, _, _, _, _, _, _, h, _⟩ := h; rw [h]; rfl; done) | (obtain ⟨_, _, _, _, _, _, _, _, h, _⟩ := h; rw [h]; rfl; done)))) (fun Y hP hw hK hm hb B Gs G' ds r h => by subst hP hw hK hm hb; apply b_law_number <;> assumption)
  have E__law_number := fnE_of K__law_number g__law_number D__law_number.kp (D__law_number.bindsN fun _ _ _ _ _ _ us hl => match us, hl with | [_, _], _ => rfl)
  have K__law_names := fn_okF (P := P) (w := w) (mg := mg) (base := base) (S := S_names) D__law_names bk__law_names (fun ds r h => by first | (obtain ⟨_, h, _⟩ := h; rw [h]; rfl; done) | (obtain ⟨_, _, h, _⟩ := h; rw [h]; rfl; done) | (obtain ⟨_, _, _, h, _⟩ := h; rw [h]; rfl; done) | (obtain ⟨_, _, _, _, h, _⟩ := h; rw [h]; rfl; done) | (obtain ⟨_, _, _, _, _, h, _⟩ := h; rw [h]; rfl; done) | (obtain ⟨_, _, _, _, _, _, h, _⟩ := h; rw [h]; rfl; done) | (obtain ⟨_, _, _, _, _, _, _, h, _⟩ := h; rw [h]; rfl; done) | (obtain ⟨_, _, _, _, _, _, _, _, h, _⟩ := h; rw [h]; rfl; done) | (rcases h with h | h <;> (first | (obtain ⟨_, h, _⟩ := h; rw [h]; rfl; done) | (obtain ⟨_, _, h, _⟩ := h; rw [h]; rfl; done) | (obtain ⟨_, _, _, h, _⟩ := h; rw [h]; rfl; done) | (obtain ⟨_, _, _, _, h, _⟩ := h; rw [h]; rfl; done) | (obtain ⟨_, _, _, _, _, h, _⟩ := h; rw [h]; rfl; done) | (obtain ⟨_, _, _, _, _, _, h, _⟩ := h; rw [h]; rfl; done) | (obtain ⟨_, _, _, _, _, _, _, h, _⟩ := h; rw [h]; rfl; done) | (obtain ⟨_, _, _, _, _, _, _, _, h, _⟩ := h; rw [h]; rfl; done))) | (rcases h with h | h | h <;> (first | (obtain ⟨_, h, _⟩ := h; rw [h]; rfl; done) | (obtain ⟨_, _, h, _⟩ := h; rw [h]; rfl; done) | (obtain ⟨_, _, _, h, _⟩ := h; rw [h]; rfl; done) | (obtain ⟨_, _, _, _, h, _⟩ := h; rw [h]; rfl; done) | (obtain ⟨_, _, _, _, _, h, _⟩ := h; rw [h]; rfl; done) | (obtain ⟨_, _, _, _, _, _, h, _⟩ := h; rw [h]; rfl; done) | (obtain ⟨_, _, _, _, _, _, _, h, _⟩ := h; rw [h]; rfl; done) | (obtain ⟨_, _, _, _, _, _, _, _, h, _⟩ := h; rw [h]; rfl; done))) | (rcases h with h | h | h | h <;> (first | (obtain ⟨_, h, _⟩ := h; rw [h]; rfl; done) | (obtain ⟨_, _, h, _⟩ := h; rw [h]; rfl; done) | (obtain ⟨_, _, _, h, _⟩ := h; rw [h]; rfl; done) | (obtain ⟨_, _, _, _, h, _⟩ := h; rw [h]; rfl; done) | (obtain ⟨_, _, _, _, _, h, _⟩ := h; rw [h]; rfl; done) | (obtain ⟨_, _, _, _, _, _, h, _⟩ := h; rw [h]; rfl; done) | (obtain ⟨_, _, _, _, _, _, _, h, _⟩ := h; rw [h]; rfl; done) | (obtain ⟨_, _, _, _, _, _, _, _, h, _⟩ := h; rw [h]; rfl; done)))) (fun Y hP hw hK hm hb B Gs G' ds r h => by subst hP hw hK hm hb; apply b_law_names <;> assumption)
  have E__law_names := fnE_of K__law_names g__law_names D__law_names.kp (D__law_names.bindsN fun _ _ _ _ _ _ us hl => match us, hl with | [_], _ => rfl)
  have K__law_sums := fn_okF (P := P) (w := w) (mg := mg) (base := base) (S := S_sums) D__law_sums bk__law_sums (fun ds r h => by first | (obtain ⟨_, h, _⟩ := h; rw [h]; rfl; done) | (obtain ⟨_, _, h, _⟩ := h; rw [h]; rfl; done) | (obtain ⟨_, _, _, h, _⟩ := h; rw [h]; rfl; done) | (obtain ⟨_, _, _, _, h, _⟩ := h; rw [h]; rfl; done) | (obtain ⟨_, _, _, _, _, h, _⟩ := h; rw [h]; rfl; done) | (obtain ⟨_, _, _, _, _, _, h, _⟩ := h; rw [h]; rfl; done) | (obtain ⟨_, _, _, _, _, _, _, h, _⟩ := h; rw [h]; rfl; done) | (obtain ⟨_, _, _, _, _, _, _, _, h, _⟩ := h; rw [h]; rfl; done) | (rcases h with h | h <;> (first | (obtain ⟨_, h, _⟩ := h; rw [h]; rfl; done) | (obtain ⟨_, _, h, _⟩ := h; rw [h]; rfl; done) | (obtain ⟨_, _, _, h, _⟩ := h; rw [h]; rfl; done) | (obtain ⟨_, _, _, _, h, _⟩ := h; rw [h]; rfl; done) | (obtain ⟨_, _, _, _, _, h, _⟩ := h; rw [h]; rfl; done) | (obtain ⟨_, _, _, _, _, _, h, _⟩ := h; rw [h]; rfl; done) | (obtain ⟨_, _, _, _, _, _, _, h, _⟩ := h; rw [h]; rfl; done) | (obtain ⟨_, _, _, _, _, _, _, _, h, _⟩ := h; rw [h]; rfl; done))) | (rcases h with h | h | h <;> (first | (obtain ⟨_, h, _⟩ := h; rw [h]; rfl; done) | (obtain ⟨_, _, h, _⟩ := h; rw [h]; rfl; done) | (obtain ⟨_, _, _, h, _⟩ := h; rw [h]; rfl; done) | (obtain ⟨_, _, _, _, h, _⟩ := h; rw [h]; rfl; done) | (obtain ⟨_, _, _, _, _, h, _⟩ := h; rw [h]; rfl; done) | (obtain ⟨_, _, _, _, _, _, h, _⟩ := h; rw [h]; rfl; done) | (obtain ⟨_, _, _, _, _, _, _, h, _⟩ := h; rw [h]; rfl; done) | (obtain ⟨_, _, _, _, _, _, _, _, h, _⟩ := h; rw [h]; rfl; done))) | (rcases h with h | h | h | h <;> (first | (obtain ⟨_, h, _⟩ := h; rw [h]; rfl; done) | (obtain ⟨_, _, h, _⟩ := h; rw [h]; rfl; done) | (obtain ⟨_, _, _, h, _⟩ := h; rw [h]; rfl; done) | (obtain ⟨_, _, _, _, h, _⟩ := h; rw [h]; rfl; done) | (obtain ⟨_, _, _, _, _, h, _⟩ := h; rw [h]; rfl; done) | (obtain ⟨_, _, _, _, _, _, h, _⟩ := h; rw [h]; rfl; done) | (obtain ⟨_, _, _, _, _, _, _, h, _⟩ := h; rw [h]; rfl; done) | (obtain ⟨_, _, _, _, _, _, _, _, h, _⟩ := h; rw [h]; rfl; done)))) (fun Y hP hw hK hm hb B Gs G' ds r h => by subst hP hw hK hm hb; apply b_law_sums <;> assumption)
  have E__law_sums := fnE_of K__law_sums g__law_sums D__law_sums.kp (D__law_sums.bindsN fun _ _ _ _ _ _ us hl => match us, hl with | [_], _ => rfl)
  have K__law_pairs := fn_okF (P := P) (w := w) (mg := mg) (base := base) (S := S_pairs) D__law_pairs bk__law_pairs (fun ds r h => by first | (obtain ⟨_, h, _⟩ := h; rw [h]; rfl; done) | (obtain ⟨_, _, h, _⟩ := h; rw [h]; rfl; done) | (obtain ⟨_, _, _, h, _⟩ := h; rw [h]; rfl; done) | (obtain ⟨_, _, _, _, h, _⟩ := h; rw [h]; rfl; done) | (obtain ⟨_, _, _, _, _, h, _⟩ := h; rw [h]; rfl; done) | (obtain ⟨_, _, _, _, _, _, h, _⟩ := h; rw [h]; rfl; done) | (obtain ⟨_, _, _, _, _, _, _, h, _⟩ := h; rw [h]; rfl; done) | (obtain ⟨_, _, _, _, _, _, _, _, h, _⟩ := h; rw [h]; rfl; done) | (rcases h with h | h <;> (first | (obtain ⟨_, h, _⟩ := h; rw [h]; rfl; done) | (obtain ⟨_, _, h, _⟩ := h; rw [h]; rfl; done) | (obtain ⟨_, _, _, h, _⟩ := h; rw [h]; rfl; done) | (obtain ⟨_, _, _, _, h, _⟩ := h; rw [h]; rfl; done) | (obtain ⟨_, _, _, _, _, h, _⟩ := h; rw [h]; rfl; done) | (obtain ⟨_, _, _, _, _, _, h, _⟩ := h; rw [h]; rfl; done) | (obtain ⟨_, _, _, _, _, _, _, h, _⟩ := h; rw [h]; rfl; done) | (obtain ⟨_, _, _, _, _, _, _, _, h, _⟩ := h; rw [h]; rfl; done))) | (rcases h with h | h | h <;> (first | (obtain ⟨_, h, _⟩ := h; rw [h]; rfl; done) | (obtain ⟨_, _, h, _⟩ := h; rw [h]; rfl; done) | (obtain ⟨_, _, _, h, _⟩ := h; rw [h]; rfl; done) | (obtain ⟨_, _, _, _, h, _⟩ := h; rw [h]; rfl; done) | (obtain ⟨_, _, _, _, _, h, _⟩ := h; rw [h]; rfl; done) | (obtain ⟨_, _, _, _, _, _, h, _⟩ := h; rw [h]; rfl; done) | (obtain ⟨_, _, _, _, _, _, _, h, _⟩ := h; rw [h]; rfl; done) | (obtain ⟨_, _, _, _, _, _, _, _, h, _⟩ := h; rw [h]; rfl; done))) | (rcases h with h | h | h | h <;> (first | (obtain ⟨_, h, _⟩ := h; rw [h]; rfl; done) | (obtain ⟨_, _, h, _⟩ := h; rw [h]; rfl; done) | (obtain ⟨_, _, _, h, _⟩ := h; rw [h]; rfl; done) | (obtain ⟨_, _, _, _, h, _⟩ := h; rw [h]; rfl; done) | (obtain ⟨_, _, _, _, _, h, _⟩ := h; rw [h]; rfl; done) | (obtain ⟨_, _, _, _, _, _, h, _⟩ := h; rw [h]; rfl; done) | (obtain ⟨_, _, _, _, _, _, _, h, _⟩ := h; rw [h]; rfl; done) | (obtain ⟨_, _, _, _, _, _, _, _, h, _⟩ := h; rw [h]; rfl; done)))) (fun Y hP hw hK hm hb B Gs G' ds r h => by subst hP hw hK hm hb; apply b_law_pairs <;> assumption)
  have E__law_pairs := fnE_of K__law_pairs g__law_pairs D__law_pairs.kp (D__law_pairs.bindsN fun _ _ _ _ _ _ us hl => match us, hl with | [_, _], _ => rfl)
  have K__law_shown := fn_okF (P := P) (w := w) (mg := mg) (base := base) (S := S_shown_unit) D__law_shown bk__law_shown (fun ds r h => by first | (obtain ⟨_, h, _⟩ := h; rw [h]; rfl; done) | (obtain ⟨_, _, h, _⟩ := h; rw [h]; rfl; done) | (obtain ⟨_, _, _, h, _⟩ := h; rw [h]; rfl; done) | (obtain ⟨_, _, _, _, h, _⟩ := h; rw [h]; rfl; done) | (obtain ⟨_, _, _, _, _, h, _⟩ := h; rw [h]; rfl; done) | (obtain ⟨_, _, _, _, _, _, h, _⟩ := h; rw [h]; rfl; done) | (obtain ⟨_, _, _, _, _, _, _, h, _⟩ := h; rw [h]; rfl; done) | (obtain ⟨_, _, _, _, _, _, _, _, h, _⟩ := h; rw [h]; rfl; done) | (rcases h with h | h <;> (first | (obtain ⟨_, h, _⟩ := h; rw [h]; rfl; done) | (obtain ⟨_, _, h, _⟩ := h; rw [h]; rfl; done) | (obtain ⟨_, _, _, h, _⟩ := h; rw [h]; rfl; done) | (obtain ⟨_, _, _, _, h, _⟩ := h; rw [h]; rfl; done) | (obtain ⟨_, _, _, _, _, h, _⟩ := h; rw [h]; rfl; done) | (obtain ⟨_, _, _, _, _, _, h, _⟩ := h; rw [h]; rfl; done) | (obtain ⟨_, _, _, _, _, _, _, h, _⟩ := h; rw [h]; rfl; done) | (obtain ⟨_, _, _, _, _, _, _, _, h, _⟩ := h; rw [h]; rfl; done))) | (rcases h with h | h | h <;> (first | (obtain ⟨_, h, _⟩ := h; rw [h]; rfl; done) | (obtain ⟨_, _, h, _⟩ := h; rw [h]; rfl; done) | (obtain ⟨_, _, _, h, _⟩ := h; rw [h]; rfl; done) | (obtain ⟨_, _, _, _, h, _⟩ := h; rw [h]; rfl; done) | (obtain ⟨_, _, _, _, _, h, _⟩ := h; rw [h]; rfl; done) | (obtain ⟨_, _, _, _, _, _, h, _⟩ := h; rw [h]; rfl; done) | (obtain ⟨_, _, _, _, _, _, _, h, _⟩ := h; rw [h]; rfl; done) | (obtain ⟨_, _, _, _, _, _, _, _, h, _⟩ := h; rw [h]; rfl; done))) | (rcases h with h | h | h | h <;> (first | (obtain ⟨_, h, _⟩ := h; rw [h]; rfl; done) | (obtain ⟨_, _, h, _⟩ := h; rw [h]; rfl; done) | (obtain ⟨_, _, _, h, _⟩ := h; rw [h]; rfl; done) | (obtain ⟨_, _, _, _, h, _⟩ := h; rw [h]; rfl; done) | (obtain ⟨_, _, _, _, _, h, _⟩ := h; rw [h]; rfl; done) | (obtain ⟨_, _, _, _, _, _, h, _⟩ := h; rw [h]; rfl; done) | (obtain ⟨_, _, _, _, _, _, _, h, _⟩ := h; rw [h]; rfl; done) | (obtain ⟨_, _, _, _, _, _, _, _, h, _⟩ := h; rw [h]; rfl; done)))) (fun Y hP hw hK hm hb B Gs G' ds r h => by subst hP hw hK hm hb; apply b_law_shown <;> assumption)
  have E__law_shown := fnE_of K__law_shown g__law_shown D__law_shown.kp (D__law_shown.bindsN fun _ _ _ _ _ _ us hl => match us, hl with | [_], _ => rfl)
  have K__law_unit_right := fn_okF (P := P) (w := w) (mg := mg) (base := base) (S := S_unit_right) D__law_unit_right bk__law_unit_right (fun ds r h => by first | (obtain ⟨_, h, _⟩ := h; rw [h]; rfl; done) | (obtain ⟨_, _, h, _⟩ := h; rw [h]; rfl; done) | (obtain ⟨_, _, _, h, _⟩ := h; rw [h]; rfl; done) | (obtain ⟨_, _, _, _, h, _⟩ := h; rw [h]; rfl; done) | (obtain ⟨_, _, _, _, _, h, _⟩ := h; rw [h]; rfl; done) | (obtain ⟨_, _, _, _, _, _, h, _⟩ := h; rw [h]; rfl; done) | (obtain ⟨_, _, _, _, _, _, _, h, _⟩ := h; rw [h]; rfl; done) | (obtain ⟨_, _, _, _, _, _, _, _, h, _⟩ := h; rw [h]; rfl; done) | (rcases h with h | h <;> (first | (obtain ⟨_, h, _⟩ := h; rw [h]; rfl; done) | (obtain ⟨_, _, h, _⟩ := h; rw [h]; rfl; done) | (obtain ⟨_, _, _, h, _⟩ := h; rw [h]; rfl; done) | (obtain ⟨_, _, _, _, h, _⟩ := h; rw [h]; rfl; done) | (obtain ⟨_, _, _, _, _, h, _⟩ := h; rw [h]; rfl; done) | (obtain ⟨_, _, _, _, _, _, h, _⟩ := h; rw [h]; rfl; done) | (obtain ⟨_, _, _, _, _, _, _, h, _⟩ := h; rw [h]; rfl; done) | (obtain ⟨_, _, _, _, _, _, _, _, h, _⟩ := h; rw [h]; rfl; done))) | (rcases h with h | h | h <;> (first | (obtain ⟨_, h, _⟩ := h; rw [h]; rfl; done) | (obtain ⟨_, _, h, _⟩ := h; rw [h]; rfl; done) | (obtain ⟨_, _, _, h, _⟩ := h; rw [h]; rfl; done) | (obtain ⟨_, _, _, _, h, _⟩ := h; rw [h]; rfl; done) | (obtain ⟨_, _, _, _, _, h, _⟩ := h; rw [h]; rfl; done) | (obtain ⟨_, _, _, _, _, _, h, _⟩ := h; rw [h]; rfl; done) | (obtain ⟨_, _, _, _, _, _, _, h, _⟩ := h; rw [h]; rfl; done) | (obtain ⟨_, _, _, _, _, _, _, _, h, _⟩ := h; rw [h]; rfl; done))) | (rcases h with h | h | h | h <;> (first | (obtain ⟨_, h, _⟩ := h; rw [h]; rfl; done) | (obtain ⟨_, _, h, _⟩ := h; rw [h]; rfl; done) | (obtain ⟨_, _, _, h, _⟩ := h; rw [h]; rfl; done) | (obtain ⟨_, _, _, _, h, _⟩ := h; rw [h]; rfl; done) | (obtain ⟨_, _, _, _, _, h, _⟩ := h; rw [h]; rfl; done) | (obtain ⟨_, _, _, _, _, _, h, _⟩ := h; rw [h]; rfl; done) | (obtain ⟨_, _, _, _, _, _, _, h, _⟩ := h; rw [h]; rfl; done) | (obtain ⟨_, _, _, _, _, _, _, _, h, _⟩ := h; rw [h]; rfl; done)))) (fun Y hP hw hK hm hb B Gs G' ds r h => by subst hP hw hK hm hb; apply b_law_unit_right <;> assumption)
  have E__law_unit_right := fnE_of K__law_unit_right g__law_unit_right D__law_unit_right.kp (D__law_unit_right.bindsN fun _ _ _ _ _ _ us hl => match us, hl with | [_, _], _ => rfl)
  have K__law_refused := fn_okF (P := P) (w := w) (mg := mg) (base := base) (S := S_refused) D__law_refused bk__law_refused (fun ds r h => by first | (obtain ⟨_, h, _⟩ := h; rw [h]; rfl; done) | (obtain ⟨_, _, h, _⟩ := h; rw [h]; rfl; done) | (obtain ⟨_, _, _, h, _⟩ := h; rw [h]; rfl; done) | (obtain ⟨_, _, _, _, h, _⟩ := h; rw [h]; rfl; done) | (obtain ⟨_, _, _, _, _, h, _⟩ := h; rw [h]; rfl; done) | (obtain ⟨_, _, _, _, _, _, h, _⟩ := h; rw [h]; rfl; done) | (obtain ⟨_, _, _, _, _, _, _, h, _⟩ := h; rw [h]; rfl; done) | (obtain ⟨_, _, _, _, _, _, _, _, h, _⟩ := h; rw [h]; rfl; done) | (rcases h with h | h <;> (first | (obtain ⟨_, h, _⟩ := h; rw [h]; rfl; done) | (obtain ⟨_, _, h, _⟩ := h; rw [h]; rfl; done) | (obtain ⟨_, _, _, h, _⟩ := h; rw [h]; rfl; done) | (obtain ⟨_, _, _, _, h, _⟩ := h; rw [h]; rfl; done) | (obtain ⟨_, _, _, _, _, h, _⟩ := h; rw [h]; rfl; done) | (obtain ⟨_, _, _, _, _, _, h, _⟩ := h; rw [h]; rfl; done) | (obtain ⟨_, _, _, _, _, _, _, h, _⟩ := h; rw [h]; rfl; done) | (obtain ⟨_, _, _, _, _, _, _, _, h, _⟩ := h; rw [h]; rfl; done))) | (rcases h with h | h | h <;> (first | (obtain ⟨_, h, _⟩ := h; rw [h]; rfl; done) | (obtain ⟨_, _, h, _⟩ := h; rw [h]; rfl; done) | (obtain ⟨_, _, _, h, _⟩ := h; rw [h]; rfl; done) | (obtain ⟨_, _, _, _, h, _⟩ := h; rw [h]; rfl; done) | (obtain ⟨_, _, _, _, _, h, _⟩ := h; rw [h]; rfl; done) | (obtain ⟨_, _, _, _, _, _, h, _⟩ := h; rw [h]; rfl; done) | (obtain ⟨_, _, _, _, _, _, _, h, _⟩ := h; rw [h]; rfl; done) | (obtain ⟨_, _, _, _, _, _, _, _, h, _⟩ := h; rw [h]; rfl; done))) | (rcases h with h | h | h | h <;> (first | (obtain ⟨_, h, _⟩ := h; rw [h]; rfl; done) | (obtain ⟨_, _, h, _⟩ := h; rw [h]; rfl; done) | (obtain ⟨_, _, _, h, _⟩ := h; rw [h]; rfl; done) | (obtain ⟨_, _, _, _, h, _⟩ := h; rw [h]; rfl; done) | (obtain ⟨_, _, _, _, _, h, _⟩ := h; rw [h]; rfl; done) | (obtain ⟨_, _, _, _, _, _, h, _⟩ := h; rw [h]; rfl; done) | (obtain ⟨_, _, _, _, _, _, _, h, _⟩ := h; rw [h]; rfl; done) | (obtain ⟨_, _, _, _, _, _, _, _, h, _⟩ := h; rw [h]; rfl; done)))) (fun Y hP hw hK hm hb B Gs G' ds r h => by subst hP hw hK hm hb; apply b_law_refused <;> assumption)
  have E__law_refused := fnE_of K__law_refused g__law_refused D__law_refused.kp (D__law_refused.bindsN fun _ _ _ _ _ _ us hl => match us, hl with | [_, _], _ => rfl)
  have K__law_read_right := fn_okF (P := P) (w := w) (mg := mg) (base := base) (S := S_read_right) D__law_read_right bk__law_read_right (fun ds r h => by first | (obtain ⟨_, h, _⟩ := h; rw [h]; rfl; done) | (obtain ⟨_, _, h, _⟩ := h; rw [h]; rfl; done) | (obtain ⟨_, _, _, h, _⟩ := h; rw [h]; rfl; done) | (obtain ⟨_, _, _, _, h, _⟩ := h; rw [h]; rfl; done) | (obtain ⟨_, _, _, _, _, h, _⟩ := h; rw [h]; rfl; done) | (obtain ⟨_, _, _, _, _, _, h, _⟩ := h; rw [h]; rfl; done) | (obtain ⟨_, _, _, _, _, _, _, h, _⟩ := h; rw [h]; rfl; done) | (obtain ⟨_, _, _, _, _, _, _, _, h, _⟩ := h; rw [h]; rfl; done) | (rcases h with h | h <;> (first | (obtain ⟨_, h, _⟩ := h; rw [h]; rfl; done) | (obtain ⟨_, _, h, _⟩ := h; rw [h]; rfl; done) | (obtain ⟨_, _, _, h, _⟩ := h; rw [h]; rfl; done) | (obtain ⟨_, _, _, _, h, _⟩ := h; rw [h]; rfl; done) | (obtain ⟨_, _, _, _, _, h, _⟩ := h; rw [h]; rfl; done) | (obtain ⟨_, _, _, _, _, _, h, _⟩ := h; rw [h]; rfl; done) | (obtain ⟨_, _, _, _, _, _, _, h, _⟩ := h; rw [h]; rfl; done) | (obtain ⟨_, _, _, _, _, _, _, _, h, _⟩ := h; rw [h]; rfl; done))) | (rcases h with h | h | h <;> (first | (obtain ⟨_, h, _⟩ := h; rw [h]; rfl; done) | (obtain ⟨_, _, h, _⟩ := h; rw [h]; rfl; done) | (obtain ⟨_, _, _, h, _⟩ := h; rw [h]; rfl; done) | (obtain ⟨_, _, _, _, h, _⟩ := h; rw [h]; rfl; done) | (obtain ⟨_, _, _, _, _, h, _⟩ := h; rw [h]; rfl; done) | (obtain ⟨_, _, _, _, _, _, h, _⟩ := h; rw [h]; rfl; done) | (obtain ⟨_, _, _, _, _, _, _, h, _⟩ := h; rw [h]; rfl; done) | (obtain ⟨_, _, _, _, _, _, _, _, h, _⟩ := h; rw [h]; rfl; done))) | (rcases h with h | h | h | h <;> (first | (obtain ⟨_, h, _⟩ := h; rw [h]; rfl; done) | (obtain ⟨_, _, h, _⟩ := h; rw [h]; rfl; done) | (obtain ⟨_, _, _, h, _⟩ := h; rw [h]; rfl; done) | (obtain ⟨_, _, _, _, h, _⟩ := h; rw [h]; rfl; done) | (obtain ⟨_, _, _, _, _, h, _⟩ := h; rw [h]; rfl; done) | (obtain ⟨_, _, _, _, _, _, h, _⟩ := h; rw [h]; rfl; done) | (obtain ⟨_, _, _, _, _, _, _, h, _⟩ := h; rw [h]; rfl; done) | (obtain ⟨_, _, _, _, _, _, _, _, h, _⟩ := h; rw [h]; rfl; done)))) (fun Y hP hw hK hm hb B Gs G' ds r h => by subst hP hw hK hm hb; apply b_law_read_right <;> assumption)
  have E__law_read_right := fnE_of K__law_read_right g__law_read_right D__law_read_right.kp (D__law_read_right.bindsN fun _ _ _ _ _ _ us hl => match us, hl with | [_, _], _ => rfl)
  have K__law_no_unit := fn_okF (P := P) (w := w) (mg := mg) (base := base) (S := S_no_unit) D__law_no_unit bk__law_no_unit (fun ds r h => by first | (obtain ⟨_, h, _⟩ := h; rw [h]; rfl; done) | (obtain ⟨_, _, h, _⟩ := h; rw [h]; rfl; done) | (obtain ⟨_, _, _, h, _⟩ := h; rw [h]; rfl; done) | (obtain ⟨_, _, _, _, h, _⟩ := h; rw [h]; rfl; done) | (obtain ⟨_, _, _, _, _, h, _⟩ := h; rw [h]; rfl; done) | (obtain ⟨_, _, _, _, _, _, h, _⟩ := h; rw [h]; rfl; done) | (obtain ⟨_, _, _, _, _, _, _, h, _⟩ := h; rw [h]; rfl; done) | (obtain ⟨_, _, _, _, _, _, _, _, h, _⟩ := h; rw [h]; rfl; done) | (rcases h with h | h <;> (first | (obtain ⟨_, h, _⟩ := h; rw [h]; rfl; done) | (obtain ⟨_, _, h, _⟩ := h; rw [h]; rfl; done) | (obtain ⟨_, _, _, h, _⟩ := h; rw [h]; rfl; done) | (obtain ⟨_, _, _, _, h, _⟩ := h; rw [h]; rfl; done) | (obtain ⟨_, _, _, _, _, h, _⟩ := h; rw [h]; rfl; done) | (obtain ⟨_, _, _, _, _, _, h, _⟩ := h; rw [h]; rfl; done) | (obtain ⟨_, _, _, _, _, _, _, h, _⟩ := h; rw [h]; rfl; done) | (obtain ⟨_, _, _, _, _, _, _, _, h, _⟩ := h; rw [h]; rfl; done))) | (rcases h with h | h | h <;> (first | (obtain ⟨_, h, _⟩ := h; rw [h]; rfl; done) | (obtain ⟨_, _, h, _⟩ := h; rw [h]; rfl; done) | (obtain ⟨_, _, _, h, _⟩ := h; rw [h]; rfl; done) | (obtain ⟨_, _, _, _, h, _⟩ := h; rw [h]; rfl; done) | (obtain ⟨_, _, _, _, _, h, _⟩ := h; rw [h]; rfl; done) | (obtain ⟨_, _, _, _, _, _, h, _⟩ := h; rw [h]; rfl; done) | (obtain ⟨_, _, _, _, _, _, _, h, _⟩ := h; rw [h]; rfl; done) | (obtain ⟨_, _, _, _, _, _, _, _, h, _⟩ := h; rw [h]; rfl; done))) | (rcases h with h | h | h | h <;> (first | (obtain ⟨_, h, _⟩ := h; rw [h]; rfl; done) | (obtain ⟨_, _, h, _⟩ := h; rw [h]; rfl; done) | (obtain ⟨_, _, _, h, _⟩ := h; rw [h]; rfl; done) | (obtain ⟨_, _, _, _, h, _⟩ := h; rw [h]; rfl; done) | (obtain ⟨_, _, _, _, _, h, _⟩ := h; rw [h]; rfl; done) | (obtain ⟨_, _, _, _, _, _, h, _⟩ := h; rw [h]; rfl; done) | (obtain ⟨_, _, _, _, _, _, _, h, _⟩ := h; rw [h]; rfl; done) | (obtain ⟨_, _, _, _, _, _, _, _, h, _⟩ := h; rw [h]; rfl; done)))) (fun Y hP hw hK hm hb B Gs G' ds r h => by subst hP hw hK hm hb; apply b_law_no_unit <;> assumption)
  have E__law_no_unit := fnE_of K__law_no_unit g__law_no_unit D__law_no_unit.kp (D__law_no_unit.bindsN fun _ _ _ _ _ _ us hl => match us, hl with | [_, _, _], _ => rfl)
  have K__law_signs := fn_okF (P := P) (w := w) (mg := mg) (base := base) (S := S_signs) D__law_signs bk__law_signs (fun ds r h => by first | (obtain ⟨_, h, _⟩ := h; rw [h]; rfl; done) | (obtain ⟨_, _, h, _⟩ := h; rw [h]; rfl; done) | (obtain ⟨_, _, _, h, _⟩ := h; rw [h]; rfl; done) | (obtain ⟨_, _, _, _, h, _⟩ := h; rw [h]; rfl; done) | (obtain ⟨_, _, _, _, _, h, _⟩ := h; rw [h]; rfl; done) | (obtain ⟨_, _, _, _, _, _, h, _⟩ := h; rw [h]; rfl; done) | (obtain ⟨_, _, _, _, _, _, _, h, _⟩ := h; rw [h]; rfl; done) | (obtain ⟨_, _, _, _, _, _, _, _, h, _⟩ := h; rw [h]; rfl; done) | (rcases h with h | h <;> (first | (obtain ⟨_, h, _⟩ := h; rw [h]; rfl; done) | (obtain ⟨_, _, h, _⟩ := h; rw [h]; rfl; done) | (obtain ⟨_, _, _, h, _⟩ := h; rw [h]; rfl; done) | (obtain ⟨_, _, _, _, h, _⟩ := h; rw [h]; rfl; done) | (obtain ⟨_, _, _, _, _, h, _⟩ := h; rw [h]; rfl; done) | (obtain ⟨_, _, _, _, _, _, h, _⟩ := h; rw [h]; rfl; done) | (obtain ⟨_, _, _, _, _, _, _, h, _⟩ := h; rw [h]; rfl; done) | (obtain ⟨_, _, _, _, _, _, _, _, h, _⟩ := h; rw [h]; rfl; done))) | (rcases h with h | h | h <;> (first | (obtain ⟨_, h, _⟩ := h; rw [h]; rfl; done) | (obtain ⟨_, _, h, _⟩ := h; rw [h]; rfl; done) | (obtain ⟨_, _, _, h, _⟩ := h; rw [h]; rfl; done) | (obtain ⟨_, _, _, _, h, _⟩ := h; rw [h]; rfl; done) | (obtain ⟨_, _, _, _, _, h, _⟩ := h; rw [h]; rfl; done) | (obtain ⟨_, _, _, _, _, _, h, _⟩ := h; rw [h]; rfl; done) | (obtain ⟨_, _, _, _, _, _, _, h, _⟩ := h; rw [h]; rfl; done) | (obtain ⟨_, _, _, _, _, _, _, _, h, _⟩ := h; rw [h]; rfl; done))) | (rcases h with h | h | h | h <;> (first | (obtain ⟨_, h, _⟩ := h; rw [h]; rfl; done) | (obtain ⟨_, _, h, _⟩ := h; rw [h]; rfl; done) | (obtain ⟨_, _, _, h, _⟩ := h; rw [h]; rfl; done) | (obtain ⟨_, _, _, _, h, _⟩ := h; rw [h]; rfl; done) | (obtain ⟨_, _, _, _, _, h, _⟩ := h; rw [h]; rfl; done) | (obtain ⟨_, _, _, _, _, _, h, _⟩ := h; rw [h]; rfl; done) | (obtain ⟨_, _, _, _, _, _, _, h, _⟩ := h; rw [h]; rfl; done) | (obtain ⟨_, _, _, _, _, _, _, _, h, _⟩ := h; rw [h]; rfl; done)))) (fun Y hP hw hK hm hb B Gs G' ds r h => by subst hP hw hK hm hb; apply b_law_signs <;> assumption)
  have E__law_signs := fnE_of K__law_signs g__law_signs D__law_signs.kp (D__law_signs.bindsN fun _ _ _ _ _ _ us hl => match us, hl with | [_, _], _ => rfl)
  have K_law := fn_okF (P := P) (w := w) (mg := mg) (base := base) (S := S_law) D_law bk_law (fun ds r h => by first | (obtain ⟨_, h, _⟩ := h; rw [h]; rfl; done) | (obtain ⟨_, _, h, _⟩ := h; rw [h]; rfl; done) | (obtain ⟨_, _, _, h, _⟩ := h; rw [h]; rfl; done) | (obtain ⟨_, _, _, _, h, _⟩ := h; rw [h]; rfl; done) | (obtain ⟨_, _, _, _, _, h, _⟩ := h; rw [h]; rfl; done) | (obtain ⟨_, _, _, _, _, _, h, _⟩ := h; rw [h]; rfl; done) | (obtain ⟨_, _, _, _, _, _, _, h, _⟩ := h; rw [h]; rfl; done) | (obtain ⟨_, _, _, _, _, _, _, _, h, _⟩ := h; rw [h]; rfl; done) | (rcases h with h | h <;> (first | (obtain ⟨_, h, _⟩ := h; rw [h]; rfl; done) | (obtain ⟨_, _, h, _⟩ := h; rw [h]; rfl; done) | (obtain ⟨_, _, _, h, _⟩ := h; rw [h]; rfl; done) | (obtain ⟨_, _, _, _, h, _⟩ := h; rw [h]; rfl; done) | (obtain ⟨_, _, _, _, _, h, _⟩ := h; rw [h]; rfl; done) | (obtain ⟨_, _, _, _, _, _, h, _⟩ := h; rw [h]; rfl; done) | (obtain ⟨_, _, _, _, _, _, _, h, _⟩ := h; rw [h]; rfl; done) | (obtain ⟨_, _, _, _, _, _, _, _, h, _⟩ := h; rw [h]; rfl; done))) | (rcases h with h | h | h <;> (first | (obtain ⟨_, h, _⟩ := h; rw [h]; rfl; done) | (obtain ⟨_, _, h, _⟩ := h; rw [h]; rfl; done) | (obtain ⟨_, _, _, h, _⟩ := h; rw [h]; rfl; done) | (obtain ⟨_, _, _, _, h, _⟩ := h; rw [h]; rfl; done) | (obtain ⟨_, _, _, _, _, h, _⟩ := h; rw [h]; rfl; done) | (obtain ⟨_, _, _, _, _, _, h, _⟩ := h; rw [h]; rfl; done) | (obtain ⟨_, _, _, _, _, _, _, h, _⟩ := h; rw [h]; rfl; done) | (obtain ⟨_, _, _, _, _, _, _, _, h, _⟩ := h; rw [h]; rfl; done))) | (rcases h with h | h | h | h <;> (first | (obtain ⟨_, h, _⟩ := h; rw [h]; rfl; done) | (obtain ⟨_, _, h, _⟩ := h; rw [h]; rfl; done) | (obtain ⟨_, _, _, h, _⟩ := h; rw [h]; rfl; done) | (obtain ⟨_, _, _, _, h, _⟩ := h; rw [h]; rfl; done) | (obtain ⟨_, _, _, _, _, h, _⟩ := h; rw [h]; rfl; done) | (obtain ⟨_, _, _, _, _, _, h, _⟩ := h; rw [h]; rfl; done) | (obtain ⟨_, _, _, _, _, _, _, h, _⟩ := h; rw [h]; rfl; done) | (obtain ⟨_, _, _, _, _, _, _, _, h, _⟩ := h; rw [h]; rfl; done)))) (fun Y hP hw hK hm hb B Gs G' ds r h => by subst hP hw hK hm hb; apply b_law <;> assumption)
  exact K_law
end Mw
open PySem PySem.W PySem.Calls PyProof.Rows
set_option maxHeartbeats 0 in
theorem PySem.Challenge.cw_measurewise_k02_units_holds : PySem.Challenge.rw_measurewise_k02_units.Holds := by
  w_on; o_law
  refine HandSHeadRun.head_any (r := OpenLaw.row PySem.Challenge.rw_measurewise_k02_units) (q := view (OpenLaw.row PySem.Challenge.rw_measurewise_k02_units).prog [37]) (H := Mw.hk_) (ob := Mw.ob_) (M := 12000) (loose := Mw.names_) (d := HandSHeadRun.topDef (OpenLaw.row PySem.Challenge.rw_measurewise_k02_units).prog 37) (kwd := []) Mw.ob_eq
    (by kernel_rfl) (fun s => by kernel_rfl) Mw.run_ (by kernel_rfl) (by kernel_rfl) (by kernel_rfl) (by rfl) (by first | assumption | decide +kernel) (by decide +kernel) ⟨rfl, rfl, rfl, rfl, rfl, by decide +kernel⟩ ?hw ?hc
  case hw => w_witness2
  case hc =>
    refine Mw.walk_M (l := PySem.Challenge.rw_measurewise_k02_units) (n := 63) (k := 14) (x := "_law_script") (S := Mw.S_law) rfl (by decide) (by kernel_rfl) ⟨rfl, by decide, by decide⟩ ?F Mw.law_wish
    intro w mg fa h Y G hmg0
    obtain ⟨K, KX, c⟩ := Y
    have hmg : mg ("law" : PySem.Str) = some (.ref fa) := by
      have e : (HandSHeadRun.topDef (OpenLaw.row PySem.Challenge.rw_measurewise_k02_units).prog 37).name = ("law" : PySem.Str) := by kernel_rfl
      rw [← e]
      exact hmg0
    obtain ⟨fd, hb, hF⟩ := Mw.facts_ (P := (PySem.Challenge.rw_measurewise_k02_units).prog) (w := w) KX G hmg c
    exact ⟨K, fd, KX, hb, hF⟩
#print axioms PySem.Challenge.cw_measurewise_k02_units_holds
