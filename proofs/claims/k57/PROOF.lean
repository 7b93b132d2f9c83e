import PyProof.Rows.All
import Wide.All
import OpenK.AllK
import Wide.FinOn
import KE.KStateDown
import KE.KExcSuper
import Lean
import HandS.ForMost
import HandS.More
import HandS.WordsExc
import HandS.Defaults
import HandS.Head0
import HandS.Head1
import HandS.Head2
import HandS.HeadEnd
import HandS.HeadHook1
import HandS.HeadHook2
import HandS.HeadHook4
import HandS.IsInst
import HandS.ExcIs
import HandS.ExcInit
import HandS.ExcValue
import HandS.Strs
import HandS.Lambda
import HandS.Wide
import HandS.Walk
import HandS.Flow
import HandS.Deep
import HandS.Style
import HandS.Star
import KE.GoesEnum
import PyProof.EnumMake
import PyProof.EnumStmt
import PyProof.EqKinds
import HandS.SortKw
import PyProof.MinMaxWalk
import HandS.NoneIn
import HandS.TupAny
import HandS.SetFor
import PySem.Challenge.RW_stopanywhere_k57_least_spans_by_prices
set_option Elab.async false
set_option linter.all false
set_option maxRecDepth 100000
set_option maxHeartbeats 4000000
namespace My
open PySem L2
def top (i : Nat) : Stmt := PySem.Challenge.pw_stopanywhere_k57_least_spans_by_prices.main.body.getD i (.Pass ⟨0, 0, 0, 0⟩)
abbrev s_BadSpans___init__ : Stmt := inClass (top 2) 0
abbrev s_is_number : Stmt := top 6
abbrev s_is_from_0 : Stmt := top 11
abbrev s_is_span : Stmt := top 12
abbrev s_need_spans : Stmt := top 13
abbrev s_need_room : Stmt := top 14
abbrev s_length_of : Stmt := top 15
abbrev s_cover_of : Stmt := top 16
abbrev s_arcs_of : Stmt := top 17
abbrev s_distances : Stmt := top 18
abbrev s_kept_spans : Stmt := top 19
abbrev s_least_of : Stmt := top 20
abbrev s_least : Stmt := top 21
abbrev s_worth : Stmt := top 22
abbrev s_law_begun : Stmt := top 24
abbrev s_law_mixed : Stmt := top 25
abbrev s_law_take : Stmt := top 26
abbrev s_law_pick : Stmt := top 27
abbrev s_law_span : Stmt := top 28
abbrev s_law_spans : Stmt := top 29
abbrev s_law_cover : Stmt := top 30
abbrev s_law_value : Stmt := top 31
abbrev s_law_numbers : Stmt := top 32
abbrev s_law_left_right : Stmt := top 33
abbrev s_law_right : Stmt := top 34
abbrev s_law_prices : Stmt := top 35
abbrev s_law_refused : Stmt := top 36
abbrev s_law_refusals_right : Stmt := top 37
abbrev s_law : Stmt := top 38

/-! ## the visible heap -/
/-- from the visible H0 (of H) to the visible H0' (of H') -/
structure Vs (H0 H H0' H' : Hp) : Prop where
  grow : Same H0 H0'
  sub : Same H0' H'
  old : ∀ b o, H0' b = some o → H0 b = some o ∨ H b = none
theorem Vs.refl {H0 H : Hp} (s : Same H0 H) : Vs H0 H H0 H := ⟨Same.refl _, s, fun _ _ e => .inl e⟩
theorem free_mono {H0 H : Hp} (s : Same H0 H) {p : Addr} (h : H p = none) : H0 p = none := s.free h
theorem same_upd {H0 H : Hp} (s : Same H0 H) (p : Addr) (o : HO) : Same (upd H0 p o) (upd H p o) := fun b u e => by
  by_cases hb : b = p
  · rw [hb, upd_same] at e ⊢; exact e
  · rw [upd_ne hb] at e ⊢; exact s b u e
theorem same_new {H : Hp} {p : Addr} {o : HO} (h : H p = none) : Same H (upd H p o) := fun b u e => by
  rw [upd_ne (ne_of_none e h)]; exact e
theorem same_sub {H0 H : Hp} (s : Same H0 H) {p : Addr} {o : HO} (h : H0 p = none) : Same H0 (upd H p o) := fun b u e => by
  rw [upd_ne (ne_of_none e h)]; exact s b u e

/-! ## draws -/
def kWide : Key := Sum.inr "wide"
def kCells : Key := Sum.inr "cells"
def kRest : Key := Sum.inr "rest"
def kTurn : Key := Sum.inr "turn"
def drK (w c : Addr) (rest turn : Int) : List (Key × V) := [(kWide, .ref w), (kCells, .ref c), (kRest, .int rest), (kTurn, .int turn)]
theorem ne_cw : ¬ kCells = kWide := by unfold kCells kWide; decide +kernel
theorem ne_rw : ¬ kRest = kWide := by unfold kRest kWide; decide +kernel
theorem ne_tw : ¬ kTurn = kWide := by unfold kTurn kWide; decide +kernel
theorem ne_rc : ¬ kRest = kCells := by unfold kRest kCells; decide +kernel
theorem ne_tc : ¬ kTurn = kCells := by unfold kTurn kCells; decide +kernel
theorem ne_tr : ¬ kTurn = kRest := by unfold kTurn kRest; decide +kernel
theorem dr_wide (w c : Addr) (r t : Int) : valV (drK w c r t) kWide = some (.ref w) := valV_pos rfl
theorem dr_cells (w c : Addr) (r t : Int) : valV (drK w c r t) kCells = some (.ref c) := by
  unfold drK; rw [valV_neg (Ne.symm ne_cw)]; exact valV_pos rfl
theorem dr_rest (w c : Addr) (r t : Int) : valV (drK w c r t) kRest = some (.int r) := by
  unfold drK; rw [valV_neg (Ne.symm ne_rw), valV_neg (Ne.symm ne_rc)]; exact valV_pos rfl
theorem dr_turn (w c : Addr) (r t : Int) : valV (drK w c r t) kTurn = some (.int t) := by
  unfold drK; rw [valV_neg (Ne.symm ne_tw), valV_neg (Ne.symm ne_tc), valV_neg (Ne.symm ne_tr)]; exact valV_pos rfl
theorem dr_putRest (w c : Addr) (r t x : Int) : putK (drK w c r t) kRest (.int x) = drK w c x t := by
  have e1 : ((drK w c r t).any fun kv => decide (kv.1 = kRest)) = true := by rw [valV_any, dr_rest]; rfl
  unfold putK
  rw [if_pos e1]
  unfold drK
  simp only [List.map_cons, List.map_nil]
  rw [if_neg (Ne.symm ne_rw), if_neg (Ne.symm ne_rc), if_pos True.intro, if_neg ne_tr]
theorem dr_putTurn (w c : Addr) (r t x : Int) : putK (drK w c r t) kTurn (.int x) = drK w c r x := by
  have e1 : ((drK w c r t).any fun kv => decide (kv.1 = kTurn)) = true := by rw [valV_any, dr_turn]; rfl
  unfold putK
  rw [if_pos e1]
  unfold drK
  simp only [List.map_cons, List.map_nil]
  rw [if_neg (Ne.symm ne_tw), if_neg (Ne.symm ne_tc), if_neg (Ne.symm ne_tr), if_pos True.intro]
theorem dr_made (w c : Addr) (r t : Int) : mergeK [] (drK w c r t) = drK w c r t := by
  have a1 : putK [] kWide (.ref w) = [(kWide, .ref w)] := putK_new _ valV_nil
  have a2 : putK [(kWide, .ref w)] kCells (.ref c) = [(kWide, .ref w), (kCells, .ref c)] := putK_new _ (by rw [valV_neg (Ne.symm ne_cw)]; exact valV_nil)
  have a3 : putK [(kWide, .ref w), (kCells, .ref c)] kRest (.int r) = [(kWide, .ref w), (kCells, .ref c), (kRest, .int r)] := putK_new _ (by rw [valV_neg (Ne.symm ne_rw), valV_neg (Ne.symm ne_rc)]; exact valV_nil)
  have a4 : putK [(kWide, .ref w), (kCells, .ref c), (kRest, .int r)] kTurn (.int t) = drK w c r t := putK_new _ (by rw [valV_neg (Ne.symm ne_tw), valV_neg (Ne.symm ne_tc), valV_neg (Ne.symm ne_tr)]; exact valV_nil)
  show putK (putK (putK (putK [] kWide (.ref w)) kCells (.ref c)) kRest (.int r)) kTurn (.int t) = drK w c r t
  rw [a1, a2, a3, a4]
/-- what the drawing dict at d holds, with its lists at w and c -/
structure DrD (H : Hp) (d w c : Addr) (ws cs : List Int) (rest turn : Int) : Prop where
  hd : H d = some (.dK (drK w c rest turn))
  hw : H w = some (.lst (ws.map V.int))
  hc : H c = some (.lst (cs.map V.int))
  wc : w ≠ c
  wl : ws.length ≤ 63
  wn : ∀ x ∈ ws, 0 ≤ x
  cl : cs.length ≤ 63
  rn : 0 ≤ rest
  tn : 0 ≤ turn
/-- H0 is seen of H, the drawing dict at d is not -/
def Dw (t : Nat) (H0 H : Hp) (d : Addr) : Prop := Same H0 H ∧ ∃ (w c : Addr) (ws cs : List Int) (rest turn : Int), H0 d = none ∧ H0 w = none ∧ H0 c = none ∧ turn ≤ t ∧ DrD H d w c ws cs rest turn
theorem Dw.same {t : Nat} {H0 H : Hp} {d : Addr} (h : Dw t H0 H d) : Same H0 H := h.1
theorem Dw.mono {t t' : Nat} {H0 H : Hp} {d : Addr} (h : Dw t H0 H d) (l : t ≤ t') : Dw t' H0 H d := by
  obtain ⟨s, w, c, ws, cs, rest, turn, h1, h2, h3, ht, D⟩ := h
  exact ⟨s, w, c, ws, cs, rest, turn, h1, h2, h3, by omega, D⟩
theorem DrD.updo {H : Hp} {d w c p : Addr} {o : HO} {ws cs : List Int} {rest turn : Int} (h : DrD H d w c ws cs rest turn) (n1 : p ≠ d) (n2 : p ≠ w) (n3 : p ≠ c) : DrD (upd H p o) d w c ws cs rest turn :=
  ⟨by rw [upd_ne (Ne.symm n1)]; exact h.hd, by rw [upd_ne (Ne.symm n2)]; exact h.hw, by rw [upd_ne (Ne.symm n3)]; exact h.hc, h.wc, h.wl, h.wn, h.cl, h.rn, h.tn⟩
theorem DrD.same {H H' : Hp} {d w c : Addr} {ws cs : List Int} {rest turn : Int} (h : DrD H d w c ws cs rest turn) (s : Same H H') : DrD H' d w c ws cs rest turn :=
  ⟨s _ _ h.hd, s _ _ h.hw, s _ _ h.hc, h.wc, h.wl, h.wn, h.cl, h.rn, h.tn⟩
/-- a new object -/
theorem Dw.new {t : Nat} {H0 H : Hp} {d p : Addr} {o : HO} (h : Dw t H0 H d) (hp : H p = none) : Dw t (upd H0 p o) (upd H p o) d := by
  obtain ⟨s, w, c, ws, cs, rest, turn, h1, h2, h3, ht, D⟩ := h
  have n1 : d ≠ p := ne_of_none D.hd hp
  have n2 : w ≠ p := ne_of_none D.hw hp
  have n3 : c ≠ p := ne_of_none D.hc hp
  exact ⟨same_upd s p o, w, c, ws, cs, rest, turn, by rw [upd_ne n1]; exact h1, by rw [upd_ne n2]; exact h2, by rw [upd_ne n3]; exact h3, ht, D.updo n1.symm n2.symm n3.symm⟩
/-- an object that is seen is changed -/
theorem Dw.set {t : Nat} {H0 H : Hp} {d p : Addr} {o o' : HO} (h : Dw t H0 H d) (hp : H0 p = some o) : Dw t (upd H0 p o') (upd H p o') d := by
  obtain ⟨s, w, c, ws, cs, rest, turn, h1, h2, h3, ht, D⟩ := h
  have n1 : p ≠ d := ne_of_none hp h1
  have n2 : p ≠ w := ne_of_none hp h2
  have n3 : p ≠ c := ne_of_none hp h3
  exact ⟨same_upd s p o', w, c, ws, cs, rest, turn, by rw [upd_ne n1.symm]; exact h1, by rw [upd_ne n2.symm]; exact h2, by rw [upd_ne n3.symm]; exact h3, ht, D.updo n1 n2 n3⟩
/-- behind what only adds -/
theorem Dw.go {t : Nat} {H0 H H0' H' : Hp} {d : Addr} (h : Dw t H0 H d) (v : Vs H0 H H0' H') (s : Same H H') : Dw t H0' H' d := by
  obtain ⟨_, w, c, ws, cs, rest, turn, h1, h2, h3, ht, D⟩ := h
  have f : ∀ {b : Addr} {o : HO}, H0 b = none → H b = some o → H0' b = none := fun {b o} e e2 => by
    cases q : H0' b with
    | none => rfl
    | some u =>
      rcases v.old b u q with z | z
      · rw [e] at z; cases z
      · rw [e2] at z; cases z
  exact ⟨v.sub, w, c, ws, cs, rest, turn, f h1 D.hd, f h2 D.hw, f h3 D.hc, ht, D.same s⟩
/-- less is seen -/
theorem Dw.less {t : Nat} {H0 H1 H : Hp} {d : Addr} (h : Dw t H0 H d) (s : Same H1 H0) : Dw t H1 H d := by
  obtain ⟨s0, w, c, ws, cs, rest, turn, h1, h2, h3, ht, D⟩ := h
  exact ⟨s.trans s0, w, c, ws, cs, rest, turn, s.free h1, s.free h2, s.free h3, ht, D⟩

/-- how many draws at most -/
abbrev T40 : Nat := 1099511627776
theorem dget_wide {H : Hp} {d w c : Addr} {r t : Int} (h : H d = some (.dK (drK w c r t))) : DGet H d (.str "wide") (some (.ref w)) := by
  have := DGet.k (k := kWide) h
  rw [dr_wide] at this
  exact this
theorem dget_cells {H : Hp} {d w c : Addr} {r t : Int} (h : H d = some (.dK (drK w c r t))) : DGet H d (.str "cells") (some (.ref c)) := by
  have := DGet.k (k := kCells) h
  rw [dr_cells] at this
  exact this
theorem dget_rest {H : Hp} {d w c : Addr} {r t : Int} (h : H d = some (.dK (drK w c r t))) : DGet H d (.str "rest") (some (.int r)) := by
  have := DGet.k (k := kRest) h
  rw [dr_rest] at this
  exact this
theorem dget_turn {H : Hp} {d w c : Addr} {r t : Int} (h : H d = some (.dK (drK w c r t))) : DGet H d (.str "turn") (some (.int t)) := by
  have := DGet.k (k := kTurn) h
  rw [dr_turn] at this
  exact this
theorem dput_rest {H : Hp} {d w c : Addr} {r t : Int} (x : Int) (h : H d = some (.dK (drK w c r t))) : DPut H d (.str "rest") (.int x) (upd H d (.dK (drK w c x t))) := by
  have := DPut.k (k := kRest) (v := .int x) h (by rw [sizeLine_eq]; exact (by decide : 4 < 16777216))
  rw [dr_putRest] at this
  exact this
theorem dput_turn {H : Hp} {d w c : Addr} {r t : Int} (x : Int) (h : H d = some (.dK (drK w c r t))) : DPut H d (.str "turn") (.int x) (upd H d (.dK (drK w c r x))) := by
  have := DPut.k (k := kTurn) (v := .int x) h (by rw [sizeLine_eq]; exact (by decide : 4 < 16777216))
  rw [dr_putTurn] at this
  exact this
theorem DrD.ne_dw {H : Hp} {d w c : Addr} {ws cs : List Int} {rest turn : Int} (h : DrD H d w c ws cs rest turn) : d ≠ w := ne_of h.hd h.hw (by intro z; cases z)
theorem DrD.ne_dc {H : Hp} {d w c : Addr} {ws cs : List Int} {rest turn : Int} (h : DrD H d w c ws cs rest turn) : d ≠ c := ne_of h.hd h.hc (by intro z; cases z)
theorem DrD.setD {H : Hp} {d w c : Addr} {ws cs : List Int} {rest turn r2 t2 : Int} (h : DrD H d w c ws cs rest turn) (h1 : 0 ≤ r2) (h2 : 0 ≤ t2) : DrD (upd H d (.dK (drK w c r2 t2))) d w c ws cs r2 t2 :=
  ⟨upd_same, by rw [upd_ne h.ne_dw.symm]; exact h.hw, by rw [upd_ne h.ne_dc.symm]; exact h.hc, h.wc, h.wl, h.wn, h.cl, h1, h2⟩
def spBegun (K : PySem.W.Frag) : Sp := fun vs H Q _ => ∃ (a : Addr) (ns : List Int), vs = [.ref a] ∧ SqL K H a (ns.map V.int) ∧ ns.length ≤ 63 ∧ ∀ (H' : Hp) (d : Addr), Dw 0 H H' d → H d = none → Q (.ref d) H'
def spMixed : Sp := fun vs H Q _ => ∃ (d w c : Addr) (ws cs : List Int) (rest turn : Int), vs = [.ref d] ∧ turn < T40 ∧ DrD H d w c ws cs rest turn ∧
  ∀ (n : Int) (H' : Hp), 0 ≤ n → DrD H' d w c ws cs rest (turn + 1) → (∀ b o, H b = some o → b ≠ d → H' b = some o) → Q (.int n) H'
def spTake : Sp := fun vs H Q _ => ∃ (t : Nat) (H0 : Hp) (d : Addr) (n : Int), vs = [.ref d, .int n] ∧ Dw t H0 H d ∧ t < T40 ∧ 0 < n ∧ n < 1152921504606846976 ∧
  ∀ (k : Int) (H' : Hp), 0 ≤ k → k < n → Dw (t + 1) H0 H' d → Q (.int k) H'
/-- what _law_pick picks from -/
inductive SomeV (K : PySem.W.Frag) (H : Hp) : V → List V → Prop where
  | lst {a : Addr} {xs : List V} (h : SqL K H a xs) : SomeV K H (.ref a) xs
  | tup {a : Addr} {xs : List V} (h : SqT K H a xs) : SomeV K H (.ref a) xs
  | str {z : Str} (h : z.length ≤ 100000) : SomeV K H (.str z) (z.cps.toList.map fun c => V.str ⟨#[c]⟩)
def spPick (K : PySem.W.Frag) : Sp := fun vs H Q _ => ∃ (t : Nat) (H0 : Hp) (d : Addr) (x : V) (xs : List V), vs = [.ref d, x] ∧ Dw t H0 H d ∧ t < T40 ∧ SomeV K H0 x xs ∧ 0 < xs.length ∧ xs.length < 100000 ∧
  ∀ (v : V) (H' : Hp), v ∈ xs → Dw (t + 1) H0 H' d → Q v H'
/-! ## own exceptions whose __init__ begins with super().__init__(text) -/
theorem lookup_app {α : Type} {x : Str} : ∀ {l m : List (Str × α)}, (l ++ m).lookup x = match l.lookup x with | some v => some v | none => m.lookup x
  | [], m => rfl
  | (y, v) :: l, m => by
    show (match x == y with | true => some v | false => (l ++ m).lookup x) = match (match x == y with | true => some v | false => l.lookup x) with | some v => some v | none => m.lookup x
    cases (x == y) with
    | true => rfl
    | false => exact lookup_app
theorem lookup_out {α : Type} {x : Str} : ∀ {l : List (Str × α)}, (∀ v, (x, v) ∉ l) → l.lookup x = none
  | [], _ => rfl
  | (y, v) :: l, h => by
    have e : (x == y) = false := by
      apply Bool.eq_false_iff.mpr
      intro q
      exact h v (by rw [eq_of_beq q]; exact List.mem_cons_self ..)
    show (match x == y with | true => some v | false => l.lookup x) = none
    rw [e]
    exact lookup_out fun w hw => h w (List.mem_cons_of_mem _ hw)
theorem rev_lookup {x : Str} {u : Value} : ∀ {ps : List Str} {us : List Value} {i : Nat}, ps.Nodup → ps[i]? = some x → us[i]? = some u → (ps.zip us).reverse.lookup x = some u
  | [], _, _, _, h, _ => by simp at h
  | _ :: _, [], _, _, _, h => by simp at h
  | p :: ps, v :: us, 0, nd, h1, h2 => by
    simp at h1 h2
    subst h1 h2
    show ((p, v) :: ps.zip us).reverse.lookup p = some v
    rw [List.reverse_cons, lookup_app, lookup_out]
    · show (match p == p with | true => some v | false => _) = some v
      rw [beq_self_eq_true]
    · intro w hw
      exact (List.nodup_cons.mp nd).1 (List.of_mem_zip (List.mem_reverse.mp hw)).1
  | p :: ps, v :: us, i + 1, nd, h1, h2 => by
    show ((p, v) :: ps.zip us).reverse.lookup x = some u
    rw [List.reverse_cons, lookup_app, rev_lookup (i := i) (List.nodup_cons.mp nd).2 (by simpa using h1) (by simpa using h2)]

/-- the context of such an __init__ behind its first statement -/
abbrev supEnv (qual : Str) (scope : Scope) (L f : Addr) (cd : Value) (cc : Addr) : Env := PySem.W.ksEnv qual scope L f cd cc
def cxS (CX : CXT) (P : Program) (w : World) (K : PySem.W.Frag) (mg : Str → Option Value) (base : Heap) (N : List Str) (qual : Str) (scope : Scope) (f : Addr) (cd : Value) (cc : Addr) (A : Around) (outer : List Env) (s : Shared) (H : Hp) (E : XK) : Cx where
  prog := P
  w := w
  K := K
  mg := mg
  base := base
  A := A.deeper (supEnv qual scope s.heap.objs.size f cd cc)
  N := N
  s_0 := s
  H_0 := H
  env := supEnv qual scope s.heap.objs.size f cd cc
  outer := outer
  stack := supEnv qual scope s.heap.objs.size f cd cc :: outer
  ex := []
  calm := true
  fn := fun _ => false
  pn := []
  xe := fun e s' => wpAny (model P w) (A.deeper (supEnv qual scope s.heap.objs.size f cd cc)) (leaving (supEnv qual scope s.heap.objs.size f cd cc) e) (fun _ s'' => CX outer H s E e s'') (fun e' s'' => CX outer H s E e' s'') s'
structure ScopeS (N : List Str) (sc : Scope) : Prop where
  kind : sc.kind = .function
  co : sc.isCoroutine = false
  gen : sc.isGenerator = false
  nd : N.Nodup
  par : ∀ x ∈ N, sc.names.lookup x = some .local
  free : ∀ y ∈ sc.names, y.2 ≠ .cell ∧ (y.2 = .free → y.1 = "__class__")
  cls : sc.names.lookup ("__class__" : Str) = some .free
  sup : sc.names.lookup ("super" : Str) = some .globalImplicit
section
variable {P : Program} {w : World} {K : PySem.W.Frag} {mg : Str → Option Value} {base : Heap}
theorem invS_start {CX : CXT} {N : List Str} {qual : Str} {scope : Scope} {f cc : Addr} {cd : Value} {A : Around} {outer : List Env} {s : Shared} {H : Hp} {E : XK} {us : List Value} {vs : List V} {h0 : Heap} {tk : Nat} {oc : Obj} {cv : Option Value}
    (S : ScopeS N scope) (hd : A.handled = none) (e0 : Env0 P w K mg base A outer s H) (hl : vs.length = N.length) (r : Vals vs us) (hcc : base.get? cc = some oc) (hcd : oc.data = .cell cv)
    (hns : h0.Ns s.heap.objs.size fun x => (N.zip us).reverse.lookup x) (hk : ∀ b o, s.heap.get? b = some o → h0.get? b = some o) :
    Inv (cxS CX P w K mg base N qual scope f cd cc A outer s H E) [] (vs.map some) H { s with heap := h0, toks := tk } := by
  have noA : ∀ b : Addr, b ∉ (cxS CX P w K mg base N qual scope f cd cc A outer s H E).ex := fun b z => absurd (show b ∈ ([] : List Addr) from z) (by simp)
  have one : ∀ {y : Str} {c : Addr}, List.lookup y [(("__class__" : Str), cc)] = some c → y = "__class__" ∧ c = cc := fun {y c} h => by
    have h2 : (match y == ("__class__" : Str) with | true => some cc | false => none) = some c := h
    cases q : (y == ("__class__" : Str)) with
    | true =>
      rw [q] at h2
      exact ⟨eq_of_beq q, (Option.some.inj h2).symm⟩
    | false =>
      rw [q] at h2
      cases h2
  have has : List.lookup ("__class__" : Str) [(("__class__" : Str), cc)] = some cc := by
    show (match ("__class__" : Str) == ("__class__" : Str) with | true => some cc | false => none) = some cc
    rw [beq_self_eq_true]
  refine ⟨⟨e0.mod, S.kind, rfl, rfl, Nat.le_refl _, fun y z c h1 h2 => ?_, fun y hy => ?_, fun y c z _ => ?_, fun _ => hd, Around.frames_deeper e0.frames, .inr ⟨rfl, rfl⟩, fun b z => absurd z (noA b), e0.bs, e0.bsz, fun b _ _ => noA b, fun b z => absurd z (noA b), e0.funs, e0.frf⟩,
    rfl, e0.bare, Un.kept hk, ⟨_, hns, fun i y v h1 h2 h3 => ?_⟩, fun y c h => ?_, e0.hok.fresh (Nat.le_refl _), fun y c h => ?_, fun p hp => absurd (show p ∈ ([] : List (Addr × Obj)) from hp) (by simp), e0.hok.kept hk, ?_⟩
  · rw [(one h1).1, (one h2).1]
  · have hy : scope.names.lookup y = some .cell ∨ scope.names.lookup y = some .free := hy
    rcases hy with hy | hy
    · exact absurd rfl (S.free _ (PySem.mem_of_lookup hy)).1
    · have e : y = "__class__" := (S.free _ (PySem.mem_of_lookup hy)).2 rfl
      exact ⟨cc, by rw [e]; exact has⟩
  · have z : false = true := z
    cases z
  · have h1 : N[i]? = some y := h1
    rw [List.getElem?_map] at h2
    cases e : vs[i]? with
    | none => rw [e] at h2; cases h2
    | some a =>
      rw [e] at h2
      cases h2
      obtain ⟨u, hu, rv⟩ := r.get e
      exact ⟨u, rv, .inl ⟨S.par y (List.mem_of_getElem? h1), rev_lookup S.nd h1 hu⟩⟩
  · rw [(one h).2]
    exact ⟨cv, oc, hk _ _ (e0.bs _ _ hcc).1, hcd⟩
  · rw [(one h).2]
    exact (e0.bs _ _ hcc).2
  · show (vs.map some).length = N.length
    rw [List.length_map, hl]

/-- the written part about such a class and its __init__ -/
structure SupF (P : Program) (K : PySem.W.Frag) (mg : Str → Option Value) (C f cc cda : Addr) (qual : Str) (params : Arguments) (body : List Stmt) (scope : Scope) (fd : FuncData) : Prop where
  ex : ∃ (oc : Value) (od : Option Addr) (dV kV doc pm ct : Value) (an : Option Addr) (osl : Array (Option Value)),
    fd = PySem.W.ksFn "__init__" qual params body scope dV kV doc pm an (.ref cda) ct cc ∧ K.lookup f = some ⟨oc, od, .func fd, osl⟩
  cd : PySem.W.codeIn K (.ref cda) qual = true
  co : ∃ (oc : Obj) (vs : Array Value) (file : Str) (tf : Tok), K.lookup cda = some oc ∧ oc.data = .fields vs ∧ vs[2]? = some (.str file tf) ∧ ((P.main.file : Str) == file) = true
  cell : ∃ oc : Obj, K.lookup cc = some oc ∧ oc.data = .cell (some (.ref C))
  top : (P.main.scope.names.lookup ("super" : Str)).isSome = false
  sub : PySem.W.mroIn K C (.ref C) = some true
  opq : PySem.W.nsIn K cStatics "thirdparty.any" = some none
  al : ∃ cd, PySem.W.clsIn K C = some cd ∧ PySem.W.alongIn K "__init__" ((cd.mro.dropWhile (· != .ref C)).drop 1) = some (some (.builtin "ValueError.__init__"))
  ve : PySem.W.subIn K (.ref C) (.type "ValueError") = some true
  su : mg "super" = none
/-- the first statement -/
abbrev supCall (p0 p1 p2 p3 p4 : Pos) (txt : Str) (kd : Nat) : Expr := .Call (.Attribute (.Call (.Name "super" p0) [] [] p1) "__init__" p2) [.Constant (.str txt) kd p3] [] p4
/-- what the evaluator's own text says there, by rfl at a written scope -/
structure SupE (qual : Str) (scope : Scope) (p0 p1 p2 p3 p4 p5 : Pos) (txt : Str) (kd : Nat) : Prop where
  hi : ∀ L f cd cc, interactive (supEnv qual scope L f cd cc) = false
  hs : ∀ L f cd cc, swapsWith (supCall p0 p1 p2 p3 p4 txt kd) none p5.line (supEnv qual scope L f cd cc) = pure false
  he : ∃ pl : Sem Bool, ∀ L f cd cc, eval (supCall p0 p1 p2 p3 p4 txt kd) (supEnv qual scope L f cd cc) = (do
      let ov ← attributeBase (.Call (.Name "super" p0) [] [] p1) "__init__" (supEnv qual scope L f cd cc) (eval (.Call (.Name "super" p0) [] [] p1) (supEnv qual scope L f cd cc))
      standAt p2.atName
      let (g, first) ← holding [ov] (getMethod ov "__init__" pl)
      callWith p4 g first (backTo p4 (starEach [.Constant (.str txt) kd p3] (supEnv qual scope L f cd cc))) [])
theorem super_init {CX : CXT} {N : List Str} {qual : Str} {params : Arguments} {body : List Stmt} {scope : Scope} {C f cc cda e : Addr} {fd : FuncData} {A : Around} {outer : List Env} {s : Shared} {H : Hp} {E : XK} {s0 : Shared} {H0 : Hp} {σ : St} {p0 p1 p2 p3 p4 p5 : Pos} {txt : Str} {kd : Nat} {ar : Arg}
    (F : SupF P K mg C f cc cda qual params body scope fd) (T : OexC K C) (S : ScopeS N scope) (SE : SupE qual scope p0 p1 p2 p3 p4 p5 txt kd) (hhd : (params.posonlyargs ++ params.args).head? = some ar) (hN : N[0]? = some ar.arg)
    (I : Inv (cxS CX P w K mg base N qual scope f (.ref cda) cc A outer s0 H0 E) [] σ H s) (hσ : σ[0]? = some (some (.ref e))) (he : H e = some (exo e C none)) {Q : Flow → Shared → Prop} {EE : Value → Shared → Prop}
    (h : ∀ s', Inv (cxS CX P w K mg base N qual scope f (.ref cda) cc A outer s0 H0 E) [] σ H s' → Q .next s') :
    PySem.wpAt (model P w) (A.deeper (supEnv qual scope s0.heap.objs.size f (.ref cda) cc)) (.func body (supEnv qual scope s0.heap.objs.size f (.ref cda) cc))
      (exec (.Expr (supCall p0 p1 p2 p3 p4 txt kd) p5) (supEnv qual scope s0.heap.objs.size f (.ref cda) cc)) Q EE s := by
  obtain ⟨oc, od, dV, kV, doc, pm, ct, an, osl, rfl, lk⟩ := F.ex
  obtain ⟨co, vs, file, tf, lco, dco, vs2, hfile⟩ := F.co
  obtain ⟨cel, lcel, dcel⟩ := F.cell
  obtain ⟨cdC, hcl, hal⟩ := F.al
  have X := I.kIn
  obtain ⟨t1, ho⟩ := exo_at I.hok he
  obtain ⟨oD, hD1, hD2⟩ : ∃ oD, s.heap.get? C = some oD ∧ oD.data = .cls cdC := by
    unfold PySem.W.clsIn at hcl
    split at hcl
    · rename_i c d cd' sl hoo
      cases hcl
      exact ⟨_, X _ _ hoo, rfl⟩
    · cases hcl
  have eC : e ≠ C := fun z => by
    rw [z] at ho
    rw [ho] at hD1
    cases hD1
    cases hD2
  obtain ⟨m, hns, hloc⟩ := I.loc
  have harl : scope.names.lookup ar.arg = some .local := S.par _ (List.mem_of_getElem? hN)
  obtain ⟨u, ru, lu⟩ := hloc 0 ar.arg (.ref e) hN hσ (.inl harl)
  cases (show u = Value.ref e from ru)
  have hm : m ar.arg = some (.ref e) := by
    rcases lu with ⟨_, z⟩ | ⟨z, _⟩
    · exact z
    · have z : scope.names.lookup ar.arg = some .cell ∨ scope.names.lookup ar.arg = some .free := z
      rw [harl] at z
      rcases z with z | z <;> cases z
  have J : PySem.W.InstAt s.heap e ({ cls := .ref C, dict := none, data := .fields #[.ref t1, .none, .none, .none, .bool false, .none] } : Obj) C none := ⟨ho, rfl, rfl, trivial⟩
  obtain ⟨pl, hev⟩ := SE.he
  refine PySem.ks_wpAt_Expr_any ?_ (SE.hi _ _ _ _) (SE.hs _ _ _ _)
  refine PySem.ks_wpAt_MethodCall (pl := pl) ?_ (hev _ _ _ _)
  refine PySem.ks_wpAt_super_base (env := supEnv qual scope s0.heap.objs.size f (.ref cda) cc) S.sup S.cls (by decide +kernel) rfl (X _ _ lk) rfl hhd rfl (X _ _ lco) dco vs2 hfile F.top ?_
  obtain ⟨mb, mb1, mb2⟩ := I.mod.blt
  refine PySem.W.ks_loadName_global S.kind S.sup (Calls.loadGlobal_builtin (env := supEnv qual scope s0.heap.objs.size f (.ref cda) cc) (I.mod.glob.keeps I.bk) F.su (mb1.keeps I.bk) ((mb2 _ (by decide)).trans (show bootBuiltins "super" = some (.type "super") by decide +kernel)) ⟨rfl, ?_⟩)
  refine wpAny_loadName_free S.kind S.cls rfl ⟨_, X _ _ lcel, dcel⟩ ?_
  refine wpAny_loadName_local S.kind harl hns hm ?_
  refine ks_wpAny_isType_cls hD1 hD2 ⟨rfl, ?_⟩
  obtain ⟨hp, g, d, t, os⟩ := s
  refine ks_wpAny_call_super hD1 hD2 ho rfl (fun c z => by cases z) (PySem.W.looks_mroIn X F.sub) (fun h' es k => ?_)
  have I1 : Inv (cxS CX P w K mg base N qual scope f (.ref cda) cc A outer s0 H0 E) [] σ H ⟨h', g, d, t, os⟩ := I.kept (t' := t) k
  have X1 := I1.kIn
  refine PySem.W.kxs_getMethod PySem.W.kxs_ValueError es (PySem.W.looks_opaque X1 F.opq) (l₀ := cdC.mro) (fun A Q E s k q => wpAny_bind ((PySem.W.looks_clsIn X1 hcl) A _ E s k (wpAny_pure q))) rfl X1 hal ((show PySem.W.InstAt h' e _ C none from ⟨k _ _ ho, rfl, rfl, trivial⟩).type.andThen (PySem.W.looks_subIn X1 F.ve)) eC (by decide +kernel) ?_
  have es2 : (h'.push (PySem.W.kxs_mw "ValueError.__init__" e)).get? h'.objs.size = some (PySem.W.kxs_mw "ValueError.__init__" e) := Heap.get?_push_at rfl rfl
  generalize h'.objs.size = u at es2
  have k2 : ∀ b o, h'.get? b = some o → (h'.push (PySem.W.kxs_mw "ValueError.__init__" e)).get? b = some o := fun b o q => Heap.get?_push_of_some _ q
  generalize h'.push (PySem.W.kxs_mw "ValueError.__init__" e) = h2 at es2 k2
  have I2 : Inv (cxS CX P w K mg base N qual scope f (.ref cda) cc A outer s0 H0 E) [] σ H ⟨h2, g, d, t + 1, os⟩ := I1.kept (t' := t + 1) k2
  have hee : ∀ env : Env, starEach [.Constant (.str txt) kd p3] env = (false, eval (.Constant (.str txt) kd p3) env) :: starEach [] env := fun env => rfl
  refine PySem.W.kxs_callWith (i := "ValueError.__init__") (x := e) (by rw [hee]; rfl) ?_
  rw [hee]
  refine Calls.evalArgs_plain (Calls.spliced_cons (Calls.Constant_str (pos := p3) (k := kd) (Calls.spliced_nil ?_)))
  refine ⟨es2, ?_⟩
  have he2 := k2 _ _ (k _ _ ho)
  obtain ⟨nm, q, N', bs, bm, sn, sub, ab, col, dd, k0, k1, k2', k3, k5, hC, hbm⟩ := T.cls
  have hC2 := I2.kIn _ _ hC
  refine wpAny_call (codeAny_of_tree ?_)
  show wpAny _ (A.deeper (supEnv qual scope s0.heap.objs.size f (.ref cda) cc)).in1 (callAny (.ref u) ⟨[.str txt _], []⟩) _ _ _
  simp only [callAny]
  refine wpAny_bind (wpAny_load es2 ?_)
  simp only [PySem.W.kxs_mw, show (Value.type "method-wrapper" == Value.type "method" || Value.type "method-wrapper" == Value.type "builtin_function_or_method" || Value.type "method-wrapper" == Value.type "method-wrapper") = true by decide, if_true]
  refine PySem.W.KFB.if_so (by decide) ?_
  refine wpAny_bind (PySem.W.check_bound_init PySem.F.excBase_ValueError.toExcCallFacts hC2 he2 rfl ?_)
  refine wpAny_bind (wpAny_pure (wpAny_pure ?_))
  refine ⟨plainId_quiet PySem.F.excBase_ValueError.init.plain _, codeAny_builtin PySem.F.excBase_ValueError.initEntry ?_⟩
  refine PySem.W.exc_init_tree (cls := .ref C) (t0 := t1) (dv := none) (c2 := .none) (c3 := .none) (b4 := .bool false) he2 (by rw [sizeLine_eq]; exact (by decide : 1 ≤ 16777216)) fun h3 k3 hx _ => ?_
  have I3 : Inv (cxS CX P w K mg base N qual scope f (.ref cda) cc A outer s0 H0 E) [] σ (upd H e (exo e C none)) ⟨h3, g, d, t + 1 + 1, os⟩ := I2.write (t' := t + 1 + 1) (x := e) (e := e) (o := exo e C none) (by rw [he]; exact True.intro) (.inl rfl) k3 ⟨_, hx⟩ (exo_ok hx)
  have eu : upd H e (exo e C none) = H := by
    funext b
    by_cases hb : b = e
    · rw [hb, upd_same, he]
    · rw [upd_ne hb]
  rw [eu] at I3
  exact h _ I3
end
section
variable {P : Program} {w : World} {K : PySem.W.Frag} {mg : Str → Option Value} {base : Heap}
/-- THE RULE for such an __init__: behind its first statement, by the rest of its body -/
theorem fn_super {CX : CXT} {k : Nat} {sp : Sp} {N : List Str} {qual : Str} {params : Arguments} {rest : List Stmt} {scope : Scope} {C f cc cda : Addr} {fd : FuncData} {p0 p1 p2 p3 p4 p5 : Pos} {txt : Str} {kd : Nat} {ar : Arg}
    (F : SupF P K mg C f cc cda qual params (.Expr (supCall p0 p1 p2 p3 p4 txt kd) p5 :: rest) scope fd) (T : OexC K C) (S : ScopeS N scope) (SE : SupE qual scope p0 p1 p2 p3 p4 p5 txt kd) (hhd : (params.posonlyargs ++ params.args).head? = some ar) (hN : N[0]? = some ar.arg)
    (len : ∀ vs H Q E, sp vs H Q E → vs.length = N.length) (first : ∀ vs H Q E, sp vs H Q E → ∃ e r, vs = .ref e :: r ∧ H e = some (exo e C none))
    (hbody : ∀ (A : Around) (outer : List Env) (s : Shared) (H : Hp) (vs : List V) (Q : VK) (E : XK), sp vs H Q E →
      ∃ t, PSs (cxS CX P w K mg base N qual scope f (.ref cda) cc A outer s H E) rest t ∧ t { nx := fun _ H' => Q .non H', rt := Q } (vs.map some) H) : FnOk P w K mg base CX (k + 1) f fd N sp := by
  refine ⟨len, fun A outer s H args us vs Q E hr e0 hb r hsp => ?_⟩
  have hl := len _ _ _ _ hsp
  obtain ⟨e, rv, rfl, he⟩ := first _ _ _ _ hsp
  have F' := F
  obtain ⟨oc, od, dV, kV, doc, pm, ct, an, osl, rfl, lk⟩ := F.ex
  obtain ⟨oc', lcel, dcel⟩ := F.cell
  have KX : K.In s.heap := e0.mod.kin.keeps fun b o e => (e0.bs b o e).1
  have lim : s.heap.NoLimit := e0.mod.nolimit.keeps fun b o e => (e0.bs b o e).1
  have hloc : ∀ x ∈ N.zip us, scope.names.lookup x.1 = some .local := fun ⟨n, v⟩ hy => S.par n (List.of_mem_zip hy).1
  refine PySem.ks_codeAny_call_defAt (binds := N.zip us) hr.depth (KX _ _ lk) rfl lim (PySem.W.codeRec_of KX F.cd) rfl hb (fun x hx => (S.free x hx).1) hloc (fun h0 hns hk => ?_) S.co S.gen S.kind
  have I := invS_start (CX := CX) (P := P) (w := w) (E := E) (f := f) (cd := .ref cda) (tk := s.toks + (N.zip us).length) (qual := qual) S hr.hd e0 hl r (e0.mod.kin _ _ lcel) dcel hns hk
  obtain ⟨t, ht, hq⟩ := hbody A outer s H _ Q E hsp
  refine PySem.ks_wpAt_execs_cons (super_init F' T S SE hhd hN I rfl he fun s' I' => wpAt_of_wpAny ?_)
  refine wpAny_mono (ht.run [] s' _ H _ I' hq) (fun fl s' hs => ?_) fun e s' hs => hs
  have fin : ∀ {σ' : St} {H' : Hp} {v : V} {u : Value}, Inv (cxS CX P w K mg base N qual scope f (.ref cda) cc A outer s H E) [] σ' H' s' → RelV v u → Q v H' → CE outer P w H s Q u s' :=
    fun {σ' H' v u} J rv q => ⟨v, H', J.os, J.bare, J.base, J.hok, rv, q⟩
  cases fl with
  | ret u =>
    obtain ⟨v, σ', H', J, rv, q⟩ := hs
    exact fin J rv q
  | next =>
    obtain ⟨σ', H', J, q⟩ := hs
    exact fin (v := V.non) (u := Value.none) J rfl q
  | brk =>
    obtain ⟨_, _, _, q⟩ := hs
    exact False.elim q
  | cont =>
    obtain ⟨_, _, _, q⟩ := hs
    exact False.elim q
end
/-- C(e, ..) as a value, C an own exception whose __init__ keeps sp -/
def tMkV (C : Addr) (sp : Sp) (E : XK) (ta : TA) : TE := fun σ H Q => ta σ H fun vs H1 => vs.length ≤ 1000 ∧ ∀ a, H1 a = none → sp (.ref a :: vs) (upd H1 a (exo a C none)) (fun v H2 => v = .non ∧ Q (.ref a) H2) E
theorem pe_mkS {X : Cx} {e : Expr} {es : List Expr} {ta : TA} {p pos : Pos} {CX : CXT} {x : Str} {C fI : Addr} {k : Nat} {fd : FuncData} {ps : List Str} {sp : Sp} {E : XK} (T : OexC X.K C) (iC : PySem.W.findIn X.K (.ref C) "__init__" = some (some (.ref fI))) (tI : PySem.W.typeIn X.K (.ref fI) = some (.type "function"))
    (F1 : FnOk X.prog X.w X.K X.mg X.base CX k fI fd ps sp) (hr : Room (k + 1) X.A) (hb : Binds X.K fd ps []) (hx : Passes CX X E) (hg : Gl X x) (hm : X.mg x = some (.ref C)) (ha : PA X (e :: es) ta)
    (hdb : (x == ("__debug__" : Str)) = false := by decide) (he : starEach (e :: es) X.env = (false, eval e X.env) :: starEach es X.env := by rfl) (hpl : (backTo pos (starEach es X.env)).any (·.1) = false := by rfl) :
    PE X (.Call (.Name x p) (e :: es) [] pos) (tMkV C sp E ta) := by
  refine ⟨fun pins s σ H Q I h => ?_⟩
  obtain ⟨nm, q, N, bs, bm, sn, sub, ab, col, dd, k0, k1, k2, k3, k5, hC, hbm⟩ := T.cls
  refine wpAny_Call_Name_kw (ld_glob I hg hm ?_ hdb)
  refine PySem.W.callWith_K (h₀ := X.base) I.ok.mod.kin T.kC (thn (ha.run pos pins s σ H _ I h) fun us s1 ⟨vs, H1, I1, r1, hz, q1⟩ => ⟨I1.kIn, ?_⟩) he hpl
  show wpAny _ _ (call (.ref C) us) _ _ _
  obtain ⟨hp, g, dr, tk, os⟩ := s1
  have hsz : hp.objs.size ≤ hp.objs.size + 1 := Nat.le_succ _
  have hn : H1 (hp.objs.size + 1) = none := I1.hok.fresh hsz
  have hq := q1 (hp.objs.size + 1) hn
  have kk : ∀ b o, hp.get? b = some o → ((hp.push (PySem.W.kdv_tup us)).push (PySem.HandSPX.excO C hp.objs.size)).get? b = some o := fun b o e => Heap.get?_push_of_some _ (Heap.get?_push_of_some _ e)
  have hget : ((hp.push (PySem.W.kdv_tup us)).push (PySem.HandSPX.excO C hp.objs.size)).get? (hp.objs.size + 1) = some (PySem.HandSPX.excO C hp.objs.size) := by heap_get
  have I2 : Inv X pins σ (upd H1 (hp.objs.size + 1) (exo (hp.objs.size + 1) C none)) ⟨(hp.push (PySem.W.kdv_tup us)).push (PySem.HandSPX.excO C hp.objs.size), g, dr, tk, os⟩ :=
    I1.laid (t' := tk) (a := hp.objs.size + 1) (o := exo (hp.objs.size + 1) C none) (h' := (hp.push (PySem.W.kdv_tup us)).push (PySem.HandSPX.excO C hp.objs.size)) kk hsz (exo_ok hget)
  have r2 : Vals (V.ref (hp.objs.size + 1) :: vs) (Value.ref (hp.objs.size + 1) :: us) := .cons rfl r1
  have hl : (Value.ref (hp.objs.size + 1) :: us).length = ps.length := by
    have e := r2.length
    rw [F1.len _ _ _ _ hq] at e
    exact e.symm
  have hus : us.length ≤ sizeLine := by
    rw [← Paired.length r1, sizeLine_eq]
    omega
  have hb' := hb ⟨(hp.push (PySem.W.kdv_tup us)).push (PySem.HandSPX.excO C hp.objs.size), g, dr, tk, os⟩ (Value.ref (hp.objs.size + 1) :: us) I2.kIn (by rw [List.append_nil]; exact hl)
  rw [List.append_nil] at hb'
  refine wpAny_call (PySem.HandSPX.call_own PySem.F.excBase_ValueError (fun Y => PySem.HandSPX.refsVE_contains Y bm hbm) (I1.kIn _ _ hC) (PySem.W.looks_findIn I1.kIn iC) (fun self => PySem.W.bind_fn I1.kIn self tI) hus
    (codeAny_mono (F1.run _ X.stack _ _ ⟨Value.ref (hp.objs.size + 1) :: us, []⟩ (Value.ref (hp.objs.size + 1) :: us) _ _ E (hr.make C us []) (I2.env0.make C us []) hb' r2 hq) fun r s' hq' => ?_))
  cases r with
  | error er => exact hx pins σ _ _ er s' I2 hq'
  | ok fl =>
    cases fl with
    | ret u =>
      obtain ⟨v, H', I3, rv, ev, q3⟩ := I2.after hq'
      subst ev
      exact ⟨rv, V.ref (hp.objs.size + 1), H', I3, rfl, q3⟩
    | next => exact False.elim hq'
    | brk => exact False.elim hq'
    | cont => exact False.elim hq'
/-! ## an exception that a clause has caught stays held -/
/-- an exception of the class cls, its dict d, stands at a -/
def ExH (cls : Value) (a : Addr) (d : Option Addr) : HO := .ext fun h => ∃ (oe : Obj) (vs : Array Value), h.get? a = some oe ∧ Zc cls d oe ∧ oe.data = .fields vs
theorem exH_ok {P : Program} {w : World} {H : Hp} {h : Heap} {a : Addr} {cls : Value} {d : Option Addr} {oe : Obj} {vs : Array Value} (e : h.get? a = some oe) (z : Zc cls d oe) (dd : oe.data = .fields vs) : ObjOk P w H h a (ExH cls a d) :=
  ⟨⟨oe, vs, e, z, dd⟩, ⟨oe, e⟩, fun _ _ ⟨o, v, q, r⟩ k => ⟨o, v, k o q, r⟩⟩
section
variable {X : Cx} {pins : List (Addr × Obj)} {σ : L2.St} {H : Hp} {s : Shared}
theorem inv_track {a : Addr} {o : HO} {ob : Obj} (I : Inv X pins σ H s) (n0 : X.s_0.heap.get? a = none) (na : H a = none) (nL : a ≠ X.env.locals) (ha : s.heap.get? a = some ob) (nc : ∀ v, ob.data ≠ .cell v)
    (np : ∀ p ∈ X.pn ++ pins, p.1 ≠ a) (ok : ObjOk X.prog X.w (upd H a o) s.heap a o) : Inv X pins σ (upd H a o) s := by
  have old : ∀ {b : Addr} {u : Obj}, X.s_0.heap.get? b = some u → b ≠ a := fun {b u} e z => by
    rw [z, n0] at e
    cases e
  have nec : ∀ x c, X.env.cells.lookup x = some c → c ≠ a := fun x c e z => by
    obtain ⟨v, oc, hoc, hd⟩ := I.cell x c e
    rw [z, ha] at hoc
    cases hoc
    exact nc v hd
  refine ⟨I.ok, I.os, I.bare, ⟨I.base.keep, I.base.slot, fun b u e n x => ?_, I.base.there, fun b xs e => ?_, fun b u v e => ?_, fun b ps e => ?_⟩, I.loc, I.cell, ?_, fun x c e => ?_, fun p hp => ?_, fun b u e => ?_, I.len⟩
  · rw [upd_ne (old e)]
    exact I.base.free b u e n x
  · rw [upd_ne (ne_of_none (I.base.tups b xs e) na)]
    exact I.base.tups b xs e
  · rw [upd_ne (ne_of_none (I.base.frzs b u v e) na)]
    exact I.base.frzs b u v e
  · obtain ⟨m, q⟩ := I.base.tbls b ps e
    exact ⟨m, by rw [upd_ne (ne_of_none q na)]; exact q⟩
  · rw [upd_ne nL.symm]
    exact I.free
  · rw [upd_ne (nec x c e)]
    exact I.freeC x c e
  · obtain ⟨h1, h2, h3⟩ := I.pin p hp
    exact ⟨h1, by rw [upd_ne (np p hp)]; exact h2, h3⟩
  · by_cases hb : b = a
    · subst hb
      rw [upd_same] at e
      cases e
      exact ok
    · rw [upd_ne hb] at e
      exact (I.hok b u e).stay (fun c v _ q => q) (fun c q => by rw [upd_ne (ne_of_none q na)]; exact q) fun c xs q => by rw [upd_ne (ne_of_none q na)]; exact q
end
/-- what the clause 'except x as n' wishes, behind which the exception stays held -/
def wHeld (K : PySem.W.Frag) (c : Value) (i : Nat) (ts : Addr → Value → Option Addr → TS) (Wout : WX) (D : Ends) : WX := fun cls d σ H =>
  ∃ b, PySem.W.exmOne K cls c = some b ∧ (b = true → ∀ a, H a = none → ts a cls d
    { nx := fun σ' H' => D.nx (σ'.set i none) (upd H' a (ExH cls a d)), rt := fun v H' => D.rt v (upd H' a (ExH cls a d)), bk := fun σ' H' => D.bk (σ'.set i none) (upd H' a (ExH cls a d)), ct := fun σ' H' => D.ct (σ'.set i none) (upd H' a (ExH cls a d)) } (σ.set i (some (.ref a))) H) ∧
    (b = false → Wout cls d σ H)
section
variable {X : Cx} {x n : Str} {c : Value} {i : Nat} {body suite : List Stmt} {b₀ : Stmt} {np pos pos' : Pos} {tb : WX → TS} {ts : Addr → Value → Option Addr → TS} {Wout : WX}
theorem ps_try_held (hex : X.ex = []) (hs : X.stack = X.env :: X.outer) (hf : X.env.frame = some X.env.locals) (hN : X.N.Nodup) (hi : X.N[i]? = some n) (hln : X.env.kindOf n = some .local) (hc : Names X x c) (tk : Takes X Wout)
    (hb : ∀ (W : WX) (pn : List (Addr × Obj)) (xe : Value → Shared → Prop), Takes (X.tr pn xe) W → PassesOwn (model X.prog X.w) X.A X.env xe → PSs (X.tr pn xe) body (tb W))
    (hsu : ∀ (a : Addr) (oe : Obj) (cls : Value) (d : Option Addr) (pn : List (Addr × Obj)), Zc cls d oe → (∃ vs, oe.data = .fields vs) → PSs (X.suite a ((a, oe) :: pn)) (b₀ :: suite) (ts a cls d)) :
    PS X (.Try body [.ExceptHandler (some (.Name x np)) (some n) (b₀ :: suite) pos'] [] [] pos) (fun D σ H => tb (wHeld X.K c i ts Wout D) D σ H) := by
  refine ⟨fun pins s σ H D I hw => ?_⟩
  have ok := I.ok
  have frames1 : X.A.frames = some (X.env :: X.outer) := ok.frames.trans (congrArg some hs)
  refine wpAny_Try_except ?_
  refine wpAny_mono ((hb (wHeld X.K c i ts Wout D) (X.pn ++ pins) (fun e s1 => wpAny (model X.prog X.w) X.A (noteFrame e X.env) (fun _ s2 => wpAny (model X.prog X.w) X.A (setFlight e none) (fun _ s3 =>
    wpAny (model X.prog X.w) X.A (handleBy e X.env [.ExceptHandler (some (.Name x np)) (some n) (b₀ :: suite) pos']) (SP X pins D) X.xe s3) X.xe s2) X.xe s1) (fun u s' air => ?_) PassesOwn.looking).run [] s σ H D (I.toTry _) hw) (fun f s1 hsp => ?_) (fun e s1 he => he)
  · obtain ⟨a, B, sI, pins', σ', H', cls, d, rfl, J0, nb, up, sky, na, os, ag, b, hb1, hyes, hno⟩ := air
    have J : Inv X pins σ' H' sI := J0.ofTry ok
    have skyE : Sky B (X.env :: X.outer) a (Zc cls d) X.env.locals s'.heap := hs ▸ sky
    show wpAny (model X.prog X.w) X.A (noteFrame (.ref a) X.env) _ _ _
    refine Sky.land Zc.steady frames1 hf skyE fun h3 fl3 up3 => ?_
    have J3 : Inv X pins σ' H' { s' with heap := h3 } := J.landed nb fl3.1 (up.trans up3) os ag
    obtain ⟨oe3, vs3, he3, hz3, hd3⟩ := fl3.there
    have nfr : a ∉ frs (X.env :: X.outer) := fun hm => by
      obtain ⟨_, o', e', hnf⟩ := fl3.2.2.1.mem hm
      rw [he3] at e'
      cases e'
      exact hnf _ hd3
    have nL : a ≠ X.env.locals := fun z => nfr (List.mem_filterMap.mpr ⟨X.env, List.mem_cons_self, hf.trans (congrArg some z.symm)⟩)
    have nF : a ∉ X.fs := fun hm => by
      obtain ⟨e, he, q⟩ := List.mem_filterMap.mp hm
      exact nfr (List.mem_filterMap.mpr ⟨e, List.mem_cons_of_mem _ he, q⟩)
    -- the exception is not of the state ahead
    have nI : sI.heap.get? a = none := by
      cases e : sI.heap.get? a with
      | none => rfl
      | some o =>
        have z := nb a o e (by rw [hs]; exact nfr)
        rw [fl3.2.1] at z
        cases z
    have n0 : X.s_0.heap.get? a = none := by
      cases e : X.s_0.heap.get? a with
      | none => rfl
      | some o =>
        obtain ⟨o', z⟩ := J.base.there a o e (by rw [hex]; exact fun q => nomatch q)
        rw [nI] at z
        cases z
    have np' : ∀ p ∈ X.pn ++ pins, p.1 ≠ a := fun p hp z => by
      have q := (J.pin p hp).1
      rw [z, nI] at q
      cases q
    have S3 := J3.suite he3 hd3 na nL nF
    refine wpAny_handleBy_cons (codeAny_handlers_test ?_) (by intro q; cases q)
    have looksT : PySem.W.Looks (model X.prog X.w) h3 (typeOf (.ref a)) cls := fun A Q E s k q => wpAny_typeOf_ref (k _ _ he3) (by rw [hz3.1]; exact q)
    have looksM := PySem.W.exm_one (M := model X.prog X.w) J3.kIn looksT hb1
    have named : ∀ {Q : Value → Shared → Prop} {E : Value → Shared → Prop}, Q c { s' with heap := h3 } → wpAny (model X.prog X.w) (X.A.mark (some (.ref a))) (eval (.Name x np) X.env) Q E { s' with heap := h3 } := fun {Q E} q => by
      obtain ⟨hg, hdbg, hm | ⟨hm, hv, hnn⟩⟩ := hc
      · exact ld_glob (X := X.suite a ((a, oe3) :: (X.pn ++ pins))) S3 hg hm q hdbg
      · exact ld_blt (X := X.suite a ((a, oe3) :: (X.pn ++ pins))) S3 hg hm hv q hnn hdbg
    refine named (looksM.here ?_)
    cases b with
    | true =>
      refine codeAny_handlers_suite_as (HandSPX.lands_againZ fl3 fun h4 fl4 up4 => ?_)
      have J4 : Inv X pins σ' H' { s' with heap := h4 } := J.landed nb fl4.1 ((up.trans up3).trans up4) os ag
      obtain ⟨oe4, vs4, he4, hz4, hd4⟩ := fl4.there
      have S4 := J4.suite he4 hd4 na nL nF
      refine store_ok (X := X.suite a ((a, oe4) :: (X.pn ++ pins))) (v := .ref a) S4 hN hi (.inl hln) rfl (fun s5 S5 => ?_) (.inr hln)
      refine wpAny_mono ((hsu a oe4 cls d (X.pn ++ pins) hz4 ⟨_, hd4⟩).run [] s5 _ H' _ S5 (hyes rfl a na)) (fun f s6 hsp => ?_) (fun _ _ z => False.elim z)
      have leave : ∀ {σ6 : L2.St} {H6 : Hp} {Q : Shared → Prop}, Inv (X.suite a ((a, oe4) :: (X.pn ++ pins))) [] σ6 H6 s6 → (∀ s7, Inv X pins (σ6.set i none) (upd H6 a (ExH cls a d)) s7 → Q s7) →
          wpAny (model X.prog X.w) X.A (do bindName X.env n .none; unbindBehindTheSuite X.env n pos') (fun _ s7 => Q s7) X.xe s6 := fun {σ6 H6 Q} S6 hq => by
        obtain ⟨g1, g2, _, _, g5⟩ := S6.pin (a, oe4) (List.mem_append_left _ List.mem_cons_self)
        exact gone_ok (inv_track (S6.unsuite ok) n0 g2 nL g1 g5 np' (exH_ok g1 hz4 hd4)) hN hi hln hq
      cases f with
      | next =>
        obtain ⟨σ6, H6, S6, q6⟩ := hsp
        exact leave S6 fun s7 J7 => ⟨_, _, J7, q6⟩
      | brk =>
        obtain ⟨σ6, H6, S6, q6⟩ := hsp
        exact leave S6 fun s7 J7 => ⟨_, _, J7, q6⟩
      | cont =>
        obtain ⟨σ6, H6, S6, q6⟩ := hsp
        exact leave S6 fun s7 J7 => ⟨_, _, J7, q6⟩
      | ret u =>
        obtain ⟨v6, σ6, H6, S6, r6, q6⟩ := hsp
        exact leave S6 fun s7 J7 => ⟨_, _, _, J7, r6, q6⟩
    | false =>
      show wpAny _ X.A (handleBy (.ref a) X.env []) _ _ _
      refine wpAny_handleBy_nil ?_
      obtain ⟨k1, k2, k3, oe, vs, T, oT, ts', he, hz, hd, h1, hr⟩ := id fl3
      unfold PySem.passOn
      refine wpAny_bind (wpAny_field he hd h1 ?_)
      rw [if_neg (show ¬ ((Value.ref T == Value.none) = true) from by simp)]
      have thrown : wpAny (model X.prog X.w) X.A (setFlight (.ref a) X.env.frame) (fun _ s4 => wpAny (model X.prog X.w) X.A (throw (.ref a) : Sem Flow) (SP X pins D) X.xe s4) X.xe { s' with heap := h3 } := by
        rw [hf]
        refine HandSPX.setFlight_upZ fl3 fun h4 hh4 up4 => wpAny_throw (tk _ _ ?_)
        exact ⟨a, B, sI, pins, σ', H', cls, d, rfl, J, nb, (up.trans up3).trans up4, .inr (.inr (hs ▸ hh4)), na, os, ag, hno rfl⟩
      first
        | exact wpAny_bind (wpAny_pure (wpAny_bind thrown))
        | exact wpAny_bind thrown
  · cases f with
    | next =>
      obtain ⟨σ', H', J', q⟩ := hsp
      exact wpAny_execs_nil ⟨σ', H', J'.ofTry ok, q⟩
    | brk =>
      obtain ⟨σ', H', J', q⟩ := hsp
      exact ⟨σ', H', J'.ofTry ok, q⟩
    | cont =>
      obtain ⟨σ', H', J', q⟩ := hsp
      exact ⟨σ', H', J'.ofTry ok, q⟩
    | ret u =>
      obtain ⟨v, σ', H', J', r, q⟩ := hsp
      exact ⟨v, σ', H', J'.ofTry ok, r, q⟩
end
/-! ## attributes and classes of exceptions that are held -/
/-- what the class at D says, for reads of its instances -/
structure ExcR (K : PySem.W.Frag) (D : Addr) : Prop where
  ga : PySem.W.findIn K (.ref D) "__getattribute__" = some (some (.builtin "BaseException.__getattribute__"))
  gt : PySem.W.findIn K (.ref D) "__getattr__" = some none
  sb : PySem.W.subIn K (.ref D) (.type "BaseException") = some true
  hd : PySem.W.hasDictIn K D = true
  kl : PySem.W.findIn K (.ref D) "__class__" = some (some (.builtin "object.__class__"))
  sp : PySem.W.specialIn K (.builtin "object.__class__") "__get__" = some (some (.builtin "getset_descriptor.__get__"))
  tk : PySem.W.takesIn K (.builtin "object.__class__") = some true
  ob : PySem.W.mroIn K D (.type "object") = some true
/-- an exception of the class at D stands at a -/
def ExAt (H : Hp) (a D : Addr) : Prop := (∃ d, H a = some (exo a D d) ∧ ∀ dx, d = some dx → ∃ fs, H dx = some (exd dx fs)) ∨ H a = some (ExO (.ref D) a) ∨ ∃ d, H a = some (ExH (.ref D) a d) ∧ ∀ dx, d = some dx → ∃ fs, H dx = some (.xd fs)
section
variable {X : Cx} {pins : List (Addr × Obj)} {σ : L2.St} {H : Hp} {s : Shared}
theorem exAt_inst {a D : Addr} (I : Inv X pins σ H s) (h : ExAt H a D) : ∃ ob od, PySem.W.InstAt s.heap a ob D od := by
  rcases h with ⟨d, h1, h2⟩ | h | ⟨d, h1, h2⟩
  · obtain ⟨t1, ho⟩ := exo_at I.hok h1
    cases d with
    | none => exact ⟨_, none, ho, rfl, rfl, trivial⟩
    | some dx =>
      obtain ⟨fs, h3⟩ := h2 dx rfl
      obtain ⟨mA, ⟨od, es, ep, hod, r⟩, _⟩ := exd_at I.hok h3
      exact ⟨_, some od, ho, rfl, rfl, hod⟩
  · have x : ObjOk X.prog X.w H s.heap a (ExO (.ref D) a) := I.hok a _ h
    obtain ⟨⟨oe, vs, e1, e2, e3, _⟩, _⟩ := x
    obtain ⟨oc, odd, oda, osl⟩ := oe
    obtain ⟨z1, z2⟩ := e2
    dsimp only at z1 z2 e3
    subst z1 z2 e3
    exact ⟨_, none, e1, rfl, rfl, trivial⟩
  · have x : ObjOk X.prog X.w H s.heap a (ExH (.ref D) a d) := I.hok a _ h1
    obtain ⟨⟨oe, vs, e1, e2, e3⟩, _⟩ := x
    obtain ⟨oc, odd, oda, osl⟩ := oe
    obtain ⟨z1, z2⟩ := e2
    dsimp only at z1 z2 e3
    subst z1 z2 e3
    cases odd with
    | none => exact ⟨_, none, e1, rfl, rfl, trivial⟩
    | some dx =>
      obtain ⟨fs, h3⟩ := h2 dx rfl
      obtain ⟨mA, ⟨od, es, ep, hod, r⟩, _⟩ : ∃ mA, s.heap.Ns1 dx mA ∧ ∀ f, RelO (fs.lookup f) (mA f) := I.hok dx _ h3
      exact ⟨_, some od, e1, rfl, rfl, hod⟩
end
open PySem.W in
theorem exc_class {prog : Program} {w : World} {A : Around} {E : Value → Shared → Prop} {s : Shared} {K : Frag} {x D : Addr} {ox : Obj} {od : Option Obj} {Q : Option Value → Shared → Prop} (C : ExcR K D)
    (X : K.In s.heap) (I : InstAt s.heap x ox D od) (h : Q (some (.ref D)) { s with toks := s.toks + 1 }) : wpAny (model prog w) A (getAttr? (.ref x) "__class__") Q E s := by
  obtain ⟨cdD, hcD⟩ : ∃ cd, clsIn K D = some cd := by
    obtain ⟨cd, q, _⟩ := any_some C.hd
    exact ⟨cd, q⟩
  have hfo : findObj K D od "__class__" = some (.bind (.builtin "getset_descriptor.__get__") (.builtin "object.__class__")) := by
    unfold findObj
    rw [hcD, Option.bind_some, C.kl, Option.bind_some]
    simp [C.sp, C.tk]
  obtain ⟨hp, gs, dr, tk, os⟩ := s
  have lt := I.type (M := model prog w)
  have lg := looks_findIn (M := model prog w) X C.ga
  have lh := looks_findIn (M := model prog w) X C.gt
  have lf := looks_find (M := model prog w) X I hfo
  have lb : Looks (model prog w) hp (isInstance (.ref x) (.type "BaseException")) true := lt.andThen (looks_subIn X C.sb)
  have z2 : (onTheHeap (Value.ref D) && Value.builtin "BaseException.__getattribute__" == Value.builtin "object.__getattribute__") = false := by
    rw [show (Value.builtin "BaseException.__getattribute__" == Value.builtin "object.__getattribute__") = false by decide +kernel] <;> rfl
  unfold getAttr? getAttrBy? getAttrBy
  refine wpAny_bind (wpAny_mkText (wpAny_bind (wpAny_attempt (wpAny_holding (wpAny_bind (lt.at (wpAny_bind (lg.at ?_))))))))
  show wpAny _ _ (if (onTheHeap (Value.ref D) && Value.builtin "BaseException.__getattribute__" == Value.builtin "object.__getattribute__") = true then _ else _) _ _ _
  rw [z2, if_neg Bool.false_ne_true]
  unfold getAttrByItsOwn hookBefore
  refine wpAny_bind ?_
  rw [if_pos (show onTheHeap (Value.ref D) = true from rfl)]
  refine lh.at (wpAny_bind (wpAny_attempt (wpAny_holding ?_)))
  unfold callGetattribute
  rw [show (false && onTheHeap (Value.builtin "BaseException.__getattribute__")) = false from rfl, if_neg Bool.false_ne_true]
  unfold boundAndCalled
  rw [PySem.F.excAttr_ValueError.ga.bind (.ref x)]
  refine wpAny_bind (wpAny_pure ?_)
  show wpAny _ _ (call (.builtin "BaseException.__getattribute__") [.ref x, .str "__class__" tk]) _ _ _
  refine wpAny_call (codeAny_call_builtin PySem.F.excAttr_ValueError.ga.plain PySem.F.entry_bexc_ga ?_)
  refine @check_slot (model prog w) _ _ ⟨hp, gs, dr, tk + 1, os⟩ "BaseException.__getattribute__" "BaseException" "__getattribute__" (.ref x) [.str "__class__" tk] [] _ (by decide +kernel) (by decide +kernel) lb (PySem.F.args_bexc_ga (.ref x) (.str "__class__" tk)) ?_
  unfold Builtin.«object.__getattribute__»
  refine wpAny_bind (wpAny_of_eq (a := ((Value.ref x : Value), [Value.str "__class__" tk])) (by first | rfl | (simp only [slotArgs]; rfl)) ?_)
  refine wpAny_bind (wpAny_pure (wpAny_bind (lt.at (wpAny_bind (lf.at ?_)))))
  show wpAny _ _ (holding [Value.builtin "object.__class__"] (call (.builtin "getset_descriptor.__get__") [.builtin "object.__class__", .ref x, .ref D]) >>= ret) _ _ _
  refine wpAny_bind (wpAny_holding (wpAny_call (class_get (s := ⟨hp, gs, dr, tk + 1, os⟩) (ox := ox) (od := od) X I C.ob ?_)))
  refine wpAny_pure ?_
  show wpAny _ _ (handedOut (.ref D)) _ _ _
  rw [handedOut_of (v := .ref D) rfl]
  exact wpAny_pure (wpAny_pure h)
open PySem.W in
theorem kitx_held {K : Frag} {x D : Addr} (C : ExcR K D) : KitX K (.ref x) (.ref D) (fun h => ∃ ox od, InstAt h x ox D od) where
  ty := fun _ _ _ ⟨_, _, I⟩ => I.type
  it := fun _ _ X _ => by
    obtain ⟨cdD, hcD, _⟩ := any_some C.hd
    unfold clsIn at hcD
    split at hcD
    · rename_i c' d' cd' sl' ho
      intro A' Q' E' s' k q
      unfold isType loadHead
      exact wpAny_bind (wpAny_loadPart (k _ _ (X _ _ ho)) (wpAny_pure q))
    · cases hcD
  ne := fun h tp dd its n sl X htp => by
    obtain ⟨cdD, hcD, _⟩ := any_some C.hd
    refine Bool.eq_false_iff.mpr fun q => ?_
    have e : D = tp := Value.ref.inj (beq_iff_eq.mp q)
    subst e
    unfold clsIn at hcD
    split at hcD
    · rename_i c' d' cd' sl' ho
      have z := (X _ _ ho).symm.trans htp
      cases z
    · cases hcD
  ca := fun X ⟨_, _, I⟩ k => exc_class C X I k
/-- isinstance(e, c), e an exception that is held -/
def rIsiX (K : PySem.W.Frag) : List V → Hp → VK → Prop := fun xs H Q => ∃ (a D : Addr) (c : V) (u : Value) (b : Bool), xs = [.ref a, c] ∧ ClsV c u ∧ ExcR K D ∧ ExAt H a D ∧ PySem.W.kitOne K (.ref D) u = some b ∧ Q (.bl b) H
theorem call_isiX {X : Cx} : CallR X (.builtin "isinstance") (rIsiX X.K) := by
  intro pins s σ H xs us Q I r h
  obtain ⟨a, D, c, u, b, rfl, k, C, ea, e, q⟩ := h
  obtain ⟨u1, u2, rfl, r1, r2⟩ := vals2 r
  have e2 := k.eq r2
  subst e2
  cases (show u1 = Value.ref a from r1)
  obtain ⟨ob, od, J⟩ := exAt_inst I ea
  exact PySem.W.kia_one (kitx_held C) I.kIn ⟨_, _, J⟩ e (fun z => nomatch z) fun tk => ⟨.bl b, H, I.tok tk, rfl, q⟩
/-- e.f, e an exception that is held, f a field of its own dict -/
def tExF (K : PySem.W.Frag) (te : TE) (f : Str) : TE := fun σ H Q => te σ H fun x H1 => ∃ (a D dx : Addr) (fs : List (Str × V)) (v : V), x = .ref a ∧ ExcR K D ∧ PySem.W.findIn K (.ref D) f = some none ∧ ((H1 a = some (exo a D (some dx)) ∧ H1 dx = some (exd dx fs)) ∨ (H1 a = some (ExH (.ref D) a (some dx)) ∧ H1 dx = some (.xd fs))) ∧ fs.lookup f = some v ∧ Q v H1
theorem pe_exF {X : Cx} {e : Expr} {te : TE} {f : Str} {pos : Pos} (he : PE X e te) (hb : attributeBase e f X.env (eval e X.env) = eval e X.env := by rfl) : PE X (.Attribute e f pos) (tExF X.K te f) := by
  refine ⟨fun pins s σ H Q I h => ?_⟩
  refine attr_of hb (thn (he.run pins s σ H _ I h) fun u s1 hh => ?_)
  obtain ⟨x, H1, I1, rx, a, D, dx, fs, v, ex, C, no, st, l, q⟩ := hh
  subst ex
  cases (show u = Value.ref a from rx)
  have key : ∃ (ob : Obj) (mA : Str → Option Value), s1.heap.Ns1 dx mA ∧ (∀ f, RelO (fs.lookup f) (mA f)) ∧ s1.heap.get? a = some ob ∧ ob.cls = .ref D ∧ PySem.W.notCls ob = true ∧ ob.dict = some dx := by
    rcases st with ⟨ea, ed⟩ | ⟨ea, ed⟩
    · obtain ⟨t1, ho⟩ := exo_at I1.hok ea
      obtain ⟨mA, hns, hr⟩ := exd_at I1.hok ed
      exact ⟨_, mA, hns, hr, ho, rfl, rfl, rfl⟩
    · have x : ObjOk X.prog X.w H1 s1.heap a (ExH (.ref D) a (some dx)) := I1.hok a _ ea
      obtain ⟨⟨oe, vs, e1, e2, e3⟩, _⟩ := x
      obtain ⟨mA, hns, hr⟩ : ∃ mA, s1.heap.Ns1 dx mA ∧ ∀ f, RelO (fs.lookup f) (mA f) := I1.hok dx _ ed
      exact ⟨oe, mA, hns, hr, e1, e2.1, by unfold PySem.W.notCls; rw [e3] <;> rfl, e2.2⟩
  obtain ⟨ob, mA, hns, hr, ho, oc, onc, odx⟩ := key
  obtain ⟨od, hod, hlk⟩ := lookIn_ns hns
  have rl := hr f
  rw [l] at rl
  cases hm : mA f with
  | none =>
    rw [hm] at rl
    exact rl.elim
  | some y =>
    rw [hm] at rl
    have J : PySem.W.InstAt s1.heap a ob D (some od) := ⟨ho, oc, onc, by rw [odx]; exact hod⟩
    exact PySem.HandSPX.exc_get I1.kIn J C.ga C.gt C.sb (PySem.W.findObj_own C.hd no rfl (by rw [hlk, hm])) (handed_of rl) ⟨v, H1, I1.tok _, rl, q⟩
/-! ## defs that are called where no repr runs -/
structure FnG (P : Program) (w : World) (K : PySem.W.Frag) (mg : Str → Option Value) (base : Heap) (k : Nat) (f : Addr) (fd : FuncData) (ps : List Str) (sp : Sp) : Prop where
  len : ∀ vs H Q E, sp vs H Q E → vs.length = ps.length
  run : ∀ (A : Around) (outer : List Env) (s : Shared) (H : Hp) (args : Args) (us : List Value) (vs : List V) (Q : VK) (E : XK), A.guards = some [] → Room k A → Env0 P w K mg base A outer s H → BindsTo s fd args (ps.zip us) → Vals vs us → sp vs H Q E →
    codeAny (model P w) A (.call (.ref f) args) (CR CX0 outer P w H s Q E) s
section
variable {P : Program} {w : World} {K : PySem.W.Frag} {mg : Str → Option Value} {base : Heap} {x qual : Str} {params : Arguments} {body : List Stmt} {scope : Scope} {dvs : List V} {kws : List (Str × V)} {f : Addr} {fd : FuncData}
theorem FunD.okG {N ps : List Str} {k : Nat} {sp : Sp} (F : FunD K x qual params body scope dvs kws f fd) (S : FnScope N ps scope) (len : ∀ vs H Q E, sp vs H Q E → vs.length = ps.length)
    (hbody : ∀ (cdv : Value) (A : Around) (outer : List Env) (s : Shared) (H : Hp) (vs : List V) (Q : VK) (E : XK), (A.deeper (PyProof.Rows.envOfC qual scope s.heap.objs.size f cdv)).guards = some [] → Room k (A.deeper (PyProof.Rows.envOfC qual scope s.heap.objs.size f cdv)) → sp vs H Q E →
      ∃ t, PSs (cxOf CX0 P w K mg base N qual scope f cdv A outer s H E) body t ∧ t { nx := fun _ H' => Q .non H', rt := Q } (start N vs) H) : FnG P w K mg base (k + 1) f fd ps sp := by
  obtain ⟨oc, od, dV, kV, doc, pm, an, cdv, ct, osl, rfl, lk, hcd, _, _⟩ := F.ex
  refine ⟨len, fun A outer s H args us vs Q E hg hr e0 hb r hsp => ?_⟩
  have hlen := len _ _ _ _ hsp
  have kin : K.In s.heap := e0.mod.kin.keeps fun b o e => (e0.bs b o e).1
  have nol : s.heap.NoLimit := e0.mod.nolimit.keeps fun b o e => (e0.bs b o e).1
  have kinds : ∀ y ∈ ps.zip us, scope.names.lookup y.1 = some .local ∨ (scope.names.lookup y.1 = some .cell ∧ ((cellsFrom (s.heap.objs.size + 1) scope.names []).lookup y.1).isSome = true) := fun ⟨n, v⟩ hy => by
    rcases S.par n (List.of_mem_zip hy).1 with q | q
    · exact .inl q
    · exact .inr ⟨q, PySem.W.cellsFrom_some _ _ _ (.inl q)⟩
  refine codeAny_call_function hr.depth (kin _ _ lk) rfl S.co S.gen rfl (PySem.W.codeRec_of kin hcd) (hb _ _ _ _ ?_)
  refine wpAny_newFunctionEnv_cells S.kind kinds fun env he s1 ic => ?_
  subst he
  refine ⟨nol.keeps ic.toInCall.keep, codeAny_func ?_⟩
  obtain ⟨t, ht, hq⟩ := hbody cdv A outer s H vs Q E hg (hr.deeper _) hsp
  have I : Inv (cxOf CX0 P w K mg base N qual scope f cdv A outer s H E) [] (start N vs) H s1 := inv_start S hr.hd e0 hlen r ic
  refine wpAny_mono (ht.run [] s1 (start N vs) H _ I hq) (fun fl s' hs => ?_) fun e s' hs => hs
  cases fl with
  | ret u =>
    obtain ⟨v, σ', H', J, rv, q⟩ := hs
    exact ⟨v, H', J.os, J.bare, J.base, J.hok, rv, q⟩
  | next =>
    obtain ⟨σ', H', J, q⟩ := hs
    exact ⟨V.non, H', J.os, J.bare, J.base, J.hok, rfl, q⟩
  | brk =>
    obtain ⟨_, _, _, q⟩ := hs
    exact q.elim
  | cont =>
    obtain ⟨_, _, _, q⟩ := hs
    exact q.elim
end
section
variable {X : Cx} {k : Nat} {f : Addr} {fd : FuncData} {ps : List Str} {sp : Sp} {E : XK} {x : Str} {p pos : Pos} {e : Expr} {es : List Expr} {t : TA} {ds : List Value} {dvs : List V}
theorem run_fnG {pins : List (Addr × Obj)} {σ : L2.St} {H : Hp} {s : Shared} {Q : VK} {us : List Value} {vs : List V} (F : FnG X.prog X.w X.K X.mg X.base k f fd ps sp) (hg : X.A.guards = some []) (hr : Room k X.A) (hb : Binds X.K fd ps ds) (hd : Vals dvs ds)
    (I : Inv X pins σ H s) (r : Vals vs us) (h : sp (vs ++ dvs) H Q E) : wpAny (model X.prog X.w) X.A (call (.ref f) us) (EP X pins σ Q) X.xe s := by
  have rr : Vals (vs ++ dvs) (us ++ ds) := r.append hd
  have hlen : (us ++ ds).length = ps.length := by
    rw [← rr.length]
    exact F.len _ _ _ _ h
  refine wpAny_call (codeAny_mono (F.run X.A X.stack s H ⟨us, []⟩ (us ++ ds) (vs ++ dvs) Q E hg hr I.env0 (hb s us I.kIn hlen) rr h) fun r s' hq => ?_)
  cases r with
  | error e => exact False.elim hq
  | ok fl =>
    cases fl with
    | ret u => exact I.after hq
    | next => exact hq.elim
    | brk => exact hq.elim
    | cont => exact hq.elim
theorem pe_callG (F : FnG X.prog X.w X.K X.mg X.base k f fd ps sp) (hgd : X.A.guards = some []) (hr : Room k X.A) (hg : Gl X x) (hm : X.mg x = some (.ref f)) (hk : PySem.W.keepIn X.K (.ref f) = true) (hb : Binds X.K fd ps ds) (hd : Vals dvs ds)
    (ha : PA X (e :: es) t) (hdb : (x == ("__debug__" : Str)) = false := by decide) (he : starEach (e :: es) X.env = (false, eval e X.env) :: starEach es X.env := by rfl) (hpl : (backTo pos (starEach es X.env)).any (·.1) = false := by rfl) :
    PE X (.Call (.Name x p) (e :: es) [] pos) (tCall sp dvs E t) :=
  ⟨fun pins s σ H Q I h => wpAny_Call_Name_kw (ld_glob I hg hm (PySem.W.callWith_K (h₀ := X.base) I.ok.mod.kin hk (thn (ha.run pos pins s σ H _ I h) fun us s1 ⟨vs, H1, I1, r, q⟩ => ⟨I1.kIn, run_fnG F hgd hr hb hd I1 r q⟩) he hpl) hdb)⟩
end
/-! ## repr of data, where no repr runs -/
def keyD : Key → PyData
  | .inl i => .int i
  | .inr x => .str x
mutual
inductive Dx (K : PySem.W.Frag) (H : Hp) : V → PyData → Prop
  | non : Dx K H .non .none
  | bl (b : Bool) : Dx K H (.bl b) (.bool b)
  | int (i : Int) : Dx K H (.int i) (.int i)
  | str (x : Str) : Dx K H (.str x) (.str x)
  | lst {a : Addr} {xs : List V} {ds : List PyData} : SqL K H a xs → DxAll K H xs ds → Dx K H (.ref a) (.list ds)
  | tup {a : Addr} {xs : List V} {ds : List PyData} : SqT K H a xs → DxAll K H xs ds → Dx K H (.ref a) (.tuple ds)
  | dic {a : Addr} {kvs : List (Key × V)} {ds : List PyData} : H a = some (.dK kvs) → DxAll K H (kvs.map (·.2)) ds → Dx K H (.ref a) (.dict ((kvs.map fun kv => keyD kv.1).zip ds))
inductive DxAll (K : PySem.W.Frag) (H : Hp) : List V → List PyData → Prop
  | nil : DxAll K H [] []
  | cons {v : V} {vs : List V} {d : PyData} {ds : List PyData} : Dx K H v d → DxAll K H vs ds → DxAll K H (v :: vs) (d :: ds)
end
/-- the modules' table is a dict of the written part -/
def SmD (K : PySem.W.Frag) : Prop := ∃ o : Obj, K.lookup sysModules = some o ∧ o.cls = .type "dict"
theorem DxAll.length {K : PySem.W.Frag} {H : Hp} : ∀ {vs : List V} {ds : List PyData}, DxAll K H vs ds → vs.length = ds.length
  | _, _, .nil => rfl
  | _, _, .cons _ t => by rw [List.length_cons, List.length_cons, t.length]
section
variable {X : Cx} {pins : List (Addr × Obj)} {σ : L2.St} {H : Hp} {s : Shared}
theorem keys_read {P : Program} {w : World} : ∀ {es : List DictEntry} {vs : List (Key × Value)} {kvs : List (Key × V)} {h : Heap}, Pairs (mixKind P w) es vs → KV kvs vs → ∃ as, ReadsAll h (es.map (·.key)) (kvs.map fun kv => keyD kv.1) as ∧ as = []
  | _, _, _, h, .nil, .nil => ⟨[], .nil, rfl⟩
  | e :: es, kv :: vs, p :: kvs, h, .cons k1 _ t, .cons r t2 => by
    obtain ⟨as, q, rfl⟩ := keys_read (h := h) t t2
    obtain ⟨c1, e1, e2⟩ := e
    obtain ⟨kk, vv⟩ := p
    have ek : kv.1 = kk := r.1.symm
    rw [ek] at k1
    have kd : Reads h e1 (keyD kk) [] := by
      rcases keyIs_shape k1 with ⟨i, tt, rfl, z⟩ | ⟨x, tt, rfl, z⟩
      · have z : e1 = Value.int i tt := z
        subst z
        exact Reads.int i tt
      · have z : e1 = Value.str x tt := z
        subst z
        exact Reads.str x tt
    exact ⟨_, ReadsAll.cons kd q, rfl⟩
theorem vals_read {P : Program} {w : World} : ∀ {es : List DictEntry} {vs : List (Key × Value)} {kvs : List (Key × V)}, Pairs (mixKind P w) es vs → KV kvs vs → Vals (kvs.map (·.2)) (es.map (·.val))
  | _, _, _, .nil, .nil => .nil
  | e :: es, kv :: vs, p :: kvs, .cons _ e1 t, .cons r t2 => by
    refine .cons ?_ (vals_read t t2)
    show RelV p.2 e.val
    rw [e1]
    exact r.2
theorem zip_fst {α β : Type} : ∀ {l : List α} {m : List β}, l.length = m.length → (l.zip m).map (·.1) = l
  | [], _, _ => rfl
  | a :: l, b :: m, h => by
    show a :: (l.zip m).map (·.1) = a :: l
    rw [zip_fst (Nat.succ.inj h)]
theorem zip_snd {α β : Type} : ∀ {l : List α} {m : List β}, l.length = m.length → (l.zip m).map (·.2) = m
  | [], [], _ => rfl
  | a :: l, b :: m, h => by
    show b :: (l.zip m).map (·.2) = b :: m
    rw [zip_snd (Nat.succ.inj h)]
mutual
theorem Dx.reads (I : Inv X pins σ H s) (S : SmD X.K) : ∀ {d : PyData} {v : V} {u : Value}, Dx X.K H v d → RelV v u → ∃ as, Reads s.heap u d as ∧ sysModules ∉ as
  | _, _, _, .non, r => by
    cases r
    exact ⟨_, Reads.none, by simp⟩
  | _, _, _, .bl b, r => by
    cases r
    exact ⟨_, Reads.bool b, by simp⟩
  | _, _, _, .int i, r => by
    obtain ⟨t, rfl⟩ := r
    exact ⟨_, Reads.int i t, by simp⟩
  | _, _, _, .str x, r => by
    obtain ⟨t, rfl⟩ := r
    exact ⟨_, Reads.str x t, by simp⟩
  | _, _, _, .lst hs ha, r => by
    cases r
    obtain ⟨its, rv, ⟨o, n, ho, hc, _, hd⟩, _⟩ := I.list hs
    obtain ⟨as, hr, hn⟩ := DxAll.reads I S ha rv
    refine ⟨_, Reads.list ho hc hd hr, fun z => ?_⟩
    rcases List.mem_cons.mp z with z | z
    · obtain ⟨om, hm, hmc⟩ := S
      have h2 := I.kIn _ _ hm
      rw [z, ho] at h2
      cases h2
      rw [hc] at hmc
      exact absurd hmc (by decide)
    · exact hn z
  | _, _, _, .tup hs ha, r => by
    cases r
    obtain ⟨its, rv, ⟨o, ho, hc, n, hd⟩, _⟩ := I.tuple hs
    obtain ⟨as, hr, hn⟩ := DxAll.reads I S ha rv
    exact ⟨_, Reads.tuple ho hc hd hr, hn⟩
  | _, _, _, .dic (a := a) (kvs := kvs) (ds := ds) hk ha, r => by
    cases r
    obtain ⟨hz, hsm, vs, rk, o, es, ep, ho, hx, hd, _, hp, _⟩ : kvs.length ≤ sizeLine ∧ (a == sysModules) = false ∧ ∃ vs, KV kvs vs ∧ s.heap.DictOf (mixKind X.prog X.w) a vs := I.hok _ _ hk
    obtain ⟨as, h1, rfl⟩ := keys_read (h := s.heap) hp rk
    obtain ⟨bs, h2, hn⟩ := DxAll.reads I S ha (vals_read hp rk)
    have hl : (kvs.map fun kv => keyD kv.1).length = ds.length := by rw [List.length_map, ← ha.length, List.length_map]
    refine ⟨_, Reads.dict (kvs := (kvs.map fun kv => keyD kv.1).zip ds) ho hx.1 hd (by rw [zip_fst hl]; exact h1) (by rw [zip_snd hl]; exact h2), fun z => ?_⟩
    rcases List.mem_cons.mp z with z | z
    · rw [z] at hsm
      simp at hsm
    · exact hn (by simpa using z)
theorem DxAll.reads (I : Inv X pins σ H s) (S : SmD X.K) : ∀ {ds : List PyData} {vs : List V} {us : List Value}, DxAll X.K H vs ds → Vals vs us → ∃ as, ReadsAll s.heap us ds as ∧ sysModules ∉ as
  | _, _, _, .nil, r => by
    cases r
    exact ⟨_, ReadsAll.nil, by simp⟩
  | _, _, _, .cons h1 h2, r => by
    cases r with
    | cons r1 r2 =>
      obtain ⟨as, q1, n1⟩ := Dx.reads I S h1 r1
      obtain ⟨bs, q2, n2⟩ := DxAll.reads I S h2 r2
      exact ⟨_, ReadsAll.cons q1 q2, fun z => (List.mem_append.mp z).elim n1 n2⟩
end
end
/-- repr(x), x a list, tuple or dict of data -/
def rRepr (K : PySem.W.Frag) : List V → Hp → VK → Prop := fun xs H Q => ∃ (a : Addr) (d : PyData), xs = [.ref a] ∧ Dx K H (.ref a) d ∧ d.showable = true ∧ d.depth ≤ 100 ∧ d.shown.length ≤ sizeLine ∧ Q (.str d.shown) H
theorem call_reprX {X : Cx} (hg : X.A.guards = some []) (hu : X.A.units + 101 < cLine) (S : SmD X.K) : CallR X (.builtin "repr") (rRepr X.K) := by
  intro pins s σ H xs us Q I r h
  obtain ⟨a, d, rfl, hd, hs, hdp, hz, q⟩ := h
  obtain ⟨u, rfl, ru⟩ := vals1 r
  obtain ⟨as, hr, hn⟩ := hd.reads I S ru
  cases (show u = Value.ref a from ru)
  exact repr_of_reads' hr hs (fun _ => hn) hg (by omega) (fun _ _ e => e) (fun h' t tk hk => ⟨.str d.shown, H, I.kept (t' := tk) hk, ⟨_, rfl⟩, q⟩) hz
/-! ## the head's facts, by tables of tests on the written part -/
open PySem.W in
def oexB (K : Frag) (C : Addr) : Bool := (match K.lookup C with
  | some ⟨.type "type", _, .cls cd, sl⟩ => (match cd.mro, sl.toList with
    | .ref C' :: bm, [_, _, _, _, some (.builtin n), _] => C' == C && (n == "ValueError.__new__" && (!cd.hasDel && (cd.hasDict && PySem.HandSPX.refsVE bm)))
    | _, _ => false)
  | _ => false) && (He.eqO (findIn K (.ref C) "__setattr__") (some (some (.builtin "object.__setattr__"))) && (decide (subIn K (.ref C) (.type "BaseException") = some true) && (decide (typeIn K (.ref C) = some (.type "type")) && keepIn K (.ref C))))
theorem oexB_ok {K : PySem.W.Frag} {C : Addr} (h : oexB K C = true) : OexC K C := by
  obtain ⟨h1, h2⟩ := He.ba h
  obtain ⟨h3, h4⟩ := He.ba h2
  obtain ⟨h5, h6⟩ := He.ba h4
  obtain ⟨h7, h8⟩ := He.ba h6
  refine ⟨?_, He.eqO_ok h3, of_decide_eq_true h5, of_decide_eq_true h7, h8⟩
  split at h1
  · rename_i dd cd sl ho
    split at h1
    · rename_i C' bm k0 k1 k2 k3 n k5 hm hs
      obtain ⟨e1, h1⟩ := He.ba h1
      obtain ⟨e2, h1⟩ := He.ba h1
      obtain ⟨e3, h1⟩ := He.ba h1
      obtain ⟨e4, e5⟩ := He.ba h1
      obtain ⟨nm, bs, mro, ns, qn, hd, sn, sub, ab, col, del⟩ := cd
      dsimp only at hm e3 e4
      have e1 : C' = C := eq_of_beq e1
      have e2 : n = "ValueError.__new__" := eq_of_beq e2
      have e3 : del = false := by simpa using e3
      subst hm e1 e2 e3 e4
      have hsl : sl = #[k0, k1, k2, k3, some (.builtin "ValueError.__new__"), k5] := by
        obtain ⟨l⟩ := sl
        simp only at hs
        rw [hs]
      subst hsl
      exact ⟨_, _, _, _, _, _, _, _, _, _, _, _, _, _, _, ho, e5⟩
    · cases h1
  · cases h1
open PySem.W in
def excRB (K : Frag) (D : Addr) : Bool := He.eqO (findIn K (.ref D) "__getattribute__") (some (some (.builtin "BaseException.__getattribute__"))) && (He.eqO (findIn K (.ref D) "__getattr__") (some none) && (decide (subIn K (.ref D) (.type "BaseException") = some true) &&
  (hasDictIn K D && (He.eqO (findIn K (.ref D) "__class__") (some (some (.builtin "object.__class__"))) && (He.eqO (specialIn K (.builtin "object.__class__") "__get__") (some (some (.builtin "getset_descriptor.__get__"))) &&
  (decide (takesIn K (.builtin "object.__class__") = some true) && decide (mroIn K D (.type "object") = some true)))))))
theorem excRB_ok {K : PySem.W.Frag} {D : Addr} (h : excRB K D = true) : ExcR K D := by
  obtain ⟨h1, h⟩ := He.ba h
  obtain ⟨h2, h⟩ := He.ba h
  obtain ⟨h3, h⟩ := He.ba h
  obtain ⟨h4, h⟩ := He.ba h
  obtain ⟨h5, h⟩ := He.ba h
  obtain ⟨h6, h⟩ := He.ba h
  obtain ⟨h7, h8⟩ := He.ba h
  exact ⟨He.eqO_ok h1, He.eqO_ok h2, of_decide_eq_true h3, h4, He.eqO_ok h5, He.eqO_ok h6, of_decide_eq_true h7, of_decide_eq_true h8⟩
/-- an __init__ of an own exception that begins with super() -/
structure DefS where
  cls : Str
  qual : Str
  params : Arguments
  body : List Stmt
  scope : Scope
abbrev FnSW : Type := Option (Str × Str × Arguments × FuncBody × Scope × Addr × List Str × Addr)
abbrev initAd (K : PySem.W.Frag) (C : Str) : Addr := He.ma K (He.ga K C) "__init__"
def fnSW (K : PySem.W.Frag) (C : Str) : FnSW := match K.lookup (initAd K C) with
  | some ⟨_, _, .func fd, _⟩ => some (fd.name, fd.qualname, fd.params, fd.body, fd.scope, fd.globals, fd.closure.map (·.1), fd.builtins)
  | _ => none
def DefS.val (d : DefS) : FnSW := some ("__init__", d.qual, d.params, .stmts d.body, d.scope, mainGlobals, ["__class__"], builtinsNs)
open PySem.W in
/-- what such an __init__ of the class C wants of the written part, the module's file given -/
def supB (file : Str) (K : Frag) (C : Str) (qual : Str) : Bool :=
  He.eqO (findIn K (.ref (He.ga K C)) "__init__") (some (some (.ref (initAd K C)))) && (decide (typeIn K (.ref (initAd K C)) = some (.type "function")) &&
  ((match K.lookup (initAd K C) with
    | some ⟨_, _, .func fd, _⟩ => (match fd.closure, fd.code with
      | [(_, cc)], .ref cda => (match K.lookup cc with
          | some ⟨_, _, .cell (some (.ref D)), _⟩ => D == He.ga K C
          | _ => false) && (codeIn K (.ref cda) qual && (match K.lookup cda with
          | some ⟨_, _, .fields vs, _⟩ => (match vs[2]? with
            | some (Value.str f _) => file == f
            | _ => false)
          | _ => false))
      | _, _ => false)
    | _ => false) && (decide (mroIn K (He.ga K C) (.ref (He.ga K C)) = some true) && (He.eqO (nsIn K cStatics "thirdparty.any") (some none) && (decide (subIn K (.ref (He.ga K C)) (.type "ValueError") = some true) &&
    (match clsIn K (He.ga K C) with
    | some cd => He.eqO (alongIn K "__init__" ((cd.mro.dropWhile (· != .ref (He.ga K C))).drop 1)) (some (some (.builtin "ValueError.__init__")))
    | none => false))))))
theorem supB_ok {P : Program} {K : PySem.W.Frag} {mg : Str → Option Value} {d : DefS} (hw : fnSW K d.cls = d.val) (h : supB P.main.file K d.cls d.qual = true) (top : (P.main.scope.names.lookup ("super" : Str)).isSome = false) (su : mg "super" = none) :
    PySem.W.findIn K (.ref (He.ga K d.cls)) "__init__" = some (some (.ref (initAd K d.cls))) ∧ PySem.W.typeIn K (.ref (initAd K d.cls)) = some (.type "function") ∧
    ∃ (cc cda : Addr) (fd : FuncData), SupF P K mg (He.ga K d.cls) (initAd K d.cls) cc cda d.qual d.params d.body d.scope fd := by
  obtain ⟨h1, h⟩ := He.ba h
  obtain ⟨h2, h⟩ := He.ba h
  obtain ⟨h3, h⟩ := He.ba h
  obtain ⟨h4, h⟩ := He.ba h
  obtain ⟨h5, h⟩ := He.ba h
  obtain ⟨h6, h7⟩ := He.ba h
  refine ⟨He.eqO_ok h1, of_decide_eq_true h2, ?_⟩
  unfold fnSW at hw
  split at h3
  · rename_i oc od fd osl lk
    rw [lk] at hw
    split at h3
    · rename_i nm cc cda hclo hcod
      obtain ⟨h8, h3⟩ := He.ba h3
      obtain ⟨h9, h10⟩ := He.ba h3
      have e2 : (some (fd.name, fd.qualname, fd.params, fd.body, fd.scope, fd.globals, fd.closure.map (·.1), fd.builtins) : FnSW) = d.val := hw
      unfold DefS.val at e2
      simp only [Option.some.injEq, Prod.mk.injEq] at e2
      obtain ⟨g1, g2, g3, g4, g5, g6, g7, g8⟩ := e2
      rw [hclo] at g7
      have g7 : nm = "__class__" := by simpa using g7
      refine ⟨cc, cda, fd, ?_⟩
      have hcell : ∃ oc : Obj, K.lookup cc = some oc ∧ oc.data = .cell (some (.ref (He.ga K d.cls))) := by
        split at h8
        · rename_i a b D c hl
          have e : D = He.ga K d.cls := eq_of_beq h8
          exact ⟨_, hl, by rw [← e]⟩
        · cases h8
      have hco : ∃ (oc : Obj) (vs : Array Value) (file : Str) (tf : Tok), K.lookup cda = some oc ∧ oc.data = .fields vs ∧ vs[2]? = some (.str file tf) ∧ ((P.main.file : Str) == file) = true := by
        split at h10
        · rename_i a b vs c hl
          split at h10
          · rename_i f t hv
            exact ⟨_, vs, f, t, hl, rfl, hv, h10⟩
          · cases h10
        · cases h10
      have hal : ∃ cd, PySem.W.clsIn K (He.ga K d.cls) = some cd ∧ PySem.W.alongIn K "__init__" ((cd.mro.dropWhile (· != .ref (He.ga K d.cls))).drop 1) = some (some (.builtin "ValueError.__init__")) := by
        split at h7
        · rename_i cd hc
          exact ⟨cd, hc, He.eqO_ok h7⟩
        · cases h7
      obtain ⟨n1, n2, n3, n4, n5, n6, n7, n8, n9, n10, n11, n12, n13, n14, n15⟩ := fd
      dsimp only at g1 g2 g3 g4 g5 g6 g8 hclo hcod
      subst g1 g2 g3 g4 g5 g6 g8 hclo hcod g7
      exact ⟨⟨oc, od, n8, n9, n10, n11, n14, n12, osl, rfl, lk⟩, h9, hco, hcell, top, of_decide_eq_true h4, He.eqO_ok h5, hal, of_decide_eq_true h6, su⟩
    · cases h3
  · cases h3
/-! ### the Hook -/
abbrev AlZ : Type := Bool × List He.FnW × List FnSW
def obsZ (fb : List (PySem.W.Frag → Bool)) (fn : List He.DefD) (cs : List DefS) (K : PySem.W.Frag) : AlZ := ((fb.all fun f => f K) && fn.all fun d => d.ok K, fn.map fun d => He.fnW K d.at_, cs.map fun d => fnSW K d.cls)
def valZ (fn : List He.DefD) (cs : List DefS) : AlZ := (true, fn.map He.DefD.val, cs.map DefS.val)
def SaysZ (fb : List (PySem.W.Frag → Bool)) (fn : List He.DefD) (cs : List DefS) (K : PySem.W.Frag) : Prop := obsZ fb fn cs K = valZ fn cs
/-- a def whose lambdas are made: its code object, the table in it -/
def tabB (g : Addr → Option Obj) (K : PySem.W.Frag) (p : He.Defn) : Bool := (match g (He.cT K p).2 with
  | some o => He.emptyTab o
  | none => false) && (match K.lookup (He.cT K p).1 with
  | some ⟨.type c, _, .fields vs, _⟩ => decide (c = "code") && (decide (vs[11]? = some (.ref (He.cT K p).2)) && ((match vs.getD 18 .none, vs.getD 7 .none, vs.getD 9 .none, vs.getD 10 .none with
      | .str _ _, .int _ _, .bool _, .int _ _ => true
      | _, _, _, _ => false) && decide ((He.cT K p).1 ≠ (He.cT K p).2)))
  | _ => false)
theorem tabB_ok {h : Heap} {K : PySem.W.Frag} (X : K.In h) {p : He.Defn} (e : tabB h.get? K p = true) : h.get? (He.cT K p).2 = some { cls := .none, data := .fields #[] } ∧ PySem.W.CodeHd h (He.cT K p).1 (He.cT K p).2 := by
  obtain ⟨h1, h2⟩ := He.ba e
  refine ⟨?_, ?_⟩
  · split at h1
    · rename_i o ho
      rw [ho, He.emptyTab_eq h1]
    · cases h1
  · split at h2
    · rename_i c dd vs sl lk
      obtain ⟨q1, h2⟩ := He.ba h2
      obtain ⟨q2, h2⟩ := He.ba h2
      obtain ⟨q3, q4⟩ := He.ba h2
      have e2 := of_decide_eq_true q2
      have e3 : vs.getD 11 .none = .ref (He.cT K p).2 := by
        rw [Array.getD_eq_getD_getElem?, e2] <;> rfl
      split at q3
      · rename_i f tf fl tg b i tt z1 z2 z3 z4
        exact ⟨_, vs, f, tf, fl, tg, b, i, tt, X _ _ lk, congrArg Value.type (of_decide_eq_true q1), rfl, e2, e3, z1, z2, z3, z4, of_decide_eq_true q4⟩
      · cases q3
    · cases h2
def obsZG (n : Nat) (fb : List (PySem.W.Frag → Bool)) (fn : List He.DefD) (cs : List DefS) (ts : List He.Defn) (g : Addr → Option Obj) : Bool × AlZ := (ts.all fun p => tabB g (He.frT g (He.asD g n ++ [cStatics, sysModules])) p, obsZ fb fn cs (He.frT g (He.asD g n ++ [cStatics, sysModules])))
def TabsZ (ts : List He.Defn) (K : PySem.W.Frag) (h : Heap) : Prop := ∀ p ∈ ts, h.get? (He.cT K p).2 = some { cls := .none, data := .fields #[] } ∧ K.lookup (He.cT K p).2 = none ∧ PySem.W.CodeHd h (He.cT K p).1 (He.cT K p).2
def hookZ (n : Nat) (fb : List (PySem.W.Frag → Bool)) (fn : List He.DefD) (cs : List DefS) (ts : List He.Defn) : PySem.W.Hook where
  α := Bool × AlZ
  obs := fun s => obsZG n fb fn cs ts s.heap.get?
  val := fun _ => (true, valZ fn cs)
  says := fun _ h => ∃ K : PySem.W.Frag, K.In h ∧ SaysZ fb fn cs K ∧ TabsZ ts K h
  of := fun _ s e => by
    refine ⟨_, He.frT_in, congrArg Prod.snd e, fun p hp => ?_⟩
    have q := List.all_eq_true.mp (show (ts.all fun p => tabB s.heap.get? (He.frT s.heap.get? (He.asD s.heap.get? n ++ [cStatics, sysModules])) p) = true from congrArg Prod.fst e) p hp
    obtain ⟨h1, h2⟩ := tabB_ok He.frT_in q
    exact ⟨h1, He.frT_none h1 rfl, h2⟩
  keeps := fun _ _ _ ⟨K, hK, c, t⟩ k => ⟨K, PySem.W.Frag.In.keeps hK k, c, fun p hp => ⟨k _ _ (t p hp).1, (t p hp).2.1, (t p hp).2.2.keeps k⟩⟩
theorem obsZG_eq {n : Nat} {fb : List (PySem.W.Frag → Bool)} {fn : List He.DefD} {cs : List DefS} {ts : List He.Defn} {g : Addr → Option Obj} {s : Shared} (h : ∀ a, g a = s.heap.get? a) : obsZG n fb fn cs ts g = (hookZ n fb fn cs ts).obs s := by
  have e : g = s.heap.get? := funext h
  rw [e] <;> rfl
section
variable {fb : List (PySem.W.Frag → Bool)} {fn : List He.DefD} {cs : List DefS} {K : PySem.W.Frag}
theorem SaysZ.all (c : SaysZ fb fn cs K) : ∀ f ∈ fb, f K = true :=
  List.all_eq_true.mp (He.ba (show ((fb.all fun f => f K) && fn.all fun d => d.ok K) = true from congrArg (fun z : AlZ => z.1) c)).1
theorem SaysZ.fact (c : SaysZ fb fn cs K) (i : Nat) {f : PySem.W.Frag → Bool} (h : fb[i]? = some f := by rfl) : f K = true := c.all f (List.mem_of_getElem? h)
theorem SaysZ.def_ (c : SaysZ fb fn cs K) (i : Nat) {d : He.DefD} (h : fn[i]? = some d := by rfl) : ∃ fd, FunD K d.name d.qual d.params d.body d.scope (d.dvs K) (d.kws K) (He.fAd K d.at_) fd := by
  have c2 := (He.ba (show ((fb.all fun f => f K) && fn.all fun d => d.ok K) = true from congrArg (fun z : AlZ => z.1) c)).2
  have e : fn.map (fun d => He.fnW K d.at_) = fn.map He.DefD.val := congrArg (fun z : AlZ => z.2.1) c
  have e2 : (fn.map fun d => He.fnW K d.at_)[i]? = (fn.map He.DefD.val)[i]? := by rw [e]
  rw [List.getElem?_map, List.getElem?_map, h] at e2
  exact He.DefD.funD (Option.some.inj e2) (List.all_eq_true.mp c2 d (List.mem_of_getElem? h))
theorem SaysZ.ini (c : SaysZ fb fn cs K) {d : DefS} (h : d ∈ cs) : fnSW K d.cls = d.val := by
  have e : cs.map (fun d => fnSW K d.cls) = cs.map DefS.val := congrArg (fun z : AlZ => z.2.2) c
  obtain ⟨i, hi⟩ := List.mem_iff_getElem?.mp h
  have e2 : (cs.map fun d => fnSW K d.cls)[i]? = (cs.map DefS.val)[i]? := by rw [e]
  rw [List.getElem?_map, List.getElem?_map, hi] at e2
  exact Option.some.inj e2
end
/-! ## the law's end: no repr runs at its call; tables of code objects for the lambdas -/
theorem law_callZ {P : Program} {w : World} {K : PySem.W.Frag} {mg mb : Str → Option Value} {k : Nat} {fa a : Addr} {cs : List (Addr × Addr)} {fd : FuncData} {x : Str} {sp : Sp} {s : Shared} {vs : List Value} {ns : List Int}
    (KX : K.In s.heap) (hns : s.heap.Ns mainGlobals mg) (hb : s.heap.Ns builtinsNs mb) (hbb : ∀ x : Str, x ≠ "__name__" → mb x = bootBuiltins x) (hlim : s.heap.NoLimit) (hg : s.gens = #[])
    (hT : ∀ p ∈ cs, s.heap.get? p.2 = some { cls := .none, data := .fields #[] }) (nT : ∀ p ∈ cs, K.lookup p.2 = none) (C : ∀ p ∈ cs, PySem.W.CodeHd s.heap p.1 p.2)
    (hbm : ∃ (bm : Addr) (ob : Obj), mg "__builtins__" = some (.ref bm) ∧ bm ≠ builtinsNs ∧ s.heap.get? bm = some ob ∧ ob.cls = .type "module" ∧ ob.dict = some builtinsNs ∧ ob.data = .plain)
    (ha : s.heap.get? a = some { cls := .type "list", data := .seq vs.toArray }) (hi : PyProof.Rows.IntsAre vs ns) (hl : ns.length ≤ sizeLine) (hr : Room k callerA)
    (F : ∀ base : Heap, K.In base → base.Ns mainGlobals mg → (∀ p ∈ cs, LamX.TabB base mg p.1 p.2) → FnG P w K mg base k fa fd [x] sp) (hbind : ∀ (s : Shared) (u : Value), BindsTo s fd ⟨[u], []⟩ [(x, u)])
    (hsp : ∀ H : Hp, (∀ p ∈ cs, H p.2 = some (.tbl #[])) → SqL K H a (ns.map V.int) → sp [.ref a] H (fun v _ => v = .bl true) fun _ _ _ => False) :
    codeAny (model P w) callerA (.call (.ref fa) ⟨[.ref a], []⟩) (fun r s' => r = .ok (.ret (.bool true)) ∧ PySem.OldK s.heap s'.heap ∧ s'.os = s.os ∧ PyProof.Rows.AllBare s'.gens) s := by
  have rv := vals_ints hi
  have lenV := hi.length
  let tabs : List Addr := cs.map (·.2)
  have inTab : ∀ p ∈ cs, p.2 ∈ tabs := fun p hp => List.mem_map.mpr ⟨p, hp, rfl⟩
  have isTab : ∀ b ∈ tabs, ∃ p ∈ cs, p.2 = b := fun b hb => List.mem_map.mp hb
  have tabO : ∀ b ∈ tabs, s.heap.get? b = some { cls := .none, data := .fields #[] } := fun b hb => by
    obtain ⟨p, hp, e⟩ := isTab b hb
    exact e ▸ hT p hp
  have aN : a ∉ tabs := fun z => by
    have q := tabO a z
    rw [ha] at q
    cases q
  -- what is tracked at the start: the tables, and the script where it is none of the module's own
  let H : Hp := fun b => if b ∈ tabs then some (.tbl #[]) else if b = a ∧ K.lookup a = none then some (.frz { cls := .type "list", data := .seq vs.toArray } (.lst (ns.map V.int))) else none
  have Htab : ∀ b ∈ tabs, H b = some (.tbl #[]) := fun b hb => if_pos hb
  have Hscr : K.lookup a = none → H a = some (.frz { cls := .type "list", data := .seq vs.toArray } (.lst (ns.map V.int))) := fun q => (if_neg aN).trans (if_pos ⟨rfl, q⟩)
  have Hcases : ∀ b, H b = none ∨ b ∈ tabs ∨ (b = a ∧ K.lookup a = none) := fun b => by
    by_cases h1 : b ∈ tabs
    · exact .inr (.inl h1)
    · by_cases h2 : b = a ∧ K.lookup a = none
      · exact .inr (.inr h2)
      · exact .inl ((if_neg h1).trans (if_neg h2))
  have hok : HOk P w H s.heap := fun b u e => by
    rcases Hcases b with z | z | ⟨z, q⟩
    · rw [z] at e
      cases e
    · rw [Htab b z] at e
      cases e
      exact tabO b z
    · subst z
      rw [Hscr q] at e
      cases e
      exact ⟨ha, by rw [List.length_map]; exact hl, vs, _, rv, ha⟩
  have seq : SqL K H a (ns.map V.int) := by
    cases hk : K.lookup a with
    | none => exact .inl (.inr ⟨_, Hscr hk⟩)
    | some o =>
      have e := KX a o hk
      rw [ha] at e
      cases e
      exact .inr ⟨_, vs.toArray, _, hk, rfl, rfl, rfl, by rw [List.size_toArray, lenV]; exact hl, by simpa using rv⟩
  -- the ground
  have gr : ∀ {b : Addr} {o : Obj}, s.heap.get? b = some o → H b = none → (hidT s.heap H).get? b = some o := fun e n => hidT_get e n
  have untr : ∀ {b : Addr} {o : Obj}, s.heap.get? b = some o → (∀ us n, o.data ≠ .seq us n) → o.data ≠ .fields #[] → H b = none := fun {b o} e h1 h2 => by
    rcases Hcases b with z | z | ⟨z, _⟩
    · exact z
    · rw [tabO b z] at e
      cases e
      exact absurd rfl h2
    · rw [z, ha] at e
      cases e
      exact absurd rfl (h1 _ _)
  have dictU : ∀ {b : Addr} {o : Obj} {es : Array DictEntry} {ep : Nat}, s.heap.get? b = some o → o.data = .dict es ep → H b = none := fun e d => untr e (fun _ _ z => by rw [d] at z; cases z) (fun z => by rw [d] at z; cases z)
  have nsU : ∀ {b : Addr} {m : Str → Option Value}, s.heap.Ns b m → (hidT s.heap H).Ns b m := fun ⟨o, es, ep, e, d, r⟩ => ⟨o, es, ep, gr e (dictU e d), d, r⟩
  have kin : K.In (hidT s.heap H) := fun b o e => gr (KX b o e) (by
    rcases Hcases b with z | z | ⟨z, q⟩
    · exact z
    · obtain ⟨p, hp, ep⟩ := isTab b z
      rw [← ep, nT p hp] at e
      cases e
    · rw [z, q] at e
      cases e)
  have mod : L2.Mod K mg (hidT s.heap H) := ⟨kin, nsU hns, ⟨mb, nsU hb, hbb⟩, let ⟨mc, h1, h2⟩ := hlim; ⟨mc, nsU h1, h2⟩⟩
  have TB : ∀ p ∈ cs, LamX.TabB (hidT s.heap H) mg p.1 p.2 := fun p hp => by
    have tp := hT p hp
    refine ⟨?_, ?_, fun z => ?_⟩
    · obtain ⟨o, us, file, tf, flags, tg, inF, text, tt, e1, r1, r2, r3, rr⟩ := C p hp
      refine ⟨o, us, file, tf, flags, tg, inF, text, tt, gr e1 (untr e1 (fun _ _ z => by rw [r2] at z; cases z) fun z => ?_), r1, r2, r3, rr⟩
      rw [r2] at z
      cases z
      simp at r3
    · obtain ⟨bm, ob, b1, b2, b3, b4, b5, b6⟩ := hbm
      refine ⟨bm, ob, b1, b2, fun q => ?_, fun q => ?_, gr b3 (untr b3 (fun _ _ z => by rw [b6] at z; cases z) (fun z => by rw [b6] at z; cases z)), b4, b5, b6⟩
      · obtain ⟨o, es, ep, e, hd, _⟩ := hns
        rw [q, e] at b3
        cases b3
        rw [hd] at b6
        cases b6
      · rw [q, tp] at b3
        cases b3
        cases b6
    · obtain ⟨o, es, ep, e, hd, _⟩ := hns
      rw [z, tp] at e
      cases e
      cases hd
  have e0 : Env0 P w K mg (hidT s.heap H) callerA [] s H := ⟨rfl, mod, fun b o e => of_hidT e, Nat.le_of_eq (hidT_size _ _), trivial, fun b hb => absurd (show b ∈ ([] : List Addr) from hb) (by simp), hok, .of_eq hg⟩
  refine codeAny_mono ((F _ kin (nsU hns) TB).run callerA [] s H ⟨[.ref a], []⟩ [.ref a] [.ref a] _ _ rfl hr e0 (hbind s (.ref a)) (.cons rfl .nil) (hsp H (fun p hp => Htab _ (inTab p hp)) seq)) fun r s' h => ?_
  cases r with
  | error e => exact False.elim h
  | ok fl =>
    cases fl with
    | next => exact False.elim h
    | brk => exact False.elim h
    | cont => exact False.elim h
    | ret u =>
      obtain ⟨v, H', os, bare, un, hok', r', q⟩ := h
      have q' : v = .bl true := q
      subst q'
      obtain rfl : u = Value.bool true := r'
      have kept : ∀ b o, b ∉ tabs → s.heap.get? b = some o → s'.heap.get? b = some o := fun b o nb e => by
        rcases Hcases b with z | z | ⟨z, q⟩
        · exact un.keep b o e z (by intro z; exact absurd (show b ∈ ([] : List Addr) from z) (by simp)) (by simp)
        · exact absurd z nb
        · subst z
          have z2 := un.frzs _ _ _ (Hscr q)
          obtain ⟨e2, _⟩ := hok' _ _ z2
          rw [ha] at e
          cases e
          exact e2
      have more : ∀ p ∈ cs, ∃ more : Array Value, s'.heap.get? p.2 = some { cls := .none, data := .fields more } := fun p hp => by
        obtain ⟨mr, z⟩ := un.tbls p.2 #[] (Htab _ (inTab p hp))
        exact ⟨_, hok' p.2 _ z⟩
      refine ⟨rfl, ⟨fun b o e => ?_, fun b o e => ?_⟩, os, bare⟩
      · by_cases hbt : b ∈ tabs
        · obtain ⟨p, hp, ep⟩ := isTab b hbt
          obtain ⟨mr, hm⟩ := more p hp
          rw [← ep] at e ⊢
          rw [hT p hp] at e
          cases e
          exact .inr (.inl ⟨((C p hp).tab (hT p hp)).isCodeTable, rfl, #[], mr, rfl, by rw [Array.empty_append]; exact hm⟩)
        · exact .inl (kept b o hbt e)
      · by_cases hbt : b ∈ tabs
        · obtain ⟨p, hp, ep⟩ := isTab b hbt
          obtain ⟨mr, hm⟩ := more p hp
          exact ⟨_, ep ▸ hm⟩
        · exact ⟨o, kept b o hbt e⟩
/-- what is known of the law's promise at the head's heap -/
def LawAtZ (l : PySem.W.OpenLaw) (w : World) (k n : Nat) (x : Str) (mg : Str → Option Value) (fa : Addr) (h : Heap) : Prop :=
  ∃ (K : PySem.W.Frag) (fd : FuncData) (cs : List (Addr × Addr)) (sp : Sp), K.In h ∧ (∀ p ∈ cs, h.get? p.2 = some { cls := .none, data := .fields #[] }) ∧ (∀ p ∈ cs, K.lookup p.2 = none) ∧ (∀ p ∈ cs, PySem.W.CodeHd h p.1 p.2) ∧ (∀ (s : Shared) (u : Value), BindsTo s fd ⟨[u], []⟩ [(x, u)]) ∧
    (∀ (H : Hp) (a : Addr) (ns : List Int), ns.length ≤ n → (∀ p ∈ cs, H p.2 = some (.tbl #[])) → SqL K H a (ns.map V.int) → sp [.ref a] H (fun v _ => v = .bl true) fun _ _ _ => False) ∧
    ∀ base : Heap, K.In base → base.Ns mainGlobals mg → (∀ p ∈ cs, LamX.TabB base mg p.1 p.2) → FnG l.prog w K mg base k fa fd [x] sp
theorem walk_ofZ {l : PySem.W.OpenLaw} {n k : Nat} {q : Program} {loose : List Str} {XP : (Str → Option Value) → Heap → Prop} {YP : World → Heap → Prop} {d : DefRec} {x : Str}
    (hn : l.most = some n) (hn2 : n ≤ sizeLine) (hdf : d.params.defaults = []) (hr : Room k callerA)
    (F : ∀ (w : World) (mg : Str → Option Value) (fa : Addr) (h : Heap), YP w h → h.Ns mainGlobals mg → mg d.name = some (.ref fa) → LawAtZ l w k n x mg fa h) :
    PySem.W.WalkO q loose XP YP l.row.toRowW d [] (fun f vs => PySem.call f vs) :=
  Att.attach_call hn hdf fun w s0 s1 mg mb fa o pm cd doc a vs ns G Y ho hd hcd hmg hobj hints hlen hg => by
    obtain ⟨K, fd, cs, sp, KX, hT, nT, C, hb, hsp, hF⟩ := F w mg fa _ Y G.T.g hmg
    exact law_callZ KX G.T.g G.T.b G.T.builtins G.T.nolimit hg hT nT C G.T.bmain hobj hints (Nat.le_trans hlen hn2) hr hF hb (fun H hH hS => hsp H a ns hlen hH hS)
abbrev Rw : PySem.W.OpenRow := PySem.W.OpenLaw.row PySem.Challenge.rw_stopanywhere_k57_least_spans_by_prices
def d_is_number : He.DefD := ⟨("is_number", none), "is_number", "is_number", defArgs s_is_number, defBody s_is_number, defScope s_is_number, [], []⟩
def d_is_from_0 : He.DefD := ⟨("is_from_0", none), "is_from_0", "is_from_0", defArgs s_is_from_0, defBody s_is_from_0, defScope s_is_from_0, [], []⟩
def d_is_span : He.DefD := ⟨("is_span", none), "is_span", "is_span", defArgs s_is_span, defBody s_is_span, defScope s_is_span, [], []⟩
def d_need_spans : He.DefD := ⟨("need_spans", none), "need_spans", "need_spans", defArgs s_need_spans, defBody s_need_spans, defScope s_need_spans, [], []⟩
def d_need_room : He.DefD := ⟨("need_room", none), "need_room", "need_room", defArgs s_need_room, defBody s_need_room, defScope s_need_room, [], []⟩
def d_length_of : He.DefD := ⟨("length_of", none), "length_of", "length_of", defArgs s_length_of, defBody s_length_of, defScope s_length_of, [], []⟩
def d_cover_of : He.DefD := ⟨("cover_of", none), "cover_of", "cover_of", defArgs s_cover_of, defBody s_cover_of, defScope s_cover_of, [], []⟩
def d_arcs_of : He.DefD := ⟨("arcs_of", none), "arcs_of", "arcs_of", defArgs s_arcs_of, defBody s_arcs_of, defScope s_arcs_of, [], []⟩
def d_distances : He.DefD := ⟨("distances", none), "distances", "distances", defArgs s_distances, defBody s_distances, defScope s_distances, [], []⟩
def d_kept_spans : He.DefD := ⟨("kept_spans", none), "kept_spans", "kept_spans", defArgs s_kept_spans, defBody s_kept_spans, defScope s_kept_spans, [], []⟩
def d_least_of : He.DefD := ⟨("least_of", none), "least_of", "least_of", defArgs s_least_of, defBody s_least_of, defScope s_least_of, [], []⟩
def d_least : He.DefD := ⟨("least", none), "least", "least", defArgs s_least, defBody s_least, defScope s_least, [], []⟩
def d_worth : He.DefD := ⟨("worth", none), "worth", "worth", defArgs s_worth, defBody s_worth, defScope s_worth, [], []⟩
def d__law_begun : He.DefD := ⟨("_law_begun", none), "_law_begun", "_law_begun", defArgs s_law_begun, defBody s_law_begun, defScope s_law_begun, [], []⟩
def d__law_mixed : He.DefD := ⟨("_law_mixed", none), "_law_mixed", "_law_mixed", defArgs s_law_mixed, defBody s_law_mixed, defScope s_law_mixed, [], []⟩
def d__law_take : He.DefD := ⟨("_law_take", none), "_law_take", "_law_take", defArgs s_law_take, defBody s_law_take, defScope s_law_take, [], []⟩
def d__law_pick : He.DefD := ⟨("_law_pick", none), "_law_pick", "_law_pick", defArgs s_law_pick, defBody s_law_pick, defScope s_law_pick, [], []⟩
def d__law_span : He.DefD := ⟨("_law_span", none), "_law_span", "_law_span", defArgs s_law_span, defBody s_law_span, defScope s_law_span, [], []⟩
def d__law_spans : He.DefD := ⟨("_law_spans", none), "_law_spans", "_law_spans", defArgs s_law_spans, defBody s_law_spans, defScope s_law_spans, [], []⟩
def d__law_cover : He.DefD := ⟨("_law_cover", none), "_law_cover", "_law_cover", defArgs s_law_cover, defBody s_law_cover, defScope s_law_cover, [], []⟩
def d__law_value : He.DefD := ⟨("_law_value", none), "_law_value", "_law_value", defArgs s_law_value, defBody s_law_value, defScope s_law_value, [], []⟩
def d__law_numbers : He.DefD := ⟨("_law_numbers", none), "_law_numbers", "_law_numbers", defArgs s_law_numbers, defBody s_law_numbers, defScope s_law_numbers, [], []⟩
def d__law_left_right : He.DefD := ⟨("_law_left_right", none), "_law_left_right", "_law_left_right", defArgs s_law_left_right, defBody s_law_left_right, defScope s_law_left_right, [], []⟩
def d__law_right : He.DefD := ⟨("_law_right", none), "_law_right", "_law_right", defArgs s_law_right, defBody s_law_right, defScope s_law_right, [], []⟩
def d__law_prices : He.DefD := ⟨("_law_prices", none), "_law_prices", "_law_prices", defArgs s_law_prices, defBody s_law_prices, defScope s_law_prices, [], []⟩
def d__law_refused : He.DefD := ⟨("_law_refused", none), "_law_refused", "_law_refused", defArgs s_law_refused, defBody s_law_refused, defScope s_law_refused, [], []⟩
def d__law_refusals_right : He.DefD := ⟨("_law_refusals_right", none), "_law_refusals_right", "_law_refusals_right", defArgs s_law_refusals_right, defBody s_law_refusals_right, defScope s_law_refusals_right, [], []⟩
def d_law : He.DefD := ⟨("law", none), "law", "law", defArgs s_law, defBody s_law, defScope s_law, [], []⟩
def i_BadSpans : DefS := ⟨"BadSpans", "BadSpans.__init__", defArgs s_BadSpans___init__, defBody s_BadSpans___init__, defScope s_BadSpans___init__⟩
def fnL : List He.DefD := [d_is_number, d_is_from_0, d_is_span, d_need_spans, d_need_room, d_length_of, d_cover_of, d_arcs_of, d_distances, d_kept_spans, d_least_of, d_least, d_worth, d__law_begun, d__law_mixed, d__law_take, d__law_pick, d__law_span, d__law_spans, d__law_cover, d__law_value, d__law_numbers, d__law_left_right, d__law_right, d__law_prices, d__law_refused, d__law_refusals_right, d_law]
def csL : List DefS := [i_BadSpans]
abbrev gloB (x : Str) (K : PySem.W.Frag) : Bool := (He.Fa.glo x).ok K
abbrev freeB (x : Str) (K : PySem.W.Frag) : Bool := (He.Fa.free x).ok K
abbrev strB (x z : Str) (K : PySem.W.Frag) : Bool := (He.Fa.str x z).ok K
abbrev exmB (x y : Str) (K : PySem.W.Frag) : Bool := (He.Fa.exm x y true).ok K
abbrev noatB (x f : Str) (K : PySem.W.Frag) : Bool := (He.Fa.noat x f).ok K
abbrev kitB (x y : Str) (K : PySem.W.Frag) : Bool := decide (PySem.W.kitOne K (.ref (He.ga K x)) (.ref (He.ga K y)) = some true)
abbrev kitF (x y : Str) (K : PySem.W.Frag) : Bool := decide (PySem.W.kitOne K (.ref (He.ga K x)) (.ref (He.ga K y)) = some false)
abbrev kitT (x : Str) (n : String) (K : PySem.W.Frag) : Bool := decide (PySem.W.kitOne K (.ref (He.ga K x)) (.type n) = some true)
def mainFile : Str := PySem.Challenge.pw_stopanywhere_k57_least_spans_by_prices.main.file
def smdB (K : PySem.W.Frag) : Bool := match K.lookup sysModules with | some ⟨.type n, _, _, _⟩ => decide (n = "dict") | _ => false
theorem smdB_ok {K : PySem.W.Frag} (h : smdB K = true) : SmD K := by
  unfold smdB at h
  split at h
  · rename_i n a b c e
    exact ⟨_, e, congrArg Value.type (of_decide_eq_true h)⟩
  · cases h
abbrev excN (x : Str) (K : PySem.W.Frag) : Bool := PySem.W.excIn K (He.ga K x) He.veBase "ValueError.__new__"
abbrev oexN (x : Str) (K : PySem.W.Frag) : Bool := oexB K (He.ga K x)
abbrev excR (x : Str) (K : PySem.W.Frag) : Bool := excRB K (He.ga K x)
abbrev supN (d : DefS) (K : PySem.W.Frag) : Bool := supB mainFile K d.cls d.qual
def dflB (x : Str) (K : PySem.W.Frag) : Bool := match K.lookup (initAd K x) with | some ⟨_, _, .func fd, _⟩ => (match fd.defaults with | .none => true | _ => false) | _ => false
theorem dflB_ok {K : PySem.W.Frag} {x : Str} (h : dflB x K = true) {oc : Value} {od : Option Addr} {fd : FuncData} {osl : Array (Option Value)} (lk : K.lookup (initAd K x) = some ⟨oc, od, .func fd, osl⟩) : fd.defaults = .none := by
  unfold dflB at h
  rw [lk] at h
  dsimp only at h
  split at h
  · assumption
  · cases h
theorem SupF.binds {P : Program} {K : PySem.W.Frag} {mg : Str → Option Value} {C cc cda : Addr} {x qual : Str} {params : Arguments} {body : List Stmt} {scope : Scope} {fd : FuncData} {ps : List Str} (F : SupF P K mg C (initAd K x) cc cda qual params body scope fd) (hd : dflB x K = true)
    (h : ∀ (kV doc pm ct : Value) (an : Option Addr) (us : List Value), us.length = ps.length → bindArgs (PySem.W.ksFn "__init__" qual params body scope .none kV doc pm an (.ref cda) ct cc) ⟨us, []⟩ = pure (ps.zip us)) : Binds K fd ps [] := by
  obtain ⟨oc, od, dV, kV, doc, pm, ct, an, osl, rfl, lk⟩ := F.ex
  have e : dV = .none := dflB_ok hd lk
  subst e
  exact .all (h kV doc pm ct an)
def strOf : Value → Option Str
  | .str z _ => some z
  | _ => none
def tupB (x : Str) (ss : List Str) (K : PySem.W.Frag) : Bool := match K.lookup (He.ga K x) with | some ⟨.type c, _, .seq its _, _⟩ => decide (c = "tuple") && (decide (its.size ≤ sizeLine) && decide (its.toList.map strOf = ss.map some)) | _ => false
theorem strOf_vals : ∀ {us : List Value} {ss : List Str}, us.map strOf = ss.map some → Vals (ss.map V.str) us
  | [], [], _ => .nil
  | [], _ :: _, h => by cases h
  | _ :: _, [], h => by cases h
  | u :: us, z :: ss, h => by
    simp only [List.map_cons, List.cons.injEq] at h
    refine .cons ?_ (strOf_vals h.2)
    cases u with
    | str y t =>
      have e : y = z := by injection h.1
      subst e
      exact ⟨t, rfl⟩
    | _ => cases h.1
theorem tupB_ok {x : Str} {ss : List Str} {K : PySem.W.Frag} (h : tupB x ss K = true) (H : Hp) : SqT K H (He.ga K x) (ss.map V.str) := by
  unfold tupB at h
  split at h
  · rename_i c d its n sl lk
    obtain ⟨h1, h⟩ := He.ba h
    obtain ⟨h2, h3⟩ := He.ba h
    exact .inr ⟨_, its, n, lk, congrArg Value.type (of_decide_eq_true h1), rfl, of_decide_eq_true h2, strOf_vals (of_decide_eq_true h3)⟩
  · cases h
def fbL : List (PySem.W.Frag → Bool) := [smdB, gloB "is_number", gloB "is_from_0", gloB "is_span", gloB "need_spans", gloB "need_room", gloB "length_of", gloB "cover_of", gloB "arcs_of", gloB "distances", gloB "kept_spans", gloB "least_of", gloB "least", gloB "worth", gloB "_law_begun", gloB "_law_mixed", gloB "_law_take", gloB "_law_pick", gloB "_law_span", gloB "_law_spans", gloB "_law_cover", gloB "_law_value", gloB "_law_numbers", gloB "_law_left_right", gloB "_law_right", gloB "_law_prices", gloB "_law_refused", gloB "_law_refusals_right", gloB "law", gloB "StopError", gloB "BadSpans", gloB "BadRoom", gloB "BadPrices", freeB "ValueError", freeB "abs", freeB "all", freeB "bool", freeB "enumerate", freeB "int", freeB "isinstance", freeB "len", freeB "list", freeB "max", freeB "min", freeB "range", freeB "set", freeB "sorted", freeB "sum", freeB "super", freeB "tuple", oexN "StopError", oexN "BadSpans", oexN "BadRoom", oexN "BadPrices", supN i_BadSpans, dflB "BadSpans", freeB "str", (fun K => (He.Fa.int "MOST_SPANS" 400).ok K), (fun K => (He.Fa.int "MOST_POSITION" 999).ok K), (fun K => (He.Fa.int "MOST_ROOM" 20).ok K), excN "BadRoom", excN "BadPrices", excR "BadSpans", noatB "BadSpans" "at", (fun K => (He.Fa.exm "BadSpans" "BadSpans" true).ok K), (fun K => (He.Fa.exm "BadRoom" "BadSpans" false).ok K), (fun K => (He.Fa.exm "BadRoom" "BadRoom" true).ok K), (fun K => (He.Fa.exm "BadPrices" "BadSpans" false).ok K), (fun K => (He.Fa.exm "BadPrices" "BadRoom" false).ok K), (fun K => (He.Fa.exm "BadPrices" "BadPrices" true).ok K)]
def tsL : List He.Defn := []
abbrev hk : PySem.W.Hook := hookZ 4 fbL fnL csL tsL
def ob (s : PySem.W.SharedT) : Bool × AlZ := obsZG 4 fbL fnL csL tsL (HandSHeadRun.getT s)
theorem ob_eq (s : PySem.W.SharedT) : ob s = hk.obs s.abs := obsZG_eq (HandSHeadRun.getT_eq s)
def looseL : List PySem.Str := (["StopError", "BadSpans", "BadRoom", "BadPrices", "is_number", "MOST_SPANS", "MOST_POSITION", "MOST_ROOM", "is_from_0", "is_span", "need_spans", "need_room", "length_of", "cover_of", "arcs_of", "distances", "kept_spans", "least_of", "least", "worth", "_law_begun", "_law_mixed", "_law_take", "_law_pick", "_law_span", "_law_spans", "_law_cover", "_law_value", "_law_numbers", "_law_left_right"] : List PySem.Str) ++ (["_law_right", "_law_prices", "_law_refused", "_law_refusals_right"] : List PySem.Str)
set_option maxHeartbeats 0 in
theorem run (w : World) : HandSHeadRun.RunEq Rw (PySem.W.view Rw.prog [38]) hk ob 60000 looseL w := by
  intro os
  kernel_rfl
section
variable {K : PySem.W.Frag}
theorem fact_smd (c : SaysZ fbL fnL csL K) : (smdB) K = true := c.fact 0
theorem fact_g_is_number (c : SaysZ fbL fnL csL K) : (gloB "is_number") K = true := c.fact 1
theorem fact_g_is_from_0 (c : SaysZ fbL fnL csL K) : (gloB "is_from_0") K = true := c.fact 2
theorem fact_g_is_span (c : SaysZ fbL fnL csL K) : (gloB "is_span") K = true := c.fact 3
theorem fact_g_need_spans (c : SaysZ fbL fnL csL K) : (gloB "need_spans") K = true := c.fact 4
theorem fact_g_need_room (c : SaysZ fbL fnL csL K) : (gloB "need_room") K = true := c.fact 5
theorem fact_g_length_of (c : SaysZ fbL fnL csL K) : (gloB "length_of") K = true := c.fact 6
theorem fact_g_cover_of (c : SaysZ fbL fnL csL K) : (gloB "cover_of") K = true := c.fact 7
theorem fact_g_arcs_of (c : SaysZ fbL fnL csL K) : (gloB "arcs_of") K = true := c.fact 8
theorem fact_g_distances (c : SaysZ fbL fnL csL K) : (gloB "distances") K = true := c.fact 9
theorem fact_g_kept_spans (c : SaysZ fbL fnL csL K) : (gloB "kept_spans") K = true := c.fact 10
theorem fact_g_least_of (c : SaysZ fbL fnL csL K) : (gloB "least_of") K = true := c.fact 11
theorem fact_g_least (c : SaysZ fbL fnL csL K) : (gloB "least") K = true := c.fact 12
theorem fact_g_worth (c : SaysZ fbL fnL csL K) : (gloB "worth") K = true := c.fact 13
theorem fact_g__law_begun (c : SaysZ fbL fnL csL K) : (gloB "_law_begun") K = true := c.fact 14
theorem fact_g__law_mixed (c : SaysZ fbL fnL csL K) : (gloB "_law_mixed") K = true := c.fact 15
theorem fact_g__law_take (c : SaysZ fbL fnL csL K) : (gloB "_law_take") K = true := c.fact 16
theorem fact_g__law_pick (c : SaysZ fbL fnL csL K) : (gloB "_law_pick") K = true := c.fact 17
theorem fact_g__law_span (c : SaysZ fbL fnL csL K) : (gloB "_law_span") K = true := c.fact 18
theorem fact_g__law_spans (c : SaysZ fbL fnL csL K) : (gloB "_law_spans") K = true := c.fact 19
theorem fact_g__law_cover (c : SaysZ fbL fnL csL K) : (gloB "_law_cover") K = true := c.fact 20
theorem fact_g__law_value (c : SaysZ fbL fnL csL K) : (gloB "_law_value") K = true := c.fact 21
theorem fact_g__law_numbers (c : SaysZ fbL fnL csL K) : (gloB "_law_numbers") K = true := c.fact 22
theorem fact_g__law_left_right (c : SaysZ fbL fnL csL K) : (gloB "_law_left_right") K = true := c.fact 23
theorem fact_g__law_right (c : SaysZ fbL fnL csL K) : (gloB "_law_right") K = true := c.fact 24
theorem fact_g__law_prices (c : SaysZ fbL fnL csL K) : (gloB "_law_prices") K = true := c.fact 25
theorem fact_g__law_refused (c : SaysZ fbL fnL csL K) : (gloB "_law_refused") K = true := c.fact 26
theorem fact_g__law_refusals_right (c : SaysZ fbL fnL csL K) : (gloB "_law_refusals_right") K = true := c.fact 27
theorem fact_g_law (c : SaysZ fbL fnL csL K) : (gloB "law") K = true := c.fact 28
theorem fact_g_StopError (c : SaysZ fbL fnL csL K) : (gloB "StopError") K = true := c.fact 29
theorem fact_g_BadSpans (c : SaysZ fbL fnL csL K) : (gloB "BadSpans") K = true := c.fact 30
theorem fact_g_BadRoom (c : SaysZ fbL fnL csL K) : (gloB "BadRoom") K = true := c.fact 31
theorem fact_g_BadPrices (c : SaysZ fbL fnL csL K) : (gloB "BadPrices") K = true := c.fact 32
theorem fact_f_ValueError (c : SaysZ fbL fnL csL K) : (freeB "ValueError") K = true := c.fact 33
theorem fact_f_abs (c : SaysZ fbL fnL csL K) : (freeB "abs") K = true := c.fact 34
theorem fact_f_all (c : SaysZ fbL fnL csL K) : (freeB "all") K = true := c.fact 35
theorem fact_f_bool (c : SaysZ fbL fnL csL K) : (freeB "bool") K = true := c.fact 36
theorem fact_f_enumerate (c : SaysZ fbL fnL csL K) : (freeB "enumerate") K = true := c.fact 37
theorem fact_f_int (c : SaysZ fbL fnL csL K) : (freeB "int") K = true := c.fact 38
theorem fact_f_isinstance (c : SaysZ fbL fnL csL K) : (freeB "isinstance") K = true := c.fact 39
theorem fact_f_len (c : SaysZ fbL fnL csL K) : (freeB "len") K = true := c.fact 40
theorem fact_f_list (c : SaysZ fbL fnL csL K) : (freeB "list") K = true := c.fact 41
theorem fact_f_max (c : SaysZ fbL fnL csL K) : (freeB "max") K = true := c.fact 42
theorem fact_f_min (c : SaysZ fbL fnL csL K) : (freeB "min") K = true := c.fact 43
theorem fact_f_range (c : SaysZ fbL fnL csL K) : (freeB "range") K = true := c.fact 44
theorem fact_f_set (c : SaysZ fbL fnL csL K) : (freeB "set") K = true := c.fact 45
theorem fact_f_sorted (c : SaysZ fbL fnL csL K) : (freeB "sorted") K = true := c.fact 46
theorem fact_f_sum (c : SaysZ fbL fnL csL K) : (freeB "sum") K = true := c.fact 47
theorem fact_f_super (c : SaysZ fbL fnL csL K) : (freeB "super") K = true := c.fact 48
theorem fact_f_tuple (c : SaysZ fbL fnL csL K) : (freeB "tuple") K = true := c.fact 49
theorem fact_o_StopError (c : SaysZ fbL fnL csL K) : (oexN "StopError") K = true := c.fact 50
theorem fact_o_BadSpans (c : SaysZ fbL fnL csL K) : (oexN "BadSpans") K = true := c.fact 51
theorem fact_o_BadRoom (c : SaysZ fbL fnL csL K) : (oexN "BadRoom") K = true := c.fact 52
theorem fact_o_BadPrices (c : SaysZ fbL fnL csL K) : (oexN "BadPrices") K = true := c.fact 53
theorem fact_sup_BadSpans (c : SaysZ fbL fnL csL K) : (supN i_BadSpans) K = true := c.fact 54
theorem fact_dfl_BadSpans (c : SaysZ fbL fnL csL K) : (dflB "BadSpans") K = true := c.fact 55
theorem fact_f_str (c : SaysZ fbL fnL csL K) : (freeB "str") K = true := c.fact 56
theorem fact_n_MOST_SPANS (c : SaysZ fbL fnL csL K) : ((fun K => (He.Fa.int "MOST_SPANS" 400).ok K)) K = true := c.fact 57
theorem fact_n_MOST_POSITION (c : SaysZ fbL fnL csL K) : ((fun K => (He.Fa.int "MOST_POSITION" 999).ok K)) K = true := c.fact 58
theorem fact_n_MOST_ROOM (c : SaysZ fbL fnL csL K) : ((fun K => (He.Fa.int "MOST_ROOM" 20).ok K)) K = true := c.fact 59
theorem fact_p_BadRoom (c : SaysZ fbL fnL csL K) : (excN "BadRoom") K = true := c.fact 60
theorem fact_p_BadPrices (c : SaysZ fbL fnL csL K) : (excN "BadPrices") K = true := c.fact 61
theorem fact_r_BadSpans (c : SaysZ fbL fnL csL K) : (excR "BadSpans") K = true := c.fact 62
theorem fact_a_at (c : SaysZ fbL fnL csL K) : (noatB "BadSpans" "at") K = true := c.fact 63
theorem fact_x_BadSpans_BadSpans (c : SaysZ fbL fnL csL K) : ((fun K => (He.Fa.exm "BadSpans" "BadSpans" true).ok K)) K = true := c.fact 64
theorem fact_x_BadRoom_BadSpans (c : SaysZ fbL fnL csL K) : ((fun K => (He.Fa.exm "BadRoom" "BadSpans" false).ok K)) K = true := c.fact 65
theorem fact_x_BadRoom_BadRoom (c : SaysZ fbL fnL csL K) : ((fun K => (He.Fa.exm "BadRoom" "BadRoom" true).ok K)) K = true := c.fact 66
theorem fact_x_BadPrices_BadSpans (c : SaysZ fbL fnL csL K) : ((fun K => (He.Fa.exm "BadPrices" "BadSpans" false).ok K)) K = true := c.fact 67
theorem fact_x_BadPrices_BadRoom (c : SaysZ fbL fnL csL K) : ((fun K => (He.Fa.exm "BadPrices" "BadRoom" false).ok K)) K = true := c.fact 68
theorem fact_x_BadPrices_BadPrices (c : SaysZ fbL fnL csL K) : ((fun K => (He.Fa.exm "BadPrices" "BadPrices" true).ok K)) K = true := c.fact 69
theorem def_is_number (c : SaysZ fbL fnL csL K) : ∃ fd, FunD K "is_number" "is_number" (defArgs s_is_number) (defBody s_is_number) (defScope s_is_number) [] [] (He.ga K "is_number") fd := c.def_ 0 (d := d_is_number) rfl
theorem def_is_from_0 (c : SaysZ fbL fnL csL K) : ∃ fd, FunD K "is_from_0" "is_from_0" (defArgs s_is_from_0) (defBody s_is_from_0) (defScope s_is_from_0) [] [] (He.ga K "is_from_0") fd := c.def_ 1 (d := d_is_from_0) rfl
theorem def_is_span (c : SaysZ fbL fnL csL K) : ∃ fd, FunD K "is_span" "is_span" (defArgs s_is_span) (defBody s_is_span) (defScope s_is_span) [] [] (He.ga K "is_span") fd := c.def_ 2 (d := d_is_span) rfl
theorem def_need_spans (c : SaysZ fbL fnL csL K) : ∃ fd, FunD K "need_spans" "need_spans" (defArgs s_need_spans) (defBody s_need_spans) (defScope s_need_spans) [] [] (He.ga K "need_spans") fd := c.def_ 3 (d := d_need_spans) rfl
theorem def_need_room (c : SaysZ fbL fnL csL K) : ∃ fd, FunD K "need_room" "need_room" (defArgs s_need_room) (defBody s_need_room) (defScope s_need_room) [] [] (He.ga K "need_room") fd := c.def_ 4 (d := d_need_room) rfl
theorem def_length_of (c : SaysZ fbL fnL csL K) : ∃ fd, FunD K "length_of" "length_of" (defArgs s_length_of) (defBody s_length_of) (defScope s_length_of) [] [] (He.ga K "length_of") fd := c.def_ 5 (d := d_length_of) rfl
theorem def_cover_of (c : SaysZ fbL fnL csL K) : ∃ fd, FunD K "cover_of" "cover_of" (defArgs s_cover_of) (defBody s_cover_of) (defScope s_cover_of) [] [] (He.ga K "cover_of") fd := c.def_ 6 (d := d_cover_of) rfl
theorem def_arcs_of (c : SaysZ fbL fnL csL K) : ∃ fd, FunD K "arcs_of" "arcs_of" (defArgs s_arcs_of) (defBody s_arcs_of) (defScope s_arcs_of) [] [] (He.ga K "arcs_of") fd := c.def_ 7 (d := d_arcs_of) rfl
theorem def_distances (c : SaysZ fbL fnL csL K) : ∃ fd, FunD K "distances" "distances" (defArgs s_distances) (defBody s_distances) (defScope s_distances) [] [] (He.ga K "distances") fd := c.def_ 8 (d := d_distances) rfl
theorem def_kept_spans (c : SaysZ fbL fnL csL K) : ∃ fd, FunD K "kept_spans" "kept_spans" (defArgs s_kept_spans) (defBody s_kept_spans) (defScope s_kept_spans) [] [] (He.ga K "kept_spans") fd := c.def_ 9 (d := d_kept_spans) rfl
theorem def_least_of (c : SaysZ fbL fnL csL K) : ∃ fd, FunD K "least_of" "least_of" (defArgs s_least_of) (defBody s_least_of) (defScope s_least_of) [] [] (He.ga K "least_of") fd := c.def_ 10 (d := d_least_of) rfl
theorem def_least (c : SaysZ fbL fnL csL K) : ∃ fd, FunD K "least" "least" (defArgs s_least) (defBody s_least) (defScope s_least) [] [] (He.ga K "least") fd := c.def_ 11 (d := d_least) rfl
theorem def_worth (c : SaysZ fbL fnL csL K) : ∃ fd, FunD K "worth" "worth" (defArgs s_worth) (defBody s_worth) (defScope s_worth) [] [] (He.ga K "worth") fd := c.def_ 12 (d := d_worth) rfl
theorem def__law_begun (c : SaysZ fbL fnL csL K) : ∃ fd, FunD K "_law_begun" "_law_begun" (defArgs s_law_begun) (defBody s_law_begun) (defScope s_law_begun) [] [] (He.ga K "_law_begun") fd := c.def_ 13 (d := d__law_begun) rfl
theorem def__law_mixed (c : SaysZ fbL fnL csL K) : ∃ fd, FunD K "_law_mixed" "_law_mixed" (defArgs s_law_mixed) (defBody s_law_mixed) (defScope s_law_mixed) [] [] (He.ga K "_law_mixed") fd := c.def_ 14 (d := d__law_mixed) rfl
theorem def__law_take (c : SaysZ fbL fnL csL K) : ∃ fd, FunD K "_law_take" "_law_take" (defArgs s_law_take) (defBody s_law_take) (defScope s_law_take) [] [] (He.ga K "_law_take") fd := c.def_ 15 (d := d__law_take) rfl
theorem def__law_pick (c : SaysZ fbL fnL csL K) : ∃ fd, FunD K "_law_pick" "_law_pick" (defArgs s_law_pick) (defBody s_law_pick) (defScope s_law_pick) [] [] (He.ga K "_law_pick") fd := c.def_ 16 (d := d__law_pick) rfl
theorem def__law_span (c : SaysZ fbL fnL csL K) : ∃ fd, FunD K "_law_span" "_law_span" (defArgs s_law_span) (defBody s_law_span) (defScope s_law_span) [] [] (He.ga K "_law_span") fd := c.def_ 17 (d := d__law_span) rfl
theorem def__law_spans (c : SaysZ fbL fnL csL K) : ∃ fd, FunD K "_law_spans" "_law_spans" (defArgs s_law_spans) (defBody s_law_spans) (defScope s_law_spans) [] [] (He.ga K "_law_spans") fd := c.def_ 18 (d := d__law_spans) rfl
theorem def__law_cover (c : SaysZ fbL fnL csL K) : ∃ fd, FunD K "_law_cover" "_law_cover" (defArgs s_law_cover) (defBody s_law_cover) (defScope s_law_cover) [] [] (He.ga K "_law_cover") fd := c.def_ 19 (d := d__law_cover) rfl
theorem def__law_value (c : SaysZ fbL fnL csL K) : ∃ fd, FunD K "_law_value" "_law_value" (defArgs s_law_value) (defBody s_law_value) (defScope s_law_value) [] [] (He.ga K "_law_value") fd := c.def_ 20 (d := d__law_value) rfl
theorem def__law_numbers (c : SaysZ fbL fnL csL K) : ∃ fd, FunD K "_law_numbers" "_law_numbers" (defArgs s_law_numbers) (defBody s_law_numbers) (defScope s_law_numbers) [] [] (He.ga K "_law_numbers") fd := c.def_ 21 (d := d__law_numbers) rfl
theorem def__law_left_right (c : SaysZ fbL fnL csL K) : ∃ fd, FunD K "_law_left_right" "_law_left_right" (defArgs s_law_left_right) (defBody s_law_left_right) (defScope s_law_left_right) [] [] (He.ga K "_law_left_right") fd := c.def_ 22 (d := d__law_left_right) rfl
theorem def__law_right (c : SaysZ fbL fnL csL K) : ∃ fd, FunD K "_law_right" "_law_right" (defArgs s_law_right) (defBody s_law_right) (defScope s_law_right) [] [] (He.ga K "_law_right") fd := c.def_ 23 (d := d__law_right) rfl
theorem def__law_prices (c : SaysZ fbL fnL csL K) : ∃ fd, FunD K "_law_prices" "_law_prices" (defArgs s_law_prices) (defBody s_law_prices) (defScope s_law_prices) [] [] (He.ga K "_law_prices") fd := c.def_ 24 (d := d__law_prices) rfl
theorem def__law_refused (c : SaysZ fbL fnL csL K) : ∃ fd, FunD K "_law_refused" "_law_refused" (defArgs s_law_refused) (defBody s_law_refused) (defScope s_law_refused) [] [] (He.ga K "_law_refused") fd := c.def_ 25 (d := d__law_refused) rfl
theorem def__law_refusals_right (c : SaysZ fbL fnL csL K) : ∃ fd, FunD K "_law_refusals_right" "_law_refusals_right" (defArgs s_law_refusals_right) (defBody s_law_refusals_right) (defScope s_law_refusals_right) [] [] (He.ga K "_law_refusals_right") fd := c.def_ 26 (d := d__law_refusals_right) rfl
theorem def_law (c : SaysZ fbL fnL csL K) : ∃ fd, FunD K "law" "law" (defArgs s_law) (defBody s_law) (defScope s_law) [] [] (He.ga K "law") fd := c.def_ 27 (d := d_law) rfl
theorem ini_BadSpans (c : SaysZ fbL fnL csL K) : fnSW K "BadSpans" = (i_BadSpans).val := c.ini (d := i_BadSpans) (List.mem_of_getElem? (i := 0) rfl)
end
/-! ## k57: spans left out at least cost: distances by relaxing arcs -/
namespace F57
/-- first, last, cost -/
abbrev Span := Nat × Nat × Nat
structure Arc where
  fr : Nat
  to : Nat
  w : Int
  ix : Option Nat
def fwd (a : Nat) : Arc := ⟨a, a + 1, 0, none⟩
def back (a : Nat) : Arc := ⟨a + 1, a, 0, none⟩
def Pot (A : Arc → Prop) (p : Nat → Int) : Prop := ∀ a, A a → p a.to ≤ p a.fr + a.w
def set {α : Type} (f : Nat → α) (i : Nat) (x : α) : Nat → α := fun j => if j = i then x else f j
theorem set_same {α : Type} {f : Nat → α} {i : Nat} {x : α} : set f i x i = x := if_pos rfl
theorem set_ne {α : Type} {f : Nat → α} {i j : Nat} {x : α} (h : j ≠ i) : set f i x j = f j := if_neg h
/-- costs from 0, by which arc, when -/
structure Rel (A : Arc → Prop) (N : Nat) (p c : Nat → Int) (by_ : Nat → Option Arc) (t : Nat → Nat) (T : Nat) : Prop where
  z : c 0 = 0
  b0 : by_ 0 = none
  lo : ∀ v, v ≤ N → p v - p 0 ≤ c v
  tr : ∀ v, 1 ≤ v → v ≤ N → ∃ a, by_ v = some a ∧ A a ∧ a.to = v ∧ a.fr ≤ N ∧ c a.fr + a.w ≤ c v ∧ (c a.fr + a.w = c v → t a.fr < t v)
  tt : ∀ v, v ≤ N → t v < T
theorem Rel.start {A : Arc → Prop} {N : Nat} {p : Nat → Int} (hA : ∀ a, a < N → A (fwd a)) (hp : Pot A p) : Rel A N p (fun _ => 0) (fun v => if v = 0 then none else some (fwd (v - 1))) (fun v => v) (N + 1) := by
  have mono : ∀ v, v ≤ N → p v ≤ p 0 := by
    intro v
    induction v with
    | zero => intro _; exact Int.le_refl _
    | succ v ih =>
      intro h
      have h1 := hp _ (hA v (by omega))
      have h2 := ih (by omega)
      show p (v + 1) ≤ p 0
      have h3 : p (v + 1) ≤ p v + 0 := h1
      omega
  refine ⟨rfl, rfl, fun v h => by have := mono v h; omega, fun v h1 h2 => ⟨fwd (v - 1), if_neg (by omega), hA _ (by omega), ?_, ?_, ?_, ?_⟩, fun v h => by omega⟩
  · show v - 1 + 1 = v
    omega
  · show v - 1 ≤ N
    omega
  · show (0 : Int) + 0 ≤ 0
    omega
  · intro _
    show v - 1 < v
    omega
theorem Rel.step {A : Arc → Prop} {N : Nat} {p c : Nat → Int} {by_ : Nat → Option Arc} {t : Nat → Nat} {T : Nat} (R : Rel A N p c by_ t T) (hp : Pot A p) {a : Arc} (ha : A a) (hf : a.fr ≤ N) (ht : a.to ≤ N) (hne : a.fr ≠ a.to) (h : c a.fr + a.w < c a.to) :
    Rel A N p (set c a.to (c a.fr + a.w)) (set by_ a.to (some a)) (set t a.to T) (T + 1) := by
  have hpa := hp a ha
  have hlo := R.lo _ hf
  have n0 : a.to ≠ 0 := fun e => by
    rw [e] at h hpa
    have := R.z
    omega
  refine ⟨?_, ?_, fun v hv => ?_, fun v h1 h2 => ?_, fun v hv => ?_⟩
  · rw [set_ne (Ne.symm n0)]; exact R.z
  · rw [set_ne (Ne.symm n0)]; exact R.b0
  · by_cases e : v = a.to
    · subst e
      rw [set_same]
      omega
    · rw [set_ne e]
      exact R.lo v hv
  · by_cases e : v = a.to
    · subst e
      refine ⟨a, set_same, ha, rfl, hf, ?_, ?_⟩
      · rw [set_ne hne, set_same]
        exact Int.le_refl _
      · intro _
        rw [set_ne hne, set_same]
        exact R.tt _ hf
    · obtain ⟨b, b1, b2, b3, b4, b5, b6⟩ := R.tr v h1 h2
      refine ⟨b, by rw [set_ne e]; exact b1, b2, b3, b4, ?_, ?_⟩
      · by_cases e2 : b.fr = a.to
        · rw [e2, set_same, set_ne e]
          rw [e2] at b5
          omega
        · rw [set_ne e2, set_ne e]
          exact b5
      · by_cases e2 : b.fr = a.to
        · rw [e2, set_same, set_ne e]
          rw [e2] at b5
          intro h3
          omega
        · rw [set_ne e2, set_ne e, set_ne e2, set_ne e]
          exact b6
  · by_cases e : v = a.to
    · subst e
      rw [set_same]
      omega
    · rw [set_ne e]
      have := R.tt v hv
      omega
/-- what shrinks -/
def meas (N : Nat) (p c : Nat → Int) : Nat := ((List.range (N + 1)).map fun v => (c v - (p v - p 0)).toNat).sum
theorem sum_lt : ∀ (l : List Nat) (f g : Nat → Nat) (x : Nat), (∀ v ∈ l, f v ≤ g v) → x ∈ l → f x < g x → (l.map f).sum < (l.map g).sum
  | [], _, _, _, _, h, _ => nomatch h
  | y :: l, f, g, x, h, hx, hl => by
    rw [List.map_cons, List.map_cons, List.sum_cons, List.sum_cons]
    have h0 := h y (List.mem_cons_self ..)
    have le : (l.map f).sum ≤ (l.map g).sum := by
      clear hx hl h0
      induction l with
      | nil => exact Nat.le_refl _
      | cons z l ih =>
        rw [List.map_cons, List.map_cons, List.sum_cons, List.sum_cons]
        have h1 := h z (List.mem_cons_of_mem _ (List.mem_cons_self ..))
        have h2 := ih fun v hv => h v (by rcases List.mem_cons.mp hv with e | e; exact e ▸ List.mem_cons_self ..; exact List.mem_cons_of_mem _ (List.mem_cons_of_mem _ e))
        omega
    rcases List.mem_cons.mp hx with e | e
    · subst e
      omega
    · have := sum_lt l f g x (fun v hv => h v (List.mem_cons_of_mem _ hv)) e hl
      omega
theorem meas_step {A : Arc → Prop} {N : Nat} {p c : Nat → Int} {by_ : Nat → Option Arc} {t : Nat → Nat} {T : Nat} (R : Rel A N p c by_ t T) (hp : Pot A p) {a : Arc} (ha : A a) (hf : a.fr ≤ N) (ht : a.to ≤ N) (h : c a.fr + a.w < c a.to) :
    meas N p (set c a.to (c a.fr + a.w)) < meas N p c := by
  have hpa := hp a ha
  have hlo := R.lo _ hf
  refine sum_lt _ _ _ a.to (fun v hv => ?_) (List.mem_range.mpr (by omega)) ?_
  · by_cases e : v = a.to
    · subst e
      rw [set_same]
      omega
    · rw [set_ne e]
      exact Nat.le_refl _
  · rw [set_same]
    omega
/-- the way back by the arcs -/
inductive Tr (by_ : Nat → Option Arc) : Nat → List Arc → Prop
  | nil : Tr by_ 0 []
  | cons {v : Nat} {a : Arc} {l : List Arc} : v ≠ 0 → by_ v = some a → Tr by_ a.fr l → Tr by_ v (a :: l)
theorem Rel.trace {A : Arc → Prop} {N : Nat} {p c : Nat → Int} {by_ : Nat → Option Arc} {t : Nat → Nat} {T : Nat} (R : Rel A N p c by_ t T) (hp : Pot A p) :
    ∀ (m n v : Nat), v ≤ N → (c v - (p v - p 0)).toNat = m → t v = n → ∃ l, Tr by_ v l ∧ (l.map (·.to)).Nodup ∧ ∀ a ∈ l, A a ∧ by_ a.to = some a ∧ a.to ≤ N ∧ a.fr ≤ N ∧
      ((c a.to - (p a.to - p 0)).toNat < m ∨ ((c a.to - (p a.to - p 0)).toNat = m ∧ t a.to ≤ n)) := by
  intro m
  induction m using Nat.strongRecOn with
  | ind m ihm =>
    intro n
    induction n using Nat.strongRecOn with
    | ind n ihn =>
      intro v hv hm hn
      by_cases v0 : v = 0
      · subst v0
        exact ⟨[], .nil, .nil, fun a h => nomatch h⟩
      · obtain ⟨a, b1, b2, b3, b4, b5, b6⟩ := R.tr v (by omega) hv
        have hpa := hp a b2
        have l1 := R.lo _ b4
        have l2 := R.lo _ hv
        rw [b3] at hpa
        have key : ∃ l, Tr by_ a.fr l ∧ (l.map (·.to)).Nodup ∧ ∀ b ∈ l, A b ∧ by_ b.to = some b ∧ b.to ≤ N ∧ b.fr ≤ N ∧ ((c b.to - (p b.to - p 0)).toNat < m ∨ ((c b.to - (p b.to - p 0)).toNat = m ∧ t b.to < n)) := by
          by_cases e : (c a.fr - (p a.fr - p 0)).toNat < m
          · obtain ⟨l, k1, k2, k3⟩ := ihm _ e (t a.fr) a.fr b4 rfl rfl
            refine ⟨l, k1, k2, fun b hb => ?_⟩
            obtain ⟨q1, q2, q3, q4, q5⟩ := k3 b hb
            exact ⟨q1, q2, q3, q4, .inl (by omega)⟩
          · have e1 : c a.fr + a.w = c v := by omega
            have e2 := b6 e1
            have e3 : (c a.fr - (p a.fr - p 0)).toNat = m := by omega
            obtain ⟨l, k1, k2, k3⟩ := ihn (t a.fr) (by omega) a.fr b4 e3 rfl
            refine ⟨l, k1, k2, fun b hb => ?_⟩
            obtain ⟨q1, q2, q3, q4, q5⟩ := k3 b hb
            exact ⟨q1, q2, q3, q4, by omega⟩
        obtain ⟨l, k1, k2, k3⟩ := key
        refine ⟨a :: l, .cons v0 b1 k1, ?_, fun b hb => ?_⟩
        · rw [List.map_cons, List.nodup_cons]
          refine ⟨fun hx => ?_, k2⟩
          obtain ⟨b, hb, e⟩ := List.mem_map.mp hx
          obtain ⟨q1, q2, q3, q4, q5⟩ := k3 b hb
          have e : b.to = v := e.trans b3
          rw [e] at q5
          omega
        · rcases List.mem_cons.mp hb with rfl | hb
          · rw [b3]
            exact ⟨b2, b1, hv, b4, by omega⟩
          · obtain ⟨q1, q2, q3, q4, q5⟩ := k3 b hb
            exact ⟨q1, q2, q3, q4, by omega⟩
end F57
/-! ## k57: a unit more along the way back -/
namespace F57
def inS (s : Span) (x : Nat) : Bool := decide (s.1 ≤ x) && decide (x ≤ s.2.1)
/-- how many kept spans cover a position -/
def cov : List Span → (Nat → Bool) → Nat → Nat
  | [], _, _ => 0
  | s :: r, k, x => (if k 0 && inS s x then 1 else 0) + cov r (fun i => k (i + 1)) x
def tog (k : Nat → Bool) (i : Nat) : Nat → Bool := set k i (!k i)
theorem cov_tog : ∀ {sp : List Span} {k : Nat → Bool} {i : Nat} {s : Span} (x : Nat), sp[i]? = some s → (cov sp (tog k i) x : Int) = cov sp k x + (if inS s x then (if k i then -1 else 1) else 0)
  | [], _, _, _, _, h => by simp at h
  | s0 :: r, k, 0, s, x, h => by
    have h : s0 = s := by simpa using h
    subst h
    have e : (fun i => tog k 0 (i + 1)) = fun i => k (i + 1) := by funext i; exact set_ne (by omega)
    have e0 : tog k 0 0 = !k 0 := set_same
    unfold cov
    rw [e, e0]
    cases k 0 <;> cases inS s0 x <;> simp <;> omega
  | s0 :: r, k, i + 1, s, x, h => by
    have h : r[i]? = some s := by simpa using h
    have ih := cov_tog (k := fun i => k (i + 1)) x h
    have e : (fun j => tog k (i + 1) (j + 1)) = tog (fun i => k (i + 1)) i := by
      funext j
      unfold tog
      by_cases q : j = i
      · subst q
        rw [set_same, set_same]
      · rw [set_ne q, set_ne (by omega)]
    have e0 : tog k (i + 1) 0 = k 0 := set_ne (by omega)
    unfold cov
    rw [e, e0]
    omega
def arcOf (k : Nat → Bool) (i : Nat) (s : Span) : Arc := if k i then ⟨s.2.1 + 1, s.1, (s.2.2 : Int), some i⟩ else ⟨s.1, s.2.1 + 1, -(s.2.2 : Int), some i⟩
theorem arcOf_ix (k : Nat → Bool) (i : Nat) (s : Span) : (arcOf k i s).ix = some i := by unfold arcOf; split <;> rfl
inductive IsArc (sp : List Span) (N : Nat) (k : Nat → Bool) (u : Nat) : Arc → Prop
  | fwd {x : Nat} : x < N → IsArc sp N k u (fwd x)
  | span {i : Nat} {s : Span} : sp[i]? = some s → IsArc sp N k u (arcOf k i s)
  | back {x : Nat} : x < N → cov sp k x < u → IsArc sp N k u (back x)
theorem IsArc.ix_some {sp : List Span} {N : Nat} {k : Nat → Bool} {u : Nat} {a : Arc} {i : Nat} (h : IsArc sp N k u a) (e : a.ix = some i) : ∃ s, sp[i]? = some s ∧ a = arcOf k i s := by
  cases h with
  | fwd h => cases e
  | span h =>
    rename_i j s
    rw [arcOf_ix] at e
    injection e with e
    subst e
    exact ⟨s, h, rfl⟩
  | back h => cases e
theorem IsArc.ix_none {sp : List Span} {N : Nat} {k : Nat → Bool} {u : Nat} {a : Arc} (h : IsArc sp N k u a) (e : a.ix = none) : (∃ x, x < N ∧ a = F57.fwd x) ∨ ∃ x, x < N ∧ cov sp k x < u ∧ a = F57.back x := by
  cases h with
  | fwd h => exact .inl ⟨_, h, rfl⟩
  | span h => rw [arcOf_ix] at e; cases e
  | back h h2 => exact .inr ⟨_, h, h2, rfl⟩
def cross (a : Arc) (x : Nat) : Int := (if x < a.to then 1 else 0) - (if x < a.fr then 1 else 0)
theorem cross_span {sp : List Span} {k : Nat → Bool} {i : Nat} {s : Span} (x : Nat) (hs : s.1 ≤ s.2.1) : cross (arcOf k i s) x = if inS s x then (if k i then -1 else 1) else 0 := by
  unfold cross arcOf inS
  by_cases h1 : s.1 ≤ x <;> by_cases h2 : x ≤ s.2.1 <;> cases k i <;> simp [h1, h2] <;> (repeat (split <;> try omega)) <;> omega
def crossAll (l : List Arc) (x : Nat) : Int := (l.map fun a => cross a x).sum
theorem cross_tr {by_ : Nat → Option Arc} {v : Nat} {l : List Arc} (h : Tr by_ v l) (hto : ∀ a ∈ l, by_ a.to = some a) (hv : ∀ a, by_ v = some a → a.to = v) (hb : ∀ u a, by_ u = some a → a.to = u) (x : Nat) : crossAll l x = if x < v then 1 else 0 := by
  induction h with
  | nil => rfl
  | cons v0 b tr ih =>
    rename_i v a l
    have ih := ih (fun b hb => hto b (List.mem_cons_of_mem _ hb)) (fun a h => hb _ _ h)
    unfold crossAll at ih ⊢
    rw [List.map_cons, List.sum_cons, ih]
    have e := hb _ _ b
    unfold cross
    rw [e]
    omega
/-- the arcs that belong to no span -/
def zAll (l : List Arc) (x : Nat) : Int := (l.map fun a => if a.ix.isNone then cross a x else 0).sum
def sAll (l : List Arc) (x : Nat) : Int := (l.map fun a => if a.ix.isNone then 0 else cross a x).sum
theorem zs_all (l : List Arc) (x : Nat) : zAll l x + sAll l x = crossAll l x := by
  unfold zAll sAll crossAll
  induction l with
  | nil => rfl
  | cons a l ih =>
    simp only [List.map_cons, List.sum_cons]
    split <;> omega
theorem cross_fwd (y x : Nat) : cross (fwd y) x = if y = x then 1 else 0 := by
  unfold cross fwd
  dsimp only
  split <;> split <;> split <;> omega
theorem cross_back (y x : Nat) : cross (back y) x = if y = x then -1 else 0 := by
  unfold cross back
  dsimp only
  split <;> split <;> split <;> omega
theorem z_pos {sp : List Span} {N : Nat} {k : Nat → Bool} {u : Nat} {x : Nat} : ∀ {l : List Arc}, (∀ a ∈ l, IsArc sp N k u a) → 1 ≤ zAll l x → fwd x ∈ l
  | [], _, h => by simp [zAll] at h
  | a :: l, hl, h => by
    unfold zAll at h
    rw [List.map_cons, List.sum_cons] at h
    have ih := fun h => z_pos (l := l) (x := x) (fun b hb => hl b (List.mem_cons_of_mem _ hb)) h
    cases e : a.ix with
    | some i =>
      rw [e] at h
      exact List.mem_cons_of_mem _ (ih (by unfold zAll; simpa using h))
    | none =>
      rw [e] at h
      have h : 1 ≤ cross a x + zAll l x := by simpa [zAll] using h
      rcases (hl a (List.mem_cons_self ..)).ix_none e with ⟨y, hy, rfl⟩ | ⟨y, hy, _, rfl⟩
      · rw [cross_fwd] at h
        by_cases q : y = x
        · exact q ▸ List.mem_cons_self ..
        · rw [if_neg q] at h
          exact List.mem_cons_of_mem _ (ih (by omega))
      · rw [cross_back] at h
        refine List.mem_cons_of_mem _ (ih ?_)
        split at h <;> omega
theorem z_nneg {sp : List Span} {N : Nat} {k : Nat → Bool} {u : Nat} {x : Nat} : ∀ {l : List Arc}, (∀ a ∈ l, IsArc sp N k u a) → back x ∉ l → 0 ≤ zAll l x
  | [], _, _ => by simp [zAll]
  | a :: l, hl, h => by
    have ih := z_nneg (l := l) (x := x) (fun b hb => hl b (List.mem_cons_of_mem _ hb)) (fun q => h (List.mem_cons_of_mem _ q))
    unfold zAll at ih ⊢
    rw [List.map_cons, List.sum_cons]
    cases e : a.ix with
    | some i => simpa using ih
    | none =>
      have : 0 ≤ cross a x := by
        rcases (hl a (List.mem_cons_self ..)).ix_none e with ⟨y, hy, rfl⟩ | ⟨y, hy, _, rfl⟩
        · rw [cross_fwd]
          split <;> omega
        · rw [cross_back, if_neg (fun q => h (by rw [q]; exact List.mem_cons_self ..))]
          exact Int.le_refl _
      simp only [Option.isNone_none, if_true]
      omega
theorem z_low {sp : List Span} {N : Nat} {k : Nat → Bool} {u : Nat} {x : Nat} : ∀ {l : List Arc}, (∀ a ∈ l, IsArc sp N k u a) → (l.map (·.to)).Nodup → -1 ≤ zAll l x
  | [], _, _ => by simp [zAll]
  | a :: l, hl, h => by
    rw [List.map_cons, List.nodup_cons] at h
    have hl' : ∀ b ∈ l, IsArc sp N k u b := fun b hb => hl b (List.mem_cons_of_mem _ hb)
    have ih := z_low (l := l) (x := x) hl' h.2
    unfold zAll at ih ⊢
    rw [List.map_cons, List.sum_cons]
    cases e : a.ix with
    | some i => simpa using ih
    | none =>
      simp only [Option.isNone_none, if_true]
      rcases (hl a (List.mem_cons_self ..)).ix_none e with ⟨y, hy, rfl⟩ | ⟨y, hy, _, rfl⟩
      · rw [cross_fwd]
        split <;> omega
      · rw [cross_back]
        by_cases q : y = x
        · subst q
          have := z_nneg (x := y) hl' (fun m => h.1 (List.mem_map.mpr ⟨back y, m, rfl⟩))
          unfold zAll at this
          rw [if_pos rfl]
          omega
        · rw [if_neg q]
          omega
/-- the spans on the way change sides -/
def togs (k : Nat → Bool) : List Arc → Nat → Bool
  | [] => k
  | a :: l => togs (match a.ix with | some i => tog k i | none => k) l
theorem togs_keep {i : Nat} : ∀ {l : List Arc} {k : Nat → Bool}, (∀ a ∈ l, a.ix ≠ some i) → togs k l i = k i
  | [], _, _ => rfl
  | a :: l, k, h => by
    unfold togs
    rw [togs_keep fun b hb => h b (List.mem_cons_of_mem _ hb)]
    have h0 := h a (List.mem_cons_self ..)
    cases e : a.ix with
    | none => rfl
    | some j =>
      dsimp only
      exact set_ne fun q => h0 (by rw [e, q])
theorem ix_apart {sp : List Span} {N : Nat} {k : Nat → Bool} {u : Nat} {a : Arc} {l : List Arc} {i : Nat} (ha : IsArc sp N k u a) (hl : ∀ b ∈ l, IsArc sp N k u b) (hn : a.to ∉ l.map (·.to)) (e : a.ix = some i) : ∀ b ∈ l, b.ix ≠ some i := by
  intro b hb q
  obtain ⟨s, h1, rfl⟩ := ha.ix_some e
  obtain ⟨s2, h2, e2⟩ := (hl b hb).ix_some q
  rw [h1] at h2
  injection h2 with h2
  subst h2
  exact hn (List.mem_map.mpr ⟨b, hb, by rw [e2]⟩)
theorem togs_flip {sp : List Span} {N : Nat} {k0 : Nat → Bool} {u i : Nat} : ∀ {l : List Arc} {k : Nat → Bool} {a : Arc}, (∀ a ∈ l, IsArc sp N k0 u a) → (l.map (·.to)).Nodup → a ∈ l → a.ix = some i → togs k l i = !k i
  | [], _, _, _, _, h, _ => nomatch h
  | b :: l, k, a, hl, hn, ha, e => by
    rw [List.map_cons, List.nodup_cons] at hn
    have hl' : ∀ b ∈ l, IsArc sp N k0 u b := fun c hc => hl c (List.mem_cons_of_mem _ hc)
    unfold togs
    rcases List.mem_cons.mp ha with rfl | ha
    · rw [e, togs_keep (ix_apart (hl _ (List.mem_cons_self ..)) hl' hn.1 e)]
      exact set_same
    · rw [togs_flip hl' hn.2 ha e]
      cases q : b.ix with
      | none => rfl
      | some j =>
        dsimp only
        have : i ≠ j := fun z => ix_apart (hl _ (List.mem_cons_self ..)) hl' hn.1 q a ha (by rw [e, z])
        rw [show tog k j i = k i from set_ne this]
theorem cov_togs {sp : List Span} {N : Nat} {k0 : Nat → Bool} {u : Nat} (hs : ∀ s ∈ sp, s.1 ≤ s.2.1) (x : Nat) : ∀ {l : List Arc} {k : Nat → Bool}, (∀ a ∈ l, IsArc sp N k0 u a) → (l.map (·.to)).Nodup → (∀ a ∈ l, ∀ i, a.ix = some i → k i = k0 i) → (cov sp (togs k l) x : Int) = cov sp k x + sAll l x
  | [], k, _, _, _ => by unfold togs sAll; simp
  | a :: l, k, hl, hn, hk => by
    rw [List.map_cons, List.nodup_cons] at hn
    have hl' : ∀ b ∈ l, IsArc sp N k0 u b := fun c hc => hl c (List.mem_cons_of_mem _ hc)
    have ha := hl _ (List.mem_cons_self ..)
    unfold togs sAll
    rw [List.map_cons, List.sum_cons]
    cases e : a.ix with
    | none =>
      dsimp only
      rw [cov_togs hs x hl' hn.2 fun b hb i q => hk b (List.mem_cons_of_mem _ hb) i q]
      unfold sAll
      simp
    | some i =>
      dsimp only
      have ap := ix_apart ha hl' hn.1 e
      rw [cov_togs (k := tog k i) hs x hl' hn.2 fun b hb j q => (set_ne fun z => ap b hb (by rw [q, z])).trans (hk b (List.mem_cons_of_mem _ hb) j q)]
      obtain ⟨s, h1, rfl⟩ := ha.ix_some e
      have := cov_tog (k := k) x h1
      rw [this, cross_span (sp := sp) x (hs s (List.mem_of_getElem? h1)), hk _ (List.mem_cons_self ..) i e]
      unfold sAll
      simp
      omega
end F57
/-! ## k57: the flow grows; what its distances are worth -/
namespace F57
theorem grow {sp : List Span} {N u : Nat} {k : Nat → Bool} {p c : Nat → Int} {by_ : Nat → Option Arc} {t : Nat → Nat} {T : Nat} {l : List Arc} (hs : ∀ s ∈ sp, s.1 ≤ s.2.1) (R : Rel (IsArc sp N k u) N p c by_ t T) (fx : Pot (IsArc sp N k u) c)
    (hc : ∀ x, x < N → cov sp k x ≤ u) (tr : Tr by_ N l) (nd : (l.map (·.to)).Nodup) (hl : ∀ a ∈ l, IsArc sp N k u a ∧ by_ a.to = some a ∧ a.to ≤ N) :
    (∀ x, x < N → cov sp (togs k l) x ≤ u + 1) ∧ Pot (IsArc sp N (togs k l) (u + 1)) c := by
  have hA : ∀ a ∈ l, IsArc sp N k u a := fun a h => (hl a h).1
  have tight : ∀ a ∈ l, c a.fr + a.w = c a.to := by
    intro a h
    obtain ⟨h1, h2, h3⟩ := hl a h
    have f := fx a h1
    by_cases e : a.to = 0
    · rw [e, R.b0] at h2
      cases h2
    · obtain ⟨b, b1, _, _, _, b5, _⟩ := R.tr a.to (by omega) h3
      rw [h2] at b1
      injection b1 with b1
      subst b1
      omega
  have hto : ∀ x, x < N → crossAll l x = 1 := by
    intro x hx
    have key : ∀ v l, v ≤ N → Tr by_ v l → (∀ a ∈ l, IsArc sp N k u a ∧ by_ a.to = some a ∧ a.to ≤ N) → crossAll l x = if x < v then 1 else 0 := by
      intro v l hv h hl
      induction h with
      | nil => rfl
      | cons v0 b tr ih =>
        rename_i v a l
        obtain ⟨b', b1, _, b3, b4, _, _⟩ := R.tr v (by omega) hv
        rw [b] at b1
        injection b1 with b1
        subst b1
        have ih := ih b4 (fun b hb => hl b (List.mem_cons_of_mem _ hb))
        unfold crossAll at ih ⊢
        rw [List.map_cons, List.sum_cons, ih]
        unfold cross
        rw [b3]
        omega
    rw [key N l (Nat.le_refl _) tr hl, if_pos hx]
  have cv : ∀ x, x < N → (cov sp (togs k l) x : Int) = cov sp k x + 1 - zAll l x := by
    intro x hx
    have h1 := cov_togs (k := k) hs x hA nd (fun a _ i _ => rfl)
    have h2 := zs_all l x
    rw [hto x hx] at h2
    omega
  refine ⟨fun x hx => ?_, fun a ha => ?_⟩
  · have h1 := cv x hx
    have h2 := hc x hx
    by_cases b : back x ∈ l
    · have h3 := z_low (x := x) hA nd
      have h4 : cov sp k x < u := by
        rcases (hA _ b).ix_none rfl with ⟨y, _, e⟩ | ⟨y, _, h, e⟩
        · have e1 := congrArg Arc.fr e
          have e2 := congrArg Arc.to e
          simp only [back, F57.fwd] at e1 e2
          omega
        · have e2 := congrArg Arc.to e
          simp only [back] at e2
          rw [e2]
          exact h
      omega
    · have h3 := z_nneg (x := x) hA b
      omega
  · cases ha with
    | fwd h => exact fx _ (.fwd h)
    | span h =>
      rename_i i s
      by_cases q : ∃ b ∈ l, b.ix = some i
      · obtain ⟨b, hb, e⟩ := q
        obtain ⟨s2, h2, rfl⟩ := (hA b hb).ix_some e
        rw [h] at h2
        injection h2 with h2
        subst h2
        have tg := tight _ hb
        have fl := togs_flip (k := k) hA nd hb e
        unfold arcOf at tg ⊢
        rw [fl]
        cases q : k i with
        | true =>
          rw [q] at tg
          have tg : c (s.2.1 + 1) + (s.2.2 : Int) = c s.1 := tg
          show c (s.2.1 + 1) ≤ c s.1 + -(s.2.2 : Int)
          omega
        | false =>
          rw [q] at tg
          have tg : c s.1 + -(s.2.2 : Int) = c (s.2.1 + 1) := tg
          show c s.1 ≤ c (s.2.1 + 1) + (s.2.2 : Int)
          omega
      · have e : togs k l i = k i := togs_keep fun b hb z => q ⟨b, hb, z⟩
        have := fx _ (.span (k := k) (u := u) (N := N) h)
        unfold arcOf at this ⊢
        rw [e]
        exact this
    | back h h2 =>
      rename_i x
      by_cases q : cov sp k x < u
      · exact fx _ (.back h q)
      · have h1 := cv x h
        have m := z_pos (x := x) hA (by omega)
        have tg := tight _ m
        have tg : c x + 0 = c (x + 1) := tg
        show c x ≤ c (x + 1) + 0
        omega
theorem pot0 (sp : List Span) (N : Nat) (hs : ∀ s ∈ sp, s.1 ≤ s.2.1) : Pot (IsArc sp N (fun _ => false) 0) (fun v => -(((sp.map fun s => s.2.2).sum * v : Nat) : Int)) := by
  intro a ha
  cases ha with
  | fwd h =>
    rename_i x
    show -(((sp.map fun s => s.2.2).sum * (x + 1) : Nat) : Int) ≤ -(((sp.map fun s => s.2.2).sum * x : Nat) : Int) + 0
    rw [Nat.mul_add]
    omega
  | span h =>
    rename_i i s
    have hm := List.mem_of_getElem? h
    have h1 := hs s hm
    have h2 : s.2.2 ≤ (sp.map fun s => s.2.2).sum := by
      clear h h1 hs
      induction sp with
      | nil => cases hm
      | cons y l ih =>
        rw [List.map_cons, List.sum_cons]
        rcases List.mem_cons.mp hm with rfl | hm
        · omega
        · have := ih hm; omega
    show -(((sp.map fun s => s.2.2).sum * (s.2.1 + 1) : Nat) : Int) ≤ -(((sp.map fun s => s.2.2).sum * s.1 : Nat) : Int) + -(s.2.2 : Int)
    generalize (sp.map fun s => s.2.2).sum = C at h2
    have h3 : C * (s.1 + 1) ≤ C * (s.2.1 + 1) := Nat.mul_le_mul_left _ (by omega)
    rw [Nat.mul_add C s.1 1] at h3
    omega
  | back h h2 => exact absurd h2 (Nat.not_lt_zero _)
/-- distances that end at 0 serve any room -/
theorem pot_zero {sp : List Span} {N u : Nat} {k : Nat → Bool} {c : Nat → Int} (fx : Pot (IsArc sp N k u) c) (z0 : c 0 = 0) (zN : c N = 0) : (∀ x, x ≤ N → c x = 0) ∧ (∀ i s, sp[i]? = some s → s.2.1 < N → s.1 ≤ s.2.1 → 0 ≤ (arcOf k i s).w) := by
  have mono : ∀ x, x < N → c (x + 1) ≤ c x := fun x hx => by
    have := fx _ (.fwd (k := k) (u := u) (sp := sp) hx)
    have : c (x + 1) ≤ c x + 0 := this
    omega
  have low : ∀ d x, x + d ≤ N → c (x + d) ≤ c x := by
    intro d
    induction d with
    | zero => intro x _; exact Int.le_refl _
    | succ d ih =>
      intro x h
      have h1 := ih x (by omega)
      have h2 := mono (x + d) (by omega)
      show c (x + d + 1) ≤ c x
      omega
  have all : ∀ x, x ≤ N → c x = 0 := fun x hx => by
    have h1 := low x 0 (by omega)
    have h2 := low (N - x) x (by omega)
    rw [Nat.zero_add] at h1
    rw [show x + (N - x) = N by omega] at h2
    omega
  refine ⟨all, fun i s h h1 h2 => ?_⟩
  have f := fx _ (.span (k := k) (u := u) (N := N) h)
  unfold arcOf at f ⊢
  cases q : k i with
  | true => show (0 : Int) ≤ (s.2.2 : Int); omega
  | false =>
    rw [q] at f
    have f : c (s.2.1 + 1) ≤ c s.1 + -(s.2.2 : Int) := f
    rw [all _ (by omega), all _ (by omega)] at f
    show (0 : Int) ≤ -(s.2.2 : Int)
    omega
end F57
namespace F57
/-- .. so they serve any room -/
theorem pot_room {sp : List Span} {N u m : Nat} {k : Nat → Bool} {c : Nat → Int} (hs : ∀ s ∈ sp, s.1 ≤ s.2.1 ∧ s.2.1 < N) (fx : Pot (IsArc sp N k u) c) (z0 : c 0 = 0) (zN : c N = 0) : Pot (IsArc sp N k m) c := by
  obtain ⟨all, ws⟩ := pot_zero fx z0 zN
  intro a ha
  cases ha with
  | fwd h => exact fx _ (.fwd h)
  | span h => exact fx _ (.span h)
  | back h h2 =>
    rename_i x
    show c x ≤ c (x + 1) + 0
    rw [all _ (by omega), all _ (by omega)]
    exact Int.le_refl _
/-! ### prices -/
def pr (c : Nat → Int) (x : Nat) : Int := c x - c (x + 1)
theorem pr_sum (c : Nat → Int) (a : Nat) : ∀ n, ((List.range n).map fun j => pr c (a + j)).sum = c a - c (a + n)
  | 0 => by simp
  | n + 1 => by
    rw [List.range_succ, List.map_append, List.sum_append, pr_sum c a n]
    simp only [List.map_cons, List.map_nil, List.sum_cons, List.sum_nil, pr]
    rw [show a + (n + 1) = a + n + 1 from rfl]
    omega
structure Good (sp : List Span) (N room : Nat) (k : Nat → Bool) (c : Nat → Int) : Prop where
  hs : ∀ s ∈ sp, s.1 ≤ s.2.1 ∧ s.2.1 < N
  fx : Pot (IsArc sp N k room) c
  cv : ∀ x, x < N → cov sp k x ≤ room
theorem Good.pos {sp : List Span} {N room : Nat} {k : Nat → Bool} {c : Nat → Int} (g : Good sp N room k c) {x : Nat} (h : x < N) : 0 ≤ pr c x := by
  have := g.fx _ (.fwd h)
  have : c (x + 1) ≤ c x + 0 := this
  unfold pr
  omega
theorem Good.slack {sp : List Span} {N room : Nat} {k : Nat → Bool} {c : Nat → Int} (g : Good sp N room k c) {x : Nat} (h : x < N) (h2 : cov sp k x < room) : pr c x = 0 := by
  have h0 := g.pos h
  have := g.fx _ (.back h h2)
  have : c x ≤ c (x + 1) + 0 := this
  unfold pr at h0 ⊢
  omega
theorem Good.tight {sp : List Span} {N room : Nat} {k : Nat → Bool} {c : Nat → Int} (g : Good sp N room k c) {x : Nat} (h : x < N) : pr c x * ((cov sp k x : Int) - room) = 0 := by
  by_cases e : cov sp k x < room
  · rw [g.slack h e, Int.zero_mul]
  · have := g.cv x h
    rw [show ((cov sp k x : Int) - room) = 0 by omega, Int.mul_zero]
theorem Good.kept {sp : List Span} {N room : Nat} {k : Nat → Bool} {c : Nat → Int} (g : Good sp N room k c) {i : Nat} {s : Span} (h : sp[i]? = some s) (e : k i = true) : c s.1 - c (s.2.1 + 1) ≤ s.2.2 := by
  have := g.fx _ (.span h)
  unfold arcOf at this
  rw [e] at this
  have : c s.1 ≤ c (s.2.1 + 1) + (s.2.2 : Int) := this
  omega
theorem Good.left {sp : List Span} {N room : Nat} {k : Nat → Bool} {c : Nat → Int} (g : Good sp N room k c) {i : Nat} {s : Span} (h : sp[i]? = some s) (e : k i = false) : (s.2.2 : Int) ≤ c s.1 - c (s.2.1 + 1) := by
  have := g.fx _ (.span h)
  unfold arcOf at this
  rw [e] at this
  have : c (s.2.1 + 1) ≤ c s.1 + -(s.2.2 : Int) := this
  omega
end F57
/-! ## k57: what prices are worth -/
namespace F57
def sumN (M : Nat) (f : Nat → Int) : Int := ((List.range M).map f).sum
theorem sumN_succ (M : Nat) (f : Nat → Int) : sumN (M + 1) f = sumN M f + f M := by
  unfold sumN
  rw [List.range_succ, List.map_append, List.sum_append]
  simp
theorem sumN_add (f g : Nat → Int) : ∀ M, sumN M (fun x => f x + g x) = sumN M f + sumN M g
  | 0 => rfl
  | M + 1 => by rw [sumN_succ, sumN_succ, sumN_succ, sumN_add f g M]; omega
theorem sumN_le {f g : Nat → Int} : ∀ {M : Nat}, (∀ x, x < M → f x ≤ g x) → sumN M f ≤ sumN M g
  | 0, _ => Int.le_refl _
  | M + 1, h => by
    rw [sumN_succ, sumN_succ]
    have h1 := sumN_le (M := M) fun x hx => h x (by omega)
    have h2 := h M (by omega)
    omega
theorem sumN_eq {f g : Nat → Int} {M : Nat} (h : ∀ x, x < M → f x = g x) : sumN M f = sumN M g :=
  Int.le_antisymm (sumN_le fun x hx => Int.le_of_eq (h x hx)) (sumN_le fun x hx => Int.le_of_eq (h x hx).symm)
theorem sumN_zero : ∀ M, sumN M (fun _ => 0) = 0
  | 0 => rfl
  | M + 1 => by rw [sumN_succ, sumN_zero M]; rfl
/-- a sum over the spans with k -/
def kS : List Span → (Nat → Bool) → (Span → Int) → Int
  | [], _, _ => 0
  | s :: r, k, f => (if k 0 then f s else 0) + kS r (fun i => k (i + 1)) f
theorem kS_split (f : Span → Int) : ∀ (sp : List Span) (k : Nat → Bool), kS sp (fun _ => true) f = kS sp k f + kS sp (fun i => !k i) f
  | [], _ => rfl
  | s :: r, k => by
    unfold kS
    have := kS_split f r (fun i => k (i + 1))
    rw [this]
    cases h : k 0 <;> simp [h] <;> omega
theorem kS_le {f g : Span → Int} : ∀ {sp : List Span} {k : Nat → Bool}, (∀ i s, sp[i]? = some s → k i = true → f s ≤ g s) → kS sp k f ≤ kS sp k g
  | [], _, _ => Int.le_refl _
  | s :: r, k, h => by
    unfold kS
    have h1 := kS_le (sp := r) (k := fun i => k (i + 1)) fun i s e q => h (i + 1) s (by simpa using e) q
    cases e : k 0 with
    | true =>
      have := h 0 s rfl e
      simp only [if_true]
      omega
    | false => simpa using h1
theorem kS_eq {f g : Span → Int} {sp : List Span} {k : Nat → Bool} (h : ∀ i s, sp[i]? = some s → k i = true → f s = g s) : kS sp k f = kS sp k g :=
  Int.le_antisymm (kS_le fun i s e q => Int.le_of_eq (h i s e q)) (kS_le fun i s e q => Int.le_of_eq (h i s e q).symm)
theorem kS_sub (f g : Span → Int) : ∀ (sp : List Span) (k : Nat → Bool), kS sp k (fun s => f s - g s) = kS sp k f - kS sp k g
  | [], _ => rfl
  | s :: r, k => by
    unfold kS
    rw [kS_sub f g r (fun i => k (i + 1))]
    cases k 0 <;> simp <;> omega
theorem kS_zero : ∀ (sp : List Span) (k : Nat → Bool), kS sp k (fun _ => 0) = 0
  | [], _ => rfl
  | s :: r, k => by
    unfold kS
    rw [kS_zero r]
    cases k 0 <;> rfl
theorem cov_split : ∀ (sp : List Span) (k : Nat → Bool) (x : Nat), cov sp (fun _ => true) x = cov sp k x + cov sp (fun i => !k i) x
  | [], _, _ => rfl
  | s :: r, k, x => by
    unfold cov
    have := cov_split r (fun i => k (i + 1)) x
    rw [this]
    cases h : k 0 <;> cases inS s x <;> simp [h] <;> omega
def S (p : Nat → Int) (M : Nat) (s : Span) : Int := sumN M fun x => if inS s x then p x else 0
theorem dbl (p : Nat → Int) (M : Nat) : ∀ (sp : List Span) (k : Nat → Bool), sumN M (fun x => p x * (cov sp k x : Int)) = kS sp k (S p M)
  | [], k => by
    show sumN M (fun x => p x * ((0 : Nat) : Int)) = 0
    rw [sumN_eq (g := fun _ => 0) (fun x _ => by simp), sumN_zero]
  | s :: r, k => by
    unfold kS
    rw [← dbl p M r (fun i => k (i + 1))]
    have e : sumN M (fun x => p x * (cov (s :: r) k x : Int)) = sumN M (fun x => (if k 0 then (if inS s x then p x else 0) else 0) + p x * (cov r (fun i => k (i + 1)) x : Int)) := sumN_eq fun x _ => by
      show p x * (((if k 0 && inS s x then 1 else 0) + cov r (fun i => k (i + 1)) x : Nat) : Int) = _
      cases k 0 <;> cases inS s x <;> simp [Int.mul_add]
    rw [e, sumN_add]
    congr 1
    cases k 0 with
    | true => rfl
    | false => exact sumN_zero M
/-- what prices are worth -/
def W (sp : List Span) (room : Nat) (p : Nat → Int) (M : Nat) : Int := sumN M (fun x => p x * ((cov sp (fun _ => true) x : Int) - room)) - kS sp (fun _ => true) (fun s => max 0 (S p M s - s.2.2))
theorem W_eq (sp : List Span) (room : Nat) (p : Nat → Int) (M : Nat) (k : Nat → Bool) :
    W sp room p M = sumN M (fun x => p x * ((cov sp k x : Int) - room)) + kS sp (fun i => !k i) (fun s => S p M s - max 0 (S p M s - s.2.2)) - kS sp k (fun s => max 0 (S p M s - s.2.2)) := by
  unfold W
  have e : sumN M (fun x => p x * ((cov sp (fun _ => true) x : Int) - room)) = sumN M (fun x => p x * ((cov sp k x : Int) - room) + p x * (cov sp (fun i => !k i) x : Int)) := sumN_eq fun x _ => by
    rw [cov_split sp k x, ← Int.mul_add]
    congr 1
    omega
  rw [e, sumN_add, dbl, kS_split _ sp k, kS_sub]
  omega
/-- no prices are worth more than what is left out costs -/
theorem weak {sp : List Span} {room M : Nat} {p : Nat → Int} {k : Nat → Bool} (hp : ∀ x, x < M → 0 ≤ p x) (hc : ∀ x, x < M → cov sp k x ≤ room) : W sp room p M ≤ kS sp (fun i => !k i) (fun s => s.2.2) := by
  rw [W_eq sp room p M k]
  have h1 : sumN M (fun x => p x * ((cov sp k x : Int) - room)) ≤ 0 := by
    rw [← sumN_zero M]
    refine sumN_le fun x hx => ?_
    have a := hp x hx
    have b := hc x hx
    exact Int.mul_nonpos_of_nonneg_of_nonpos a (by omega)
  have h2 : kS sp (fun i => !k i) (fun s => S p M s - max 0 (S p M s - s.2.2)) ≤ kS sp (fun i => !k i) (fun s => s.2.2) := kS_le fun i s _ _ => by omega
  have h3 : kS sp k (fun _ => 0) ≤ kS sp k (fun s => max 0 (S p M s - s.2.2)) := kS_le fun i s _ _ => by omega
  rw [kS_zero] at h3
  omega
theorem S_pr (c : Nat → Int) (s : Span) (hs : s.1 ≤ s.2.1) : ∀ M, s.2.1 < M → S (pr c) M s = c s.1 - c (s.2.1 + 1) := by
  have up : ∀ M, M ≤ s.1 → S (pr c) M s = 0 := by
    intro M
    induction M with
    | zero => intro _; rfl
    | succ M ih =>
      intro h
      have := ih (by omega)
      unfold S at this ⊢
      rw [sumN_succ, this]
      have : inS s M = false := by unfold inS; simp; omega
      rw [this]
      rfl
  have mid : ∀ M, s.1 ≤ M → M ≤ s.2.1 + 1 → S (pr c) M s = c s.1 - c M := by
    intro M
    induction M with
    | zero => intro h _; rw [up 0 (by omega), show s.1 = 0 by omega]; omega
    | succ M ih =>
      intro h1 h2
      by_cases e : s.1 = M + 1
      · rw [up (M + 1) (by omega), e]; omega
      · have := ih (by omega) (by omega)
        unfold S at this ⊢
        rw [sumN_succ, this]
        have : inS s M = true := by unfold inS; simp; omega
        rw [this]
        show c s.1 - c M + (c M - c (M + 1)) = c s.1 - c (M + 1)
        omega
  intro M
  induction M with
  | zero => intro h; omega
  | succ M ih =>
    intro h
    by_cases e : s.2.1 = M
    · rw [← e]
      exact mid _ (by omega) (Nat.le_refl _)
    · have := ih (by omega)
      unfold S at this ⊢
      rw [sumN_succ, this]
      have : inS s M = false := by unfold inS; simp; omega
      rw [this]
      show c s.1 - c (s.2.1 + 1) + 0 = _
      omega
theorem strong {sp : List Span} {N room : Nat} {k : Nat → Bool} {c : Nat → Int} (g : Good sp N room k c) : W sp room (pr c) N = kS sp (fun i => !k i) (fun s => s.2.2) := by
  rw [W_eq sp room (pr c) N k]
  have h1 : sumN N (fun x => pr c x * ((cov sp k x : Int) - room)) = 0 := by
    rw [← sumN_zero N]
    exact sumN_eq fun x hx => g.tight hx
  have h2 : kS sp (fun i => !k i) (fun s => S (pr c) N s - max 0 (S (pr c) N s - s.2.2)) = kS sp (fun i => !k i) (fun s => s.2.2) := kS_eq fun i s e q => by
    have hs := g.hs s (List.mem_of_getElem? e)
    have q : k i = false := by cases h : k i with | true => rw [h] at q; cases q | false => rfl
    have := g.left e q
    rw [S_pr c s hs.1 N hs.2]
    omega
  have h3 : kS sp k (fun s => max 0 (S (pr c) N s - s.2.2)) = 0 := by
    refine (kS_eq (g := fun _ => 0) fun i s e q => ?_).trans (kS_zero sp k)
    have hs := g.hs s (List.mem_of_getElem? e)
    have := g.kept e q
    rw [S_pr c s hs.1 N hs.2]
    omega
  omega
/-! ### what can be kept beside -/
def free (sp : List Span) (room : Nat) (k : Nat → Bool) (s : Span) : Prop := ∀ x, s.1 ≤ x → x ≤ s.2.1 → cov sp k x < room
theorem cov_set {sp : List Span} {k : Nat → Bool} {i : Nat} {s : Span} (x : Nat) (h : sp[i]? = some s) (e : k i = false) : cov sp (set k i true) x = cov sp k x + (if inS s x then 1 else 0) := by
  have h1 := cov_tog (k := k) x h
  have h2 : tog k i = set k i true := by unfold tog; rw [e]; rfl
  rw [h2, e] at h1
  cases q : inS s x <;> rw [q] at h1 <;> simp at h1 ⊢ <;> omega
theorem kS_set {sp : List Span} {f : Span → Int} : ∀ {sp : List Span} {k : Nat → Bool} {i : Nat} {s : Span}, sp[i]? = some s → f s = 0 → kS sp (fun j => !set k i true j) f = kS sp (fun j => !k j) f
  | [], _, _, _, h, _ => by simp at h
  | s0 :: r, k, 0, s, h, hf => by
    have h : s0 = s := by simpa using h
    subst h
    unfold kS
    have e : (fun i => !set k 0 true (i + 1)) = fun i => !k (i + 1) := by funext i; rw [set_ne (by omega)]
    rw [e, hf]
    simp
  | s0 :: r, k, i + 1, s, h, hf => by
    have h : r[i]? = some s := by simpa using h
    have ih := kS_set (sp := sp) (k := fun j => k (j + 1)) h hf
    unfold kS
    have e : (fun j => !set k (i + 1) true (j + 1)) = fun j => !set (fun j => k (j + 1)) i true j := by
      funext j
      by_cases q : j = i
      · subst q; rw [set_same, set_same]
      · rw [set_ne q, set_ne (by omega)]
    have e0 : set k (i + 1) true 0 = k 0 := set_ne (by omega)
    rw [e, ih]
    show (if (!set k (i + 1) true 0) = true then f s0 else 0) + _ = _
    rw [e0]
/-- what is left out behind the kept ones of the flow were filled up -/
structure Fill (sp : List Span) (N room : Nat) (k k2 : Nat → Bool) (j : Nat) : Prop where
  cv : ∀ x, x < N → cov sp k2 x ≤ room
  co : kS sp (fun i => !k2 i) (fun s => s.2.2) = kS sp (fun i => !k i) (fun s => s.2.2)
  le : ∀ x, cov sp k x ≤ cov sp k2 x
  hi : ∀ i, j ≤ i → k2 i = k i
  up : ∀ i, k i = true → k2 i = true
  full : ∀ i s, i < j → sp[i]? = some s → k2 i = false → ∃ x, s.1 ≤ x ∧ x ≤ s.2.1 ∧ room ≤ cov sp k2 x
theorem Fill.start {sp : List Span} {N room : Nat} {k : Nat → Bool} {c : Nat → Int} (g : Good sp N room k c) : Fill sp N room k k 0 := ⟨g.cv, rfl, fun _ => Nat.le_refl _, fun _ _ => rfl, fun _ h => h, fun _ _ h => absurd h (Nat.not_lt_zero _)⟩
theorem Fill.keep {sp : List Span} {N room j : Nat} {k k2 : Nat → Bool} (F : Fill sp N room k k2 j) (h : k2 j = true ∨ ∃ s x, sp[j]? = some s ∧ s.1 ≤ x ∧ x ≤ s.2.1 ∧ room ≤ cov sp k2 x) : Fill sp N room k k2 (j + 1) := by
  refine ⟨F.cv, F.co, F.le, fun i hi => F.hi i (by omega), F.up, fun i s hi hs e => ?_⟩
  by_cases q : i = j
  · subst q
    rcases h with h | ⟨s2, x, h2, h3⟩
    · rw [h] at e; cases e
    · rw [hs] at h2
      injection h2 with h2
      subst h2
      exact ⟨x, h3⟩
  · exact F.full i s (by omega) hs e
theorem Fill.add {sp : List Span} {N room j : Nat} {k k2 : Nat → Bool} {c : Nat → Int} (g : Good sp N room k c) (F : Fill sp N room k k2 j) {s : Span} (hs : sp[j]? = some s) (e : k2 j = false) (hf : free sp room k2 s) : Fill sp N room k (set k2 j true) (j + 1) := by
  have ek : k j = false := by rw [← F.hi j (Nat.le_refl _)]; exact e
  have h1 := g.hs s (List.mem_of_getElem? hs)
  have cost : s.2.2 = 0 := by
    have hl := g.left hs ek
    have flat : ∀ d, s.1 + d ≤ s.2.1 + 1 → c (s.1 + d) = c s.1 := by
      intro d
      induction d with
      | zero => intro _; rfl
      | succ d ih =>
        intro h
        have ih := ih (by omega)
        have := g.slack (x := s.1 + d) (by omega) (Nat.lt_of_le_of_lt (F.le _) (hf _ (by omega) (by omega)))
        unfold pr at this
        rw [show s.1 + (d + 1) = s.1 + d + 1 from rfl]
        omega
    have := flat (s.2.1 + 1 - s.1) (by omega)
    rw [show s.1 + (s.2.1 + 1 - s.1) = s.2.1 + 1 by omega] at this
    omega
  refine ⟨fun x hx => ?_, ?_, fun x => ?_, fun i hi => ?_, fun i h => ?_, fun i s2 hi h2 e2 => ?_⟩
  · rw [cov_set x hs e]
    have := F.cv x hx
    by_cases q : inS s x = true
    · have q2 := q
      unfold inS at q2
      simp only [Bool.and_eq_true, decide_eq_true_eq] at q2
      have := hf x q2.1 q2.2
      rw [if_pos q]
      omega
    · rw [if_neg q]
      exact this
  · rw [kS_set (sp := sp) hs (by rw [cost]; rfl)]
    exact F.co
  · rw [cov_set x hs e]
    have := F.le x
    omega
  · rw [set_ne (by omega)]
    exact F.hi i (by omega)
  · by_cases q : i = j
    · subst q; exact set_same
    · rw [set_ne q]; exact F.up i h
  · by_cases q : i = j
    · subst q
      rw [set_same] at e2
      cases e2
    · rw [set_ne q] at e2
      obtain ⟨x, a, b, d⟩ := F.full i s2 (by omega) h2 e2
      exact ⟨x, a, b, by rw [cov_set x hs e]; omega⟩
end F57
/-! ## k57: covers of a part of the spans, spots -/
namespace F57
theorem cov_no (x : Nat) : ∀ sp : List Span, cov sp (fun _ => false) x = 0
  | [] => rfl
  | s :: r => by
    show (if false && inS s x then 1 else 0) + cov r (fun _ => false) x = 0
    rw [cov_no x r]
    rfl
/-- the cover of the spans told by a list of indexes -/
theorem cov_sel {sp : List Span} (x : Nat) : ∀ ys : List Nat, ys.Nodup → (∀ i ∈ ys, i < sp.length) → cov (ys.filterMap fun i => sp[i]?) (fun _ => true) x = cov sp (fun i => decide (i ∈ ys)) x
  | [], _, _ => by
    have e : (fun i => decide (i ∈ ([] : List Nat))) = fun _ => false := funext fun i => rfl
    rw [e, cov_no]
    rfl
  | i :: l, hn, h => by
    rw [List.nodup_cons] at hn
    have ih := cov_sel (sp := sp) x l hn.2 fun j hj => h j (List.mem_cons_of_mem _ hj)
    have hi := h i (List.mem_cons_self ..)
    have hs : sp[i]? = some sp[i] := List.getElem?_eq_getElem hi
    have e : (fun j => decide (j ∈ i :: l)) = set (fun j => decide (j ∈ l)) i true := by
      funext j
      by_cases q : j = i
      · subst q
        rw [set_same]
        exact decide_eq_true (List.mem_cons_self ..)
      · rw [set_ne q]
        exact decide_eq_decide.mpr ⟨fun z => (List.mem_cons.mp z).resolve_left q, fun z => List.mem_cons_of_mem _ z⟩
    rw [e, cov_set x hs (decide_eq_false hn.1), ← ih, List.filterMap_cons, hs]
    show (if true && inS sp[i] x then 1 else 0) + cov (l.filterMap fun i => sp[i]?) (fun _ => true) x = _
    rw [Bool.true_and, Nat.add_comm]
theorem cov_mono {x y : Nat} : ∀ {l : List Span} {k : Nat → Bool}, (∀ s ∈ l, inS s x = true → inS s y = true) → cov l k x ≤ cov l k y
  | [], _, _ => Nat.le_refl _
  | s :: r, k, h => by
    have ih := cov_mono (l := r) (k := fun i => k (i + 1)) fun s hs => h s (List.mem_cons_of_mem _ hs)
    have h0 := h s (List.mem_cons_self ..)
    unfold cov
    cases k 0 with
    | false => simpa using ih
    | true =>
      cases q : inS s x with
      | false => simp; omega
      | true =>
        rw [h0 q]
        simp
        omega
/-- the greatest cover over a span is reached at its first position, or where a span begins within it -/
theorem spot {l : List Span} {room f e : Nat} : ∀ (d x : Nat), x = f + d → x ≤ e → room ≤ cov l (fun _ => true) x → ∃ y, (y = f ∨ ∃ s ∈ l, s.1 = y ∧ f ≤ s.1 ∧ s.1 ≤ e) ∧ room ≤ cov l (fun _ => true) y
  | 0, x, hx, _, h => ⟨x, .inl hx, h⟩
  | d + 1, x, hx, he, h => by
    by_cases q : ∃ s ∈ l, s.1 = x
    · obtain ⟨s, hs, e2⟩ := q
      exact ⟨x, .inr ⟨s, hs, e2, by omega, by omega⟩, h⟩
    · refine spot d (x - 1) (by omega) (by omega) (Nat.le_trans h (cov_mono fun s hs hi => ?_))
      unfold inS at hi ⊢
      simp only [Bool.and_eq_true, decide_eq_true_eq] at hi ⊢
      have : s.1 ≠ x := fun z => q ⟨s, hs, z⟩
      omega
/-- sums over lists -/
theorem kS_list (f : Span → Int) : ∀ sp : List Span, kS sp (fun _ => true) f = (sp.map f).sum
  | [] => rfl
  | s :: r => by
    show (if true = true then f s else 0) + kS r (fun _ => true) f = _
    rw [kS_list f r, List.map_cons, List.sum_cons]
    rfl
theorem kS_sel {sp : List Span} (f : Span → Int) : ∀ (ys : List Nat), ys.Nodup → (∀ i ∈ ys, i < sp.length) → kS sp (fun i => decide (i ∈ ys)) f = ((ys.filterMap fun i => sp[i]?).map f).sum
  | [], _, _ => by
    have e : (fun i => decide (i ∈ ([] : List Nat))) = fun _ => false := funext fun i => rfl
    rw [e]
    have key : ∀ sp : List Span, kS sp (fun _ => false) f = 0 := fun sp => by
      induction sp with
      | nil => rfl
      | cons s r ih =>
        show (if false = true then f s else 0) + kS r (fun _ => false) f = 0
        rw [ih]
        rfl
    rw [key]
    rfl
  | i :: l, hn, h => by
    rw [List.nodup_cons] at hn
    have ih := kS_sel (sp := sp) f l hn.2 fun j hj => h j (List.mem_cons_of_mem _ hj)
    have hi := h i (List.mem_cons_self ..)
    have hs : sp[i]? = some sp[i] := List.getElem?_eq_getElem hi
    have e : (fun j => decide (j ∈ i :: l)) = set (fun j => decide (j ∈ l)) i true := by
      funext j
      by_cases q : j = i
      · subst q
        rw [set_same]
        exact decide_eq_true (List.mem_cons_self ..)
      · rw [set_ne q]
        exact decide_eq_decide.mpr ⟨fun z => (List.mem_cons.mp z).resolve_left q, fun z => List.mem_cons_of_mem _ z⟩
    have add : ∀ {sp : List Span} {k : Nat → Bool} {i : Nat} {s : Span}, sp[i]? = some s → k i = false → kS sp (set k i true) f = kS sp k f + f s := by
      intro sp
      induction sp with
      | nil => intro k i s h _; simp at h
      | cons s0 r ih =>
        intro k i s h hk
        cases i with
        | zero =>
          have h : s0 = s := by simpa using h
          subst h
          have e : (fun i => set k 0 true (i + 1)) = fun i => k (i + 1) := by funext i; exact set_ne (by omega)
          show (if set k 0 true 0 = true then f s0 else 0) + kS r (fun i => set k 0 true (i + 1)) f = (if k 0 = true then f s0 else 0) + kS r (fun i => k (i + 1)) f + f s0
          rw [e, set_same, hk]
          simp
          omega
        | succ i =>
          have h : r[i]? = some s := by simpa using h
          have ih := ih (k := fun j => k (j + 1)) h hk
          have e : (fun j => set k (i + 1) true (j + 1)) = set (fun j => k (j + 1)) i true := by
            funext j
            by_cases q : j = i
            · subst q; rw [set_same, set_same]
            · rw [set_ne q, set_ne (by omega)]
          have e0 : set k (i + 1) true 0 = k 0 := set_ne (by omega)
          show (if set k (i + 1) true 0 = true then f s0 else 0) + kS r (fun j => set k (i + 1) true (j + 1)) f = (if k 0 = true then f s0 else 0) + kS r (fun j => k (j + 1)) f + f s
          rw [e, e0, ih]
          omega
    rw [e, add hs (decide_eq_false hn.1), ih, List.filterMap_cons, hs, List.map_cons, List.sum_cons]
    omega
end F57
abbrev FnP (K : PySem.W.Frag) (x : Str) (st : Stmt) (f : Addr) (fd : FuncData) : Prop := FunD K x x (defArgs st) (defBody st) (defScope st) [] [] f fd
section
variable {P : Program} {w : World} {K : PySem.W.Frag} {mg : Str → Option Value} {base : Heap}
theorem getI {ns : List Int} {i : Nat} {y : V} (h : (ns.map V.int)[i]? = some y) : ∃ z, ns[i]? = some z ∧ y = .int z := by
  rw [List.getElem?_map] at h
  cases e : ns[i]? with
  | none => rw [e] at h; cases h
  | some z => rw [e] at h; exact ⟨z, rfl, (Option.some.inj h).symm⟩
theorem sl_of {n : Nat} (h : n ≤ 100000) : n ≤ sizeLine := Nat.le_trans h (by decide)
theorem sc_mixed : FnScope ["_law_draw", "_law_turn", "_law_found", "_law_prime", "_law_blend", "_law_cell"] ["_law_draw"] (defScope s_law_mixed) := ⟨rfl, rfl, rfl, by decide +kernel, rfl, by decide +kernel, by decide +kernel⟩
theorem primes_ok {i : Nat} {y : V} (h : ([V.int 2147483629, V.int 2147483587, V.int 2147483579, V.int 2147483563] : List V)[i]? = some y) : ∃ z : Int, y = .int z ∧ 2147483563 ≤ z ∧ z ≤ 2147483629 := by
  match i, h with
  | 0, h => cases h; exact ⟨_, rfl, by decide, by decide⟩
  | 1, h => cases h; exact ⟨_, rfl, by decide, by decide⟩
  | 2, h => cases h; exact ⟨_, rfl, by decide, by decide⟩
  | 3, h => cases h; exact ⟨_, rfl, by decide, by decide⟩
  | n + 4, h => cases h
theorem ok_mixed {f : Addr} {fd : FuncData} (F : FnP K "_law_mixed" s_law_mixed f fd) (gI : mg "int" = none) : FnOk P w K mg base CX0 1 f fd ["_law_draw"] spMixed := by
  refine F.ok sc_mixed (fun vs H Q E h => ?_) (fun cdv A outer s H vs Q E hr h => ?_)
  · obtain ⟨d, w, c, ws, cs, rest, turn, rfl, _⟩ := h
    rfl
  · obtain ⟨d, w, c, ws, cs, rest, turn, rfl, hT, D, k⟩ := h
    have hu := hu_of hr
    have nd := sc_mixed.nd
    refine ⟨_, PSs.nox (pss_cons (ps_par (i := 1) (j := 2) rfl nd rfl rfl (by decide) rfl rfl (pa_cons (pe_op op_add (pe_dget hu (pv 0) pe_str (fun _ _ => rfl)) pe_int) (pa_cons pe_int pa_nil)) (by rfl))
      (pss_cons (ps_dput hu (pv 0) pe_str (pv 1) rfl)
      (pss_cons (ps_for PassesOwn.never rfl (pi_list (pe_lst (pa_cons pe_int (pa_cons pe_int (pa_cons pe_int (pa_cons pe_int pa_nil)))))) (pg_name (i := 3) nd rfl (Or.inl rfl))
        (pss_cons (ps_set (i := 4) nd rfl (Or.inl rfl) (pe_op op_add (pe_op op_mul pe_int (pv 1)) (pe_op op_fdivN (pv 3) pe_int)))
        (pss_cons (ps_for PassesOwn.never rfl (pi_list (pe_dget hu (pv 0) pe_str (fun _ _ => rfl))) (pg_name (i := 5) nd rfl (Or.inl rfl))
          (pss_one (ps_set (i := 4) nd rfl (Or.inl rfl) (pe_op op_modN (pe_callTy call_int1 (by rfl) gI (by decide +kernel) (pa_cons (pe_op op_add (pe_op op_add (pe_op op_mul (pv 4) pe_int) (pv 5)) (pv 1)) pa_nil)) (pv 3)))))
        (pss_one (ps_set (i := 2) nd rfl (Or.inl rfl) (pe_op op_add (pe_op op_mul (pv 2) pe_int) (pe_op op_modN (pe_callTy call_int1 (by rfl) gI (by decide +kernel) (pa_cons (pe_op op_pow (pv 4) pe_int) pa_nil)) (pv 3))))))))
      (pss_one (ps_ret (pv 2)))))), ?_⟩
    have T0 := D.tn
    refine ⟨_, rfl, d, _, rfl, dget_turn D.hd, _, _, rfl, rfl, _, _, rfl, ?_⟩
    refine ⟨_, rfl, _, rfl, d, _, rfl, dput_turn _ D.hd, ?_⟩
    have D1 := D.setD (t2 := turn + 1) D.rn (by omega)
    have K1 : ∀ b o, H b = some o → b ≠ d → (upd H d (.dK (drK w c rest (turn + 1)))) b = some o := fun b o e n => by rw [upd_ne n]; exact e
    generalize upd H d (.dK (drK w c rest (turn + 1))) = H1 at D1 K1
    refine ⟨sl_of (by decide), fun p hp => ⟨p, rfl, ⟨_, SqL.of upd_same⟩, ?_⟩⟩
    have ndp : d ≠ p := ne_of_none D1.hd hp
    have nwp : w ≠ p := ne_of_none D1.hw hp
    have ncp : c ≠ p := ne_of_none D1.hc hp
    refine for_list (K := K) (a := p) (xs := [V.int 2147483629, V.int 2147483587, V.int 2147483579, V.int 2147483563]) (fun i σ H' => ∃ (fnd : Int) (v3 v4 v5 : Option V), σ = [some (.ref d), some (.int (turn + 1)), some (.int fnd), v3, v4, v5] ∧ 0 ≤ fnd ∧ H' = upd H1 p (.lst [V.int 2147483629, V.int 2147483587, V.int 2147483579, V.int 2147483563]))
      ⟨0, none, none, none, rfl, by decide, rfl⟩ (fun i σ H' _ ⟨_, _, _, _, _, _, e⟩ => by rw [e]; exact SqL.of upd_same) ?_ ?_
    · rintro i y σ H' hi ⟨fnd, v3, v4, v5, rfl, hf, rfl⟩
      obtain ⟨z, rfl, z1, z2⟩ := primes_ok hi
      have z0 : z ≠ 0 := by omega
      have D2 := D1.updo (o := .lst [V.int 2147483629, V.int 2147483587, V.int 2147483579, V.int 2147483563]) ndp.symm nwp.symm ncp.symm
      refine ⟨_, rfl, _, _, rfl, rfl, .inl ⟨by decide, by decide⟩, _, rfl, _, _, rfl, rfl, ⟨by decide, by decide⟩, _, _, rfl, rfl, ?_⟩
      refine ⟨_, rfl, d, _, rfl, dget_cells D2.hd, c, rfl, ⟨_, SqL.of D2.hc⟩, ?_⟩
      have b0 : 0 ≤ 61441 * (turn + 1) + z.fdiv 19 := by
        rw [Int.fdiv_eq_ediv_of_nonneg _ (by decide)]
        omega
      have b1 : 61441 * (turn + 1) + z.fdiv 19 < 2 ^ 63 := by
        rw [Int.fdiv_eq_ediv_of_nonneg _ (by decide)]
        have : turn < 1099511627776 := hT
        omega
      refine for_list (K := K) (a := c) (xs := cs.map V.int) (fun j σ H' => ∃ (bl : Int) (v5 : Option V), σ = [some (.ref d), some (.int (turn + 1)), some (.int fnd), some (.int z), some (.int bl), v5] ∧ 0 ≤ bl ∧ bl < 2 ^ 63 ∧ H' = upd H1 p (.lst [V.int 2147483629, V.int 2147483587, V.int 2147483579, V.int 2147483563]))
        ⟨_, v5, rfl, b0, b1, rfl⟩ (fun j σ H' _ ⟨_, _, _, _, _, e⟩ => by rw [e]; exact SqL.of D2.hc) ?_ ?_
      · rintro j y σ H' hj ⟨bl, v6, rfl, h0, h1, rfl⟩
        obtain ⟨q, _, rfl⟩ := getI hj
        refine ⟨_, rfl, _, _, rfl, rfl, .inr ⟨by decide, by decide⟩, _, rfl, _, _, rfl, rfl, _, rfl, _, _, rfl, rfl, .inl ⟨_, rfl, ?_⟩⟩
        refine ⟨_, rfl, _, _, rfl, rfl, z0, ?_⟩
        have m0 := Int.fmod_nonneg_of_pos (bl * 48271 + q + (turn + 1)) (b := z) (by omega)
        have m1 := Int.fmod_lt_of_pos (bl * 48271 + q + (turn + 1)) (b := z) (by omega)
        exact ⟨_, _, rfl, m0, by omega, rfl⟩
      · rintro σ H' ⟨bl, v6, rfl, h0, h1, rfl⟩
        refine ⟨_, rfl, _, _, rfl, rfl, .inr ⟨by decide, by decide⟩, _, rfl, _, _, rfl, rfl, ⟨by decide, by decide, by omega⟩, .inl ⟨_, rfl, ?_⟩⟩
        refine ⟨_, rfl, _, _, rfl, rfl, z0, _, _, rfl, rfl, ?_⟩
        have m0 := Int.fmod_nonneg_of_pos (bl ^ Int.toNat 5) (b := z) (by omega)
        exact ⟨_, _, _, _, rfl, by omega, rfl⟩
    · rintro σ H' ⟨fnd, v3, v4, v5, rfl, hf, rfl⟩
      refine ⟨_, rfl, ?_⟩
      refine k _ _ hf (D1.updo ndp.symm nwp.symm ncp.symm) fun b o e n => ?_
      have e1 := K1 b o e n
      rw [upd_ne (ne_of_none e1 hp)]
      exact e1
end
section
variable {P : Program} {w : World} {K : PySem.W.Frag} {mg : Str → Option Value} {base : Heap}
theorem sc_take : FnScope ["_law_draw", "_law_many", "_law_found"] ["_law_draw", "_law_many"] (defScope s_law_take) := ⟨rfl, rfl, rfl, by decide +kernel, rfl, by decide +kernel, by decide +kernel⟩
theorem dpAll_ints {K : PySem.W.Frag} {H : Hp} : ∀ ns : List Int, DpAll K H (ns.map V.int) (ns.map PyData.int)
  | [] => .nil
  | n :: ns => .cons (.int n) (dpAll_ints ns)
theorem shaped_lst (ns : List Int) : SeqAt.shaped (.list (ns.map PyData.int)) = true := PySem.W.ke_shaped_ints ns
theorem eqv_nil (ns : List Int) : PyData.eqv (.list (ns.map PyData.int)) (.list []) = ns.isEmpty := by
  cases ns <;> simp [PyData.eqv, PyData.eqvAll]
theorem ok_take {f fM : Addr} {fd fdM : FuncData} (F : FnP K "_law_take" s_law_take f fd) (FM : FnP K "_law_mixed" s_law_mixed fM fdM) (gM : mg "_law_mixed" = some (.ref fM)) (gI : mg "int" = none) : FnOk P w K mg base CX0 2 f fd ["_law_draw", "_law_many"] spTake := by
  have GM : FnOk P w K mg base CX0 1 fM fdM ["_law_draw"] spMixed := ok_mixed FM gI
  have bM : Binds K fdM ["_law_draw"] [] := FM.bindsN fun _ _ _ _ _ _ us hl => match us, hl with | [_], _ => rfl
  refine F.ok sc_take (fun vs H Q E h => ?_) (fun cdv A outer s H vs Q E hr h => ?_)
  · obtain ⟨t, H0, d, n, rfl, _⟩ := h
    rfl
  · obtain ⟨t, H0, d, n, rfl, hD, ht, n0, n1, k⟩ := h
    have hu := hu_of hr
    have nd := sc_take.nd
    obtain ⟨sm, w, c, ws, cs, rest, turn, h1, h2, h3, htu, D⟩ := hD
    refine ⟨_, PSs.nox (pss_cons (ps_if (pt_cmpR op_eq (pe_dget hu (pv 0) pe_str (fun _ _ => rfl)) pe_int (nomark _))
       (pss_one (ps_dput hu (pv 0) pe_str (pe_ifExp (pt_cmpR (op_neD hr.units) (pe_dget hu (pv 0) pe_str (fun _ _ => rfl)) (pe_lst pa_nil) (nomark _))
          (pe_bm PySem.F.plainAttrs_list PySem.F.slot_list_pop PySem.F.type_list_pop mt_popAt (pe_dget hu (pv 0) pe_str (fun _ _ => rfl)) (pa_cons pe_int pa_nil))
          (pe_call GM hr rfl gM FM.kp bM .nil pass0 (pa_cons (pv 0) pa_nil))) rfl)) pss_nil)
      (pss_cons (ps_set (i := 2) nd rfl (.inl rfl) (pe_op op_modN (pe_callTy call_int1 (by rfl) gI (by decide +kernel) (pa_cons (pe_dget hu (pv 0) pe_str (fun _ _ => rfl)) pa_nil)) (pv 1)))
      (pss_cons (ps_dput hu (pv 0) pe_str (pe_op op_fdivW (pe_dget hu (pv 0) pe_str (fun _ _ => rfl)) (pv 1)) rfl)
      (pss_one (ps_ret (pv 2)))))), ?_⟩
    -- what follows the if
    have fin : ∀ (ws : List Int) (rest turn : Int) (H1 : Hp), turn ≤ (t + 1 : Nat) → Same H0 H1 → DrD H1 d w c ws cs rest turn →
        tSeq (tAsg (tOp (rI (fun _ j => j ≠ 0) fun i j => .int (i.fmod j)) (tCB (fun xs H Q => (∃ i, xs = [.int i] ∧ Q (.int i) H) ∨ ∃ k, xs = [.bl k] ∧ Q (.int (if k then 1 else 0)) H) (tCons (tDGet (tVar 0) (tC (.str "rest"))) tNil)) (tVar 1)) (gName 2))
          (tSeq (sDPut (tVar 0) (tC (.str "rest")) (tOp (rI CDivW fun i j => .int (i / j)) (tDGet (tVar 0) (tC (.str "rest"))) (tVar 1))) (tRet (tVar 2))) { nx := fun _ H' => Q .non H', rt := Q } [some (.ref d), some (.int n), none] H1 := by
      intro ws rest turn H1 hle sm1 D1
      refine ⟨_, rfl, d, _, rfl, dget_rest D1.hd, .inl ⟨_, rfl, _, rfl, _, _, rfl, rfl, by omega, ?_⟩⟩
      have r0 := D1.rn
      have q0 : 0 ≤ rest / n := Int.ediv_nonneg r0 (by omega)
      refine ⟨_, rfl, d, _, rfl, dget_rest D1.hd, _, rfl, _, _, rfl, rfl, wide_div n0 (b := 60) (by omega) (by decide) (by decide), _, rfl, d, _, rfl, dput_rest _ D1.hd, _, rfl, ?_⟩
      refine k _ _ (Int.fmod_nonneg_of_pos _ n0) (Int.fmod_lt_of_pos _ n0) ⟨same_sub sm1 h1, w, c, ws, cs, _, turn, h1, h2, h3, hle, D1.setD q0 D1.tn⟩
    refine ⟨_, rfl, d, _, rfl, dget_rest D.hd, rfl, _, rfl, ?_⟩
    by_cases e : rest = 0
    · subst e
      refine iteT ?_
      refine ⟨_, rfl, d, _, rfl, dget_wide D.hd, Nat.zero_le _, fun p hp => ?_⟩
      have ndp : d ≠ p := ne_of_none D.hd hp
      have nwp : w ≠ p := ne_of_none D.hw hp
      have ncp : c ≠ p := ne_of_none D.hc hp
      have D2 := D.updo (o := .lst []) ndp.symm nwp.symm ncp.symm
      refine ⟨_, _, .lst (SqL.of D2.hw) (dpAll_ints ws), .lst (SqL.of upd_same) .nil, shaped_lst ws, shaped_lst [], _, rfl, ?_⟩
      rw [eqv_nil]
      have sm2 : Same H0 (upd H p (.lst [])) := same_sub sm (sm.free hp)
      generalize upd H p (.lst []) = H2 at D2 sm2
      cases ws with
      | nil =>
        refine iteF ?_
        refine ⟨_, rfl, ?_⟩
        refine ⟨d, w, c, [], cs, 0, turn, rfl, by have : t < 1099511627776 := ht; show turn < 1099511627776; omega, D2, fun m H3 m0 D3 k3 => ?_⟩
        refine ⟨_, rfl, d, _, rfl, dput_rest _ D3.hd, ?_⟩
        have sm3 : Same H0 H3 := fun b o e => k3 b o (sm2 b o e) (ne_of_none e h1)
        exact fin _ _ _ _ (by omega) (same_sub sm3 h1) (D3.setD m0 D3.tn)
      | cons m ws =>
        refine iteT ?_
        refine ⟨_, rfl, d, _, rfl, dget_wide D2.hd, .inl ⟨rfl, _, SqL.of D2.hw⟩, w, _, 0, 0, .int m, rfl, rfl, D2.hw, by decide, by decide, ?_, rfl, ?_⟩
        · simp [seqIndex?]
        · have nwd := D2.ne_dw
          refine ⟨_, rfl, d, _, rfl, dput_rest _ (by rw [upd_ne nwd]; exact D2.hd), ?_⟩
          have m0 := D2.wn m (List.mem_cons_self ..)
          have l0 := D2.wl
          rw [List.length_cons] at l0
          have D3 : DrD (upd H2 w (.lst (ws.map V.int))) d w c ws cs 0 turn := ⟨by rw [upd_ne nwd]; exact D2.hd, upd_same, by rw [upd_ne D2.wc.symm]; exact D2.hc, D2.wc, by omega, fun x hx => D2.wn x (List.mem_cons_of_mem _ hx), D2.cl, by decide, D2.tn⟩
          exact fin _ _ _ _ (by omega) (same_sub (same_sub sm2 h2) h1) (D3.setD m0 D3.tn)
    · have e2 : decide (V.int rest = V.int 0) = false := decide_eq_false fun z => e (by injection z)
      rw [e2]
      refine iteF ?_
      exact fin _ _ _ _ (by omega) sm D
end
theorem Same.seqT {K : PySem.W.Frag} {H H' : Hp} {a : Addr} {xs : List V} (e : Same H H') (h : SqT K H a xs) : SqT K H' a xs := by
  rcases h with (h | ⟨o, h⟩) | h
  · exact .inl (.inl (e _ _ h))
  · exact .inl (.inr ⟨o, e _ _ h⟩)
  · exact .inr h
theorem yesIf {σ : L2.St} {H : Hp} {A B : Hp → Prop} (h : A H) : tYes σ H (fun b H3 => if b = true then A H3 else B H3) := by
  show if true = true then A H else B H
  exact iteT h
section
variable {P : Program} {w : World} {K : PySem.W.Frag} {mg : Str → Option Value} {base : Heap}
theorem sc_pick : FnScope ["_law_draw", "_law_some"] ["_law_draw", "_law_some"] (defScope s_law_pick) := ⟨rfl, rfl, rfl, by decide +kernel, rfl, by decide +kernel, by decide +kernel⟩
theorem toNat_get {xs : List V} {k : Int} (h0 : 0 ≤ k) (h1 : k < (xs.length : Int)) : ∃ v, v ∈ xs ∧ xs[k.toNat]? = some v := by
  have h : k.toNat < xs.length := by omega
  exact ⟨xs[k.toNat], List.getElem_mem h, List.getElem?_eq_getElem h⟩
theorem atI_int {α : Type} {xs : List α} {k : Int} {v : α} (h0 : 0 ≤ k) (h : xs[k.toNat]? = some v) : atI xs k = some v := by
  have e : ((k.toNat : Nat) : Int) = k := by omega
  rw [← e]
  exact atI_nat h
theorem ok_pick {f fT : Addr} {fd fdT : FuncData} (F : FnP K "_law_pick" s_law_pick f fd) (gT : mg "_law_take" = some (.ref fT)) (kT : PySem.W.keepIn K (.ref fT) = true) (bT : Binds K fdT ["_law_draw", "_law_many"] []) (GT : FnOk P w K mg base CX0 2 fT fdT ["_law_draw", "_law_many"] spTake) (gL : mg "len" = none) :
    FnOk P w K mg base CX0 3 f fd ["_law_draw", "_law_some"] (spPick K) := by
  refine F.ok sc_pick (fun vs H Q E h => ?_) (fun cdv A outer s H vs Q E hr h => ?_)
  · obtain ⟨t, H0, d, x, xs, rfl, _⟩ := h
    rfl
  · obtain ⟨t, H0, d, x, xs, rfl, hD, ht, hx, l0, l1, k⟩ := h
    refine ⟨_, PSs.nox (pss_one (ps_ret (pe_ix ix_seq (pv 1) (pe_call GT hr rfl gT kT bT .nil pass0 (pa_cons (pv 0) (pa_cons (pe_callB call_len (by rfl) gL PySem.boot_len (pa_cons (pv 1) pa_nil)) pa_nil))) (fun _ _ => rfl)))), ?_⟩
    have hl : LenV K x H xs.length := by
      cases hx with
      | lst h => exact .inl ⟨_, hD.same.seq h, rfl⟩
      | tup h => exact .inr ⟨_, Same.seqT hD.same h, rfl⟩
      | str h =>
        rw [List.length_map]
        exact ⟨sl_of h, rfl⟩
    refine ⟨_, rfl, _, rfl, _, rfl, _, _, rfl, hl, ?_⟩
    refine ⟨t, H0, d, xs.length, rfl, hD, ht, by omega, by omega, fun i H' i0 i1 hD' => ?_⟩
    obtain ⟨v, hv, hg⟩ := toNat_get i0 i1
    have q := k v H' hv hD'
    cases hx with
    | lst h => exact .inl ⟨_, _, _, _, rfl, rfl, hD'.same.seq h, atI_int i0 hg, q⟩
    | tup h => exact .inr (.inl ⟨_, _, _, _, rfl, rfl, Same.seqT hD'.same h, atI_int i0 hg, q⟩)
    | @str z h =>
      rw [List.getElem?_map] at hg
      cases e : z.cps.toList[i.toNat]? with
      | none => rw [e] at hg; cases hg
      | some c =>
        rw [e] at hg
        cases (Option.some.inj hg)
        exact .inr (.inr ⟨_, _, _, rfl, rfl, sl_of h, atI_int i0 e, q⟩)
theorem sc_begun : FnScope ["_law_script", "_law_wide", "_law_cell"] ["_law_script"] (defScope s_law_begun) := ⟨rfl, rfl, rfl, by decide +kernel, rfl, by decide +kernel, by decide +kernel⟩
theorem ok_begun {f : Addr} {fd : FuncData} (F : FnP K "_law_begun" s_law_begun f fd) (gI : mg "int" = none) (gA : mg "abs" = none) : FnOk P w K mg base CX0 1 f fd ["_law_script"] (spBegun K) := by
  refine F.ok sc_begun (fun vs H Q E h => ?_) (fun cdv A outer s H vs Q E hr h => ?_)
  · obtain ⟨a, ns, rfl, _⟩ := h
    rfl
  · obtain ⟨a, ns, rfl, hS, hl, k⟩ := h
    have hu := hu_of hr
    have nd := sc_begun.nd
    refine ⟨_, PSs.nox (pss_cons (ps_setLc (i := 1) (own := [("_law_cell", 2)]) (g := gName 2) rfl nd rfl rfl (sw_true rfl rfl rfl (by decide +kernel)) (pi_list (pv 0)) (blkOk_by (own := [("_law_cell", 2)]) (N := ["_law_script", "_law_wide", "_law_cell"]) (sc := defScope s_law_begun) (by decide +kernel))
        (fun _ _ _ _ _ => pg_name (i := 2) nd rfl (Or.inl rfl))
        (fun _ _ _ _ _ => pts_one (pt_cmpR op_ge (pe_callB call_abs (by rfl) gA (by decide +kernel) (pa_cons (pv 2) pa_nil)) (pe_op op_pow pe_int pe_int) (nomark _)))
        (fun _ _ _ _ _ => pe_op op_sub (pe_callB call_abs (by rfl) gA (by decide +kernel) (pa_cons (pv 2) pa_nil)) (pe_op op_pow pe_int pe_int)))
      (pss_one (ps_ret (pe_disp (pps_cons pe_str (pv 1) (pps_cons pe_str
        (pe_lc (own := [("_law_cell", 2)]) (g := gName 2) rfl nd (pi_list (pv 0)) (blkOk_by (own := [("_law_cell", 2)]) (N := ["_law_script", "_law_wide", "_law_cell"]) (sc := defScope s_law_begun) (by decide +kernel))
          (fun _ _ _ _ _ => pg_name (i := 2) nd rfl (Or.inl rfl)) (fun _ _ _ _ _ => pts_nil)
          (fun _ _ _ _ _ => pe_op op_modN (pe_callTy call_int1 (by rfl) gI (by decide +kernel) (pa_cons (pe_callB call_abs (by rfl) gA (by decide +kernel) (pa_cons (pv 2) pa_nil)) pa_nil)) pe_int))
        (pps_cons pe_str pe_int (pps_cons pe_str pe_int pps_nil)))) (by rfl) (by rfl) (fun z => by cases z) (by decide))))), ?_⟩
    refine ⟨_, rfl, a, rfl, ⟨_, hS⟩, fun D hD => ?_⟩
    have sD : ∀ o, Same H (upd H D o) := fun o => same_new hD
    refine lc_list (K := K) (a := a) (xs := ns.map V.int) (fun i H' => ∃ acc : List Int, H' = upd H D (.lst (acc.map V.int)) ∧ acc.length ≤ i ∧ ∀ x ∈ acc, 0 ≤ x) ⟨[], rfl, Nat.le_refl _, by simp⟩ (fun i H' _ ⟨acc, e, _⟩ => by rw [e]; exact (sD _).seq hS) ?_ ?_
    · rintro i x H' hi ⟨acc, rfl, hal, ha⟩
      obtain ⟨z, hz, rfl⟩ := getI hi
      have hil : i < ns.length := (List.getElem?_eq_some_iff.mp hz).1
      refine ⟨rfl, ?_⟩
      refine ⟨_, rfl, _, rfl, _, _, rfl, rfl, ⟨by decide, by decide, by decide⟩, _, _, rfl, rfl, _, rfl, ?_⟩
      refine ite2 (fun c => ?_) (fun c => ?_)
      · have c1 := of_decide_eq_true c
        refine ⟨_, rfl, _, rfl, _, _, rfl, rfl, ⟨by decide, by decide, by decide⟩, _, _, rfl, rfl, _, upd_same, ?_, acc ++ [(if z < 0 then -z else z) - 10 ^ Int.toNat 18], ?_, ?_, ?_⟩
        · rw [List.length_map]
          exact Nat.lt_of_lt_of_le (show acc.length < 64 by omega) (by decide)
        · rw [upd_upd, List.map_append]
          rfl
        · rw [List.length_append]
          exact Nat.succ_le_succ hal
        · intro x hx
          rcases List.mem_append.mp hx with h | h
          · exact ha x h
          · rw [List.mem_singleton.mp h]
            omega
      · exact ⟨acc, rfl, by omega, ha⟩
    · rintro H' ⟨ws, rfl, hwl, hw⟩
      rw [List.length_map] at hwl
      intro p hp
      have npD : p ≠ D := fun z => by rw [z, upd_same] at hp; cases hp
      have s1 : Same H (upd (upd H D (.lst (ws.map V.int))) p (.dK [])) := (sD _).trans (same_new hp)
      refine ⟨_, rfl, ?_⟩
      refine ⟨_, rfl, a, rfl, ⟨_, s1.seq hS⟩, fun D2 hD2 => ?_⟩
      have nDD : D ≠ D2 := fun z => by rw [← z, upd_ne npD.symm, upd_same] at hD2; cases hD2
      have npD2 : p ≠ D2 := fun z => by rw [← z, upd_same] at hD2; cases hD2
      refine lc_list (K := K) (a := a) (xs := ns.map V.int) (fun i H' => ∃ acc : List Int, H' = upd (upd (upd H D (.lst (ws.map V.int))) p (.dK [])) D2 (.lst (acc.map V.int)) ∧ acc.length ≤ i) ⟨[], rfl, Nat.le_refl _⟩ (fun i H' _ ⟨acc, e, _⟩ => by rw [e]; exact (s1.trans (same_new hD2)).seq hS) ?_ ?_
      · rintro i x H' hi ⟨acc, rfl, hal⟩
        obtain ⟨z, hz, rfl⟩ := getI hi
        have hil : i < ns.length := (List.getElem?_eq_some_iff.mp hz).1
        refine ⟨rfl, yesIf ?_⟩
        refine ⟨_, rfl, _, rfl, .inl ⟨_, rfl, _, _, rfl, rfl, (show (2147483629 : Int) ≠ 0 by decide), ?_⟩⟩
        refine ⟨_, upd_same, ?_, acc ++ [(if z < 0 then -z else z).fmod 2147483629], ?_, ?_⟩
        · rw [List.length_map]
          exact Nat.lt_of_lt_of_le (show acc.length < 64 by omega) (by decide)
        · rw [upd_upd, List.map_append]
          rfl
        · rw [List.length_append]
          exact Nat.succ_le_succ hal
      · rintro H' ⟨cs, rfl, hcl⟩
        rw [List.length_map] at hcl
        refine ⟨by rw [upd_ne npD2, upd_same], drK D D2 0 0, rfl, (show 4 ≤ 15 by decide), ?_⟩
        rw [dr_made]
        have hpn : H p = none := (sD _).free hp
        have hD2n : H D2 = none := s1.free hD2
        refine k _ p ⟨fun b o e => ?_, D, D2, ws, cs, 0, 0, hpn, hD, hD2n, Int.le_refl _, ⟨upd_same, ?_, ?_, nDD, by omega, hw, by omega, Int.le_refl _, Int.le_refl _⟩⟩ hpn
        · rw [upd_ne (ne_of_none e hpn), upd_ne (ne_of_none e hD2n), upd_ne (ne_of_none e hpn), upd_ne (ne_of_none e hD)]
          exact e
        · rw [upd_ne npD.symm, upd_ne nDD, upd_ne npD.symm, upd_same]
        · rw [upd_ne npD2.symm, upd_same]
end
/-! ## what k57 shares with k83 -/
/-- values that are no numbers -/
inductive OtV (H : Hp) : V → Prop where
  | non : OtV H .non
  | bl (b : Bool) : OtV H (.bl b)
  | str (z : Str) : OtV H (.str z)
  | lst {a : Addr} {xs : List V} (e : H a = some (.lst xs)) : OtV H (.ref a)
  | tup {a : Addr} {xs : List V} (e : H a = some (.tup xs)) : OtV H (.ref a)
  | dic {a : Addr} {kvs : List (Key × V)} (e : H a = some (.dK kvs)) : OtV H (.ref a)
theorem OtV.same {H H' : Hp} {v : V} (s : Same H H') (h : OtV H v) : OtV H' v := by
  cases h with
  | non => exact .non
  | bl b => exact .bl b
  | str z => exact .str z
  | lst e => exact .lst (s _ _ e)
  | tup e => exact .tup (s _ _ e)
  | dic e => exact .dic (s _ _ e)
structure NkF (K : PySem.W.Frag) (mg : Str → Option Value) : Prop where
  isi : mg "isinstance" = none
  int : mg "int" = none
  str : mg "str" = none
  len : mg "len" = none
  bool : mg "bool" = none
mutual
inductive Dt (G : Addr → Prop) (H : Hp) : V → PyData → Prop
  | non : Dt G H .non .none
  | bl (b : Bool) : Dt G H (.bl b) (.bool b)
  | int (i : Int) : Dt G H (.int i) (.int i)
  | str (x : Str) : Dt G H (.str x) (.str x)
  | lst {a : Addr} {xs : List V} {ds : List PyData} : G a → H a = some (.lst xs) → DtA G H xs ds → Dt G H (.ref a) (.list ds)
  | tup {a : Addr} {xs : List V} {ds : List PyData} : G a → H a = some (.tup xs) → DtA G H xs ds → Dt G H (.ref a) (.tuple ds)
  | dic {a : Addr} : G a → H a = some (.dK []) → Dt G H (.ref a) (.dict [])
inductive DtA (G : Addr → Prop) (H : Hp) : List V → List PyData → Prop
  | nil : DtA G H [] []
  | cons {v : V} {vs : List V} {d : PyData} {ds : List PyData} : Dt G H v d → DtA G H vs ds → DtA G H (v :: vs) (d :: ds)
end
mutual
theorem Dt.to {G G' : Addr → Prop} {H H' : Hp} (t : ∀ b o, G b → H b = some o → H' b = some o ∧ G' b) : ∀ {d : PyData} {v : V}, Dt G H v d → Dt G' H' v d
  | _, _, .non => .non
  | _, _, .bl b => .bl b
  | _, _, .int i => .int i
  | _, _, .str x => .str x
  | _, _, .lst g e h => .lst (t _ _ g e).2 (t _ _ g e).1 (DtA.to t h)
  | _, _, .tup g e h => .tup (t _ _ g e).2 (t _ _ g e).1 (DtA.to t h)
  | _, _, .dic g e => .dic (t _ _ g e).2 (t _ _ g e).1
theorem DtA.to {G G' : Addr → Prop} {H H' : Hp} (t : ∀ b o, G b → H b = some o → H' b = some o ∧ G' b) : ∀ {ds : List PyData} {vs : List V}, DtA G H vs ds → DtA G' H' vs ds
  | _, _, .nil => .nil
  | _, _, .cons h1 h2 => .cons (Dt.to t h1) (DtA.to t h2)
end
theorem Dt.same {G : Addr → Prop} {H H' : Hp} {d : PyData} {v : V} (h : Dt G H v d) (s : Same H H') : Dt G H' v d := h.to fun b o g e => ⟨s b o e, g⟩
theorem DtA.same {G : Addr → Prop} {H H' : Hp} {ds : List PyData} {vs : List V} (h : DtA G H vs ds) (s : Same H H') : DtA G H' vs ds := h.to fun b o g e => ⟨s b o e, g⟩
theorem DtA.app {G : Addr → Prop} {H : Hp} : ∀ {as bs : List V} {ds es : List PyData}, DtA G H as ds → DtA G H bs es → DtA G H (as ++ bs) (ds ++ es)
  | [], _, _, _, .nil, h => h
  | _ :: _, _, _, _, .cons h1 h2, h => .cons h1 (h2.app h)
theorem DtA.length {G : Addr → Prop} {H : Hp} : ∀ {vs : List V} {ds : List PyData}, DtA G H vs ds → vs.length = ds.length
  | _, _, .nil => rfl
  | _, _, .cons _ h => congrArg Nat.succ h.length
theorem Room.u101 {k : Nat} {A : Around} (r : Room k A) : A.units + 101 < cLine := by have := r.un; omega
theorem iteNe {a b : V} {A B : Prop} (e : a = b) (h : B) : if (!decide (a = b)) = true then A else B := by
  rw [decide_eq_true e]
  exact iteF h
theorem iteNt {a b : V} {A B : Prop} (e : a ≠ b) (h : A) : if (!decide (a = b)) = true then A else B := by
  rw [decide_eq_false e]
  exact iteT h
theorem iteN0 {A B : Prop} (h : A) : if (!false) = true then A else B := iteT h
abbrev anyA : Addr → Prop := fun _ => True
def numD : PyData → Bool
  | .int _ => true
  | _ => false
section
variable {K : PySem.W.Frag} {G : Addr → Prop} {H : Hp}
theorem dt_tup {d : PyData} {v : V} (h : Dt G H v d) : (∃ a xs ds, v = .ref a ∧ d = .tuple ds ∧ H a = some (.tup xs) ∧ DtA G H xs ds) ∨ ((∃ t, TyX K H v t ∧ PySem.W.kitOne K t (.type "tuple") = some false) ∧ ∀ ds, d ≠ .tuple ds) := by
  cases h with
  | non => exact .inr ⟨⟨_, .base .non, kit_ty (by decide +kernel)⟩, fun _ z => by cases z⟩
  | bl b => exact .inr ⟨⟨_, .base (.bl b), kit_ty (by decide +kernel)⟩, fun _ z => by cases z⟩
  | int i => exact .inr ⟨⟨_, .base (.int i), kit_ty (by decide +kernel)⟩, fun _ z => by cases z⟩
  | str z => exact .inr ⟨⟨_, .base (.str z), kit_ty (by decide +kernel)⟩, fun _ z => by cases z⟩
  | lst g e _ => exact .inr ⟨⟨_, .base (.lst e), kit_ty (by decide +kernel)⟩, fun _ z => by cases z⟩
  | tup g e t => exact .inl ⟨_, _, _, rfl, rfl, e, t⟩
  | dic g e => exact .inr ⟨⟨_, .base (.dK e), kit_ty (by decide +kernel)⟩, fun _ z => by cases z⟩
theorem dt_num {d : PyData} {v : V} (h : Dt G H v d) : (∃ i, v = .int i ∧ d = .int i) ∨ (OtV H v ∧ numD d = false) := by
  cases h with
  | non => exact .inr ⟨.non, rfl⟩
  | bl b => exact .inr ⟨.bl b, rfl⟩
  | int i => exact .inl ⟨i, rfl, rfl⟩
  | str z => exact .inr ⟨.str z, rfl⟩
  | lst g e _ => exact .inr ⟨.lst e, rfl⟩
  | tup g e t => exact .inr ⟨.tup e, rfl⟩
  | dic g e => exact .inr ⟨.dic e, rfl⟩
end
def spDa (g : PyData → Bool) : Sp := fun vs H Q _ => ∃ (x : V) (d : PyData), vs = [x] ∧ Dt anyA H x d ∧ ∀ H', Same H H' → Q (.bl (g d)) H'
def Cal (P : Program) (w : World) (K : PySem.W.Frag) (mg : Str → Option Value) (base : Heap) (k : Nat) (x : Str) (ps : List Str) (sp : Sp) : Prop :=
  ∃ (f : Addr) (fd : FuncData), mg x = some (.ref f) ∧ PySem.W.keepIn K (.ref f) = true ∧ Binds K fd ps [] ∧ FnOk P w K mg base CX0 k f fd ps sp
theorem take_snoc2 {α : Type} {l : List α} {i : Nat} {a : α} (h : l[i]? = some a) : l.take (i + 1) = l.take i ++ [a] := by
  rw [List.take_succ, h]
  rfl
theorem DtA.at {G : Addr → Prop} {H : Hp} : ∀ {vs : List V} {ds : List PyData} {i : Nat} {x : V}, DtA G H vs ds → vs[i]? = some x → ∃ d, ds[i]? = some d ∧ Dt G H x d
  | _, _, _, _, .nil, e => by simp at e
  | _, _, 0, _, .cons h _, e => by
    simp at e
    subst e
    exact ⟨_, rfl, h⟩
  | _, _, i + 1, _, .cons _ t, e => t.at (i := i) (by simpa using e)
/-! ## enumerate of a tuple -/
section
open PySem.Spec PyProof.Rows
theorem meets_enumerate_newB1 {v : Value} {o : Obj} {H : Heap → Prop} (B : Begins v o H) :
    Meets (Builtin.«enumerate.__new__» ⟨[.type "enumerate", v], []⟩) (fun _ R s => H s.heap ∧
      R (.ok (.ret (.ref (s.heap.push o).objs.size))) { s with heap := (s.heap.push o).push { cls := .type "enumerate", data := .fields #[.none, .bool false, .ref s.heap.objs.size, rawInt 0, .none, .none] } }) :=
  .of_wp fun prog w A R s h => by
    obtain ⟨hp, g, d, tk, os⟩ := s; obtain ⟨h1, h⟩ := h
    have hsub := sub_enumerate
    have q1 : ∀ {A' : Around} {E : Value → Shared → Prop} {Q : Value → Shared → Prop}, Q (.ref hp.objs.size) ⟨hp.push o, g, d, tk, os⟩ → wpAny (model prog w) A' (pyIter v) Q E ⟨hp, g, d, tk, os⟩ :=
      fun q => B.iter prog w _ _ ⟨hp, g, d, tk, os⟩ _ h1 q
    wp_walk using q1
    refine wpAny_stack_any fun st => wpAny_pure ?_
    split
    · rename_i c _ _ _ _ _
      cases (c == Value.type "enumerate")
      · wp_walk using q1
        exact ⟨_, rfl, h⟩
      · wp_walk using q1
        exact ⟨_, rfl, h⟩
    · wp_walk using q1
      exact ⟨_, rfl, h⟩
theorem enum_begins1 {prog : Program} {w : World} {A : Around} {E : Value → Shared → Prop} {s : Shared} {v : Value} {o : Obj} {H : Heap → Prop} {Q : Value → Shared → Prop} (B : Begins v o H) (h1 : H s.heap)
    (h : ∀ h', IsEnum h' (s.heap.objs.size + 1) s.heap.objs.size 0 .none → h'.get? s.heap.objs.size = some o → h'.objs.size = s.heap.objs.size + 2 →
      (∀ b o, s.heap.get? b = some o → h'.get? b = some o) → Q (.ref (s.heap.objs.size + 1)) { s with heap := h' }) :
    wpAny (model prog w) A (call (.type "enumerate") [v]) Q E s := by
  refine callType_new F.called_enumerate (by decide) (F.typeCall_enumerate_1 _) (F.newCall_enumerate_1 _) (fun obj => F.args_object_init_2 obj _) F.entry_enumerate_new
    (meets_enumerate_newB1 B) ⟨h1, ?_⟩
  have hz : (s.heap.push o).objs.size = s.heap.objs.size + 1 := Heap.size_push ..
  show _ ∧ _
  rw [hz]
  have he : IsEnum ((s.heap.push o).push { cls := .type "enumerate", data := .fields #[.none, .bool false, .ref s.heap.objs.size, rawInt 0, .none, .none] }) (s.heap.objs.size + 1) s.heap.objs.size 0 .none := by
    have := Heap.get?_push_size (s.heap.push o) (o := { cls := .type "enumerate", data := .fields #[.none, .bool false, .ref s.heap.objs.size, rawInt 0, .none, .none] }) rfl
    rw [hz] at this; exact this
  refine ⟨⟨_, he, rfl⟩, h _ he (Heap.get?_push_of_some _ (Heap.get?_push_size _ B.free)) (by rw [Heap.size_push, hz]) fun b o x => Heap.get?_push_of_some _ (Heap.get?_push_of_some _ x)⟩
def IteT (K : PySem.W.Frag) (a : Addr) : It :=
  ⟨fun i H => ∃ (xs : List V) (x : V), SqT K H a xs ∧ xs[i]? = some x, fun i H v H' => ∃ T x, v = .ref T ∧ H T = none ∧ H' = upd H T (.tup [.int (i : Nat), x]) ∧ ∀ xs, SqT K H a xs → xs[i]? = some x, fun i H => ∃ xs : List V, SqT K H a xs ∧ i = xs.length⟩
theorem turn_enumT {P : Program} {w : World} {K : PySem.W.Frag} {elts : List Expr} {kk : Nat} {tpos : Pos} (a e it : Addr) :
    Turn P w K (.Tuple elts kk tpos) (IteT K a) [e, it] e (fun i h => (∃ old, IsEnum h e it ((i : Nat) : Int) old) ∧ h.IsTupleIter it a i ∧ e ≠ it ∧ e ≠ a ∧ it ≠ a) where
  mem := by simp
  obj := fun i h st b hb => by
    obtain ⟨⟨old, he⟩, ⟨o, ho, hc, hd⟩, _⟩ := st
    have e' : b = e ∨ b = it := by simpa using hb
    rcases e' with z | z
    · rw [z]; exact ⟨_, he, fun v q => nomatch q⟩
    · rw [z]; exact ⟨o, ho, fun v q => by rw [hd] at q; cases q⟩
  keep := fun i h h' st k => let ⟨⟨old, he⟩, hi, hne⟩ := st; ⟨⟨old, k e (by simp) _ he⟩, hi.at fun o q => k it (by simp) o q, hne⟩
  item := by
    intro X hP hw hK hc i pins s σ H E I hf st hg
    subst hP hw hK
    obtain ⟨⟨old, he⟩, hit, hne, hea, hia⟩ := st
    obtain ⟨xs, x, hq, hx⟩ := hg
    obtain ⟨its, rv, p, hz⟩ := I.tuple hq
    obtain ⟨u, hu, ru⟩ := rv.get hx
    have hel : e < s.heap.objs.size := Heap.lt_size he
    have hil : it < s.heap.objs.size := by obtain ⟨_, q, _⟩ := hit; exact Heap.lt_size q
    have hlt : i < its.toArray.size := by
      have := (List.getElem?_eq_some_iff.mp hu).1
      simpa using this
    refine wpAny_pyNext_enum_itemD (Draws.tuple (by exact I.ok.hd hc) it a (Ne.symm hia) its.toArray) he ⟨hit, p⟩ hlt hne (by simp; exact ⟨hne, hea⟩) fun x2 h' tk y2 ho hit' hT hsz hk => ?_
    have e2 : x2 = u := by
      have : its.toArray[i]? = some u := by simpa using hu
      rw [this] at y2
      exact (Option.some.inj y2).symm
    subst e2
    refine ⟨_, rfl, wpAny_letOwnedTupleGo_enum (s := { s with heap := h', toks := tk + 1 }) ho fun h'' he' sb => ?_⟩
    have hT2 : h''.get? s.heap.objs.size = some { cls := .type "tuple", data := .seq #[.int i tk, x2] } := (sb.2 _ (Nat.ne_of_gt hel)).trans hT
    have new : ObjOk X.prog X.w (upd H s.heap.objs.size (.tup [.int (i : Nat), x])) h'' s.heap.objs.size (.tup [.int (i : Nat), x]) :=
      ⟨by show 2 ≤ sizeLine; decide, [.int i tk, x2], .cons ⟨_, rfl⟩ (.cons ru .nil), ⟨_, hT2, rfl, _, rfl⟩⟩
    have I1 : Inv X pins σ (upd H s.heap.objs.size (.tup [.int (i : Nat), x])) { s with heap := h'', toks := tk + 1 } :=
      I.turnedNew (ch := [e, it]) (fun b ob hb q => (sb.2 b (fun z => hb (by simp [z]))).trans (hk b ob (fun z => hb (by simp [z])) (fun z => hb (by simp [z])) q)) hf (Nat.le_refl _) new
    refine ⟨.ref s.heap.objs.size, _, I1, rfl, ⟨_, x, rfl, I.hok.fresh (Nat.le_refl _), rfl, fun ys hy => by rw [I.tuple_inj hy hq]; exact hx⟩, ⟨⟨x2, ?_⟩, hit'.1.at fun o q => (sb.2 it (Ne.symm hne)).trans q, hne, hea, hia⟩, fun b hb => ?_⟩
    · have e1 : ((i + 1 : Nat) : Int) = (i : Int) + 1 := by omega
      rw [e1]; exact he'
    · have hb' : b < s.heap.objs.size := by
        have e' : b = e ∨ b = it := by simpa using hb
        rcases e' with z | z
        · rw [z]; exact hel
        · rw [z]; exact hil
      rw [upd_ne (Nat.ne_of_lt hb')]
      exact (hf b hb).1
  done := by
    intro X hP hw hK hc i pins s σ H E I hf st hg
    subst hP hw hK
    obtain ⟨⟨old, he⟩, hit, hne, hea, hia⟩ := st
    obtain ⟨xs, hq, hx⟩ := hg
    obtain ⟨its, rv, p, hz⟩ := I.tuple hq
    obtain ⟨f0, f1, f2, f3, f4, f5⟩ := hf it (by simp)
    have hl := rv.length
    have e1 : i = its.toArray.size := by rw [List.size_toArray]; omega
    subst e1
    exact wpAny_pyNext_enum_endD (Draws.tuple (by exact I.ok.hd hc) it a (Ne.symm hia) its.toArray) he ⟨hit, p⟩ fun h' eb => ⟨rfl, I.turned (t' := s.toks) (fun b o hb q => eb b o hb q) f0 f1 f3 f4 f5⟩
  self := fun A i s Q E st h => let ⟨⟨_, he⟩, _⟩ := st; wpAny_pyIter_enum he h
def iEnumT (K : PySem.W.Frag) (ta : TA) : TI := fun σ H R => ta σ H fun vs H1 => ∃ a xs, vs = [.ref a] ∧ SqT K H1 a xs ∧ R (IteT K a) H1
theorem pi_enumT {X : Cx} {e : Expr} {ta : TA} {p pos tpos : Pos} {elts : List Expr} {kk : Nat} (hg : Gl X "enumerate") (hm : X.mg "enumerate" = none) (ha : PA X [e] ta) (hs : starEach [e] X.env = [(false, eval e X.env)] := by rfl) :
    PI X (.Tuple elts kk tpos) (.Call (.Name "enumerate" p) [e] [] pos) (iEnumT X.K ta) := by
  refine ⟨fun pins s σ H R I h => ?_⟩
  refine Call_ (ld_blt I hg hm boot_enumerate (PyProof.Rows.callWith_type1 (thn (ha.run pos pins s σ H _ I h) fun us s1 ⟨vs, H1, I1, r1, q1⟩ => ?_) hs rfl))
  obtain ⟨a, xs, ex, hq, q⟩ := q1
  subst ex
  cases r1 with
  | cons r rr =>
    cases rr
    cases r
    obtain ⟨its, rv, p', hz⟩ := I1.tuple hq
    obtain ⟨o2, ho2, _⟩ := id p'
    have la : a < s1.heap.objs.size := Heap.lt_size ho2
    refine enum_begins1 (begins_tuple a its.toArray) p' fun h' he hit hsz hk => wpAny_pyIter_enum he ?_
    have I2 : Inv X pins σ H1 { s1 with heap := h' } := I1.kept (t' := s1.toks) hk
    refine ⟨s1.heap.objs.size + 1, [s1.heap.objs.size + 1, s1.heap.objs.size], _, _, H1, rfl, I2, turn_enumT a (s1.heap.objs.size + 1) s1.heap.objs.size, ⟨⟨.none, he⟩, ⟨_, hit, rfl, rfl⟩, Nat.succ_ne_self _, Nat.ne_of_gt (Nat.lt_succ_of_lt la), Nat.ne_of_gt la⟩, fun b hb => ?_, q⟩
    have e' : b = s1.heap.objs.size + 1 ∨ b = s1.heap.objs.size := by simpa using hb
    have hle : s1.heap.objs.size ≤ b := by
      rcases e' with z | z
      · rw [z]; exact Nat.le_add_right _ _
      · rw [z]; exact Nat.le_refl _
    exact I1.fpOk hle (I1.hok.fresh hle)
theorem walk_enumT {K : PySem.W.Frag} {a : Addr} {xs : List V} : Walk (IteT K a) xs.length (fun H => SqT K H a xs) (YPair (fun i => some (.int (i : Nat))) (fun i => xs[i]?)) := by
  refine ⟨fun i _ hi q => ⟨xs, xs[i], q, by simp [hi]⟩, fun _ q => ⟨xs, q, rfl⟩, fun i H v H' _ q y => ?_⟩
  obtain ⟨T, x, h1, h2, h3, h4⟩ := y
  exact ⟨T, .int (i : Nat), x, h1, h2, h3, rfl, h4 xs q⟩
/-! ## two readings of one text -/
def iOr (a b : TI) : TI := fun σ H R => a σ H R ∨ b σ H R
theorem pi_or {X : Cx} {tg it : Expr} {a b : TI} (h1 : PI X tg it a) (h2 : PI X tg it b) : PI X tg it (iOr a b) :=
  ⟨fun pins s σ H R I h => h.elim (fun h => h1.run pins s σ H R I h) (fun h => h2.run pins s σ H R I h)⟩
end
def SeqH (H : Hp) (a : Addr) (xs : List V) : Prop := H a = some (.lst xs) ∨ H a = some (.tup xs)
theorem SeqH.same {H H' : Hp} {a : Addr} {xs : List V} (s : Same H H') : SeqH H a xs → SeqH H' a xs := Or.imp (s _ _) (s _ _)
section
variable {K : PySem.W.Frag} {σ : L2.St} {H : Hp} {a : Addr} {xs : List V} {R : It → Hp → Prop} {i : Nat}
theorem ior_enum (hσ : σ[i]? = some (some (.ref a))) (h : SeqH H a xs) (k : ∀ (J : It) (G : Hp → Prop), Walk J xs.length G (YPair (fun i => some (.int (i : Nat))) (fun i => xs[i]?)) → (∀ H', Same H H' → G H') → R J H) : iOr (iEnum K (tCons (tVar i) tNil)) (iEnumT K (tCons (tVar i) tNil)) σ H R := by
  rcases h with h | h
  · exact .inl ⟨_, hσ, a, xs, rfl, SqL.of h, k _ _ walk_enum fun H' s => SqL.of (s _ _ h)⟩
  · exact .inr ⟨_, hσ, a, xs, rfl, SqT.of h, k _ _ walk_enumT fun H' s => SqT.of (s _ _ h)⟩
theorem ior_seq (hσ : σ[i]? = some (some (.ref a))) (h : SeqH H a xs) (k : ∀ (J : It) (G : Hp → Prop), Walk J xs.length G (YAt xs) → (∀ H', Same H H' → G H') → R J H) : iOr (iList K (tVar i)) (iTup K (tVar i)) σ H R := by
  rcases h with h | h
  · exact .inl ⟨_, hσ, a, rfl, ⟨xs, SqL.of h⟩, k _ _ walk_list fun H' s => SqL.of (s _ _ h)⟩
  · exact .inr ⟨_, hσ, a, rfl, ⟨xs, SqT.of h⟩, k _ _ walk_tup fun H' s => SqT.of (s _ _ h)⟩
end
/-- no list and no tuple -/
inductive NsV (H : Hp) : V → Prop where
  | non : NsV H .non
  | bl (b : Bool) : NsV H (.bl b)
  | int (i : Int) : NsV H (.int i)
  | str (z : Str) : NsV H (.str z)
  | dic {a : Addr} {kvs : List (Key × V)} (e : H a = some (.dK kvs)) : NsV H (.ref a)
theorem NsV.ty {K : PySem.W.Frag} {H : Hp} {v : V} (h : NsV H v) : ∃ t, TyX K H v t ∧ PySem.W.kitOne K t (.type "list") = some false ∧ PySem.W.kitOne K t (.type "tuple") = some false := by
  cases h with
  | non => exact ⟨_, .base .non, kit_ty (by decide +kernel), kit_ty (by decide +kernel)⟩
  | bl b => exact ⟨_, .base (.bl b), kit_ty (by decide +kernel), kit_ty (by decide +kernel)⟩
  | int i => exact ⟨_, .base (.int i), kit_ty (by decide +kernel), kit_ty (by decide +kernel)⟩
  | str z => exact ⟨_, .base (.str z), kit_ty (by decide +kernel), kit_ty (by decide +kernel)⟩
  | dic e => exact ⟨_, .base (.dK e), kit_ty (by decide +kernel), kit_ty (by decide +kernel)⟩
theorem NsV.same {H H' : Hp} {v : V} (s : Same H H') (h : NsV H v) : NsV H' v := by
  cases h with
  | non => exact .non
  | bl b => exact .bl b
  | int i => exact .int i
  | str z => exact .str z
  | dic e => exact .dic (s _ _ e)
def atE (CI : Addr) (v : V) (H : Hp) (E : XK) : Prop := ∀ H' d, Same H H' → H' d = some (.xd [("at", v)]) → H d = none → E (.ref CI) (some d) H'
theorem atE.same {CI : Addr} {v : V} {H H1 : Hp} {E : XK} (s : Same H H1) (k : atE CI v H E) : atE CI v H1 E := fun H' d s' e n => k H' d (s.trans s') e (s.free n)
def CalX (P : Program) (w : World) (K : PySem.W.Frag) (mg : Str → Option Value) (base : Heap) (k : Nat) (x : Str) (ps : List Str) (sp : Sp) : Prop :=
  ∃ (f : Addr) (fd : FuncData), mg x = some (.ref f) ∧ PySem.W.keepIn K (.ref f) = true ∧ Binds K fd ps [] ∧ FnOk P w K mg base (L2.CX P w) k f fd ps sp
section
variable {P : Program} {w : World} {K : PySem.W.Frag} {mg : Str → Option Value} {base : Heap}
structure PlnX (K : PySem.W.Frag) (mg : Str → Option Value) (x : Str) (C : Addr) : Prop where
  g : mg x = some (.ref C)
  x : PySem.W.excIn K C He.veBase "ValueError.__new__" = true
  o : OexC K C
/-- an own __init__ of one parameter -/
def spI1 (C : Addr) (a : Str) : Sp := fun vs H Q _ => ∃ (e : Addr) (l : V), vs = [.ref e, l] ∧ H e = some (exo e C none) ∧ ∀ dx, H dx = none → Q .non (upd (upd H dx (exd dx [(a, l)])) e (exo e C (some dx)))
theorem raise_i1 {C : Addr} {a : Str} {H : Hp} {l : V} {Q : XK} (k : ∀ H' d, Same H H' → H' d = some (.xd [(a, l)]) → H d = none → Q (.ref C) (some d) H') :
    ([l] : List V).length ≤ 1000 ∧ ∀ e, H e = none → spI1 C a (.ref e :: ([l] ++ [])) (upd H e (exo e C none)) (fun v H2 => v = .non ∧ ∃ (d : Addr) (fs : List (Str × V)), H2 e = some (exo e C (some d)) ∧ H2 d = some (exd d fs) ∧ H d = none ∧ Q (.ref C) (some d) (upd (del H2 e) d (.xd fs))) (fun _ _ _ => False) := by
  refine ⟨by show 1 ≤ 1000; decide, fun e he => ⟨e, l, rfl, upd_same, fun dx hd => ?_⟩⟩
  have hne : dx ≠ e := fun z => by rw [z, upd_same] at hd; cases hd
  have hd0 : H dx = none := by rw [upd_ne hne] at hd; exact hd
  refine ⟨rfl, dx, _, upd_same, by rw [upd_ne hne, upd_same], hd0, k _ _ (fun b o q => ?_) upd_same hd0⟩
  have n1 : b ≠ dx := ne_of_none q hd0
  have n2 : b ≠ e := ne_of_none q he
  rw [upd_ne n1, del_ne n2, upd_ne n2, upd_ne n1, upd_ne n2]
  exact q
structure Ix1 (P : Program) (w : World) (K : PySem.W.Frag) (mg : Str → Option Value) (base : Heap) (x : Str) (C : Addr) (a : Str) : Prop where
  g : mg x = some (.ref C)
  o : OexC K C
  i : ∃ (f : Addr) (fd : FuncData), PySem.W.findIn K (.ref C) "__init__" = some (some (.ref f)) ∧ PySem.W.typeIn K (.ref f) = some (.type "function") ∧ FnOk P w K mg base CX0 1 f fd ["self", a] (spI1 C a) ∧ Binds K fd ["self", a] []
theorem sc_bsp : ScopeS ["self", "at"] (defScope s_BadSpans___init__) := ⟨rfl, rfl, rfl, by decide +kernel, by decide +kernel, by decide +kernel, rfl, rfl⟩
theorem ok_bsp {f cc cda C : Addr} {fd : FuncData} (F : SupF P K mg C f cc cda "BadSpans.__init__" (defArgs s_BadSpans___init__) (defBody s_BadSpans___init__) (defScope s_BadSpans___init__) fd) (T : OexC K C) (n1 : PySem.W.findIn K (.ref C) "at" = some none) :
    FnOk P w K mg base CX0 1 f fd ["self", "at"] (spI1 C "at") := by
  refine fn_super F T sc_bsp ⟨fun _ _ _ _ => rfl, fun _ _ _ _ => rfl, ⟨_, fun _ _ _ _ => rfl⟩⟩ rfl rfl (fun vs H Q E h => ?_) (fun vs H Q E h => ?_) (fun A outer s H vs Q E h => ?_)
  · obtain ⟨e, l, rfl, _⟩ := h
    rfl
  · obtain ⟨e, l, rfl, he, _⟩ := h
    exact ⟨e, _, rfl, he⟩
  · obtain ⟨e, l, rfl, he, k⟩ := h
    refine ⟨_, PSs.nox (pss_one (ps_ost (pv 0) (pv 1))), ?_⟩
    exact ⟨_, rfl, _, rfl, e, C, rfl, T, n1, .inl ⟨he, fun dx hd _ => k dx hd⟩⟩
end
def spNum : Sp := fun vs H Q _ => ∃ x, vs = [x] ∧ ((∃ i, x = .int i ∧ Q (.bl true) H) ∨ (OtV H x ∧ Q (.bl false) H))
section
variable {P : Program} {w : World} {K : PySem.W.Frag} {mg : Str → Option Value} {base : Heap}
theorem sc_is_number : FnScope ["thing"] ["thing"] (defScope s_is_number) := ⟨rfl, rfl, rfl, by decide +kernel, rfl, by decide +kernel, by decide +kernel⟩
theorem ok_is_number {CX : CXT} {f : Addr} {fd : FuncData} (F : FnP K "is_number" s_is_number f fd) (G : NkF K mg) : FnOk P w K mg base CX 1 f fd ["thing"] spNum := by
  refine F.ok sc_is_number (fun vs H Q E h => ?_) (fun cdv A outer s H vs Q E hr h => ?_)
  · obtain ⟨x, rfl, _⟩ := h
    rfl
  · obtain ⟨x, rfl, h⟩ := h
    refine ⟨_, PSs.nox (pss_one (ps_ret (pe_and (pe_callB call_isi (by rfl) G.isi (by decide +kernel) (pa_cons (pv 0) (pa_cons (pe_bltn (v := .ty "int") (by rfl) G.int (by decide +kernel) rfl) pa_nil)))
      (pe_one (pe_not (pe_callB call_isi (by rfl) G.isi (by decide +kernel) (pa_cons (pv 0) (pa_cons (pe_bltn (v := .ty "bool") (by rfl) G.bool (by decide +kernel) rfl) pa_nil)))))))), ?_⟩
    rcases h with ⟨i, rfl, q⟩ | ⟨h, q⟩
    · exact ⟨_, rfl, _, _, _, _, true, rfl, .ty "int", .base (.int i), kit_ty (by decide +kernel), _, rfl, iteT ⟨_, rfl, _, _, _, _, false, rfl, .ty "bool", .base (.int i), kit_ty (by decide +kernel), _, rfl, q⟩⟩
    · have no : ∀ t, TyX K H x t → PySem.W.kitOne K t (.type "int") = some false → tRet (tAndV (tCB (rIsi K) (tCons (tVar 0) (tCons (tC (.ty "int")) tNil))) (tNotV (tCB (rIsi K) (tCons (tVar 0) (tCons (tC (.ty "bool")) tNil))))) { nx := fun _ H' => Q .non H', rt := Q } (start ["thing"] [x]) H :=
        fun t h1 h2 => ⟨_, rfl, _, _, _, _, false, rfl, .ty "int", h1, h2, _, rfl, iteF q⟩
      cases h with
      | non => exact no _ (.base .non) (kit_ty (by decide +kernel))
      | bl b => exact ⟨_, rfl, _, _, _, _, true, rfl, .ty "int", .base (.bl b), kit_ty (by decide +kernel), _, rfl, iteT ⟨_, rfl, _, _, _, _, true, rfl, .ty "bool", .base (.bl b), kit_ty (by decide +kernel), _, rfl, q⟩⟩
      | str z => exact no _ (.base (.str z)) (kit_ty (by decide +kernel))
      | lst e => exact no _ (.base (.lst e)) (kit_ty (by decide +kernel))
      | tup e => exact no _ (.base (.tup e)) (kit_ty (by decide +kernel))
      | dic e => exact no _ (.base (.dK e)) (kit_ty (by decide +kernel))
end
/-! ## k57: what is a span -/
def f0D : PyData → Bool
  | .int i => decide (0 ≤ i)
  | _ => false
def spanD : PyData → Bool
  | .tuple [.int a, .int b, .int c] => decide (0 ≤ a) && (decide (0 ≤ b) && (decide (0 ≤ c) && (decide (a ≤ b) && decide (b ≤ 999))))
  | _ => false
theorem iteN1 {A B : Prop} (h : B) : if (!true) = true then A else B := iteF h
theorem f0_int {d : PyData} (h : f0D d = true) : ∃ i : Int, d = .int i ∧ 0 ≤ i := by
  cases d <;> first | cases h | exact ⟨_, rfl, of_decide_eq_true h⟩
theorem span_no {d1 d2 d3 : PyData} (h : ¬ (f0D d1 = true ∧ f0D d2 = true ∧ f0D d3 = true)) : spanD (.tuple [d1, d2, d3]) = false := by
  unfold spanD
  split
  · rename_i a b c e
    injection e with e
    injection e with e1 e
    injection e with e2 e
    injection e with e3 _
    subst e1 e2 e3
    by_cases h1 : (0 : Int) ≤ a
    · by_cases h2 : (0 : Int) ≤ b
      · by_cases h3 : (0 : Int) ≤ c
        · exact absurd ⟨decide_eq_true h1, decide_eq_true h2, decide_eq_true h3⟩ h
        · rw [decide_eq_false h3, Bool.false_and, Bool.and_false, Bool.and_false]
      · rw [decide_eq_false h2, Bool.false_and, Bool.and_false]
    · rw [decide_eq_false h1, Bool.false_and]
  · rfl
theorem DtA.three {G : Addr → Prop} {H : Hp} {xs : List V} {d1 d2 d3 : PyData} (h : DtA G H xs [d1, d2, d3]) : ∃ x1 x2 x3, xs = [x1, x2, x3] ∧ Dt G H x1 d1 ∧ Dt G H x2 d2 ∧ Dt G H x3 d3 := by
  cases h with
  | cons a h =>
    cases h with
    | cons b h =>
      cases h with
      | cons c h =>
        cases h
        exact ⟨_, _, _, rfl, a, b, c⟩
theorem Dt.intI {G : Addr → Prop} {H : Hp} {x : V} {n : Int} (h : Dt G H x (.int n)) : x = .int n := by cases h; rfl
theorem num_ofA {K : PySem.W.Frag} {H : Hp} {x : V} {d : PyData} {Q : VK} (h : Dt anyA H x d) (k : Q (.bl (numD d)) H) : spNum [x] H Q C8.E0 := by
  rcases dt_num h with ⟨n, rfl, rfl⟩ | ⟨ho, hn⟩
  · exact ⟨_, rfl, .inl ⟨n, rfl, k⟩⟩
  · rw [hn] at k
    exact ⟨_, rfl, .inr ⟨ho, k⟩⟩
section
variable {P : Program} {w : World} {K : PySem.W.Frag} {mg : Str → Option Value} {base : Heap}
theorem sc_is_from_0 : FnScope ["thing"] ["thing"] (defScope s_is_from_0) := ⟨rfl, rfl, rfl, by decide +kernel, rfl, by decide +kernel, by decide +kernel⟩
theorem ok_from0 {CX : CXT} {f : Addr} {fd : FuncData} (F : FnP K "is_from_0" s_is_from_0 f fd) (c_is_number : Cal P w K mg base 1 "is_number" ["thing"] spNum) : FnOk P w K mg base CX 2 f fd ["thing"] (spDa f0D) := by
  obtain ⟨f_is_number, fd_is_number, g_is_number, k_is_number, b_is_number, G_is_number⟩ := c_is_number
  refine F.ok sc_is_from_0 (fun vs H Q E h => ?_) (fun cdv A outer s H vs Q E hr h => ?_)
  · obtain ⟨x, d, rfl, _⟩ := h
    rfl
  · obtain ⟨x, d, rfl, hx, k⟩ := h
    have nd := sc_is_from_0.nd
    apply Exists.intro
    apply And.intro
    case left =>
     apply PSs.nox
     apply pss_one
     exact (ps_ret (pe_and (pe_call G_is_number (hr.mono (by decide)) rfl g_is_number k_is_number b_is_number .nil pass0 (pa_cons (pv 0) pa_nil)) (pe_one (pe_cmpR op_ge (pv 0) pe_int (nomark _)))))
    case right =>
      have k := k _ (Same.refl _)
      refine ⟨_, rfl, ?_⟩
      dsimp only [tNil]
      refine num_ofA (K := K) hx ⟨_, rfl, ?_⟩
      rcases dt_num hx with ⟨n, rfl, rfl⟩ | ⟨ho, hn⟩
      · exact iteT ⟨_, rfl, _, _, rfl, rfl, k⟩
      · rw [hn]
        have e2 : f0D d = false := by cases d <;> first | rfl | cases hn
        rw [e2] at k
        exact iteF k
theorem sc_is_span : FnScope ["thing", "part"] ["thing"] (defScope s_is_span) := ⟨rfl, rfl, rfl, by decide +kernel, rfl, by decide +kernel, by decide +kernel⟩
theorem ok_span {CX : CXT} {f : Addr} {fd : FuncData} {t9 : Tok} (F : FnP K "is_span" s_is_span f fd) (c_is_from_0 : Cal P w K mg base 2 "is_from_0" ["thing"] (spDa f0D)) (G : NkF K mg) (m_all : mg "all" = none) (tup : mg "tuple" = none) (g_MOST_POSITION : mg "MOST_POSITION" = some (.int 999 t9)) : FnOk P w K mg base CX 3 f fd ["thing"] (spDa spanD) := by
  obtain ⟨f_is_from_0, fd_is_from_0, g_is_from_0, k_is_from_0, b_is_from_0, G_is_from_0⟩ := c_is_from_0
  refine F.ok sc_is_span (fun vs H Q E h => ?_) (fun cdv A outer s H vs Q E hr h => ?_)
  · obtain ⟨x, d, rfl, _⟩ := h
    rfl
  · obtain ⟨x, d, rfl, hx, k⟩ := h
    have nd := sc_is_span.nd
    apply Exists.intro
    apply And.intro
    case left =>
     apply PSs.nox
     apply pss_cons
     · exact (ps_if (PW.pt (pw_or (pt_not (pt_val (pe_callB call_isi (by rfl) G.isi (by decide +kernel) (pa_cons (pv 0) (pa_cons (pe_bltn (v := .ty "tuple") (by rfl) tup (by decide +kernel) rfl) pa_nil))))) (pw_or (pt_cmpR op_ne (pe_callB call_len (by rfl) G.len PySem.boot_len (pa_cons (pv 0) pa_nil)) pe_int (nomark _)) (pw_or1 (pt_not (pt_val (pe_callB (cr_all rfl) (by rfl) m_all (by decide +kernel) (pa_cons (pe_lc (own := [("part", 1)]) (g := gName 1) rfl nd (pi_tup (pv 0)) (blkOk_by (own := [("part", 1)]) (N := ["thing", "part"]) (sc := defScope s_is_span) (by decide +kernel)) (fun _ _ _ _ _ => (pg_name (i := 1) nd rfl (Or.inl rfl))) (fun _ _ _ _ _ => pts_nil) (fun _ _ _ _ _ => (pe_call G_is_from_0 (hr.mono (by decide)) rfl g_is_from_0 k_is_from_0 b_is_from_0 .nil pass0 (pa_cons (pv 1) pa_nil)))) pa_nil)))))))) (pss_one (ps_ret pe_bl)) pss_nil)
     apply pss_one
     exact (ps_ret (pe_chain op_le op_le (pe_ix ix_seq (pv 0) pe_int (fun _ _ => rfl)) (pe_ix ix_seq (pv 0) pe_int (fun _ _ => rfl)) (pe_glob (v := .int 999) (by rfl) g_MOST_POSITION ⟨_, rfl⟩)))
    case right =>
      rcases dt_tup (K := K) hx with ⟨a, xs, ds, rfl, rfl, ha, hA⟩ | ⟨⟨ty, h1, h2⟩, hn⟩
      rotate_left
      · have e2 : spanD d = false := by cases d <;> first | rfl | exact absurd rfl (hn _)
        rw [e2] at k
        exact ⟨_, rfl, _, _, _, _, false, rfl, .ty "tuple", h1, h2, _, rfl, iteN0 (iteT (k _ (Same.refl _)))⟩
      have hl := hA.length
      refine ⟨_, rfl, _, _, _, _, true, rfl, .ty "tuple", .base (.tup ha), kit_ty (by decide +kernel), _, rfl, iteN1 ?_⟩
      refine ⟨_, rfl, _, _, rfl, .inr ⟨_, SqT.of ha, rfl⟩, rfl, _, rfl, ?_⟩
      by_cases c3 : ds.length = 3
      rotate_left
      · have e2 : spanD (.tuple ds) = false := by
          unfold spanD
          split
          · rename_i e
            injection e with e
            subst e
            exact absurd rfl c3
          · rfl
        rw [e2] at k
        rw [decide_eq_false (show ¬ V.int ((xs.length : Nat) : Int) = V.int 3 from fun z => c3 (by injection z with z; omega))]
        exact iteT (k _ (Same.refl _))
      rw [decide_eq_true (show V.int ((xs.length : Nat) : Int) = V.int 3 by rw [hl, c3]; rfl)]
      refine iteF ?_
      refine ⟨_, rfl, a, rfl, ⟨_, SqT.of ha⟩, fun D hD => ?_⟩
      refine lc_tup (K := K) (a := a) (xs := xs) (fun i H' => Same H H' ∧ H' D = some (.lst (((ds.map f0D).take i).map V.bl))) ⟨same_new hD, upd_same⟩ (fun i H' _ h => SqT.of (h.1 _ _ ha)) ?_ ?_
      · rintro i y H' hi ⟨s1, e1⟩
        obtain ⟨dd, hdd, hy⟩ := hA.at hi
        refine ⟨rfl, yesIf ⟨_, rfl, y, dd, rfl, hy.same s1, fun H2 s2 => ⟨_, s2 _ _ e1, ?_, same_sub (s1.trans s2) hD, ?_⟩⟩⟩
        · rw [List.length_map]
          exact Nat.lt_of_le_of_lt (List.length_take_le' _ _) (by rw [List.length_map, c3]; decide)
        · rw [upd_same, take_snoc2 (l := ds.map f0D) (a := f0D dd) (by rw [List.getElem?_map, hdd]; rfl), List.map_append]
          rfl
      rintro H1 ⟨s1, e1⟩
      rw [hl, ← List.length_map (f := f0D), List.take_length] at e1
      obtain ⟨d1, d2, d3, rfl⟩ : ∃ d1 d2 d3, ds = [d1, d2, d3] := by
        match ds, c3 with
        | [d1, d2, d3], _ => exact ⟨_, _, _, rfl⟩
      refine ⟨D, _, rfl, SqL.of e1, _, rfl, ?_⟩
      by_cases hf : f0D d1 = true ∧ f0D d2 = true ∧ f0D d3 = true
      rotate_left
      · rw [span_no hf] at k
        have e : ([d1, d2, d3].map f0D).all id = false := by
          cases h1 : f0D d1 <;> cases h2 : f0D d2 <;> cases h3 : f0D d3 <;> simp [h1, h2, h3] at hf ⊢
        rw [e]
        exact iteN0 (k _ s1)
      obtain ⟨h1, h2, h3⟩ := hf
      have e : ([d1, d2, d3].map f0D).all id = true := by simp [h1, h2, h3]
      rw [e]
      refine iteN1 ?_
      obtain ⟨n1, rfl, p1⟩ := f0_int h1
      obtain ⟨n2, rfl, p2⟩ := f0_int h2
      obtain ⟨n3, rfl, p3⟩ := f0_int h3
      obtain ⟨x1, x2, x3, rfl, y1, y2, y3⟩ := hA.three
      have y1 := y1.intI
      have y2 := y2.intI
      subst y1 y2
      have ha1 := s1 _ _ ha
      have k := k _ s1
      rw [show spanD (.tuple [.int n1, .int n2, .int n3]) = (decide (n1 ≤ n2) && decide (n2 ≤ 999)) by
        show (decide (0 ≤ n1) && (decide (0 ≤ n2) && (decide (0 ≤ n3) && _))) = _
        rw [decide_eq_true p1, decide_eq_true p2, decide_eq_true p3]
        rfl] at k
      refine ⟨_, rfl, .inr (.inl ⟨_, _, _, _, rfl, rfl, SqT.of ha1, rfl, _, rfl, .inr (.inl ⟨_, _, _, _, rfl, rfl, SqT.of ha1, rfl, _, _, rfl, rfl, _, rfl, ?_⟩)⟩)⟩
      by_cases c1 : n1 ≤ n2
      · rw [decide_eq_true c1] at k ⊢
        exact iteT ⟨_, _, rfl, rfl, k⟩
      · rw [decide_eq_false c1] at k ⊢
        exact iteF k
end
/-! ## k57: what is needed -/
def spNeedS (C : Addr) : Sp := fun vs H Q E => ∃ x, vs = [x] ∧ ((NsV H x ∧ atE C .non H E) ∨ ∃ a xs ds, x = .ref a ∧ SeqH H a xs ∧ DtA anyA H xs ds ∧ ((400 < ds.length ∧ atE C .non H E) ∨ (ds.length ≤ 400 ∧
  (((∀ d ∈ ds, spanD d = true) ∧ ∀ H', Same H H' → Q .non H') ∨ ∃ i d, ds[i]? = some d ∧ spanD d = false ∧ (∀ j, j < i → ∀ e, ds[j]? = some e → spanD e = true) ∧ atE C (.int ((i : Nat) : Int)) H E))))
def spNeedM (C : Addr) : Sp := fun vs H Q E => ∃ x, vs = [x, .int 0] ∧ ((∃ r : Nat, x = .int (r : Int) ∧ r ≤ 20 ∧ Q .non H) ∨ (((∃ i : Int, x = .int i ∧ (i < 0 ∨ 20 < i)) ∨ OtV H x) ∧ E (.ref C) none H))
section
variable {P : Program} {w : World} {K : PySem.W.Frag} {mg : Str → Option Value} {base : Heap}
theorem sc_need_spans : FnScope ["spans", "at", "span"] ["spans"] (defScope s_need_spans) := ⟨rfl, rfl, rfl, by decide +kernel, rfl, by decide +kernel, by decide +kernel⟩
theorem ok_needS {f C : Addr} {fd : FuncData} {t4 : Tok} (F : FnP K "need_spans" s_need_spans f fd) (c_is_span : Cal P w K mg base 3 "is_span" ["thing"] (spDa spanD)) (G : NkF K mg) (B : Ix1 P w K mg base "BadSpans" C "at") (tup : mg "tuple" = none) (lis : mg "list" = none) (m_enumerate : mg "enumerate" = none) (g_MOST_SPANS : mg "MOST_SPANS" = some (.int 400 t4)) :
    FnOk P w K mg base (L2.CX P w) 4 f fd ["spans"] (spNeedS C) := by
  obtain ⟨f_is_span, fd_is_span, g_is_span, k_is_span, b_is_span, G_is_span⟩ := c_is_span
  obtain ⟨fi, fdi, iC, tI, OI, bi⟩ := B.i
  refine F.ok sc_need_spans (fun vs H Q E h => ?_) (fun cdv A outer s H vs Q E hr h => ?_)
  · obtain ⟨x, rfl, _⟩ := h
    rfl
  · obtain ⟨x, rfl, h⟩ := h
    have nd := sc_need_spans.nd
    apply Exists.intro
    apply And.intro
    case left =>
     apply pss_cons
     · exact (ps_if (PW.pt (pw_or (pt_not (pt_val (pe_callB call_isiT (by rfl) G.isi (by decide +kernel) (pa_cons (pv 0) (pa_cons (pe_tup (pa_cons (pe_bltn (v := .ty "list") (by rfl) lis (by decide +kernel) rfl) (pa_cons (pe_bltn (v := .ty "tuple") (by rfl) tup (by decide +kernel) rfl) pa_nil))) pa_nil))))) (pw_or1 (pt_cmpR op_gt (pe_callB call_len (by rfl) G.len PySem.boot_len (pa_cons (pv 0) pa_nil)) (pe_glob (v := .int 400) (by rfl) g_MOST_SPANS ⟨_, rfl⟩) (nomark _))))) (pss_one (ps_raise rfl (takes_of rfl rfl rfl rfl) (pmk_oex B.o iC tI OI (hr.mono (show 2 ≤ 3 by decide)) bi .nil pass0 rfl B.g (pa_cons pe_non pa_nil)))) pss_nil)
     apply pss_one
     apply ps_for (passes_of rfl) rfl
     · exact (pi_or (pi_enum (by rfl) m_enumerate (pa_cons (pv 0) pa_nil)) (pi_enumT (by rfl) m_enumerate (pa_cons (pv 0) pa_nil)))
     · exact (pg_tup rfl (pgs_cons (pg_name (i := 1) nd rfl (Or.inl rfl)) (pgs_cons (pg_name (i := 2) nd rfl (Or.inl rfl)) pgs_nil)))
     · apply pss_one
       exact (ps_if (pt_not (pt_val (pe_call G_is_span (hr.mono (by decide)) rfl g_is_span k_is_span b_is_span .nil pass0 (pa_cons (pv 2) pa_nil)))) (pss_one (ps_raise rfl (takes_of rfl rfl rfl rfl) (pmk_oex B.o iC tI OI (hr.mono (show 2 ≤ 3 by decide)) bi .nil pass0 rfl B.g (pa_cons (pv 1) pa_nil)))) pss_nil)
    case right =>
      rcases h with ⟨hN, q⟩ | ⟨a, xs, ds, rfl, hS, hA, h⟩
      · refine ⟨_, rfl, (show 2 ≤ sizeLine by decide), fun p hp => ?_⟩
        obtain ⟨t, h1, h2, h3⟩ := (hN.same (same_new (o := .tup [.ty "list", .ty "tuple"]) hp)).ty (K := K)
        exact ⟨x, p, _, t, [.type "list", .type "tuple"], false, rfl, upd_same, .cons (.ty _) (.cons (.ty _) .nil), h1, kitAny_cons h2 (fun _ => kitAny_cons h3 (fun _ => kitAny_nil) fun z => by cases z) (fun z => by cases z), _, rfl, iteN0 (iteT (raise_i1 (q.same (same_new hp))))⟩
      · refine ⟨_, rfl, (show 2 ≤ sizeLine by decide), fun p hp => ?_⟩
        have sp := same_new (o := .tup [.ty "list", .ty "tuple"]) hp
        have kit : ∃ t, TyX K (upd H p (.tup [.ty "list", .ty "tuple"])) (.ref a) t ∧ PySem.W.kitAny K t [.type "list", .type "tuple"] = some true := by
          rcases hS with h | h
          · exact ⟨_, .base (.lst (sp _ _ h)), kitAny_cons (kit_ty (b := "list") (r := true) (by decide +kernel)) (fun z => by cases z) fun _ => rfl⟩
          · exact ⟨_, .base (.tup (sp _ _ h)), kitAny_cons (kit_ty (b := "list") (r := false) (by decide +kernel)) (fun _ => kitAny_cons (kit_ty (b := "tuple") (r := true) (by decide +kernel)) (fun z => by cases z) fun _ => rfl) fun z => by cases z⟩
        obtain ⟨t, h1, h2⟩ := kit
        refine ⟨.ref a, p, _, t, [.type "list", .type "tuple"], true, rfl, upd_same, .cons (.ty _) (.cons (.ty _) .nil), h1, h2, _, rfl, iteN1 ?_⟩
        clear h1 h2
        have hS := hS.same sp
        have hA := hA.same sp
        have hl := hA.length
        refine ⟨_, rfl, _, _, rfl, hS.imp (fun e => ⟨_, SqL.of e, rfl⟩) (fun e => ⟨_, SqT.of e, rfl⟩), _, _, rfl, rfl, _, rfl, ?_⟩
        rcases h with ⟨h4, q⟩ | ⟨h4, h⟩
        · rw [decide_eq_true (show (400 : Int) < ((xs.length : Nat) : Int) by omega)]
          exact iteT (raise_i1 (q.same sp))
        rw [decide_eq_false (show ¬ (400 : Int) < ((xs.length : Nat) : Int) by omega)]
        refine iteF ?_
        have h : ((∀ d ∈ ds, spanD d = true) ∧ ∀ H', Same (upd H p (.tup [.ty "list", .ty "tuple"])) H' → Q .non H') ∨ ∃ i d, ds[i]? = some d ∧ spanD d = false ∧ (∀ j, j < i → ∀ e, ds[j]? = some e → spanD e = true) ∧ atE C (.int ((i : Nat) : Int)) (upd H p (.tup [.ty "list", .ty "tuple"])) E := by
          rcases h with ⟨h, k⟩ | ⟨i, d, g1, g2, g3, k⟩
          · exact .inl ⟨h, fun H' s' => k H' (sp.trans s')⟩
          · exact .inr ⟨i, d, g1, g2, g3, k.same sp⟩
        generalize upd H p (.tup [.ty "list", .ty "tuple"]) = H1 at hS hA h ⊢
        refine ior_enum rfl hS fun J GG hw hG => ?_
        refine for_it hw (fun i σ H' => Same H1 H' ∧ (∀ j, j < i → ∀ e, ds[j]? = some e → spanD e = true) ∧ ∃ v1 v2, σ = [some (.ref a), v1, v2]) ⟨Same.refl _, fun _ z => absurd z (Nat.not_lt_zero _), none, none, rfl⟩ (fun i σ H' _ h => hG _ h.1) ?_ ?_
        · rintro i x σ H' Hx hi ⟨s1, hok, v2, v3, rfl⟩ ⟨Tp, x1, x2, rfl, hT, rfl, hx1, hx2⟩
          cases hx1
          obtain ⟨dd, hdd, hy⟩ := hA.at hx2
          have sTp := same_new (o := .tup [.int (i : Int), x2]) hT
          refine ⟨Tp, _, rfl, SqT.of upd_same, rfl, _, _, rfl, _, _, rfl, rfl, _, rfl, x2, dd, rfl, hy.same (s1.trans sTp), fun H3 s3 => ⟨_, rfl, ?_⟩⟩
          cases hq : spanD dd with
          | false =>
            refine iteN0 ⟨_, rfl, raise_i1 ?_⟩
            rcases h with ⟨h, _⟩ | ⟨i0, d0, g1, g2, g3, k⟩
            · rw [h dd (List.mem_of_getElem? hdd)] at hq
              cases hq
            · have ei : i = i0 := by
                rcases Nat.lt_trichotomy i i0 with z | z | z
                · rw [g3 i z dd hdd] at hq
                  cases hq
                · exact z
                · rw [hok i0 z d0 g1] at g2
                  cases g2
              subst ei
              exact k.same ((s1.trans sTp).trans s3)
          | true =>
            refine iteN1 ⟨(s1.trans sTp).trans s3, fun j hj e he => ?_, _, _, rfl⟩
            rcases Nat.lt_succ_iff_lt_or_eq.mp hj with z | z
            · exact hok j z e he
            · subst z
              rw [hdd] at he
              cases he
              exact hq
        · rintro σ H2 ⟨s1, hok, v2, v3, rfl⟩
          rcases h with ⟨h, k⟩ | ⟨i0, d0, g1, g2, g3, _⟩
          · exact k _ s1
          · rw [hok i0 (by rw [hl]; exact (List.getElem?_eq_some_iff.mp g1).1) d0 g1] at g2
            cases g2
theorem sc_need_room : FnScope ["room", "least_room"] ["room", "least_room"] (defScope s_need_room) := ⟨rfl, rfl, rfl, by decide +kernel, rfl, by decide +kernel, by decide +kernel⟩
theorem ok_needM {f C : Addr} {fd : FuncData} {t2 : Tok} (F : FnP K "need_room" s_need_room f fd) (c_is_number : Cal P w K mg base 1 "is_number" ["thing"] spNum) (g_MOST_ROOM : mg "MOST_ROOM" = some (.int 20 t2)) (B : PlnX K mg "BadRoom" C) : FnOk P w K mg base (L2.CX P w) 2 f fd ["room", "least_room"] (spNeedM C) := by
  obtain ⟨f_is_number, fd_is_number, g_is_number, k_is_number, b_is_number, G_is_number⟩ := c_is_number
  refine F.ok sc_need_room (fun vs H Q E h => ?_) (fun cdv A outer s H vs Q E hr h => ?_)
  · obtain ⟨x, rfl, _⟩ := h
    rfl
  · obtain ⟨x, rfl, h⟩ := h
    have nd := sc_need_room.nd
    refine ⟨_, pss_one (ps_if (PW.pt (pw_or (pt_not (pt_val (pe_call G_is_number (hr.mono (by decide)) rfl g_is_number k_is_number b_is_number .nil pass0 (pa_cons (pv 0) pa_nil)))) (pw_or1 (pt_not (pt_chain op_le op_le (pv 1) (pv 0) (pe_glob (v := .int 20) (by rfl) g_MOST_ROOM ⟨_, rfl⟩))))))
        (pss_one (ps_raise rfl (takes_of rfl rfl rfl rfl) (pmk_own PySem.F.excBase_ValueError B.x B.g B.o.kC (raises_own B.o.exC B.o.tyC) rfl))) pss_nil), ?_⟩
    rcases h with ⟨r, rfl, h9, q⟩ | ⟨⟨i, rfl, hi⟩ | ho, q⟩
    · refine ⟨_, rfl, _, rfl, .inl ⟨_, rfl, _, rfl, iteF ⟨_, rfl, _, rfl, _, _, rfl, rfl, _, rfl, ?_⟩⟩⟩
      rw [decide_eq_true (show (0 : Int) ≤ (r : Int) by omega)]
      refine iteT ⟨_, _, rfl, rfl, _, rfl, ?_⟩
      rw [decide_eq_true (show (r : Int) ≤ 20 by omega)]
      exact iteF q
    · refine ⟨_, rfl, _, rfl, .inl ⟨_, rfl, _, rfl, iteF ⟨_, rfl, _, rfl, _, _, rfl, rfl, _, rfl, ?_⟩⟩⟩
      by_cases c : (0 : Int) ≤ i
      · rw [decide_eq_true c]
        refine iteT ⟨_, _, rfl, rfl, _, rfl, ?_⟩
        rw [decide_eq_false (show ¬ i ≤ 20 by omega)]
        exact iteT q
      · rw [decide_eq_false c]
        exact iteF ⟨_, rfl, iteT q⟩
    · exact ⟨_, rfl, _, rfl, .inr ⟨ho, _, rfl, iteT q⟩⟩
end
/-! ## max(xs, default=d) of a list of ints -/
namespace MxD
open PySem PyProof.Rows
theorem args_maxd (a d : Value) : argsOk "max" ⟨[a], [(Str.ofString "default", d)]⟩ := by unfold argsOk; kernel_rfl
section
variable {prog : Program} {w : World} {A : Around} {R : Result → Shared → Prop} {I : Addr} {fp wr : List Addr} {n : Nat} {P : Nat → Value → Prop} {St : Nat → Heap → Prop} {d : Value}
/-- what the loop keeps in its list: nothing ahead of the first item, the best one twice behind -/
def Kept (P : Nat → Value → Prop) (bt : Nat → Nat → Bool) (S : Addr) (j : Nat) (h : Heap) : Prop := ∃ c vs, h.get? S = some { cls := .type "list", dict := none, data := .seq vs c, slots := #[] } ∧ ((j = 0 ∧ vs = #[]) ∨ ∃ v i, j = i + 1 ∧ vs = #[v, v] ∧ P (argBest bt i) v)
theorem loop (W : Walks prog w A.in1 I fp wr n P St) (bt : Nat → Nat → Bool) (hcmp : CmpOf prog w A.in1 .Gt P bt) (S : Addr) (hSf : S ∉ fp) :
    ∀ (k j : Nat) (s : Shared), n - j = k → j ≤ n → St j s.heap → Kept P bt S j s.heap →
    (∀ v h' tk, ((n = 0 ∧ v = d) ∨ ∃ i, n = i + 1 ∧ P (argBest bt i) v) → (∀ b o, b ∉ wr → b ≠ S → s.heap.get? b = some o → h'.get? b = some o) → R (.ok (.ret v)) { s with heap := h', toks := tk }) →
    codeAny (model prog w) A (.builtin "max.loop" ⟨[.ref I, .none, .ref S], [(Str.ofString "default", d)]⟩) R s := by
  have hSw : S ∉ wr := fun h => hSf (W.sub _ h)
  have hname : (toString "max" ++ toString ".loop" : String) = "max.loop" := by decide
  intro k
  induction k with
  | zero =>
    intro j s hk hj hst hKp hR
    have hin : j = n := by omega
    subst hin
    obtain ⟨c, vs, hS, hv⟩ := hKp
    refine codeAny_builtin F.entry_max_loop ?_
    rw [Around.under_plainId F.plain_max_loop _]
    show wpAny _ A.in1 (seqItems? (.ref S) >>= _) _ _ s
    refine wpAny_bind (wpAny_seqItems hS rfl ?_)
    rcases hv with ⟨rfl, rfl⟩ | ⟨v, i, rfl, rfl, hP⟩
    · show wpAny _ A.in1 (tryCatch (pyNext (.ref I)) _ >>= _) _ _ s
      refine wpAny_bind (wpAny_tryCatch (W.done s _ _ hst fun h' tk hk' => ?_))
      refine wpAny_bind (wpAny_rule (wpAny_pure ?_))
      exact hR d _ tk (.inl ⟨rfl, rfl⟩) fun b o hbw hbS e => hk' b o hbw e
    · show wpAny _ A.in1 (tryCatch (pyNext (.ref I)) _ >>= _) _ _ s
      refine wpAny_bind (wpAny_tryCatch (W.done s _ _ hst fun h' tk hk' => ?_))
      have hS' := hk' S _ hSw hS
      show wpAny _ A.in1 (updateSeq S (fun _ => #[]) >>= _) _ _ _
      refine wpAny_bind ?_
      refine wpAny_updateSeq hS' rfl (wpAny_bind (wpAny_letGo (wpAny_pure ?_)))
      exact hR v _ tk (.inr ⟨i, rfl, hP⟩) fun b o hbw hbS e => (Heap.get?_update_other _ _ (Ne.symm hbS)).trans (hk' b o hbw e)
  | succ k ih =>
    intro j s hk hj hst hKp hR
    have hlt : j < n := by omega
    obtain ⟨c, vs, hS, hv⟩ := hKp
    refine codeAny_builtin F.entry_max_loop ?_
    rw [Around.under_plainId F.plain_max_loop _]
    show wpAny _ A.in1 (seqItems? (.ref S) >>= _) _ _ s
    refine wpAny_bind (wpAny_seqItems hS rfl ?_)
    rcases hv with ⟨rfl, rfl⟩ | ⟨vb, i, rfl, rfl, hPb⟩
    · show wpAny _ A.in1 (tryCatch (pyNext (.ref I)) _ >>= _) _ _ s
      refine wpAny_bind (wpAny_tryCatch (W.item 0 s _ _ hlt hst fun v h' tk hP hst' hk' => ?_))
      have hS' := hk' S _ hSw hS
      show wpAny _ A.in1 (updateSeq S (fun _ => #[v, v]) >>= _) _ _ _
      refine wpAny_bind ?_
      refine wpAny_updateSeq hS' rfl ?_
      rw [hname]
      refine wpAny_pure ⟨plainId_quiet F.plain_max_loop _, ih 1 _ (by omega) hlt (W.frame _ _ _ hst' fun b hbf o e => ?_) ⟨_, _, Heap.get?_update_self _ hS' rfl, .inr ⟨v, 0, rfl, rfl, hP⟩⟩ fun v' h'' tk'' hP' hk'' => ?_⟩
      · exact (Heap.get?_update_other _ _ (fun h : S = b => hSf (by rw [h]; exact hbf))).trans e
      · exact hR v' h'' tk'' hP' fun b o hbw hbS e => hk'' b o hbw hbS ((Heap.get?_update_other _ _ (Ne.symm hbS)).trans (hk' b o hbw e))
    · show wpAny _ A.in1 (tryCatch (pyNext (.ref I)) _ >>= _) _ _ s
      refine wpAny_bind (wpAny_tryCatch (W.item (i + 1) s _ _ hlt hst fun v h' tk hP hst' hk' => ?_))
      have hS' := hk' S _ hSw hS
      show wpAny _ A.in1 (tryCatch (holding [v, v] (richCompare .Gt v vb >>= _)) _ >>= _) _ _ _
      refine wpAny_bind (wpAny_tryCatch (wpAny_holding (wpAny_bind (hcmp (i + 1) (argBest bt i) v vb _ _ _ hP hPb ?_))))
      refine wpAny_bind (wpAny_holding (wpAny_truthy_bool ?_))
      refine wpAny_bind (wpAny_letGo (wpAny_pure ?_))
      cases hb : bt (i + 1) (argBest bt i) with
      | true =>
        simp only [if_true]
        refine wpAny_bind ?_
        refine wpAny_updateSeq hS' rfl (wpAny_bind (wpAny_letGo ?_))
        rw [hname]
        refine wpAny_pure ⟨plainId_quiet F.plain_max_loop _, ih (i + 1 + 1) _ (by omega) hlt (W.frame _ _ _ hst' fun b hbf o e => ?_) ⟨_, _, Heap.get?_update_self _ hS' rfl, .inr ⟨v, i + 1, rfl, rfl, by simp only [argBest, hb, if_true]; exact hP⟩⟩ fun v' h'' tk'' hP' hk'' => ?_⟩
        · exact (Heap.get?_update_other _ _ (fun h : S = b => hSf (by rw [h]; exact hbf))).trans e
        · exact hR v' h'' tk'' hP' fun b o hbw hbS e => hk'' b o hbw hbS ((Heap.get?_update_other _ _ (Ne.symm hbS)).trans (hk' b o hbw e))
      | false =>
        simp only [Bool.false_eq_true, if_false]
        refine wpAny_bind (wpAny_letGo ?_)
        rw [hname]
        refine wpAny_pure ⟨plainId_quiet F.plain_max_loop _, ih (i + 1 + 1) _ (by omega) hlt hst' ⟨_, _, hS', .inr ⟨vb, i + 1, rfl, rfl, by simp only [argBest, hb, Bool.false_eq_true, if_false]; exact hPb⟩⟩ fun v' h'' tk'' hP' hk'' => ?_⟩
        exact hR v' h'' tk'' hP' fun b o hbw hbS e => hk'' b o hbw hbS (hk' b o hbw e)
end
section
variable {prog : Program} {w : World} {A : Around} {E : Value → Shared → Prop} {s : Shared} {l : Addr} {its : List Value} {ns : List Int} {Q : Value → Shared → Prop} {d : Value}
theorem tree_kw {id : String} {b : Builtin} {args : List Value} {kw : List (Str × Value)} (hk : builtinKind id = none) (hp : plainId id = true) (hb : entryFor table id = some b) (ha : argsOk id ⟨args, kw⟩)
    (hc : wpAny (model prog w) A.in1 (b ⟨args, kw⟩) (fun fin s' => match fin with
      | .done f => (match (Except.ok f : Result) with | .ok (.ret v) => Q v s' | .ok _ => False | .error e => E e s')
      | .again c' => c'.quiet = true ∧ codeAny (model prog w) A c' (fun r s' => match r with | .ok (.ret v) => Q v s' | .ok _ => False | .error e => E e s') s') E s) :
    wpAny (model prog w) A (call (.builtin id) args kw) Q E s := by
  refine wpAny_call (codeAny_call_builtin hp hb ?_)
  simp only [checkBuiltinCall, hk]
  cases hsig : Manifest.signature? id with
  | none => exact wpAny_pure hc
  | some sig =>
    have ha' : Bind.checkArgs id sig ⟨args, kw⟩ = pure () := by simpa only [argsOk, hsig] using ha
    simp only [ha']
    exact wpAny_pure hc
theorem max_def (hh : A.handled = none) (hl : s.heap.IsList l its.toArray) (hi : IntsAre its ns)
    (h : ∀ v h' tk, (∀ b o, s.heap.get? b = some o → h'.get? b = some o) → ((ns = [] ∧ v = d) ∨ ∃ M t, v = .int M t ∧ M ∈ ns ∧ ∀ a, a ∈ ns → a ≤ M) → Q v { s with heap := h', toks := tk }) : wpAny (model prog w) A (call (.builtin "max") [.ref l] [(Str.ofString "default", d)]) Q E s := by
  obtain ⟨xs, e⟩ := hi.allInts.items
  have hn : numsOf (intItems xs).toList = ns := by rw [← e]; exact hi.numsOf
  rw [nums_intItems] at hn
  subst hn
  rw [e] at hl
  have hname : (toString "max" ++ toString ".loop" : String) = "max.loop" := by decide
  refine tree_kw F.kind_max F.plain_max F.entry_max (args_maxd _ _) ?_
  show wpAny _ A.in1 (Builtin.Builtins.bindParams "max" ["key", "default"] 0 ⟨[], [(Str.ofString "default", d)]⟩ >>= _) _ _ s
  refine wpAny_bind (wpAny_of_eq (show Builtin.Builtins.bindParams "max" ["key", "default"] 0 ⟨[], [(Str.ofString "default", d)]⟩ = pure [none, some d] from rfl) ?_)
  refine wpAny_bind (wpAny_pure ?_)
  refine wpAny_bind (iter_intList hl fun s₂ e2 st hfp hlI => ?_)
  subst e2
  refine wpAny_bind (wpAny_newObj_type ?_)
  rw [hname]
  have W := Walks.list (A := A.in1) (prog := prog) (w := w) hh _ l hlI (intItems xs)
  have hSf : (s.heap.push { cls := .type "list_iterator", data := .fields #[.ref l, .int 0 0] }).objs.size ∉ [s.heap.objs.size, l] := fun hm => Nat.lt_irrefl _ (hfp _ hm)
  refine wpAny_pure ⟨plainId_quiet F.plain_max_loop _, loop W (fun i j => decide (numAt xs i > numAt xs j)) (CmpOf.ints_gt (numAt xs) (fun _ _ => intItems_at)) _ hSf _ 0 _ rfl (Nat.zero_le _) (W.frame _ _ _ st fun b _ o e => Heap.get?_push_of_some _ e) ⟨_, _, Heap.get?_push_size _ rfl, .inl ⟨rfl, rfl⟩⟩ fun v h' tk hP hk => ?_⟩
  have old : ∀ b o, s.heap.get? b = some o → h'.get? b = some o := old_kept (l := l) fun b o hb e => hk b o (by simpa using hb) (Nat.ne_of_lt (Heap.lt_size e)) (Heap.get?_push_of_some _ e)
  refine h v h' tk old ?_
  have hsz : (intItems xs).size = xs.size := by simp [intItems]
  rcases hP with ⟨h0, rfl⟩ | ⟨i, hi2, hP⟩
  · refine .inl ⟨?_, rfl⟩
    rw [hsz] at h0
    rw [List.map_eq_nil_iff]
    exact Array.toList_eq_nil_iff.mpr (Array.eq_empty_of_size_eq_zero h0)
  · refine .inr ?_
    rw [hsz] at hi2
    obtain ⟨t, rfl⟩ := intItems_at hP
    obtain ⟨h1, h2⟩ := argBest_gt (numAt xs) i
    refine ⟨_, t, rfl, ?_, fun a ha => ?_⟩
    · rw [numAt_eq]
      exact PySem.getD_mem (by rw [List.length_map, Array.length_toList]; omega)
    · obtain ⟨j, hj, rfl⟩ := mem_getD ha
      rw [List.length_map, Array.length_toList] at hj
      rw [← numAt_eq]
      exact h2 j (by omega)
end
end MxD
section
variable {X : Cx}
def rMaxDef (K : PySem.W.Frag) : List V → List V → Hp → VK → Prop := fun vs zs H Q => ∃ (a : Addr) (ns : List Int) (d : Int), vs = [V.ref a] ∧ zs = [.int d] ∧ SqL K H a (ns.map V.int) ∧ ∀ m, ((ns = [] ∧ m = d) ∨ (m ∈ ns ∧ ∀ y, y ∈ ns → y ≤ m)) → Q (.int m) H
theorem cr_maxDef (hc : X.calm = true) : CallRK X (.builtin "max") ["default"] (rMaxDef X.K) := by
  intro pins s σ H vs zs us ws Q I r rz h
  obtain ⟨a, ns, d, rfl, rfl, hs, q⟩ := h
  obtain ⟨its, rv, hl, _⟩ := I.list hs
  rw [Vals.ref1 r]
  cases rz with
  | cons r1 r2 =>
    cases r2
    obtain ⟨t, rfl⟩ := r1
    refine MxD.max_def (I.ok.hd hc) hl.isList rv.ints fun v h' tk hk hv => ?_
    rcases hv with ⟨h1, rfl⟩ | ⟨M, t2, rfl, h1, h2⟩
    · exact ⟨.int _, H, I.kept hk, ⟨_, rfl⟩, q d (.inl ⟨h1, rfl⟩)⟩
    · exact ⟨.int _, H, I.kept hk, ⟨_, rfl⟩, q M (.inr ⟨h1, h2⟩)⟩
end
/-! ## rules that mention X.K, with K told (for comprehensions) -/
theorem ix_seqK {X : Cx} {K : PySem.W.Frag} (e : X.K = K := by rfl) : IxR X (rIx K) := by
  subst e
  exact ix_seq
def rLenK (K : PySem.W.Frag) : List V → Hp → VK → Prop := fun xs H Q => ∃ x n, xs = [x] ∧ LenV K x H n ∧ Q (.int n) H
theorem call_lenK {X : Cx} {K : PySem.W.Frag} (e : X.K = K := by rfl) : CallR X (.builtin "len") (rLenK K) := by
  subst e
  exact call_len
theorem call_isiK {X : Cx} {K : PySem.W.Frag} (e : X.K = K := by rfl) : CallR X (.builtin "isinstance") (rIsi K) := by
  subst e
  exact call_isi
/-! ## k57: lengths and covers -/
section
variable {X : Cx}
def rGetL : V → V → Hp → VK → Prop := fun o i H Q => ∃ p xs j v, o = .ref p ∧ i = .int ((j : Nat) : Int) ∧ H p = some (.lst xs) ∧ xs[j]? = some v ∧ Q v H
theorem get_listN : PGet X rGetL := by
  intro pins s σ H o i ov iv Q I ro ri h
  obtain ⟨p, xs, j, v, rfl, rfl, hp, hv, q⟩ := h
  cases ro
  obtain ⟨t, rfl⟩ := ri
  obtain ⟨its, r, pl, hz⟩ := I.list (SqL.of hp)
  obtain ⟨w, ew, rw'⟩ := r.get hv
  have hl := r.length
  have hn := line63
  have fin : EP X pins σ Q w s := ⟨v, H, I, rw', q⟩
  have hj := (List.getElem?_eq_some_iff.mp hv).1
  exact wpAny_getItem_list (x := w) pl.isList (by omega) (by omega) (by rw [Int.toNat_natCast]; simpa using ew) fin
end
open F57 in
def spD (s : Span) : PyData := .tuple [.int (s.1 : Int), .int (s.2.1 : Int), .int (s.2.2 : Int)]
def lenS (sp : List F57.Span) : Nat := (sp.map fun s => s.2.1 + 1).foldl max 0
theorem foldl_max : ∀ (l : List Nat) (a : Nat), a ≤ l.foldl max a ∧ (∀ y ∈ l, y ≤ l.foldl max a) ∧ (l.foldl max a = a ∨ l.foldl max a ∈ l)
  | [], a => ⟨Nat.le_refl _, (fun _ h => nomatch h), .inl rfl⟩
  | x :: l, a => by
    obtain ⟨h1, h2, h3⟩ := foldl_max l (max a x)
    show a ≤ l.foldl max (max a x) ∧ (∀ y ∈ x :: l, y ≤ l.foldl max (max a x)) ∧ (l.foldl max (max a x) = a ∨ l.foldl max (max a x) ∈ x :: l)
    refine ⟨by omega, fun y hy => ?_, ?_⟩
    · rcases List.mem_cons.mp hy with rfl | hy
      · omega
      · exact h2 y hy
    · rcases h3 with h3 | h3
      · by_cases c : a ≤ x
        · refine .inr ?_
          rw [h3, Nat.max_eq_right c]
          exact List.mem_cons_self ..
        · refine .inl ?_
          rw [h3, Nat.max_eq_left (by omega)]
      · exact .inr (List.mem_cons_of_mem _ h3)
theorem lenS_max {sp : List F57.Span} {m : Int} (h : ((sp.map fun s => ((s.2.1 : Int) + 1)) = [] ∧ m = 0) ∨ (m ∈ (sp.map fun s => ((s.2.1 : Int) + 1)) ∧ ∀ y, y ∈ (sp.map fun s => ((s.2.1 : Int) + 1)) → y ≤ m)) : m = (lenS sp : Int) := by
  unfold lenS
  obtain ⟨h1, h2, h3⟩ := foldl_max (sp.map fun s => s.2.1 + 1) 0
  rcases h with ⟨h, rfl⟩ | ⟨ha, hb⟩
  · have : sp = [] := by cases sp with | nil => rfl | cons a b => cases h
    subst this
    rfl
  · obtain ⟨s, hs, rfl⟩ := List.mem_map.mp ha
    have a1 := h2 (s.2.1 + 1) (List.mem_map.mpr ⟨s, hs, rfl⟩)
    rcases h3 with h3 | h3
    · omega
    · obtain ⟨s2, hs2, e2⟩ := List.mem_map.mp h3
      have a2 := hb ((s2.2.1 : Int) + 1) (List.mem_map.mpr ⟨s2, hs2, rfl⟩)
      omega
theorem lenS_lt {sp : List F57.Span} {s : F57.Span} (h : s ∈ sp) : s.2.1 < lenS sp := by
  have := (foldl_max (sp.map fun s => s.2.1 + 1) 0).2.1 (s.2.1 + 1) (List.mem_map.mpr ⟨s, h, rfl⟩)
  unfold lenS
  omega
theorem lenS_le {sp : List F57.Span} (h : ∀ s ∈ sp, s.2.1 ≤ 999) : lenS sp ≤ 1000 := by
  unfold lenS
  rcases (foldl_max (sp.map fun s => s.2.1 + 1) 0).2.2 with e | e
  · omega
  · obtain ⟨s, hs, e⟩ := List.mem_map.mp e
    have := h s hs
    omega
theorem spD_at {G : Addr → Prop} {H : Hp} {xs : List V} {sp : List F57.Span} {j : Nat} {x : V} (h : DtA G H xs (sp.map spD)) (e : xs[j]? = some x) : ∃ s a, sp[j]? = some s ∧ x = .ref a ∧ H a = some (.tup [.int (s.1 : Int), .int (s.2.1 : Int), .int (s.2.2 : Int)]) := by
  obtain ⟨d, hd, hx⟩ := h.at e
  rw [List.getElem?_map, Option.map_eq_some_iff] at hd
  obtain ⟨s, hs, rfl⟩ := hd
  unfold spD at hx
  cases hx with
  | tup _ e h =>
    obtain ⟨x1, x2, x3, rfl, y1, y2, y3⟩ := h.three
    have y1 := y1.intI
    have y2 := y2.intI
    have y3 := y3.intI
    subst y1 y2 y3
    exact ⟨s, _, hs, rfl, e⟩
def spLen : Sp := fun vs H Q _ => ∃ (a : Addr) (xs : List V) (sp : List F57.Span), vs = [.ref a] ∧ SeqH H a xs ∧ DtA anyA H xs (sp.map spD) ∧ sp.length ≤ 400 ∧ ∀ H', Same H H' → Q (.int (lenS sp : Int)) H'
section
variable {P : Program} {w : World} {K : PySem.W.Frag} {mg : Str → Option Value} {base : Heap}
theorem sc_length_of : FnScope ["spans", "span"] ["spans"] (defScope s_length_of) := ⟨rfl, rfl, rfl, by decide +kernel, rfl, by decide +kernel, by decide +kernel⟩
theorem ok_length {CX : CXT} {f : Addr} {fd : FuncData} (F : FnP K "length_of" s_length_of f fd) (m_max : mg "max" = none) : FnOk P w K mg base CX 1 f fd ["spans"] spLen := by
  refine F.ok sc_length_of (fun vs H Q E h => ?_) (fun cdv A outer s H vs Q E hr h => ?_)
  · obtain ⟨a, xs, sp, rfl, _⟩ := h
    rfl
  · obtain ⟨a, xs, sp, rfl, hS, hA, hl, k⟩ := h
    have nd := sc_length_of.nd
    apply Exists.intro
    apply And.intro
    case left =>
     apply PSs.nox
     apply pss_one
     exact (ps_ret (pe_callBK (cr_maxDef (by rfl)) (by rfl) m_max (by decide +kernel) (pa_cons (pe_lc (own := [("span", 1)]) (g := gName 1) rfl nd (pi_or (pi_list (pv 0)) (pi_tup (pv 0))) (blkOk_by (own := [("span", 1)]) (N := ["spans", "span"]) (sc := defScope s_length_of) (by decide +kernel)) (fun _ _ _ _ _ => (pg_name (i := 1) nd rfl (Or.inl rfl))) (fun _ _ _ _ _ => pts_nil) (fun _ _ _ _ _ => (pe_op op_add (pe_ix (ix_seqK (K := K)) (pv 1) pe_int (fun _ _ => rfl)) pe_int))) pa_nil) (pk_cons pe_int pk_nil)))
    case right =>
      refine ior_seq rfl hS fun J GG hw hG D hD => ?_
      have lx := hA.length
      rw [List.length_map] at lx
      refine lc_it hw (fun j H' => Same H H' ∧ H' D = some (.lst (((sp.take j).map fun s => ((s.2.1 : Int) + 1)).map V.int))) ⟨same_new hD, upd_same⟩ (fun j H' _ h => hG _ h.1) ?_ ?_
      · rintro j x H' H2 hj ⟨sj, ej⟩ ⟨rfl, hx⟩
        obtain ⟨s, p, hs, rfl, hp⟩ := spD_at hA hx
        refine ⟨rfl, yesIf ⟨_, rfl, .inr (.inl ⟨_, _, _, _, rfl, rfl, SqT.of (sj _ _ hp), rfl, _, _, rfl, rfl, _, ej, ?_, same_sub sj hD, ?_⟩)⟩⟩
        · rw [List.length_map, List.length_map]
          exact Nat.lt_of_le_of_lt (List.length_take_le' _ _) (Nat.lt_of_le_of_lt hl (by decide))
        · rw [upd_same, take_snoc2 hs, List.map_append, List.map_append]
          rfl
      · rintro H1 ⟨s1, e1⟩
        rw [lx, List.take_length] at e1
        refine ⟨D, _, 0, rfl, rfl, SqL.of e1, fun m hm => ?_⟩
        rw [lenS_max hm]
        exact k _ s1
end
/-! ## k57: covers -/
def covL (c : Nat → Nat) (N : Nat) : List V := (List.range N).map fun x => V.int (c x : Int)
theorem covL_len (c : Nat → Nat) (N : Nat) : (covL c N).length = N := by unfold covL; rw [List.length_map, List.length_range]
theorem covL_at {c : Nat → Nat} {N j : Nat} (h : j < N) : (covL c N)[j]? = some (.int (c j : Int)) := by
  unfold covL
  rw [List.getElem?_map, List.getElem?_range h]
  rfl
theorem covL_set {c : Nat → Nat} {N j : Nat} (h : j < N) : (covL c N).set j (.int ((c j : Int) + 1)) = covL (F57.set c j (c j + 1)) N := by
  refine List.ext_getElem? fun i => ?_
  rw [List.getElem?_set]
  by_cases e : j = i
  · subst e
    rw [if_pos rfl, covL_len, if_pos h, covL_at h, F57.set_same]
    rfl
  · rw [if_neg e]
    by_cases hi : i < N
    · rw [covL_at hi, covL_at hi, F57.set_ne (Ne.symm e)]
    · rw [List.getElem?_eq_none (by rw [covL_len]; omega), List.getElem?_eq_none (by rw [covL_len]; omega)]
theorem covL_eq {c d : Nat → Nat} {N : Nat} (h : ∀ x, x < N → c x = d x) : covL c N = covL d N := by
  unfold covL
  exact List.map_congr_left fun x hx => by rw [h x (List.mem_range.mp hx)]
theorem covL_zero (N : Nat) : (List.replicate N [V.int 0]).flatten = covL (fun _ => 0) N := by
  have e : ∀ N, (List.replicate N [V.int 0]).flatten = List.replicate N (V.int 0) := fun N => by
    induction N with
    | zero => rfl
    | succ N ih => rw [List.replicate_succ, List.flatten_cons, ih, List.replicate_succ]; rfl
  rw [e]
  refine List.ext_getElem? fun i => ?_
  by_cases hi : i < N
  · rw [covL_at hi, List.getElem?_replicate, if_pos hi]
    rfl
  · rw [List.getElem?_eq_none (by rw [List.length_replicate]; omega), List.getElem?_eq_none (by rw [covL_len]; omega)]
theorem ixN_nat {n j : Nat} (h : j < n) : ixN n (j : Int) = some j := by
  unfold ixN
  rw [if_pos (by omega), if_pos (by omega)]
  simp
/-- one more for the first m positions of a span -/
def part (c : Nat → Nat) (a m : Nat) (x : Nat) : Nat := c x + if a ≤ x ∧ x < a + m then 1 else 0
theorem part_zero (c : Nat → Nat) (a : Nat) : part c a 0 = c := by
  funext x
  unfold part
  rw [if_neg (by omega)]
  rfl
theorem part_step (c : Nat → Nat) (a m : Nat) : F57.set (part c a m) (a + m) (part c a m (a + m) + 1) = part c a (m + 1) := by
  funext x
  by_cases e : x = a + m
  · subst e
    rw [F57.set_same]
    unfold part
    rw [if_neg (by omega), if_pos (by omega)]
  · rw [F57.set_ne e]
    unfold part
    by_cases q : a ≤ x ∧ x < a + m
    · rw [if_pos q, if_pos (by omega)]
    · rw [if_neg q, if_neg (by omega)]
theorem part_all (c : Nat → Nat) (s : F57.Span) : part c s.1 (s.2.1 + 1 - s.1) = fun x => c x + if F57.inS s x then 1 else 0 := by
  funext x
  unfold part F57.inS
  by_cases q : s.1 ≤ x ∧ x ≤ s.2.1
  · rw [if_pos (by omega), if_pos (by simp [q])]
  · rw [if_neg (by omega), if_neg (by simp; omega)]
theorem cov_snoc (x : Nat) : ∀ (l : List F57.Span) (s : F57.Span) (k : Nat → Bool), F57.cov (l ++ [s]) k x = F57.cov l k x + (if k l.length && F57.inS s x then 1 else 0)
  | [], s, k => by
    show (if k 0 && F57.inS s x then 1 else 0) + 0 = 0 + _
    rw [Nat.add_zero, Nat.zero_add]
    rfl
  | a :: l, s, k => by
    have ih := cov_snoc x l s (fun i => k (i + 1))
    show (if k 0 && F57.inS a x then 1 else 0) + F57.cov (l ++ [s]) (fun i => k (i + 1)) x = (if k 0 && F57.inS a x then 1 else 0) + F57.cov l (fun i => k (i + 1)) x + _
    rw [ih, List.length_cons]
    omega
section
variable {K : PySem.W.Frag} {σ : L2.St} {H0 H : Hp} {a : Addr} {xs : List V} {R : It → Hp → Prop} {i : Nat}
theorem ior_seqB (hσ : σ[i]? = some (some (.ref a))) (h : SeqH H0 a xs) (s : Same H0 H) (k : ∀ (J : It) (G : Hp → Prop), Walk J xs.length G (YAt xs) → (∀ H', Same H0 H' → G H') → R J H) : iOr (iList K (tVar i)) (iTup K (tVar i)) σ H R := by
  rcases h with h | h
  · exact .inl ⟨_, hσ, a, rfl, ⟨xs, SqL.of (s _ _ h)⟩, k _ _ walk_list fun H' s => SqL.of (s _ _ h)⟩
  · exact .inr ⟨_, hσ, a, rfl, ⟨xs, SqT.of (s _ _ h)⟩, k _ _ walk_tup fun H' s => SqT.of (s _ _ h)⟩
theorem ior_enumB (hσ : σ[i]? = some (some (.ref a))) (h : SeqH H0 a xs) (s : Same H0 H) (k : ∀ (J : It) (G : Hp → Prop), Walk J xs.length G (YPair (fun i => some (.int (i : Nat))) (fun i => xs[i]?)) → (∀ H', Same H0 H' → G H') → R J H) : iOr (iEnum K (tCons (tVar i) tNil)) (iEnumT K (tCons (tVar i) tNil)) σ H R := by
  rcases h with h | h
  · exact .inl ⟨_, hσ, a, xs, rfl, SqL.of (s _ _ h), k _ _ walk_enum fun H' s => SqL.of (s _ _ h)⟩
  · exact .inr ⟨_, hσ, a, xs, rfl, SqT.of (s _ _ h), k _ _ walk_enumT fun H' s => SqT.of (s _ _ h)⟩
end
structure SpOk (sp : List F57.Span) : Prop where
  ln : sp.length ≤ 400
  ok : ∀ s ∈ sp, s.1 ≤ s.2.1 ∧ s.2.1 ≤ 999
theorem SpOk.len {sp : List F57.Span} (h : SpOk sp) : lenS sp ≤ 1000 := lenS_le fun s hs => (h.ok s hs).2
def spCov : Sp := fun vs H Q _ => ∃ (a : Addr) (xs : List V) (sp : List F57.Span), vs = [.ref a] ∧ SeqH H a xs ∧ DtA anyA H xs (sp.map spD) ∧ SpOk sp ∧ ∀ H' p, Same H H' → H p = none → H' p = some (.lst (covL (F57.cov sp fun _ => true) (lenS sp))) → Q (.ref p) H'
section
variable {P : Program} {w : World} {K : PySem.W.Frag} {mg : Str → Option Value} {base : Heap}
theorem sc_cover_of : FnScope ["spans", "found", "first", "last", "cost", "at"] ["spans"] (defScope s_cover_of) := ⟨rfl, rfl, rfl, by decide +kernel, rfl, by decide +kernel, by decide +kernel⟩
theorem ok_cover {CX : CXT} {f : Addr} {fd : FuncData} (F : FnP K "cover_of" s_cover_of f fd) (c_length_of : Cal P w K mg base 1 "length_of" ["spans"] spLen) (rng : mg "range" = none) : FnOk P w K mg base CX 2 f fd ["spans"] spCov := by
  obtain ⟨f_length_of, fd_length_of, g_length_of, k_length_of, b_length_of, G_length_of⟩ := c_length_of
  refine F.ok sc_cover_of (fun vs H Q E h => ?_) (fun cdv A outer s H vs Q E hr h => ?_)
  · obtain ⟨a, xs, sp, rfl, _⟩ := h
    rfl
  · obtain ⟨a, xs, sp, rfl, hS, hA, ok, k⟩ := h
    have nd := sc_cover_of.nd
    apply Exists.intro
    apply And.intro
    case left =>
     apply PSs.nox
     apply pss_cons
     · exact (ps_set (i := 1) nd rfl (.inl rfl) (pe_op op_rep (pe_lst (pa_cons pe_int pa_nil)) (pe_call G_length_of (hr.mono (by decide)) rfl g_length_of k_length_of b_length_of .nil pass0 (pa_cons (pv 0) pa_nil))))
     apply pss_cons
     · apply ps_for PassesOwn.never rfl
       · exact (pi_or (pi_list (pv 0)) (pi_tup (pv 0)))
       · exact (pg_tup rfl (pgs_cons (pg_name (i := 2) nd rfl (Or.inl rfl)) (pgs_cons (pg_name (i := 3) nd rfl (Or.inl rfl)) (pgs_cons (pg_name (i := 4) nd rfl (Or.inl rfl)) pgs_nil))))
       · apply pss_one
         apply ps_for PassesOwn.never rfl
         · exact (pi_range2 (by rfl) rng (pa_cons (pv 2) (pa_cons (pe_op op_add (pv 3) pe_int) pa_nil)))
         · exact (pg_name (i := 5) nd rfl (Or.inl rfl))
         · apply pss_one
           exact (ps_augS (pv 1) (pv 5) get_listN pe_int ip_add set_list)
     apply pss_one
     exact (ps_ret (pv 1))
    case right =>
      refine ⟨(show 1 ≤ sizeLine by decide), fun p0 hp0 => ?_⟩
      have s0 := same_new (o := .lst [V.int 0]) hp0
      have e0 : (upd H p0 (.lst [V.int 0])) p0 = some (.lst [V.int 0]) := upd_same
      generalize upd H p0 (.lst [V.int 0]) = H0 at s0 e0 ⊢
      refine ⟨_, rfl, a, xs, sp, rfl, hS.same s0, hA.same s0, ok.ln, fun H1 s1 => ?_⟩
      have hN := ok.len
      refine ⟨p0, _, _, rfl, rfl, s1 _ _ e0, by omega, by omega, ?_, fun D hD => ?_⟩
      · show 1 * ((lenS sp : Int)).toNat ≤ sizeLine
        exact Nat.le_trans (show 1 * ((lenS sp : Int)).toNat ≤ 1000 by omega) (by decide)
      rw [show ((lenS sp : Int)).toNat = lenS sp by omega, covL_zero]
      have s2 := (s0.trans s1).trans (same_new (o := .lst (covL (fun _ => 0) (lenS sp))) hD)
      have e2 : (upd H1 D (.lst (covL (fun _ => 0) (lenS sp)))) D = some (.lst (covL (fun _ => 0) (lenS sp))) := upd_same
      have nD := (s0.trans s1).free hD
      generalize upd H1 D (.lst (covL (fun _ => 0) (lenS sp))) = H2 at s2 e2 ⊢
      refine ior_seqB rfl hS s2 fun J GG hw hG => ?_
      have lx := hA.length
      rw [List.length_map] at lx
      refine for_it hw (fun j σ H' => ∃ v2 v3 v4 v5, σ = [some (.ref a), some (.ref D), v2, v3, v4, v5] ∧ Same H H' ∧ H' D = some (.lst (covL (F57.cov (sp.take j) fun _ => true) (lenS sp)))) ⟨none, none, none, none, rfl, s2, e2⟩ (fun j σ H' _ h => by
        obtain ⟨_, _, _, _, _, h, _⟩ := h
        exact hG _ h) ?_ ?_
      · rintro j x σ H' H3 hj ⟨v2, v3, v4, v5, rfl, sj, ej⟩ ⟨rfl, hx⟩
        obtain ⟨s, p, hs, rfl, hp⟩ := spD_at hA hx
        obtain ⟨ok1, ok2⟩ := ok.ok s (List.mem_of_getElem? hs)
        refine ⟨p, _, rfl, SqT.of (sj _ _ hp), rfl, _, _, rfl, _, _, rfl, _, _, rfl, rfl, ?_⟩
        have hlt : s.2.1 < lenS sp := lenS_lt (List.mem_of_getElem? hs)
        refine ⟨_, rfl, _, rfl, _, _, rfl, rfl, _, _, rfl, ⟨by omega, by omega, by omega, by omega⟩, ?_⟩
        have en : (((s.2.1 : Int) + 1) - (s.1 : Int)).toNat = s.2.1 + 1 - s.1 := by omega
        rw [en]
        refine for_range (lo := (s.1 : Int)) (n := s.2.1 + 1 - s.1) (fun m σ H' => ∃ v2 v3 v4 v5, σ = [some (.ref a), some (.ref D), v2, v3, v4, v5] ∧ Same H H' ∧ H' D = some (.lst (covL (part (F57.cov (sp.take j) fun _ => true) s.1 m) (lenS sp)))) ⟨_, _, _, _, rfl, sj, by rw [part_zero]; exact ej⟩ ?_ ?_
        · rintro m σ H' hm ⟨v2, v3, v4, v5, rfl, sm, em⟩
          rw [show (s.1 : Int) + (m : Int) = ((s.1 + m : Nat) : Int) by omega]
          refine ⟨_, rfl, _, rfl, D, _, s.1 + m, _, rfl, rfl, em, covL_at (by omega), _, _, rfl, rfl, D, _, _, s.1 + m, rfl, rfl, em, ixN_nat (by rw [covL_len]; omega), ?_⟩
          rw [covL_set (by omega), part_step]
          exact ⟨_, _, _, _, rfl, same_sub sm nD, upd_same⟩
        · rintro σ H' ⟨v2, v3, v4, v5, rfl, sm, em⟩
          refine ⟨_, _, _, _, rfl, sm, ?_⟩
          rw [em, part_all, take_snoc2 hs]
          refine congrArg (fun z => some (HO.lst z)) (covL_eq fun x _ => ?_)
          rw [cov_snoc]
          simp
      · rintro σ H3 ⟨v2, v3, v4, v5, rfl, sj, ej⟩
        rw [lx, List.take_length] at ej
        exact ⟨_, rfl, k _ D sj nD ej⟩
end
/-! ## k57: the arcs -/
theorem ix_listK {X : Cx} {K : PySem.W.Frag} (e : X.K = K := by rfl) : IxR X (rIxL K) := by
  subst e
  exact ix_list
/-- the arc as data -/
def arcD (a : F57.Arc) : PyData := .tuple [.int (a.fr : Int), .int (a.to : Int), .int a.w, match a.ix with | none => .none | some i => .int (i : Int)]
def arcs2 (sp : List F57.Span) (k : Nat → Bool) : List F57.Arc := sp.zipIdx.map fun q => F57.arcOf k q.2 q.1
theorem arcs2_snoc (l : List F57.Span) (s : F57.Span) (k : Nat → Bool) : arcs2 (l ++ [s]) k = arcs2 l k ++ [F57.arcOf k l.length s] := by
  unfold arcs2
  rw [List.zipIdx_append, List.map_append]
  simp
def arcs3 (sp : List F57.Span) (N : Nat) (k : Nat → Bool) (u : Nat) : Nat → List F57.Arc
  | 0 => []
  | n + 1 => arcs3 sp N k u n ++ (if F57.cov sp k (N - 1 - n) < u then [F57.back (N - 1 - n)] else [])
def arcsL (sp : List F57.Span) (N : Nat) (k : Nat → Bool) (u : Nat) : List F57.Arc := ((List.range N).map F57.fwd ++ arcs2 sp k) ++ arcs3 sp N k u N
theorem arcs3_mem {sp : List F57.Span} {N : Nat} {k : Nat → Bool} {u : Nat} {a : F57.Arc} : ∀ {n : Nat}, n ≤ N → (a ∈ arcs3 sp N k u n ↔ ∃ x, N - n ≤ x ∧ x < N ∧ F57.cov sp k x < u ∧ a = F57.back x)
  | 0, _ => ⟨(fun h => nomatch h), fun ⟨x, h1, h2, _⟩ => by omega⟩
  | n + 1, hn => by
    have ih := arcs3_mem (sp := sp) (N := N) (k := k) (u := u) (a := a) (n := n) (by omega)
    show a ∈ arcs3 sp N k u n ++ (if F57.cov sp k (N - 1 - n) < u then [F57.back (N - 1 - n)] else []) ↔ _
    rw [List.mem_append, ih]
    constructor
    · rintro (⟨x, h1, h2, h3, h4⟩ | h)
      · exact ⟨x, by omega, h2, h3, h4⟩
      · split at h
        · rename_i c
          rw [List.mem_singleton] at h
          exact ⟨N - 1 - n, by omega, by omega, c, h⟩
        · cases h
    · rintro ⟨x, h1, h2, h3, h4⟩
      by_cases e : x = N - 1 - n
      · refine .inr ?_
        rw [← e, if_pos h3, h4]
        exact List.mem_singleton.mpr rfl
      · exact .inl ⟨x, by omega, h2, h3, h4⟩
theorem arcsL_mem {sp : List F57.Span} {N : Nat} {k : Nat → Bool} {u : Nat} {a : F57.Arc} : a ∈ arcsL sp N k u ↔ F57.IsArc sp N k u a := by
  unfold arcsL
  rw [List.mem_append, List.mem_append, arcs3_mem (Nat.le_refl N), List.mem_map]
  constructor
  · rintro ((⟨x, h, rfl⟩ | h) | ⟨x, _, h2, h3, rfl⟩)
    · exact .fwd (List.mem_range.mp h)
    · unfold arcs2 at h
      obtain ⟨⟨s, i⟩, hi, rfl⟩ := List.mem_map.mp h
      exact .span (List.mem_zipIdx_iff_getElem?.mp hi)
    · exact .back h2 h3
  · intro h
    cases h with
    | fwd h => exact .inl (.inl ⟨_, List.mem_range.mpr h, rfl⟩)
    | span h =>
      rename_i i s
      exact .inl (.inr (List.mem_map.mpr ⟨(s, i), List.mem_zipIdx_iff_getElem?.mpr h, rfl⟩))
    | back h h2 => exact .inr ⟨_, by omega, h, h2, rfl⟩
theorem F57neg {N : Nat} (h : N ≤ 1000) : RgC ((N : Int) - 1) (-1) (-1) ((N : Int) - 1 - (-1)).toNat := RgC.neg (by omega) (by omega) (by decide) (by decide)
theorem F57negN {N : Nat} (h : N ≤ 1000) : ((N : Int) - 1 - (-1)).toNat = N := by omega
/-- the kept spans, as a dict tells them -/
def kOf (kvs : List (Key × V)) (i : Nat) : Bool := (valV kvs (Sum.inl (i : Int))).isSome
section
variable {P : Program} {w : World} {K : PySem.W.Frag} {mg : Str → Option Value} {base : Heap}
def spArc : Sp := fun vs H Q _ => ∃ (a pk : Addr) (xs : List V) (sp : List F57.Span) (kvs : List (Key × V)) (u : Nat), vs = [.ref a, .ref pk, .int (u : Int)] ∧ SeqH H a xs ∧ DtA anyA H xs (sp.map spD) ∧ SpOk sp ∧ H pk = some (.dK kvs) ∧ u ≤ 20 ∧ ∀ H' p, Same H H' → Dt (fun c => H c = none) H' (.ref p) (.list ((arcsL sp (lenS sp) (kOf kvs) u).map arcD)) → Q (.ref p) H'
theorem sc_arcs_of : FnScope ["spans", "kept", "units", "count", "cover", "found", "at", "index", "first", "last", "cost"] ["spans", "kept", "units"] (defScope s_arcs_of) := ⟨rfl, rfl, rfl, by decide +kernel, rfl, by decide +kernel, by decide +kernel⟩
theorem ok_arcs {CX : CXT} {f : Addr} {fd : FuncData} (F : FnP K "arcs_of" s_arcs_of f fd) (c_length_of : Cal P w K mg base 1 "length_of" ["spans"] spLen) (rng : mg "range" = none) (m_enumerate : mg "enumerate" = none) : FnOk P w K mg base CX 2 f fd ["spans", "kept", "units"] spArc := by
  obtain ⟨f_length_of, fd_length_of, g_length_of, k_length_of, b_length_of, G_length_of⟩ := c_length_of
  refine F.ok sc_arcs_of (fun vs H Q E h => ?_) (fun cdv A outer s H vs Q E hr h => ?_)
  · obtain ⟨a, pk, xs, sp, kvs, u, rfl, _⟩ := h
    rfl
  · obtain ⟨a, pk, xs, sp, kvs, u, rfl, hS, hA, ok, hk, hu20, k⟩ := h
    have nd := sc_arcs_of.nd
    have hu := hu_of hr
    apply Exists.intro
    apply And.intro
    case left =>
     apply PSs.nox
     apply pss_cons
     · exact (ps_set (i := 3) nd rfl (.inl rfl) (pe_call G_length_of (hr.mono (by decide)) rfl g_length_of k_length_of b_length_of .nil pass0 (pa_cons (pv 0) pa_nil)))
     apply pss_cons
     · exact (ps_set (i := 4) nd rfl (.inr rfl) (pe_op op_rep (pe_lst (pa_cons pe_int pa_nil)) (pv 3)))
     apply pss_cons
     · exact (ps_setLc (i := 5) (own := [("at", 6)]) (g := gName 6) rfl nd rfl rfl (sw_true rfl rfl rfl (by decide +kernel)) (pi_range1 (by rfl) rng (pa_cons (pv 3) pa_nil)) (blkOk_by (own := [("at", 6)]) (N := ["spans", "kept", "units", "count", "cover", "found", "at", "index", "first", "last", "cost"]) (sc := defScope s_arcs_of) (by decide +kernel)) (fun _ _ _ _ _ => (pg_name (i := 6) nd rfl (Or.inl rfl))) (fun _ _ _ _ _ => pts_nil) (fun _ _ _ _ _ => (pe_tup (pa_cons (pv 6) (pa_cons (pe_op op_add (pv 6) pe_int) (pa_cons pe_int (pa_cons pe_non pa_nil)))))))
     apply pss_cons
     · apply ps_for PassesOwn.never rfl
       · exact (pi_or (pi_enum (by rfl) m_enumerate (pa_cons (pv 0) pa_nil)) (pi_enumT (by rfl) m_enumerate (pa_cons (pv 0) pa_nil)))
       · exact (pg_tup rfl (pgs_cons (pg_name (i := 7) nd rfl (Or.inl rfl)) (pgs_cons (pg_tup rfl (pgs_cons (pg_name (i := 8) nd rfl (Or.inl rfl)) (pgs_cons (pg_name (i := 9) nd rfl (Or.inl rfl)) (pgs_cons (pg_name (i := 10) nd rfl (Or.inl rfl)) pgs_nil)))) pgs_nil)))
       · apply pss_one
         apply ps_if
         · exact (pt_cmp (pc_din hu (pv 7) (pv 1)) (by rfl))
         · apply pss_cons
           · exact (ps_expr (pe_bm PySem.F.plainAttrs_list PySem.F.slot_list_append PySem.F.type_list_append mt_append (pv 5) (pa_cons (pe_tup (pa_cons (pe_op op_add (pv 9) pe_int) (pa_cons (pv 8) (pa_cons (pv 10) (pa_cons (pv 7) pa_nil))))) pa_nil)))
           apply pss_one
           apply ps_for PassesOwn.never rfl
           · exact (pi_range2 (by rfl) rng (pa_cons (pv 8) (pa_cons (pe_op op_add (pv 9) pe_int) pa_nil)))
           · exact (pg_name (i := 6) nd rfl (Or.inl rfl))
           · apply pss_one
             exact (ps_augS (pv 4) (pv 6) get_listN pe_int ip_add set_list)
         · apply pss_one
           exact (ps_expr (pe_bm PySem.F.plainAttrs_list PySem.F.slot_list_append PySem.F.type_list_append mt_append (pv 5) (pa_cons (pe_tup (pa_cons (pv 8) (pa_cons (pe_op op_add (pv 9) pe_int) (pa_cons (pe_op op_sub pe_int (pv 10)) (pa_cons (pv 7) pa_nil))))) pa_nil)))
     apply pss_one
     exact (ps_ret (pe_op op_cat (pv 5) (pe_lc (own := [("at", 6)]) (g := gName 6) rfl nd (pi_range3 (by rfl) rng (pa_cons (pe_op op_sub (pv 3) pe_int) (pa_cons (pe_un un_neg pe_int) (pa_cons (pe_un un_neg pe_int) pa_nil)))) (blkOk_by (own := [("at", 6)]) (N := ["spans", "kept", "units", "count", "cover", "found", "at", "index", "first", "last", "cost"]) (sc := defScope s_arcs_of) (by decide +kernel)) (fun _ _ _ _ _ => (pg_name (i := 6) nd rfl (Or.inl rfl))) (fun _ _ _ _ _ => pts_one (pt_cmpR op_lt (pe_ix (ix_listK (K := K)) (pv 4) (pv 6) (fun _ _ => rfl)) (pv 2) (nomark _))) (fun _ _ _ _ _ => (pe_tup (pa_cons (pe_op op_add (pv 6) pe_int) (pa_cons (pv 6) (pa_cons pe_int (pa_cons pe_non pa_nil)))))))))
    case right =>
      have hN := ok.len
      refine ⟨_, rfl, a, xs, sp, rfl, hS, hA, ok.ln, fun H1 s1 => ?_⟩
      refine ⟨(show 1 ≤ sizeLine by decide), fun p0 hp0 => ?_⟩
      have e0 : (upd H1 p0 (.lst [V.int 0])) p0 = some (.lst [V.int 0]) := upd_same
      have s2 := s1.trans (same_new (o := .lst [V.int 0]) hp0)
      generalize upd H1 p0 (.lst [V.int 0]) = H2 at s2 e0 ⊢
      refine ⟨_, rfl, p0, _, _, rfl, rfl, e0, by omega, by omega, ?_, fun C hC => ?_⟩
      · show 1 * ((lenS sp : Int)).toNat ≤ sizeLine
        exact Nat.le_trans (show 1 * ((lenS sp : Int)).toNat ≤ 1000 by omega) (by decide)
      rw [show ((lenS sp : Int)).toNat = lenS sp by omega, covL_zero]
      have nC := s2.free hC
      have s3 := s2.trans (same_new (o := .lst (covL (fun _ => 0) (lenS sp))) hC)
      have e3 : (upd H2 C (.lst (covL (fun _ => 0) (lenS sp)))) C = some (.lst (covL (fun _ => 0) (lenS sp))) := upd_same
      generalize upd H2 C (.lst (covL (fun _ => 0) (lenS sp))) = H3 at s3 e3 ⊢
      clear hC
      have en : ((lenS sp : Int)).toNat = lenS sp := by omega
      refine ⟨_, rfl, _, rfl, by omega, by omega, fun D hD => ?_⟩
      have nD3 := hD
      refine lc_range (lo := 0) (n := ((lenS sp : Int)).toNat) (fun j H' => Same H3 H' ∧ ∃ acc, H' D = some (.lst acc) ∧ DtA (fun b => H3 b = none ∧ b ≠ D) H' acc (((List.range j).map F57.fwd).map arcD)) ⟨same_new hD, [], upd_same, .nil⟩ ?_ ?_
      · rintro j H' hj ⟨sj, acc, ej, Aj⟩
        rw [Int.zero_add]
        refine ⟨rfl, yesIf ⟨_, rfl, _, rfl, _, _, rfl, rfl, (show 4 ≤ sizeLine by decide), fun q hq => ?_⟩⟩
        have sq := same_new (o := .tup [V.int (j : Int), V.int ((j : Int) + 1), V.int 0, V.non]) hq
        have ne : q ≠ D := fun z => by rw [z, ej] at hq; cases hq
        have nq := sj.free hq
        refine ⟨acc, sq _ _ ej, ?_, same_sub (sj.trans sq) nD3, _, upd_same, ?_⟩
        · have := Aj.length
          rw [List.length_map, List.length_map, List.length_range] at this
          exact Nat.lt_of_le_of_lt (show acc.length ≤ 1000 by omega) (by decide)
        · rw [List.range_succ, List.map_append, List.map_append]
          exact (Aj.to fun b o g e => ⟨by rw [upd_ne g.2]; exact sq _ _ e, g⟩).app (.cons (.tup ⟨nq, ne⟩ (by rw [upd_ne ne]; exact upd_same) (.cons (.int _) (.cons (.int _) (.cons (.int _) (.cons .non .nil))))) .nil)
      rintro H4 ⟨s4, acc, e4, A4⟩
      rw [en] at A4
      have nD := s3.free nD3
      have nCD : C ≠ D := fun z => by rw [z, nD3] at e3; cases e3
      have eC4 := s4 _ _ e3
      replace A4 : DtA (fun b => H b = none ∧ b ≠ C ∧ b ≠ D) H4 acc (((List.range (lenS sp)).map F57.fwd ++ arcs2 (sp.take 0) (kOf kvs)).map arcD) := by
        have e : arcs2 (sp.take 0) (kOf kvs) = [] := rfl
        rw [e, List.append_nil]
        exact A4.to fun b o g e => ⟨e, s3.free g.1, (fun z => by rw [z, e3] at g; exact nomatch g.1), g.2⟩
      have s04 := s3.trans s4
      clear s3 e3 s4 nD3 hD s2 e0 s1 hp0
      refine ior_enumB rfl hS s04 fun J GG hw hG => ?_
      have lx := hA.length
      rw [List.length_map] at lx
      refine for_it hw (fun j σ H' => ∃ v6 v7 v8 v9 v10, σ = [some (.ref a), some (.ref pk), some (.int (u : Int)), some (.int (lenS sp : Int)), some (.ref C), some (.ref D), v6, v7, v8, v9, v10] ∧ Same H H' ∧ H' C = some (.lst (covL (F57.cov (sp.take j) (kOf kvs)) (lenS sp))) ∧ ∃ acc, H' D = some (.lst acc) ∧ DtA (fun b => H b = none ∧ b ≠ C ∧ b ≠ D) H' acc (((List.range (lenS sp)).map F57.fwd ++ arcs2 (sp.take j) (kOf kvs)).map arcD))
        ⟨none, none, none, none, none, rfl, s04, eC4, acc, e4, A4⟩ (fun j σ H' _ h => by
          obtain ⟨_, _, _, _, _, _, h, _⟩ := h
          exact hG _ h) ?_ ?_
      · rintro j x σ H' H5 hj ⟨v6, v7, v8, v9, v10, rfl, sj, eC, acc, eD, Aj⟩ ⟨Tp, x1, x2, rfl, hT, rfl, hx1, hx2⟩
        cases hx1
        obtain ⟨sn, p, hs, rfl, hp⟩ := spD_at hA hx2
        obtain ⟨ok1, ok2⟩ := ok.ok sn (List.mem_of_getElem? hs)
        have hlt : sn.2.1 < lenS sp := lenS_lt (List.mem_of_getElem? hs)
        have sT := same_new (o := .tup [.int (j : Int), .ref p]) hT
        refine ⟨Tp, _, rfl, SqT.of upd_same, rfl, _, _, rfl, _, _, rfl, p, _, rfl, SqT.of (sT _ _ (sj _ _ hp)), rfl, _, _, rfl, _, _, rfl, _, _, rfl, rfl, rfl, ?_⟩
        replace sj := sj.trans sT
        replace eC := sT _ _ eC
        replace eD := sT _ _ eD
        replace Aj := Aj.same sT
        generalize upd H' Tp (.tup [.int (j : Int), .ref p]) = H6 at sj eC eD Aj ⊢
        clear sT hT
        have hk6 := sj _ _ hk
        have lA := Aj.length
        refine ⟨_, rfl, _, rfl, pk, _, rfl, DGet.k (k := Sum.inl (j : Int)) hk6, _, rfl, ?_⟩
        have lA2 : acc.length ≤ 1400 := by
          rw [lA, List.length_map, List.length_append, List.length_map, List.length_range]
          unfold arcs2
          rw [List.length_map, List.length_zipIdx]
          have := List.length_take_le' j sp
          have := ok.ln
          omega
        have ltk : (sp.take j).length = j := by
          have := (List.getElem?_eq_some_iff.mp hs).1
          rw [List.length_take]; omega
        have ear : arcs2 (sp.take (j + 1)) (kOf kvs) = arcs2 (sp.take j) (kOf kvs) ++ [F57.arcOf (kOf kvs) j sn] := by
          rw [take_snoc2 hs, arcs2_snoc, ltk]
        have ecv : ∀ x, F57.cov (sp.take (j + 1)) (kOf kvs) x = F57.cov (sp.take j) (kOf kvs) x + (if kOf kvs j && F57.inS sn x then 1 else 0) := fun x => by
          rw [take_snoc2 hs, cov_snoc, ltk]
        have kj : (valV kvs (Sum.inl (j : Int))).isSome = kOf kvs j := rfl
        rw [kj]
        cases hkj : kOf kvs j with
        | true =>
          refine iteT ?_
          have ea : F57.arcOf (kOf kvs) j sn = ⟨sn.2.1 + 1, sn.1, (sn.2.2 : Int), some j⟩ := by unfold F57.arcOf; rw [hkj]; rfl
          refine ⟨_, rfl, .inl ⟨rfl, _, SqL.of eD⟩, _, rfl, _, _, rfl, rfl, _, rfl, _, rfl, _, rfl, (show 4 ≤ sizeLine by decide), fun q hq => ?_⟩
          have sq := same_new (o := .tup [V.int ((sn.2.1 : Int) + 1), V.int (sn.1 : Int), V.int (sn.2.2 : Int), V.int (j : Int)]) hq
          have neD : q ≠ D := fun z => by rw [z, eD] at hq; cases hq
          have neC : q ≠ C := fun z => by rw [z, eC] at hq; cases hq
          have nq := sj.free hq
          refine ⟨D, _, _, rfl, rfl, sq _ _ eD, Nat.lt_of_le_of_lt lA2 (by decide), ?_⟩
          have s7 : Same H (upd (upd H6 q (.tup [V.int ((sn.2.1 : Int) + 1), V.int (sn.1 : Int), V.int (sn.2.2 : Int), V.int (j : Int)])) D (.lst (acc ++ [V.ref q]))) := same_sub (sj.trans sq) nD
          have eD7 : (upd (upd H6 q (.tup [V.int ((sn.2.1 : Int) + 1), V.int (sn.1 : Int), V.int (sn.2.2 : Int), V.int (j : Int)])) D (.lst (acc ++ [V.ref q]))) D = some (.lst (acc ++ [V.ref q])) := upd_same
          have eC7 : (upd (upd H6 q (.tup [V.int ((sn.2.1 : Int) + 1), V.int (sn.1 : Int), V.int (sn.2.2 : Int), V.int (j : Int)])) D (.lst (acc ++ [V.ref q]))) C = some (.lst (covL (F57.cov (sp.take j) (kOf kvs)) (lenS sp))) := by
            rw [upd_ne nCD]
            exact sq _ _ eC
          have A7 : DtA (fun b => H b = none ∧ b ≠ C ∧ b ≠ D) (upd (upd H6 q (.tup [V.int ((sn.2.1 : Int) + 1), V.int (sn.1 : Int), V.int (sn.2.2 : Int), V.int (j : Int)])) D (.lst (acc ++ [V.ref q]))) (acc ++ [V.ref q]) (((List.range (lenS sp)).map F57.fwd ++ arcs2 (sp.take (j + 1)) (kOf kvs)).map arcD) := by
            rw [ear, ea, ← List.append_assoc, List.map_append]
            exact (Aj.to fun b o g e => ⟨by rw [upd_ne g.2.2]; exact sq _ _ e, g⟩).app (.cons (.tup ⟨nq, neC, neD⟩ (by rw [upd_ne neD]; exact upd_same) (.cons (.int _) (.cons (.int _) (.cons (.int _) (.cons (.int _) .nil))))) .nil)
          generalize upd (upd H6 q (.tup [V.int ((sn.2.1 : Int) + 1), V.int (sn.1 : Int), V.int (sn.2.2 : Int), V.int (j : Int)])) D (.lst (acc ++ [V.ref q])) = H7 at s7 eD7 eC7 A7 ⊢
          refine ⟨_, rfl, _, rfl, _, _, rfl, rfl, _, _, rfl, ⟨by omega, by omega, by omega, by omega⟩, ?_⟩
          have en : (((sn.2.1 : Int) + 1) - (sn.1 : Int)).toNat = sn.2.1 + 1 - sn.1 := by omega
          rw [en]
          refine for_range (lo := (sn.1 : Int)) (n := sn.2.1 + 1 - sn.1) (fun m σ H' => ∃ v6 v7 v8 v9 v10, σ = [some (.ref a), some (.ref pk), some (.int (u : Int)), some (.int (lenS sp : Int)), some (.ref C), some (.ref D), v6, v7, v8, v9, v10] ∧ Same H H' ∧ H' C = some (.lst (covL (part (F57.cov (sp.take j) (kOf kvs)) sn.1 m) (lenS sp))) ∧ H' D = some (.lst (acc ++ [V.ref q])) ∧ DtA (fun b => H b = none ∧ b ≠ C ∧ b ≠ D) H' (acc ++ [V.ref q]) (((List.range (lenS sp)).map F57.fwd ++ arcs2 (sp.take (j + 1)) (kOf kvs)).map arcD)) ⟨_, _, _, _, _, rfl, s7, by rw [part_zero]; exact eC7, eD7, A7⟩ ?_ ?_
          · rintro m σ H' hm ⟨v6, v7, v8, v9, v10, rfl, sm, em, eDm, Am⟩
            rw [show (sn.1 : Int) + (m : Int) = ((sn.1 + m : Nat) : Int) by omega]
            refine ⟨_, rfl, _, rfl, C, _, sn.1 + m, _, rfl, rfl, em, covL_at (by omega), _, _, rfl, rfl, C, _, _, sn.1 + m, rfl, rfl, em, ixN_nat (by rw [covL_len]; omega), ?_⟩
            rw [covL_set (by omega), part_step]
            exact ⟨_, _, _, _, _, rfl, same_sub sm nC, upd_same, by rw [upd_ne (Ne.symm nCD)]; exact eDm, Am.to fun b o g e => ⟨by rw [upd_ne g.2.1]; exact e, g⟩⟩
          · rintro σ H' ⟨v6, v7, v8, v9, v10, rfl, sm, em, eDm, Am⟩
            refine ⟨_, _, _, _, _, rfl, sm, ?_, _, eDm, Am⟩
            rw [em, part_all]
            refine congrArg (fun z => some (HO.lst z)) (covL_eq fun x _ => ?_)
            rw [ecv, hkj, Bool.true_and]
        | false =>
          refine iteF ?_
          have ea : F57.arcOf (kOf kvs) j sn = ⟨sn.1, sn.2.1 + 1, 0 - (sn.2.2 : Int), some j⟩ := by unfold F57.arcOf; rw [hkj, Int.zero_sub]; rfl
          refine ⟨_, rfl, .inl ⟨rfl, _, SqL.of eD⟩, _, rfl, _, rfl, _, _, rfl, rfl, _, rfl, _, _, rfl, rfl, _, rfl, (show 4 ≤ sizeLine by decide), fun q hq => ?_⟩
          have sq := same_new (o := .tup [V.int (sn.1 : Int), V.int ((sn.2.1 : Int) + 1), V.int (0 - (sn.2.2 : Int)), V.int (j : Int)]) hq
          have neD : q ≠ D := fun z => by rw [z, eD] at hq; cases hq
          have neC : q ≠ C := fun z => by rw [z, eC] at hq; cases hq
          have nq := sj.free hq
          refine ⟨D, _, _, rfl, rfl, sq _ _ eD, Nat.lt_of_le_of_lt lA2 (by decide), ?_⟩
          refine ⟨_, _, _, _, _, rfl, same_sub (sj.trans sq) nD, ?_, _, upd_same, ?_⟩
          · rw [upd_ne nCD, sq _ _ eC]
            refine congrArg (fun z => some (HO.lst z)) (covL_eq fun x _ => ?_)
            rw [ecv, hkj, Bool.false_and]
            rfl
          · rw [ear, ea, ← List.append_assoc, List.map_append]
            exact (Aj.to fun b o g e => ⟨by rw [upd_ne g.2.2]; exact sq _ _ e, g⟩).app (.cons (.tup ⟨nq, neC, neD⟩ (by rw [upd_ne neD]; exact upd_same) (.cons (.int _) (.cons (.int _) (.cons (.int _) (.cons (.int _) .nil))))) .nil)
      · rintro σ H5 ⟨v6, v7, v8, v9, v10, rfl, s5, eC, acc, eD, A5⟩
        rw [lx, List.take_length] at eC A5
        have lA5 : acc.length ≤ 1400 := by
          rw [A5.length, List.length_map, List.length_append, List.length_map, List.length_range]
          unfold arcs2
          rw [List.length_map, List.length_zipIdx]
          have := ok.ln
          omega
        refine ⟨_, rfl, _, rfl, _, _, rfl, rfl, _, rfl, _, rfl, _, _, _, _, rfl, F57neg hN, fun D2 hD2 => ?_⟩
        have nD2 := hD2
        refine lc_it walk_rangeC (fun j H' => Same H5 H' ∧ ∃ acc2, H' D2 = some (.lst acc2) ∧ DtA (fun b => H5 b = none ∧ b ≠ D2) H' acc2 ((arcs3 sp (lenS sp) (kOf kvs) u j).map arcD) ∧ acc2.length ≤ j) ⟨same_new hD2, [], upd_same, .nil, Nat.le_refl _⟩ (fun _ _ _ _ => trivial) ?_ ?_
        · rintro j x H' H6 hj ⟨sj, acc2, ej, Aj, lj⟩ ⟨rfl, hx⟩
          have hj : j < lenS sp := by rw [F57negN hN] at hj; exact hj
          have hx : x = V.int ((lenS sp - 1 - j : Nat) : Int) := hx.trans (show V.int ((lenS sp : Int) - 1 + (j : Int) * -1) = _ from congrArg V.int (by omega))
          subst hx
          refine ⟨rfl, ?_⟩
          refine ⟨_, rfl, _, rfl, C, _, _, _, rfl, rfl, SqL.of (sj _ _ eC), atI_nat (covL_at (by omega)), _, rfl, _, _, rfl, rfl, _, rfl, ?_⟩
          have e3 : arcs3 sp (lenS sp) (kOf kvs) u (j + 1) = arcs3 sp (lenS sp) (kOf kvs) u j ++ (if F57.cov sp (kOf kvs) (lenS sp - 1 - j) < u then [F57.back (lenS sp - 1 - j)] else []) := rfl
          rw [e3]
          by_cases c : F57.cov sp (kOf kvs) (lenS sp - 1 - j) < u
          · rw [if_pos c, decide_eq_true (by omega)]
            refine iteT ⟨_, rfl, _, _, rfl, rfl, _, rfl, (show 4 ≤ sizeLine by decide), fun q hq => ?_⟩
            have sq := same_new (o := .tup [V.int (((lenS sp - 1 - j : Nat) : Int) + 1), V.int ((lenS sp - 1 - j : Nat) : Int), V.int 0, V.non]) hq
            have ne : q ≠ D2 := fun z => by rw [z, ej] at hq; cases hq
            refine ⟨acc2, sq _ _ ej, Nat.lt_of_le_of_lt (show acc2.length ≤ 1000 by omega) (by decide), same_sub (sj.trans sq) nD2, _, upd_same, ?_, ?_⟩
            · rw [List.map_append]
              exact (Aj.to fun b o g e => ⟨by rw [upd_ne g.2]; exact sq _ _ e, g⟩).app (.cons (.tup ⟨sj.free hq, ne⟩ (by rw [upd_ne ne]; exact upd_same) (.cons (.int _) (.cons (.int _) (.cons (.int _) (.cons .non .nil))))) .nil)
            · rw [List.length_append]
              exact Nat.succ_le_succ lj
          · rw [if_neg c, List.append_nil, decide_eq_false (by omega)]
            exact iteF ⟨sj, acc2, ej, Aj, by omega⟩
        · rintro H6 ⟨s6, acc2, e2, A2, l2⟩
          rw [F57negN hN] at A2 l2
          refine ⟨D, D2, _, _, rfl, rfl, s6 _ _ eD, e2, ?_, fun p hp => ?_⟩
          · exact Nat.le_trans (show acc.length + acc2.length ≤ 2400 by omega) (by decide)
          have sp6 := same_new (o := .lst (acc ++ acc2)) hp
          refine k _ p (s5.trans (s6.trans sp6)) (.lst ((s5.trans s6).free hp) upd_same ?_)
          unfold arcsL
          rw [List.map_append]
          exact (A5.to fun b o g e => ⟨sp6 _ _ (s6 _ _ e), g.1⟩).app (A2.to fun b o g e => ⟨sp6 _ _ e, s5.free g.1⟩)
end
/-! ## k57: distances -/
def intL (c : Nat → Int) (M : Nat) : List V := (List.range M).map fun x => V.int (c x)
theorem intL_len (c : Nat → Int) (M : Nat) : (intL c M).length = M := by unfold intL; rw [List.length_map, List.length_range]
theorem intL_at {c : Nat → Int} {M j : Nat} (h : j < M) : (intL c M)[j]? = some (.int (c j)) := by
  unfold intL
  rw [List.getElem?_map, List.getElem?_range h]
  rfl
theorem intL_set {c : Nat → Int} {M j : Nat} {z : Int} (h : j < M) : (intL c M).set j (.int z) = intL (F57.set c j z) M := by
  refine List.ext_getElem? fun i => ?_
  rw [List.getElem?_set]
  by_cases e : j = i
  · subst e
    rw [if_pos rfl, intL_len, if_pos h, intL_at h, F57.set_same]
  · rw [if_neg e]
    by_cases hi : i < M
    · rw [intL_at hi, intL_at hi, F57.set_ne (Ne.symm e)]
    · rw [List.getElem?_eq_none (by rw [intL_len]; omega), List.getElem?_eq_none (by rw [intL_len]; omega)]
theorem intL_zero (M : Nat) : (List.replicate M [V.int 0]).flatten = intL (fun _ => 0) M := by
  rw [covL_zero]
  rfl
def byD : Option F57.Arc → PyData
  | none => .none
  | some a => arcD a
def byL (by_ : Nat → Option F57.Arc) (M : Nat) : List PyData := (List.range M).map fun v => byD (by_ v)
theorem byL_len (by_ : Nat → Option F57.Arc) (M : Nat) : (byL by_ M).length = M := by unfold byL; rw [List.length_map, List.length_range]
theorem byL_at {by_ : Nat → Option F57.Arc} {M j : Nat} (h : j < M) : (byL by_ M)[j]? = some (byD (by_ j)) := by
  unfold byL
  rw [List.getElem?_map, List.getElem?_range h]
  rfl
theorem byL_set {by_ : Nat → Option F57.Arc} {M j : Nat} {a : F57.Arc} (h : j < M) : (byL by_ M).set j (arcD a) = byL (F57.set by_ j (some a)) M := by
  refine List.ext_getElem? fun i => ?_
  rw [List.getElem?_set]
  by_cases e : j = i
  · subst e
    rw [if_pos rfl, byL_len, if_pos h, byL_at h, F57.set_same]
    rfl
  · rw [if_neg e]
    by_cases hi : i < M
    · rw [byL_at hi, byL_at hi, F57.set_ne (Ne.symm e)]
    · rw [List.getElem?_eq_none (by rw [byL_len]; omega), List.getElem?_eq_none (by rw [byL_len]; omega)]
theorem DtA.setAt {G : Addr → Prop} {H : Hp} : ∀ {xs : List V} {ds : List PyData} {x : V} {d : PyData} (n : Nat), DtA G H xs ds → Dt G H x d → DtA G H (xs.set n x) (ds.set n d)
  | _, _, _, _, _, .nil, _ => .nil
  | _, _, _, _, 0, .cons _ t, h => .cons h t
  | _, _, _, _, n + 1, .cons a t, h => .cons a (t.setAt n h)
theorem DtA.four {G : Addr → Prop} {H : Hp} {xs : List V} {d1 d2 d3 d4 : PyData} (h : DtA G H xs [d1, d2, d3, d4]) : ∃ x1 x2 x3 x4, xs = [x1, x2, x3, x4] ∧ Dt G H x1 d1 ∧ Dt G H x2 d2 ∧ Dt G H x3 d3 ∧ Dt G H x4 d4 := by
  cases h with
  | cons a h =>
    obtain ⟨x2, x3, x4, rfl, b, c, d⟩ := h.three
    exact ⟨_, x2, x3, x4, rfl, a, b, c, d⟩
theorem arcD_tup {G : Addr → Prop} {H : Hp} {x : V} {a : F57.Arc} (h : Dt G H x (arcD a)) : ∃ p y, x = .ref p ∧ H p = some (.tup [.int (a.fr : Int), .int (a.to : Int), .int a.w, y]) ∧ y = (match a.ix with | none => .non | some i => .int (i : Int)) := by
  unfold arcD at h
  cases h with
  | tup _ e h =>
    obtain ⟨x1, x2, x3, x4, rfl, y1, y2, y3, y4⟩ := h.four
    have y1 := y1.intI
    have y2 := y2.intI
    have y3 := y3.intI
    subst y1 y2 y3
    refine ⟨_, x4, rfl, e, ?_⟩
    cases q : a.ix with
    | none => rw [q] at y4; cases y4; rfl
    | some i => rw [q] at y4; exact y4.intI
theorem byL_init (N : Nat) : byL (fun v => if v = 0 then none else some (F57.fwd (v - 1))) (N + 1) = .none :: ((List.range N).map F57.fwd).map arcD := by
  unfold byL
  rw [List.range_succ_eq_map, List.map_cons, List.map_map, List.map_map]
  rfl
def spDst : Sp := fun vs H Q _ => ∃ (pa : Addr) (xs : List V) (as : List F57.Arc) (N : Nat) (p : Nat → Int), vs = [.ref pa, .int (N : Int)] ∧ H pa = some (.lst xs) ∧ DtA anyA H xs (as.map arcD) ∧ N ≤ 1000 ∧ F57.Pot (· ∈ as) p ∧ (∀ a ∈ as, a.fr ≤ N ∧ a.to ≤ N ∧ a.fr ≠ a.to) ∧ (∀ x, x < N → F57.fwd x ∈ as) ∧
  ∀ H' q C B ys c by_ t T, Same H H' → H' q = some (.tup [.ref C, .ref B]) → H' C = some (.lst (intL c (N + 1))) → H' B = some (.lst ys) → DtA anyA H' ys (byL by_ (N + 1)) → F57.Rel (· ∈ as) N p c by_ t T → F57.Pot (· ∈ as) c → Q (.ref q) H'
section
variable {P : Program} {w : World} {K : PySem.W.Frag} {mg : Str → Option Value} {base : Heap}
theorem sc_distances : FnScope ["arcs", "count", "costs", "by", "at", "more", "arc"] ["arcs", "count"] (defScope s_distances) := ⟨rfl, rfl, rfl, by decide +kernel, rfl, by decide +kernel, by decide +kernel⟩
theorem ok_dist {CX : CXT} {f : Addr} {fd : FuncData} (F : FnP K "distances" s_distances f fd) (rng : mg "range" = none) : FnOk P w K mg base CX 1 f fd ["arcs", "count"] spDst := by
  refine F.ok sc_distances (fun vs H Q E h => ?_) (fun cdv A outer s H vs Q E hr h => ?_)
  · obtain ⟨pa, xs, as, N, p, rfl, _⟩ := h
    rfl
  · obtain ⟨pa, xs, as, N, p, rfl, ha, hA, hN, hp, hb, hf, k⟩ := h
    have nd := sc_distances.nd
    apply Exists.intro
    apply And.intro
    case left =>
     apply PSs.nox
     apply pss_cons
     · exact (ps_set (i := 2) nd rfl (.inl rfl) (pe_op op_rep (pe_lst (pa_cons pe_int pa_nil)) (pe_op op_add (pv 1) pe_int)))
     apply pss_cons
     · exact (ps_set (i := 3) nd rfl (.inl rfl) (pe_op op_cat (pe_lst (pa_cons pe_non pa_nil)) (pe_lc (own := [("at", 4)]) (g := gName 4) rfl nd (pi_range1 (by rfl) rng (pa_cons (pv 1) pa_nil)) (blkOk_by (own := [("at", 4)]) (N := ["arcs", "count", "costs", "by", "at", "more", "arc"]) (sc := defScope s_distances) (by decide +kernel)) (fun _ _ _ _ _ => (pg_name (i := 4) nd rfl (Or.inl rfl))) (fun _ _ _ _ _ => pts_nil) (fun _ _ _ _ _ => (pe_tup (pa_cons (pv 4) (pa_cons (pe_op op_add (pv 4) pe_int) (pa_cons pe_int (pa_cons pe_non pa_nil)))))))))
     apply pss_cons
     · exact (ps_set (i := 5) nd rfl (.inl rfl) pe_bl)
     apply pss_cons
     · apply ps_while PassesOwn.never
       · exact (pt_val (pv 5))
       · apply pss_cons
         · exact (ps_set (i := 5) nd rfl (.inl rfl) pe_bl)
         apply pss_one
         apply ps_for PassesOwn.never rfl
         · exact (pi_list (pv 0))
         · exact (pg_name (i := 6) nd rfl (Or.inl rfl))
         · apply pss_one
           exact (ps_if (pt_cmpR op_lt (pe_op op_add (pe_ix ix_list (pv 2) (pe_ix ix_tup (pv 6) pe_int (fun _ _ => rfl)) (fun _ _ => rfl)) (pe_ix ix_tup (pv 6) pe_int (fun _ _ => rfl))) (pe_ix ix_list (pv 2) (pe_ix ix_tup (pv 6) pe_int (fun _ _ => rfl)) (fun _ _ => rfl)) (nomark _)) (pss_cons (ps_asg (pe_op op_add (pe_ix ix_list (pv 2) (pe_ix ix_tup (pv 6) pe_int (fun _ _ => rfl)) (fun _ _ => rfl)) (pe_ix ix_tup (pv 6) pe_int (fun _ _ => rfl))) (pg_sub (pv 2) (pe_ix ix_tup (pv 6) pe_int (fun _ _ => rfl)) set_list)) (pss_cons (ps_asg (pv 6) (pg_sub (pv 3) (pe_ix ix_tup (pv 6) pe_int (fun _ _ => rfl)) set_list)) (pss_one (ps_set (i := 5) nd rfl (.inl rfl) pe_bl)))) pss_nil)
     apply pss_one
     exact (ps_ret (pe_tup (pa_cons (pv 2) (pa_cons (pv 3) pa_nil))))
    case right =>
      refine ⟨(show 1 ≤ sizeLine by decide), fun p0 hp0 => ?_⟩
      have e0 : (upd H p0 (.lst [V.int 0])) p0 = some (.lst [V.int 0]) := upd_same
      have s0 := same_new (o := .lst [V.int 0]) hp0
      generalize upd H p0 (.lst [V.int 0]) = H0 at s0 e0 ⊢
      refine ⟨_, rfl, _, _, rfl, rfl, p0, _, _, rfl, rfl, e0, by omega, by omega, ?_, fun C hC => ?_⟩
      · exact Nat.le_trans (show 1 * ((N : Int) + 1).toNat ≤ 1001 by omega) (by decide)
      rw [show ((N : Int) + 1).toNat = N + 1 by omega, intL_zero]
      have nC := s0.free hC
      have s1 := s0.trans (same_new (o := .lst (intL (fun _ => 0) (N + 1))) hC)
      have e1 : (upd H0 C (.lst (intL (fun _ => 0) (N + 1)))) C = some (.lst (intL (fun _ => 0) (N + 1))) := upd_same
      generalize upd H0 C (.lst (intL (fun _ => 0) (N + 1))) = H1 at s1 e1 ⊢
      clear hC s0 e0 hp0
      refine ⟨(show 1 ≤ sizeLine by decide), fun p1 hp1 => ?_⟩
      have s2 := s1.trans (same_new (o := .lst [V.non]) hp1)
      have eC2 := (same_new (o := .lst [V.non]) hp1) _ _ e1
      have e2 : (upd H1 p1 (.lst [V.non])) p1 = some (.lst [V.non]) := upd_same
      generalize upd H1 p1 (.lst [V.non]) = H2 at s2 eC2 e2 ⊢
      clear s1 e1 hp1
      refine ⟨_, rfl, _, rfl, by omega, by omega, fun D hD => ?_⟩
      have nD := hD
      refine lc_range (lo := 0) (n := ((N : Int)).toNat) (fun j H' => Same H2 H' ∧ ∃ acc, H' D = some (.lst acc) ∧ DtA (fun b => H2 b = none ∧ b ≠ D) H' acc (((List.range j).map F57.fwd).map arcD)) ⟨same_new hD, [], upd_same, .nil⟩ ?_ ?_
      · rintro j H' hj ⟨sj, acc, ej, Aj⟩
        rw [Int.zero_add]
        refine ⟨rfl, yesIf ⟨_, rfl, _, rfl, _, _, rfl, rfl, (show 4 ≤ sizeLine by decide), fun q hq => ?_⟩⟩
        have sq := same_new (o := .tup [V.int (j : Int), V.int ((j : Int) + 1), V.int 0, V.non]) hq
        have ne : q ≠ D := fun z => by rw [z, ej] at hq; cases hq
        refine ⟨acc, sq _ _ ej, ?_, same_sub (sj.trans sq) nD, _, upd_same, ?_⟩
        · have := Aj.length
          rw [List.length_map, List.length_map, List.length_range] at this
          exact Nat.lt_of_le_of_lt (show acc.length ≤ 1000 by omega) (by decide)
        · rw [List.range_succ, List.map_append, List.map_append]
          exact (Aj.to fun b o g e => ⟨by rw [upd_ne g.2]; exact sq _ _ e, g⟩).app (.cons (.tup ⟨sj.free hq, ne⟩ (by rw [upd_ne ne]; exact upd_same) (.cons (.int _) (.cons (.int _) (.cons (.int _) (.cons .non .nil))))) .nil)
      rintro H3 ⟨s3, acc, e3, A3⟩
      rw [show ((N : Int)).toNat = N by omega] at A3
      have la := A3.length
      rw [List.length_map, List.length_map, List.length_range] at la
      refine ⟨p1, D, _, _, rfl, rfl, s3 _ _ e2, e3, Nat.le_trans (show 1 + acc.length ≤ 1001 by omega) (by decide), fun B hB => ?_⟩
      have s4 := (s2.trans s3).trans (same_new (o := .lst ([V.non] ++ acc)) hB)
      have nB := (s2.trans s3).free hB
      have eC4 := (same_new (o := .lst ([V.non] ++ acc)) hB) _ _ (s3 _ _ eC2)
      have eB4 : (upd H3 B (.lst ([V.non] ++ acc))) B = some (.lst ([V.non] ++ acc)) := upd_same
      have nCB : C ≠ B := fun z => by rw [← z, s3 _ _ eC2] at hB; cases hB
      have A4 : DtA (fun b => b ≠ C ∧ b ≠ B) (upd H3 B (.lst ([V.non] ++ acc))) ([V.non] ++ acc) (byL (fun v => if v = 0 then none else some (F57.fwd (v - 1))) (N + 1)) := by
        rw [byL_init]
        refine .cons .non (A3.to fun b o g e => ⟨(same_new hB) _ _ e, fun z => ?_, fun z => ?_⟩)
        · rw [z, eC2] at g
          exact nomatch g.1
        · rw [z, hB] at e
          cases e
      generalize upd H3 B (.lst ([V.non] ++ acc)) = H4 at s4 eC4 eB4 A4 ⊢
      generalize [V.non] ++ acc = ys at eB4 A4
      clear s2 eC2 e2 nD hD s3 e3 A3 hB la
      have R4 := F57.Rel.start (N := N) hf hp
      have hxs := hA.length
      rw [List.length_map] at hxs
      refine ⟨fun m σ H' => ∃ c by_ t T ys b v4 v6, σ = [some (.ref pa), some (.int (N : Int)), some (.ref C), some (.ref B), v4, some (.bl b), v6] ∧ Same H H' ∧ H' C = some (.lst (intL c (N + 1))) ∧ H' B = some (.lst ys) ∧ DtA (fun b => b ≠ C ∧ b ≠ B) H' ys (byL by_ (N + 1)) ∧ F57.Rel (· ∈ as) N p c by_ t T ∧ ((b = true ∧ m = F57.meas N p c + 1) ∨ (b = false ∧ F57.Pot (· ∈ as) c ∧ m = 0)),
        ⟨_, _, _, _, _, _, _, _, _, rfl, s4, eC4, eB4, A4, R4, .inl ⟨rfl, rfl⟩⟩, ?_⟩
      rintro m σ H5 ⟨c, by_, t, T, ys, b, v4, v6, rfl, s5, eC, eB, A5, R5, hb5⟩
      refine ⟨_, rfl, _, rfl, ?_⟩
      rcases hb5 with ⟨rfl, rfl⟩ | ⟨rfl, fx, rfl⟩
      · refine iteT ⟨_, fun _ _ h => h, ?_⟩
        have eX := s5 _ _ ha
        refine ⟨_, rfl, pa, rfl, ⟨_, SqL.of eX⟩, ?_⟩
        refine for_list (K := K) (a := pa) (xs := xs) (fun i σ H' => ∃ c' by' t' T' ys' b v6, σ = [some (.ref pa), some (.int (N : Int)), some (.ref C), some (.ref B), v4, some (.bl b), v6] ∧ Same H H' ∧ H' C = some (.lst (intL c' (N + 1))) ∧ H' B = some (.lst ys') ∧ DtA (fun b => b ≠ C ∧ b ≠ B) H' ys' (byL by' (N + 1)) ∧ F57.Rel (· ∈ as) N p c' by' t' T' ∧ ((b = true ∧ F57.meas N p c' < F57.meas N p c) ∨ (b = false ∧ c' = c ∧ ∀ a ∈ as.take i, c a.to ≤ c a.fr + a.w)))
          ⟨c, by_, t, T, ys, false, v6, rfl, s5, eC, eB, A5, R5, .inr ⟨rfl, rfl, fun a h => nomatch h⟩⟩ (fun i σ H' _ h => by
            obtain ⟨_, _, _, _, _, _, _, _, h, _⟩ := h
            exact SqL.of (h _ _ ha)) ?_ ?_
        · rintro i x σ H' hi ⟨c', by', t', T', ys', b, v6, rfl, si, eCi, eBi, Ai, Ri, hbi⟩
          obtain ⟨d, hd, hx⟩ := hA.at hi
          rw [List.getElem?_map, Option.map_eq_some_iff] at hd
          obtain ⟨ar, har, rfl⟩ := hd
          have mem := List.mem_of_getElem? har
          obtain ⟨b1, b2, b3⟩ := hb ar mem
          have hxi : Dt (fun b => b ≠ C ∧ b ≠ B) H' x (arcD ar) := hx.to fun b o _ e => ⟨si _ _ e, (fun z => by rw [z, nC] at e; cases e), fun z => by rw [z, nB] at e; cases e⟩
          obtain ⟨pt, y, rfl, ep, _⟩ := arcD_tup hx
          have eP := si _ _ ep
          have g0 : atI [V.int (ar.fr : Int), V.int (ar.to : Int), V.int ar.w, y] 0 = some (V.int (ar.fr : Int)) := rfl
          have g1 : atI [V.int (ar.fr : Int), V.int (ar.to : Int), V.int ar.w, y] 1 = some (V.int (ar.to : Int)) := rfl
          have g2 : atI [V.int (ar.fr : Int), V.int (ar.to : Int), V.int ar.w, y] 2 = some (V.int ar.w) := rfl
          refine ⟨_, rfl, _, rfl, pt, _, _, _, rfl, rfl, SqT.of eP, g0, C, _, _, _, rfl, rfl, SqL.of eCi, atI_nat (intL_at (by omega)), _, rfl, pt, _, _, _, rfl, rfl, SqT.of eP, g2, _, _, rfl, rfl, _, rfl, _, rfl, pt, _, _, _, rfl, rfl, SqT.of eP, g1, C, _, _, _, rfl, rfl, SqL.of eCi, atI_nat (intL_at (by omega)), _, _, rfl, rfl, _, rfl, ?_⟩
          by_cases cc : c' ar.fr + ar.w < c' ar.to
          · rw [decide_eq_true cc]
            refine iteT ⟨_, rfl, _, rfl, pt, _, _, _, rfl, rfl, SqT.of eP, g0, C, _, _, _, rfl, rfl, SqL.of eCi, atI_nat (intL_at (by omega)), _, rfl, pt, _, _, _, rfl, rfl, SqT.of eP, g2, _, _, rfl, rfl, _, rfl, _, rfl, pt, _, _, _, rfl, rfl, SqT.of eP, g1, C, _, _, ar.to, rfl, rfl, eCi, ixN_nat (by rw [intL_len]; omega), ?_⟩
            rw [intL_set (by omega)]
            have s6 := same_sub (o := .lst (intL (F57.set c' ar.to (c' ar.fr + ar.w)) (N + 1))) si nC
            have eB6 : (upd H' C (.lst (intL (F57.set c' ar.to (c' ar.fr + ar.w)) (N + 1)))) B = some (.lst ys') := by rw [upd_ne (Ne.symm nCB)]; exact eBi
            have eC6 : (upd H' C (.lst (intL (F57.set c' ar.to (c' ar.fr + ar.w)) (N + 1)))) C = some (.lst (intL (F57.set c' ar.to (c' ar.fr + ar.w)) (N + 1))) := upd_same
            have A6 : DtA (fun b => b ≠ C ∧ b ≠ B) (upd H' C (.lst (intL (F57.set c' ar.to (c' ar.fr + ar.w)) (N + 1)))) ys' (byL by' (N + 1)) := Ai.to fun b o g e => ⟨by rw [upd_ne g.1]; exact e, g⟩
            have x6 : Dt (fun b => b ≠ C ∧ b ≠ B) (upd H' C (.lst (intL (F57.set c' ar.to (c' ar.fr + ar.w)) (N + 1)))) (.ref pt) (arcD ar) := hxi.to fun b o g e => ⟨by rw [upd_ne g.1]; exact e, g⟩
            have eP6 := s6 _ _ ep
            generalize upd H' C (.lst (intL (F57.set c' ar.to (c' ar.fr + ar.w)) (N + 1))) = H6 at s6 eB6 eC6 A6 x6 eP6 ⊢
            have ly := A6.length
            rw [byL_len] at ly
            refine ⟨_, rfl, _, rfl, _, rfl, pt, _, _, _, rfl, rfl, SqT.of eP6, g1, B, _, _, ar.to, rfl, rfl, eB6, ixN_nat (by rw [ly]; omega), ?_⟩
            have Rn := Ri.step hp mem b1 b2 b3 cc
            have mn := F57.meas_step Ri hp mem b1 b2 cc
            refine ⟨_, _, _, _, _, true, _, rfl, same_sub s6 nB, ?_, upd_same, ?_, Rn, .inl ⟨rfl, ?_⟩⟩
            · rw [upd_ne nCB]
              exact eC6
            · rw [← byL_set (by omega)]
              exact (A6.setAt ar.to x6).to fun b o g e => ⟨by rw [upd_ne g.2]; exact e, g⟩
            · rcases hbi with ⟨_, h⟩ | ⟨_, h, _⟩
              · omega
              · rw [h] at mn ⊢
                exact mn
          · rw [decide_eq_false cc]
            refine iteF ⟨c', by', t', T', ys', b, _, rfl, si, eCi, eBi, Ai, Ri, hbi.imp (fun h => h) fun ⟨h1, h2, h3⟩ => ⟨h1, h2, fun a h => ?_⟩⟩
            rw [take_snoc2 har] at h
            rcases List.mem_append.mp h with h | h
            · exact h3 a h
            · rw [List.mem_singleton] at h
              rw [h, ← h2]
              omega
        · rintro σ H6 ⟨c', by', t', T', ys', b, v6, rfl, s6, eC6, eB6, A6, R6, hb6⟩
          rw [hxs, List.take_length] at hb6
          rcases hb6 with ⟨rfl, hm⟩ | ⟨rfl, rfl, hfx⟩
          · exact ⟨_, Nat.succ_lt_succ hm, c', by', t', T', ys', true, _, _, rfl, s6, eC6, eB6, A6, R6, .inl ⟨rfl, rfl⟩⟩
          · exact ⟨0, Nat.succ_pos _, c', by', t', T', ys', false, _, _, rfl, s6, eC6, eB6, A6, R6, .inr ⟨rfl, hfx, rfl⟩⟩
      · refine iteF ?_
        refine ⟨_, rfl, _, rfl, (show 2 ≤ sizeLine by decide), fun q hq => ?_⟩
        have sq := same_new (o := .tup [V.ref C, V.ref B]) hq
        exact k _ q C B ys c by_ t T (s5.trans sq) upd_same (sq _ _ eC) (sq _ _ eB) (A5.to fun b o _ e => ⟨sq _ _ e, trivial⟩) R5 fx
end
/-! ## k57: the kept spans' dict -/
theorem kOf_put (kvs : List (Key × V)) (i : Nat) (v : V) (j : Nat) : kOf (putK kvs (Sum.inl (i : Int)) v) j = if j = i then true else kOf kvs j := by
  unfold kOf
  rw [valV_put]
  by_cases e : j = i
  · subst e
    rw [if_pos rfl, if_pos rfl]
    rfl
  · rw [if_neg (fun z => e (by injection z with z; omega)), if_neg e]
theorem valV_dropK (k j : Key) : ∀ kvs : List (Key × V), valV (dropK kvs k) j = if j = k then none else valV kvs j
  | [] => by
    show none = _
    split <;> rfl
  | p :: r => by
    have ih := valV_dropK k j r
    unfold dropK at ih ⊢
    rw [List.filter_cons]
    by_cases e : p.1 = k
    · rw [if_neg (by simp [e]), ih]
      by_cases q : j = k
      · rw [if_pos q, if_pos q]
      · rw [if_neg q, if_neg q, valV_neg (fun z => q (z.symm.trans e))]
    · rw [if_pos (by simp [e])]
      by_cases q : p.1 = j
      · rw [valV_pos q, valV_pos q, if_neg (fun z => e (q.trans z))]
      · rw [valV_neg q, valV_neg q, ih]
theorem kOf_drop (kvs : List (Key × V)) (i j : Nat) : kOf (dropK kvs (Sum.inl (i : Int))) j = if j = i then false else kOf kvs j := by
  unfold kOf
  rw [valV_dropK]
  by_cases e : j = i
  · subst e
    rw [if_pos rfl, if_pos rfl]
    rfl
  · rw [if_neg (fun z => e (by injection z with z; omega)), if_neg e]
theorem kOf_put_tog {kvs : List (Key × V)} {i : Nat} {v : V} (h : kOf kvs i = false) : kOf (putK kvs (Sum.inl (i : Int)) v) = F57.tog (kOf kvs) i := by
  funext j
  rw [kOf_put]
  unfold F57.tog
  by_cases e : j = i
  · subst e
    rw [if_pos rfl, F57.set_same, h]
    rfl
  · rw [if_neg e, F57.set_ne e]
theorem kOf_drop_tog {kvs : List (Key × V)} {i : Nat} (h : kOf kvs i = true) : kOf (dropK kvs (Sum.inl (i : Int))) = F57.tog (kOf kvs) i := by
  funext j
  rw [kOf_drop]
  unfold F57.tog
  by_cases e : j = i
  · subst e
    rw [if_pos rfl, F57.set_same, h]
    rfl
  · rw [if_neg e, F57.set_ne e]
theorem togs_snoc : ∀ (l : List F57.Arc) (k : Nat → Bool) (a : F57.Arc), F57.togs k (l ++ [a]) = (match a.ix with | some i => F57.tog (F57.togs k l) i | none => F57.togs k l)
  | [], k, a => by
    show F57.togs (match a.ix with | some i => F57.tog k i | none => k) [] = _
    rfl
  | b :: l, k, a => togs_snoc l _ a
/-- the keys: numbers of spans, each once -/
def KeysOk (n : Nat) (kvs : List (Key × V)) : Prop := ∃ ks : List Nat, kvs.map (·.1) = ks.map (fun i : Nat => (Sum.inl (i : Int) : Key)) ∧ ks.Nodup ∧ ∀ i ∈ ks, i < n
theorem KeysOk.nil (n : Nat) : KeysOk n [] := ⟨[], rfl, .nil, fun _ h => nomatch h⟩
theorem keys_mem {kvs : List (Key × V)} {ks : List Nat} (h : kvs.map (·.1) = ks.map (fun i : Nat => (Sum.inl (i : Int) : Key))) (i : Nat) : kOf kvs i = decide (i ∈ ks) := by
  unfold kOf
  rw [← valV_any]
  by_cases e : i ∈ ks
  · rw [decide_eq_true e]
    have : (Sum.inl (i : Int) : Key) ∈ kvs.map (·.1) := by rw [h]; exact List.mem_map.mpr ⟨i, e, rfl⟩
    obtain ⟨p, hp, e2⟩ := List.mem_map.mp this
    exact List.any_eq_true.mpr ⟨p, hp, decide_eq_true e2⟩
  · rw [decide_eq_false e]
    refine List.any_eq_false.mpr fun p hp z => e ?_
    have z := of_decide_eq_true z
    have : (Sum.inl (i : Int) : Key) ∈ kvs.map (·.1) := List.mem_map.mpr ⟨p, hp, z⟩
    rw [h] at this
    obtain ⟨j, hj, e2⟩ := List.mem_map.mp this
    injection e2 with e2
    have : j = i := by omega
    exact this ▸ hj
theorem KeysOk.put {n : Nat} {kvs : List (Key × V)} {i : Nat} {v : V} (h : KeysOk n kvs) (hi : i < n) (hk : kOf kvs i = false) : KeysOk n (putK kvs (Sum.inl (i : Int)) v) := by
  obtain ⟨ks, h1, h2, h3⟩ := h
  have hn : i ∉ ks := by
    have := keys_mem h1 i
    rw [hk] at this
    exact of_decide_eq_false this.symm
  have hv : valV kvs (Sum.inl (i : Int)) = none := by
    unfold kOf at hk
    cases q : valV kvs (Sum.inl (i : Int)) with
    | none => rfl
    | some x => rw [q] at hk; cases hk
  refine ⟨ks ++ [i], ?_, ?_, fun j hj => ?_⟩
  · rw [putK_new v hv, List.map_append, h1, List.map_append]
    rfl
  · refine List.nodup_append.mpr ⟨h2, by simp, fun a ha b hb => ?_⟩
    rw [List.mem_singleton] at hb
    subst hb
    exact fun e => hn (e ▸ ha)
  · rcases List.mem_append.mp hj with hj | hj
    · exact h3 j hj
    · rw [List.mem_singleton] at hj
      omega
theorem KeysOk.drop {n : Nat} {kvs : List (Key × V)} {i : Nat} (h : KeysOk n kvs) : KeysOk n (dropK kvs (Sum.inl (i : Int))) := by
  obtain ⟨ks, h1, h2, h3⟩ := h
  refine ⟨ks.filter (fun j => decide (j ≠ i)), ?_, h2.filter _, fun j hj => h3 j (List.mem_filter.mp hj).1⟩
  clear h2 h3
  induction kvs generalizing ks with
  | nil =>
    cases ks with
    | nil => rfl
    | cons a l => cases h1
  | cons p r ih =>
    cases ks with
    | nil => cases h1
    | cons a l =>
      rw [List.map_cons, List.map_cons] at h1
      injection h1 with e1 e2
      have ih := ih l e2
      unfold dropK at ih ⊢
      rw [List.filter_cons, List.filter_cons]
      by_cases q : a = i
      · subst q
        rw [if_neg (by simp [e1]), if_neg (by simp)]
        exact ih
      · rw [if_pos (by rw [e1]; exact decide_eq_true fun z => q (by injection z with z; omega)), if_pos (decide_eq_true q), List.map_cons, List.map_cons, ih, e1]
/-! ## k57: the spans kept by the flow -/
def spKept : Sp := fun vs H Q _ => ∃ (a : Addr) (xs : List V) (sp : List F57.Span) (room : Nat), vs = [.ref a, .int (room : Int)] ∧ SeqH H a xs ∧ DtA anyA H xs (sp.map spD) ∧ SpOk sp ∧ room ≤ 20 ∧
  ∀ H' q pk C kvs c, Same H H' → H' q = some (.tup [.ref pk, .ref C]) → H' pk = some (.dK kvs) → H' C = some (.lst (intL c (lenS sp + 1))) → KeysOk sp.length kvs → F57.Good sp (lenS sp) room (kOf kvs) c → Q (.ref q) H'
theorem nodup_len : ∀ (n : Nat) (ks : List Nat), ks.Nodup → (∀ i ∈ ks, i < n) → ks.length ≤ n
  | 0, ks, _, h => by
    cases ks with
    | nil => exact Nat.le_refl _
    | cons a l => exact absurd (h a (List.mem_cons_self ..)) (Nat.not_lt_zero _)
  | n + 1, ks, hn, h => by
    have ih := nodup_len n (ks.erase n) (hn.erase n) fun i hi => by
      obtain ⟨h1, h2⟩ := hn.mem_erase_iff.mp hi
      have := h i h2
      omega
    by_cases e : n ∈ ks
    · rw [List.length_erase_of_mem e] at ih
      omega
    · rw [List.erase_of_not_mem e] at ih
      omega
theorem KeysOk.len {n : Nat} {kvs : List (Key × V)} (h : KeysOk n kvs) : kvs.length ≤ n := by
  obtain ⟨ks, h1, h2, h3⟩ := h
  have e := congrArg List.length h1
  rw [List.length_map, List.length_map] at e
  have := nodup_len n ks h2 h3
  omega
def KInv (sp : List F57.Span) (a pk : Addr) (room : Nat) (H : Hp) (u : Nat) (σ : L2.St) (H' : Hp) : Prop := ∃ kvs p v4 v5 v6 v7 v8 v9 v10 v11, σ = [some (.ref a), some (.int (room : Int)), some (.ref pk), some (.int (lenS sp : Int)), v4, v5, v6, v7, v8, v9, v10, v11] ∧ Same H H' ∧ H' pk = some (.dK kvs) ∧ KeysOk sp.length kvs ∧
  (∀ x, x < lenS sp → F57.cov sp (kOf kvs) x ≤ u) ∧ F57.Pot (F57.IsArc sp (lenS sp) (kOf kvs) u) p
theorem cov_none (x : Nat) : ∀ sp : List F57.Span, F57.cov sp (fun _ => false) x = 0
  | [] => rfl
  | s :: r => by
    show (if false && F57.inS s x then 1 else 0) + F57.cov r (fun _ => false) x = 0
    rw [cov_none x r]
    rfl
theorem SpOk.hs {sp : List F57.Span} (ok : SpOk sp) : ∀ s ∈ sp, s.1 ≤ s.2.1 ∧ s.2.1 < lenS sp := fun s h => ⟨(ok.ok s h).1, lenS_lt h⟩
theorem isarc_ok {sp : List F57.Span} {k : Nat → Bool} {u : Nat} {a : F57.Arc} (ok : SpOk sp) (h : F57.IsArc sp (lenS sp) k u a) : a.fr ≤ lenS sp ∧ a.to ≤ lenS sp ∧ a.fr ≠ a.to := by
  cases h with
  | fwd h =>
    rename_i x
    exact ⟨Nat.le_of_lt h, h, fun z => by have z : x = x + 1 := z; omega⟩
  | span h =>
    rename_i i s
    obtain ⟨h1, h2⟩ := ok.hs s (List.mem_of_getElem? h)
    unfold F57.arcOf
    split
    · exact ⟨h2, by show s.1 ≤ _; omega, fun z => by have z : s.2.1 + 1 = s.1 := z; omega⟩
    · exact ⟨by show s.1 ≤ _; omega, h2, fun z => by have z : s.1 = s.2.1 + 1 := z; omega⟩
  | back h h2 =>
    rename_i x
    exact ⟨h, Nat.le_of_lt h, fun z => by have z : x + 1 = x := z; omega⟩
theorem Dt.lstI {G : Addr → Prop} {H : Hp} {x : V} {ds : List PyData} (h : Dt G H x (.list ds)) : ∃ a xs, x = .ref a ∧ H a = some (.lst xs) ∧ DtA G H xs ds := by
  cases h with
  | lst _ e h => exact ⟨_, _, rfl, e, h⟩
section
variable {P : Program} {w : World} {K : PySem.W.Frag} {mg : Str → Option Value} {base : Heap}
theorem sc_kept_spans : FnScope ["spans", "room", "kept", "count", "units", "costs", "by", "at", "start", "end", "cost", "index"] ["spans", "room"] (defScope s_kept_spans) := ⟨rfl, rfl, rfl, by decide +kernel, rfl, by decide +kernel, by decide +kernel⟩
theorem ok_kept {CX : CXT} {f : Addr} {fd : FuncData} (F : FnP K "kept_spans" s_kept_spans f fd) (c_length_of : Cal P w K mg base 1 "length_of" ["spans"] spLen) (c_arcs_of : Cal P w K mg base 2 "arcs_of" ["spans", "kept", "units"] spArc) (c_distances : Cal P w K mg base 1 "distances" ["arcs", "count"] spDst) (rng : mg "range" = none) : FnOk P w K mg base CX 3 f fd ["spans", "room"] spKept := by
  obtain ⟨f_length_of, fd_length_of, g_length_of, k_length_of, b_length_of, G_length_of⟩ := c_length_of
  obtain ⟨f_arcs_of, fd_arcs_of, g_arcs_of, k_arcs_of, b_arcs_of, G_arcs_of⟩ := c_arcs_of
  obtain ⟨f_distances, fd_distances, g_distances, k_distances, b_distances, G_distances⟩ := c_distances
  refine F.ok sc_kept_spans (fun vs H Q E h => ?_) (fun cdv A outer s H vs Q E hr h => ?_)
  · obtain ⟨a, xs, sp, room, rfl, _⟩ := h
    rfl
  · obtain ⟨a, xs, sp, room, rfl, hS, hA, ok, hroom, k⟩ := h
    have nd := sc_kept_spans.nd
    have hu := hu_of hr
    apply Exists.intro
    apply And.intro
    case left =>
     apply PSs.nox
     apply pss_cons
     · exact (ps_par (X := (cxOf CX P w K mg base ["spans", "room", "kept", "count", "units", "costs", "by", "at", "start", "end", "cost", "index"] "kept_spans" (defScope s_kept_spans) f cdv A outer s H E).nox) (i := 2) (j := 3) rfl nd rfl rfl (by decide) rfl rfl (pa_cons pe_dnewK (pa_cons (pe_call G_length_of (hr.mono (by decide)) rfl g_length_of k_length_of b_length_of .nil pass0 (pa_cons (pv 0) pa_nil)) pa_nil)) (by rfl))
     apply C8.pss_cut
     · apply ps_for PassesOwn.never rfl
       · exact (pi_range1 (by rfl) rng (pa_cons (pv 1) pa_nil))
       · exact (pg_name (i := 4) nd rfl (Or.inl rfl))
       · apply pss_cons
         · exact (ps_asg (pe_call G_distances (hr.mono (by decide)) rfl g_distances k_distances b_distances .nil pass0 (pa_cons (pe_call G_arcs_of (hr.mono (by decide)) rfl g_arcs_of k_arcs_of b_arcs_of .nil pass0 (pa_cons (pv 0) (pa_cons (pv 2) (pa_cons (pv 4) pa_nil)))) (pa_cons (pv 3) pa_nil))) (pg_tup rfl (pgs_cons (pg_name (i := 5) nd rfl (Or.inl rfl)) (pgs_cons (pg_name (i := 6) nd rfl (Or.inl rfl)) pgs_nil))))
         apply pss_cons
         · exact (ps_if (pt_cmpR op_eq (pe_ix ix_list (pv 5) (pv 3) (fun _ _ => rfl)) pe_int (nomark _)) (pss_one ps_break) pss_nil)
         apply pss_cons
         · exact (ps_set (i := 7) nd rfl (.inl rfl) (pv 3))
         apply pss_one
         apply ps_while PassesOwn.never
         · exact (pt_cmpR op_gt (pv 7) pe_int (nomark _))
         · apply pss_cons
           · exact (ps_asg (pe_ix ix_list (pv 6) (pv 7) (fun _ _ => rfl)) (pg_tup rfl (pgs_cons (pg_name (i := 8) nd rfl (Or.inl rfl)) (pgs_cons (pg_name (i := 9) nd rfl (Or.inl rfl)) (pgs_cons (pg_name (i := 10) nd rfl (Or.inl rfl)) (pgs_cons (pg_name (i := 11) nd rfl (Or.inl rfl)) pgs_nil))))))
           apply pss_cons
           · exact (ps_if (pt_cmp (pc_dinN hu (pv 11) (pv 2)) (by rfl)) (pss_one (ps_ddel (pv 2) (pv 11))) (pss_one (ps_if (pt_cmpR op_notN (pv 11) pe_non (nomark _)) (pss_one (ps_dput hu (pv 2) (pv 11) pe_bl rfl)) pss_nil)))
           apply pss_one
           exact (ps_set (i := 7) nd rfl (.inl rfl) (pv 8))
     apply pss_cons
     · exact (ps_asg (pe_call G_distances (hr.mono (by decide)) rfl g_distances k_distances b_distances .nil pass0 (pa_cons (pe_call G_arcs_of (hr.mono (by decide)) rfl g_arcs_of k_arcs_of b_arcs_of .nil pass0 (pa_cons (pv 0) (pa_cons (pv 2) (pa_cons (pv 1) pa_nil)))) (pa_cons (pv 3) pa_nil))) (pg_tup rfl (pgs_cons (pg_name (i := 5) nd rfl (Or.inl rfl)) (pgs_cons (pg_name (i := 6) nd rfl (Or.inl rfl)) pgs_nil))))
     apply pss_one
     exact (ps_ret (pe_tup (pa_cons (pv 2) (pa_cons (pv 5) pa_nil))))
    case right =>
      have hN := ok.len
      refine fun pk hpk => ?_
      have nk := hpk
      have s0 := same_new (o := .dK []) hpk
      have e0 : (upd H pk (.dK [])) pk = some (.dK []) := upd_same
      generalize upd H pk (.dK []) = H0 at s0 e0 ⊢
      refine ⟨_, rfl, a, xs, sp, rfl, hS.same s0, hA.same s0, ok.ln, fun H1 s1 => ?_⟩
      refine ⟨_, _, rfl, ?_⟩
      have k0 : kOf [] = fun _ => false := funext fun i => rfl
      have start : KInv sp a pk room H 0 [some (.ref a), some (.int (room : Int)), some (.ref pk), some (.int (lenS sp : Int)), none, none, none, none, none, none, none, none] H1 := ⟨[], _, none, none, none, none, none, none, none, none, rfl, s0.trans s1, s1 _ _ e0, .nil _, fun x _ => by rw [k0, cov_none]; exact Nat.le_refl _, by rw [k0]; exact F57.pot0 sp _ fun s h => (ok.hs s h).1⟩
      clear s0 e0 s1 hpk
      refine ⟨KInv sp a pk room H room, ?_, ?_⟩
      · refine ⟨_, rfl, _, rfl, by omega, by omega, ?_⟩
        refine for_range (lo := 0) (n := ((room : Int)).toNat) (fun j σ H' => KInv sp a pk room H j σ H') start ?_ ?_
        · rintro j σ H' hj ⟨kvs, p, v4, v5, v6, v7, v8, v9, v10, v11, rfl, sj, ek, ko, cv, pot⟩
          rw [Int.zero_add]
          have hj : j < room := by omega
          have eA : (fun a => a ∈ arcsL sp (lenS sp) (kOf kvs) j) = F57.IsArc sp (lenS sp) (kOf kvs) j := funext fun a => propext arcsL_mem
          refine ⟨_, rfl, _, rfl, _, rfl, a, pk, xs, sp, kvs, j, rfl, hS.same sj, hA.same sj, ok, ek, by omega, fun H3 pa s3 dA => ?_⟩
          obtain ⟨pa', xa, ep, ea, Aa⟩ := dA.lstI
          cases ep
          refine ⟨_, rfl, _, xa, arcsL sp (lenS sp) (kOf kvs) j, lenS sp, p, rfl, ea, Aa.to fun b o _ e => ⟨e, trivial⟩, hN, by rw [eA]; exact pot, fun a h => isarc_ok ok (arcsL_mem.mp h), fun x h => arcsL_mem.mpr (.fwd h), fun H4 q C B ys c by_ t T s4 eq eC eB A4 R4 fx => ?_⟩
          rw [eA] at R4 fx
          refine ⟨q, _, rfl, SqT.of eq, rfl, _, _, rfl, _, _, rfl, rfl, ?_⟩
          refine ⟨_, rfl, _, rfl, C, _, _, _, rfl, rfl, SqL.of eC, atI_nat (intL_at (by omega)), rfl, _, rfl, ?_⟩
          have s5 := sj.trans (s3.trans s4)
          replace ek := s4 _ _ (s3 _ _ ek)
          by_cases cz : c (lenS sp) = 0
          · rw [decide_eq_true (congrArg V.int cz)]
            refine iteT ?_
            exact ⟨kvs, c, _, _, _, _, _, _, _, _, rfl, s5, ek, ko, fun x hx => Nat.le_trans (cv x hx) (by omega), F57.pot_room ok.hs fx R4.z cz⟩
          rw [decide_eq_false (fun z => cz (by injection z))]
          refine iteF ?_
          obtain ⟨l, tr, nd2, hl⟩ := R4.trace pot _ _ (lenS sp) (Nat.le_refl _) rfl rfl
          have hl2 : ∀ a ∈ l, F57.IsArc sp (lenS sp) (kOf kvs) j a ∧ by_ a.to = some a ∧ a.to ≤ lenS sp := fun a h => ⟨(hl a h).1, (hl a h).2.1, (hl a h).2.2.1⟩
          obtain ⟨g1, g2⟩ := F57.grow (fun s h => (ok.hs s h).1) R4 fx cv tr nd2 hl2
          have hys : ∀ v a, v ≤ lenS sp → by_ v = some a → ∃ pt y, ys[v]? = some (.ref pt) ∧ H4 pt = some (.tup [.int (a.fr : Int), .int (a.to : Int), .int a.w, y]) ∧ y = (match a.ix with | none => .non | some i => .int (i : Int)) := by
            intro v a hv hb
            have ly := A4.length
            rw [byL_len] at ly
            have e1 : ys[v]? = some ys[v] := List.getElem?_eq_getElem (by omega)
            obtain ⟨d, hd, hx⟩ := A4.at e1
            rw [byL_at (by omega), hb] at hd
            injection hd with hd
            subst hd
            obtain ⟨pt, y, ex, ep, ey⟩ := arcD_tup hx
            exact ⟨pt, y, by rw [e1, ex], ep, ey⟩
          have npk : ∀ {b : Addr} {o : HO}, H b = some o → b ≠ pk := fun e z => by rw [z, nk] at e; cases e
          have nCk : C ≠ pk := fun z => by rw [z, ek] at eC; cases eC
          have nBk : B ≠ pk := fun z => by rw [z, ek] at eB; cases eB
          refine ⟨_, rfl, fun m σ H' => ∃ v l1 l2 kvs' v8 v9 v10 v11, σ = [some (.ref a), some (.int (room : Int)), some (.ref pk), some (.int (lenS sp : Int)), some (.int (j : Int)), some (.ref C), some (.ref B), some (.int ((v : Nat) : Int)), v8, v9, v10, v11] ∧ (∀ b, b ≠ pk → H' b = H4 b) ∧ H' pk = some (.dK kvs') ∧ KeysOk sp.length kvs' ∧ kOf kvs' = F57.togs (kOf kvs) l1 ∧ l = l1 ++ l2 ∧ F57.Tr by_ v l2 ∧ v ≤ lenS sp ∧ m = l2.length,
            ⟨_, lenS sp, [], l, kvs, _, _, _, _, rfl, fun _ _ => rfl, ek, ko, rfl, rfl, tr, Nat.le_refl _, rfl⟩, ?_⟩
          rintro m σ H5 ⟨v, l1, l2, kvs', w8, w9, w10, w11, rfl, eH, ek5, ko5, ek2, el, tr5, hv, rfl⟩
          refine ⟨_, rfl, _, _, rfl, rfl, _, rfl, ?_⟩
          cases tr5 with
          | nil =>
            rw [decide_eq_false (by decide)]
            refine iteF ⟨kvs', c, _, _, _, _, _, _, _, _, rfl, fun b o e => by rw [eH b (npk e)]; exact s5 _ _ e, ek5, ko5, ?_, ?_⟩
            · rw [ek2, show l1 = l by rw [el, List.append_nil]]
              exact g1
            · rw [ek2, show l1 = l by rw [el, List.append_nil]]
              exact g2
          | cons v0 hb tr6 =>
            rename_i ar l3
            rw [decide_eq_true (show (0 : Int) < ((v : Nat) : Int) by omega)]
            refine iteT ⟨_, fun _ _ h => h, ?_⟩
            have mem : ar ∈ l := by rw [el]; exact List.mem_append_right _ (List.mem_cons_self ..)
            have hfr : ar.fr ≤ lenS sp := (isarc_ok ok (hl2 ar mem).1).1
            obtain ⟨pt, y, ex, ept, ey⟩ := hys v ar hv hb
            have npt : pt ≠ pk := fun z => by rw [z, ek] at ept; cases ept
            have eB5 : H5 B = some (.lst ys) := by rw [eH B nBk]; exact eB
            have ep5 : H5 pt = some (.tup [.int (ar.fr : Int), .int (ar.to : Int), .int ar.w, y]) := by rw [eH pt npt]; exact ept
            refine ⟨_, rfl, _, rfl, B, _, _, _, rfl, rfl, SqL.of eB5, atI_nat ex, pt, _, rfl, SqT.of ep5, rfl, _, _, rfl, _, _, rfl, _, _, rfl, _, _, rfl, rfl, ?_⟩
            have el2 : l = (l1 ++ [ar]) ++ l3 := by rw [el, List.append_assoc]; rfl
            cases q : ar.ix with
            | none =>
              rw [q] at ey
              have ey : y = .non := ey
              subst ey
              refine ⟨_, rfl, _, rfl, .inr ⟨pk, kvs', rfl, rfl, .inl ek5, _, rfl, iteF ?_⟩⟩
              refine ⟨_, rfl, rfl, _, rfl, iteNe rfl ?_⟩
              exact ⟨_, rfl, l3.length, Nat.lt_succ_self _, ar.fr, l1 ++ [ar], l3, kvs', _, _, _, _, rfl, eH, ek5, ko5, by rw [togs_snoc, q]; exact ek2, el2, tr6, hfr, rfl⟩
            | some i =>
              rw [q] at ey
              have ey : y = .int (i : Int) := ey
              subst ey
              obtain ⟨s0, hs0, _⟩ := (hl2 ar mem).1.ix_some q
              have hi : i < sp.length := (List.getElem?_eq_some_iff.mp hs0).1
              refine ⟨_, rfl, _, rfl, .inl ⟨pk, _, rfl, DGet.k (k := Sum.inl (i : Int)) ek5, _, rfl, ?_⟩⟩
              have ei : (valV kvs' (Sum.inl (i : Int))).isSome = kOf kvs' i := rfl
              rw [ei]
              cases hk : kOf kvs' i with
              | true =>
                refine iteT ⟨_, rfl, _, rfl, pk, kvs', Sum.inl (i : Int), rfl, ek5, rfl, hk, ?_⟩
                exact ⟨_, rfl, l3.length, Nat.lt_succ_self _, ar.fr, l1 ++ [ar], l3, _, _, _, _, _, rfl, fun b hb => by rw [upd_ne hb]; exact eH b hb, upd_same, ko5.drop, by rw [kOf_drop_tog hk, togs_snoc, q, ek2], el2, tr6, hfr, rfl⟩
              | false =>
                refine iteF ⟨_, rfl, rfl, _, rfl, iteNt (fun z => by cases z) ?_⟩
                refine ⟨_, rfl, _, rfl, pk, _, rfl, .inl ⟨kvs', Sum.inl (i : Int), ek5, rfl, Nat.lt_of_le_of_lt ko5.len (Nat.lt_of_le_of_lt ok.ln (by decide)), rfl⟩, ?_⟩
                exact ⟨_, rfl, l3.length, Nat.lt_succ_self _, ar.fr, l1 ++ [ar], l3, _, _, _, _, _, rfl, fun b hb => by rw [upd_ne hb]; exact eH b hb, upd_same, ko5.put hi hk, by rw [kOf_put_tog hk, togs_snoc, q, ek2], el2, tr6, hfr, rfl⟩
        · rintro σ H' h
          rw [show ((room : Int)).toNat = room by omega] at h
          exact h
      rintro σ H2 ⟨kvs, p, v4, v5, v6, v7, v8, v9, v10, v11, rfl, s2, ek, ko, cv, pot⟩
      have eA : (fun a => a ∈ arcsL sp (lenS sp) (kOf kvs) room) = F57.IsArc sp (lenS sp) (kOf kvs) room := funext fun a => propext arcsL_mem
      refine ⟨_, rfl, _, rfl, _, rfl, a, pk, xs, sp, kvs, room, rfl, hS.same s2, hA.same s2, ok, ek, hroom, fun H3 pa s3 dA => ?_⟩
      obtain ⟨pa', xa, ep, ea, Aa⟩ := dA.lstI
      cases ep
      refine ⟨_, rfl, _, xa, arcsL sp (lenS sp) (kOf kvs) room, lenS sp, p, rfl, ea, Aa.to fun b o _ e => ⟨e, trivial⟩, hN, by rw [eA]; exact pot, fun a h => isarc_ok ok (arcsL_mem.mp h), fun x h => arcsL_mem.mpr (.fwd h), fun H4 q C B ys c by_ t T s4 eq eC eB A4 R4 fx => ?_⟩
      rw [eA] at R4 fx
      refine ⟨q, _, rfl, SqT.of eq, rfl, _, _, rfl, _, _, rfl, rfl, ?_⟩
      refine ⟨_, rfl, _, rfl, (show 2 ≤ sizeLine by decide), fun q2 hq2 => ?_⟩
      have s5 := s4.trans (same_new (o := .tup [V.ref pk, V.ref C]) hq2)
      have sq := same_new (o := .tup [V.ref pk, V.ref C]) hq2
      exact k _ q2 pk C kvs c (s2.trans (s3.trans s5)) upd_same (s5 _ _ (s3 _ _ ek)) (sq _ _ eC) ko ⟨ok.hs, fx, cv⟩
end
/-! ## k57: what is left out -/
theorem ixseq {K : PySem.W.Frag} {H : Hp} {a : Addr} {xs : List V} {i : Nat} {v : V} {Q : VK} (h : SeqH H a xs) (e : xs[i]? = some v) (q : Q v H) : rIx K (.ref a) (.int (i : Int)) H Q := by
  rcases h with h | h
  · exact .inl ⟨_, _, _, _, rfl, rfl, SqL.of h, atI_nat e, q⟩
  · exact .inr (.inl ⟨_, _, _, _, rfl, rfl, SqT.of h, atI_nat e, q⟩)
theorem cov_high {x : Nat} : ∀ {l : List F57.Span} {k : Nat → Bool}, (∀ s ∈ l, s.2.1 < x) → F57.cov l k x = 0
  | [], _, _ => rfl
  | s :: r, k, h => by
    have e : F57.inS s x = false := by
      have := h s (List.mem_cons_self ..)
      unfold F57.inS
      simp; omega
    show (if k 0 && F57.inS s x then 1 else 0) + F57.cov r _ x = 0
    rw [e, Bool.and_false, cov_high fun s hs => h s (List.mem_cons_of_mem _ hs)]
    rfl
theorem covL_app {c : Nat → Nat} {m n : Nat} (h : ∀ x, m ≤ x → c x = 0) : covL c m ++ covL (fun _ => 0) n = covL c (m + n) := by
  refine List.ext_getElem? fun i => ?_
  by_cases hi : i < m
  · rw [List.getElem?_append_left (by rw [covL_len]; exact hi), covL_at hi, covL_at (by omega)]
  · rw [List.getElem?_append_right (by rw [covL_len]; omega), covL_len]
    by_cases h2 : i - m < n
    · rw [covL_at h2, covL_at (by omega), h i (by omega)]
    · rw [List.getElem?_eq_none (by rw [covL_len]; omega), List.getElem?_eq_none (by rw [covL_len]; omega)]
theorem covL_cut {c : Nat → Nat} {N f l : Nat} (h1 : f ≤ l) (h2 : l < N) : cutV (covL c N) (some (f : Int)) (some ((l : Int) + 1)) = ((List.range (l + 1 - f)).map fun m => (c (f + m) : Int)).map V.int := by
  show cutV (covL c N) (some ((f : Nat) : Int)) (some (((l + 1 : Nat)) : Int)) = _
  unfold cutV
  rw [covL_len, HT.sIx_nat, HT.sIx_nat, Nat.min_eq_left (by omega), Nat.min_eq_left (by omega)]
  refine List.ext_getElem? fun i => ?_
  rw [List.getElem?_take, List.getElem?_drop]
  by_cases q : i < l + 1 - f
  · rw [if_pos q, covL_at (by omega), List.map_map, List.getElem?_map, List.getElem?_range q]
    rfl
  · rw [if_neg q, List.getElem?_eq_none (by rw [List.length_map, List.length_map, List.length_range]; omega)]
theorem lenS_sub {l sp : List F57.Span} (h : ∀ s ∈ l, s ∈ sp) : lenS l ≤ lenS sp := by
  rcases (foldl_max (l.map fun s => s.2.1 + 1) 0).2.2 with e | e
  · unfold lenS
    omega
  · obtain ⟨s, hs, e⟩ := List.mem_map.mp e
    have := lenS_lt (h s hs)
    unfold lenS at this ⊢
    omega
section
variable {P : Program} {w : World} {K : PySem.W.Frag} {mg : Str → Option Value} {base : Heap}
def spLeast : Sp := fun vs H Q _ => ∃ (a : Addr) (xs : List V) (sp : List F57.Span) (room : Nat), vs = [.ref a, .int (room : Int)] ∧ SeqH H a xs ∧ DtA anyA H xs (sp.map spD) ∧ SpOk sp ∧ sp.length ≤ 60 ∧ room ≤ 20 ∧
  ∀ H' q L R k k2 c, Same H H' → H' q = some (.tup [.ref L, .ref R]) → H' L = some (.lst ((((List.range sp.length).filter fun i => !k2 i).map fun i : Nat => (i : Int)).map V.int)) → H' R = some (.lst (intL (F57.pr c) (lenS sp))) → F57.Good sp (lenS sp) room k c → F57.Fill sp (lenS sp) room k k2 sp.length → Q (.ref q) H'
theorem sc_least_of : FnScope ["spans", "room", "kept", "costs", "cover", "index", "left", "first", "last", "cost", "at"] ["spans", "room"] (defScope s_least_of) := ⟨rfl, rfl, rfl, by decide +kernel, rfl, by decide +kernel, by decide +kernel⟩
theorem ok_leastof {f : Addr} {fd : FuncData} (F : FnP K "least_of" s_least_of f fd) (c_length_of : Cal P w K mg base 1 "length_of" ["spans"] spLen) (c_cover_of : Cal P w K mg base 2 "cover_of" ["spans"] spCov) (c_kept_spans : Cal P w K mg base 3 "kept_spans" ["spans", "room"] spKept)
    (G : NkF K mg) (rng : mg "range" = none) (m_enumerate : mg "enumerate" = none) (m_max : mg "max" = none) (m_sorted : mg "sorted" = none) : FnOk P w K mg base CX0 4 f fd ["spans", "room"] spLeast := by
  obtain ⟨f_length_of, fd_length_of, g_length_of, k_length_of, b_length_of, G_length_of⟩ := c_length_of
  obtain ⟨f_cover_of, fd_cover_of, g_cover_of, k_cover_of, b_cover_of, G_cover_of⟩ := c_cover_of
  obtain ⟨f_kept_spans, fd_kept_spans, g_kept_spans, k_kept_spans, b_kept_spans, G_kept_spans⟩ := c_kept_spans
  refine F.ok sc_least_of (fun vs H Q E h => ?_) (fun cdv A outer s H vs Q E hr h => ?_)
  · obtain ⟨a, xs, sp, room, rfl, _⟩ := h
    rfl
  · obtain ⟨a, xs, sp, room, rfl, hS, hA, ok, hl60, hroom, k⟩ := h
    have nd := sc_least_of.nd
    have hu := hu_of hr
    apply Exists.intro
    apply And.intro
    case left =>
     apply PSs.nox
     apply pss_cons
     · exact (ps_asg (pe_call G_kept_spans (hr.mono (by decide)) rfl g_kept_spans k_kept_spans b_kept_spans .nil pass0 (pa_cons (pv 0) (pa_cons (pv 1) pa_nil))) (pg_tup rfl (pgs_cons (pg_name (i := 2) nd rfl (Or.inl rfl)) (pgs_cons (pg_name (i := 3) nd rfl (Or.inr rfl)) pgs_nil))))
     apply pss_cons
     · exact (ps_set (i := 4) nd rfl (.inl rfl) (pe_call G_cover_of (hr.mono (by decide)) rfl g_cover_of k_cover_of b_cover_of .nil pass0 (pa_cons (pe_lc (own := [("index", 5)]) (g := gName 5) rfl nd (pi_list (pe_callB (call_sortedDI rfl) (by rfl) m_sorted (by decide +kernel) (pa_cons (pv 2) pa_nil))) (blkOk_by (own := [("index", 5)]) (N := ["spans", "room", "kept", "costs", "cover", "index", "left", "first", "last", "cost", "at"]) (sc := defScope s_least_of) (by decide +kernel)) (fun _ _ _ _ _ => (pg_name (i := 5) nd rfl (Or.inl rfl))) (fun _ _ _ _ _ => pts_nil) (fun _ _ _ _ _ => (pe_ix (ix_seqK (K := K)) (pv 0) (pv 5) (fun _ _ => rfl)))) pa_nil)))
     apply pss_cons
     · exact (ps_set (i := 4) nd rfl (.inl rfl) (pe_op op_cat (pv 4) (pe_op op_rep (pe_lst (pa_cons pe_int pa_nil)) (pe_op op_sub (pe_call G_length_of (hr.mono (by decide)) rfl g_length_of k_length_of b_length_of .nil pass0 (pa_cons (pv 0) pa_nil)) (pe_callB call_len (by rfl) G.len PySem.boot_len (pa_cons (pv 4) pa_nil))))))
     apply pss_cons
     · exact (ps_set (i := 6) nd rfl (.inl rfl) (pe_lst pa_nil))
     apply pss_cons
     · apply ps_for PassesOwn.never rfl
       · exact (pi_or (pi_enum (by rfl) m_enumerate (pa_cons (pv 0) pa_nil)) (pi_enumT (by rfl) m_enumerate (pa_cons (pv 0) pa_nil)))
       · exact (pg_tup rfl (pgs_cons (pg_name (i := 5) nd rfl (Or.inl rfl)) (pgs_cons (pg_tup rfl (pgs_cons (pg_name (i := 7) nd rfl (Or.inl rfl)) (pgs_cons (pg_name (i := 8) nd rfl (Or.inl rfl)) (pgs_cons (pg_name (i := 9) nd rfl (Or.inl rfl)) pgs_nil)))) pgs_nil)))
       · apply pss_one
         apply ps_if
         · exact (pt_cmp (pc_dnotin hu (pv 5) (pv 2)) (by rfl))
         · apply pss_one
           apply ps_if
           · exact (pt_cmpR op_lt (pe_callB (cr_max (by rfl)) (by rfl) m_max (by decide +kernel) (pa_cons (pe_slice sl_list (pv 4) (po_some (pv 7)) (po_some (pe_op op_add (pv 8) pe_int))) pa_nil)) (pv 1) (nomark _))
           · apply pss_one
             apply ps_for PassesOwn.never rfl
             · exact (pi_range2 (by rfl) rng (pa_cons (pv 7) (pa_cons (pe_op op_add (pv 8) pe_int) pa_nil)))
             · exact (pg_name (i := 10) nd rfl (Or.inl rfl))
             · apply pss_one
               exact (ps_augS (pv 4) (pv 10) get_listN pe_int ip_add set_list)
           · apply pss_one
             exact (ps_expr (pe_bm PySem.F.plainAttrs_list PySem.F.slot_list_append PySem.F.type_list_append mt_append (pv 6) (pa_cons (pv 5) pa_nil)))
         · exact pss_nil
     apply pss_one
     exact (ps_ret (pe_tup (pa_cons (pv 6) (pa_cons (pe_lc (own := [("at", 10)]) (g := gName 10) rfl nd (pi_range1 (by rfl) rng (pa_cons (pe_call G_length_of (hr.mono (by decide)) rfl g_length_of k_length_of b_length_of .nil pass0 (pa_cons (pv 0) pa_nil)) pa_nil)) (blkOk_by (own := [("at", 10)]) (N := ["spans", "room", "kept", "costs", "cover", "index", "left", "first", "last", "cost", "at"]) (sc := defScope s_least_of) (by decide +kernel)) (fun _ _ _ _ _ => (pg_name (i := 10) nd rfl (Or.inl rfl))) (fun _ _ _ _ _ => pts_nil) (fun _ _ _ _ _ => (pe_op op_sub (pe_ix (ix_listK (K := K)) (pv 3) (pv 10) (fun _ _ => rfl)) (pe_ix (ix_listK (K := K)) (pv 3) (pe_op op_add (pv 10) pe_int) (fun _ _ => rfl))))) pa_nil))))
    case right =>
      have hN := ok.len
      refine ⟨_, rfl, _, rfl, a, xs, sp, room, rfl, hS, hA, ok, hroom, fun H1 q pk C kvs c s1 eq ek eC ko g => ?_⟩
      refine ⟨q, _, rfl, SqT.of eq, rfl, _, _, rfl, _, _, rfl, rfl, ?_⟩
      obtain ⟨ks, hks, hnd, hlt⟩ := ko
      have lks : ks.length ≤ 60 := Nat.le_trans (nodup_len _ ks hnd hlt) hl60
      refine ⟨_, rfl, pk, kvs, ks.map (fun i : Nat => (i : Int)), rfl, .inl ek, by rw [hks, List.map_map]; rfl, by rw [List.length_map]; omega, fun ysI p1 hperm _ hp1 => ?_⟩
      obtain ⟨ys, rfl, hpy⟩ : ∃ ys : List Nat, ysI = ys.map (fun i : Nat => (i : Int)) ∧ ys.Perm ks := by
        refine ⟨ysI.map Int.toNat, ?_, ?_⟩
        · rw [List.map_map]
          refine (List.map_id _).symm.trans (List.map_congr_left fun x hx => ?_)
          obtain ⟨n, _, rfl⟩ := List.mem_map.mp (hperm.mem_iff.mp hx)
          rfl
        · have := hperm.map Int.toNat
          rw [List.map_map] at this
          refine this.trans (.of_eq ((List.map_congr_left fun x _ => ?_).trans (List.map_id _)))
          rfl
      have s2 := s1.trans (same_new (o := .lst ((ys.map fun i : Nat => (i : Int)).map V.int)) hp1)
      have e1 : (upd H1 p1 (.lst ((ys.map fun i : Nat => (i : Int)).map V.int))) p1 = some (.lst ((ys.map fun i : Nat => (i : Int)).map V.int)) := upd_same
      replace ek := (same_new (o := .lst ((ys.map fun i : Nat => (i : Int)).map V.int)) hp1) _ _ ek
      replace eC := (same_new (o := .lst ((ys.map fun i : Nat => (i : Int)).map V.int)) hp1) _ _ eC
      generalize upd H1 p1 (.lst ((ys.map fun i : Nat => (i : Int)).map V.int)) = H2 at s2 e1 ek eC ⊢
      clear hp1 s1 eq
      have hndy : ys.Nodup := hpy.nodup_iff.mpr hnd
      have hlty : ∀ i ∈ ys, i < sp.length := fun i hi => hlt i (hpy.mem_iff.mp hi)
      have eko : kOf kvs = fun i => decide (i ∈ ys) := funext fun i => by
        rw [keys_mem hks i]
        exact decide_eq_decide.mpr hpy.mem_iff.symm
      refine ⟨p1, rfl, ⟨_, SqL.of e1⟩, fun D hD => ?_⟩
      have nD := hD
      have lx := hA.length
      rw [List.length_map] at lx
      refine lc_list (K := K) (a := p1) (xs := (ys.map fun i : Nat => (i : Int)).map V.int) (fun j H' => Same H2 H' ∧ ∃ acc, H' D = some (.lst acc) ∧ acc.length ≤ j ∧ DtA (fun b => b ≠ D) H' acc (((ys.take j).filterMap fun i => sp[i]?).map spD)) ⟨same_new hD, [], upd_same, Nat.le_refl _, .nil⟩ (fun j H' _ h => SqL.of (h.1 _ _ e1)) ?_ ?_
      · rintro j x H' hj ⟨sj, acc, ej, la, Aj⟩
        rw [List.map_map, List.getElem?_map, Option.map_eq_some_iff] at hj
        obtain ⟨i, hi, rfl⟩ := hj
        have hil := hlty i (List.mem_of_getElem? hi)
        have ex : xs[i]? = some xs[i] := List.getElem?_eq_getElem (by omega)
        obtain ⟨s0, ap, hs0, exr, hap⟩ := spD_at hA ex
        have hjl : j < ys.length := (List.getElem?_eq_some_iff.mp hi).1
        have lys : ys.length ≤ 60 := by rw [hpy.length_eq]; exact lks
        have nap : ap ≠ D := fun z => by
          have := s2 _ _ hap
          rw [z, nD] at this
          cases this
        refine ⟨rfl, yesIf ⟨_, rfl, _, rfl, ixseq ((hS.same s2).same sj) ex ⟨acc, ej, Nat.lt_of_le_of_lt (show acc.length ≤ 60 by omega) (by decide), same_sub sj nD, _, upd_same, by rw [List.length_append]; exact Nat.succ_le_succ la, ?_⟩⟩⟩
        rw [take_snoc2 hi, List.filterMap_append, List.map_append, List.filterMap_cons, hs0, exr]
        exact (Aj.to fun b o g e => ⟨by rw [upd_ne g]; exact e, g⟩).app (.cons (.tup nap (by rw [upd_ne nap]; exact sj _ _ (s2 _ _ hap)) (.cons (.int _) (.cons (.int _) (.cons (.int _) .nil)))) .nil)
      rintro H3 ⟨s3, acc, e3, la, A3⟩
      rw [List.length_map, List.length_map] at la A3
      rw [List.take_length] at A3
      generalize hsel : (ys.filterMap fun i => sp[i]?) = sel at A3
      have msel : ∀ s ∈ sel, s ∈ sp := fun s h => by
        rw [← hsel] at h
        obtain ⟨i, _, e⟩ := List.mem_filterMap.mp h
        exact List.mem_of_getElem? e
      have lsel : sel.length ≤ 60 := by
        rw [← hsel]
        refine Nat.le_trans (List.length_filterMap_le _ _) ?_
        rw [hpy.length_eq]
        exact lks
      have csel : ∀ x, F57.cov sel (fun _ => true) x = F57.cov sp (kOf kvs) x := fun x => by
        rw [← hsel, eko]
        exact F57.cov_sel x ys hndy hlty
      refine ⟨D, acc, sel, rfl, .inl e3, A3.to fun b o _ e => ⟨e, trivial⟩, ⟨by omega, fun s h => ok.ok s (msel s h)⟩, fun H4 pc s4 nc ec => ?_⟩
      have s04 := s2.trans (s3.trans s4)
      replace ek := s4 _ _ (s3 _ _ ek)
      replace eC := s4 _ _ (s3 _ _ eC)
      have hle : lenS sel ≤ lenS sp := lenS_sub msel
      have ec : H4 pc = some (.lst (covL (F57.cov sp (kOf kvs)) (lenS sel))) := by rw [ec, covL_eq fun x _ => csel x]
      clear e3 A3 s2 e1 nD hD s3 s4
      refine ⟨_, rfl, (show 1 ≤ sizeLine by decide), fun p0 hp0 => ?_⟩
      have s5 := s04.trans (same_new (o := .lst [V.int 0]) hp0)
      have sn5 := same_new (o := .lst [V.int 0]) hp0
      have e0 : (upd H4 p0 (.lst [V.int 0])) p0 = some (.lst [V.int 0]) := upd_same
      replace ek := sn5 _ _ ek
      replace eC := sn5 _ _ eC
      replace ec := sn5 _ _ ec
      generalize upd H4 p0 (.lst [V.int 0]) = H5 at s5 e0 ek eC ec ⊢
      clear sn5 hp0 s04
      refine ⟨_, rfl, a, xs, sp, rfl, hS.same s5, hA.same s5, ok.ln, fun H6 s6 => ?_⟩
      replace ec := s6 _ _ ec
      refine ⟨_, rfl, _, _, rfl, .inl ⟨_, SqL.of ec, rfl⟩, _, _, rfl, rfl, ?_⟩
      rw [covL_len]
      refine ⟨p0, _, _, rfl, rfl, s6 _ _ e0, by omega, by omega, ?_, fun p2 hp2 => ?_⟩
      · exact Nat.le_trans (show 1 * ((lenS sp : Int) - (lenS sel : Int)).toNat ≤ 1000 by omega) (by decide)
      rw [show ((lenS sp : Int) - (lenS sel : Int)).toNat = lenS sp - lenS sel by omega, covL_zero]
      have sn7 := s6.trans (same_new (o := .lst (covL (fun _ => 0) (lenS sp - lenS sel))) hp2)
      have e2 : (upd H6 p2 (.lst (covL (fun _ => 0) (lenS sp - lenS sel)))) p2 = some (.lst (covL (fun _ => 0) (lenS sp - lenS sel))) := upd_same
      replace ec := (same_new (o := .lst (covL (fun _ => 0) (lenS sp - lenS sel))) hp2) _ _ ec
      have s7 := s5.trans sn7
      replace ek := sn7 _ _ ek
      replace eC := sn7 _ _ eC
      generalize upd H6 p2 (.lst (covL (fun _ => 0) (lenS sp - lenS sel))) = H7 at s7 e2 ec ek eC ⊢
      clear sn7 hp2 s5 s6 e0
      refine ⟨pc, p2, _, _, rfl, rfl, ec, e2, Nat.le_trans (show (covL (F57.cov sp (kOf kvs)) (lenS sel)).length + (covL (fun _ => 0) (lenS sp - lenS sel)).length ≤ 1000 by rw [covL_len, covL_len]; omega) (by decide), fun Cv hCv => ?_⟩
      rw [covL_app (fun x hx => by rw [← csel x]; exact cov_high fun s hs => Nat.lt_of_lt_of_le (lenS_lt hs) hx), show lenS sel + (lenS sp - lenS sel) = lenS sp by omega]
      have nCv := s7.free hCv
      have sn8 := same_new (o := .lst (covL (F57.cov sp (kOf kvs)) (lenS sp))) hCv
      have s8 := s7.trans sn8
      have eV : (upd H7 Cv (.lst (covL (F57.cov sp (kOf kvs)) (lenS sp)))) Cv = some (.lst (covL (F57.cov sp (kOf kvs)) (lenS sp))) := upd_same
      have neCv : Cv ≠ C ∧ Cv ≠ pk := ⟨(fun z => by rw [z, eC] at hCv; cases hCv), fun z => by rw [z, ek] at hCv; cases hCv⟩
      replace ek := sn8 _ _ ek
      replace eC := sn8 _ _ eC
      generalize upd H7 Cv (.lst (covL (F57.cov sp (kOf kvs)) (lenS sp))) = H8 at s8 eV ek eC ⊢
      clear sn8 hCv s7 e2 ec
      refine ⟨(show 0 ≤ sizeLine by decide), fun L hL => ?_⟩
      have nL := s8.free hL
      have sn9 := same_new (o := .lst []) hL
      have s9 := s8.trans sn9
      have eL : (upd H8 L (.lst [])) L = some (.lst []) := upd_same
      have neL : L ≠ Cv ∧ L ≠ C ∧ L ≠ pk := ⟨(fun z => by rw [z, eV] at hL; cases hL), (fun z => by rw [z, eC] at hL; cases hL), fun z => by rw [z, ek] at hL; cases hL⟩
      replace ek := sn9 _ _ ek
      replace eC := sn9 _ _ eC
      replace eV := sn9 _ _ eV
      generalize upd H8 L (.lst []) = H9 at s9 eV eL ek eC ⊢
      clear sn9 hL s8
      refine ior_enumB rfl hS s9 fun J GG hw hG => ?_
      refine for_it hw (fun j σ H' => ∃ k2 v5 v7 v8 v9 v10, σ = [some (.ref a), some (.int (room : Int)), some (.ref pk), some (.ref C), some (.ref Cv), v5, some (.ref L), v7, v8, v9, v10] ∧ Same H H' ∧ H' pk = some (.dK kvs) ∧ H' C = some (.lst (intL c (lenS sp + 1))) ∧ H' Cv = some (.lst (covL (F57.cov sp k2) (lenS sp))) ∧ H' L = some (.lst ((((List.range j).filter fun i => !k2 i).map fun i : Nat => (i : Int)).map V.int)) ∧ F57.Fill sp (lenS sp) room (kOf kvs) k2 j)
        ⟨kOf kvs, _, _, _, _, _, rfl, s9, ek, eC, eV, eL, F57.Fill.start g⟩ (fun j σ H' _ h => by
          obtain ⟨_, _, _, _, _, _, _, h, _⟩ := h
          exact hG _ h) ?_ ?_
      · rintro j x σ H' H10 hj ⟨k2, v5, v7, v8, v9, v10, rfl, sj, ekj, eCj, eVj, eLj, Fj⟩ ⟨Tp, x1, x2, rfl, hT, rfl, hx1, hx2⟩
        cases hx1
        obtain ⟨sn, p, hs, rfl, hp⟩ := spD_at hA hx2
        obtain ⟨ok1, ok2⟩ := ok.ok sn (List.mem_of_getElem? hs)
        have hlt2 : sn.2.1 < lenS sp := lenS_lt (List.mem_of_getElem? hs)
        have sT := same_new (o := .tup [.int (j : Int), .ref p]) hT
        refine ⟨Tp, _, rfl, SqT.of upd_same, rfl, _, _, rfl, _, _, rfl, p, _, rfl, SqT.of (sT _ _ (sj _ _ hp)), rfl, _, _, rfl, _, _, rfl, _, _, rfl, rfl, rfl, ?_⟩
        replace sj := sj.trans sT
        replace ekj := sT _ _ ekj
        replace eCj := sT _ _ eCj
        replace eVj := sT _ _ eVj
        replace eLj := sT _ _ eLj
        generalize upd H' Tp (.tup [.int (j : Int), .ref p]) = H11 at sj ekj eCj eVj eLj ⊢
        clear sT hT
        have kj : (valV kvs (Sum.inl (j : Int))).isSome = k2 j := (Fj.hi j (Nat.le_refl _)).symm
        refine ⟨_, rfl, _, rfl, pk, _, rfl, DGet.k (k := Sum.inl (j : Int)) ekj, _, rfl, ?_⟩
        rw [kj]
        have er : (List.range (j + 1)).filter (fun i => !k2 i) = (List.range j).filter (fun i => !k2 i) ++ (if k2 j then [] else [j]) := by
          rw [List.range_succ, List.filter_append]
          congr 1
          cases q : k2 j <;> simp [q]
        cases hkj : k2 j with
        | true =>
          refine iteN1 ⟨k2, _, _, _, _, _, rfl, sj, ekj, eCj, eVj, ?_, Fj.keep (.inl hkj)⟩
          rw [er, hkj]
          simpa using eLj
        | false =>
          refine iteN0 ?_
          refine ⟨_, rfl, _, rfl, _, rfl, _, rfl, _, _, rfl, rfl, _, rfl, Cv, _, rfl, SqL.of eVj, fun ps hps => ?_⟩
          rw [covL_cut ok1 hlt2]
          have sp' := same_new (o := .lst (((List.range (sn.2.1 + 1 - sn.1)).map fun m => (F57.cov sp k2 (sn.1 + m) : Int)).map V.int)) hps
          have e' : (upd H11 ps (.lst (((List.range (sn.2.1 + 1 - sn.1)).map fun m => (F57.cov sp k2 (sn.1 + m) : Int)).map V.int))) ps = some (.lst (((List.range (sn.2.1 + 1 - sn.1)).map fun m => (F57.cov sp k2 (sn.1 + m) : Int)).map V.int)) := upd_same
          replace sj := sj.trans sp'
          replace ekj := sp' _ _ ekj
          replace eCj := sp' _ _ eCj
          replace eVj := sp' _ _ eVj
          replace eLj := sp' _ _ eLj
          generalize upd H11 ps (.lst (((List.range (sn.2.1 + 1 - sn.1)).map fun m => (F57.cov sp k2 (sn.1 + m) : Int)).map V.int)) = H12 at sj ekj eCj eVj eLj e' ⊢
          clear sp' hps
          refine ⟨ps, _, rfl, SqL.of e', by rw [List.length_map, List.length_range]; omega, fun M hM hmax => ?_⟩
          refine ⟨_, rfl, _, _, rfl, rfl, _, rfl, ?_⟩
          by_cases cm : M < (room : Int)
          · rw [decide_eq_true cm]
            have hfree : F57.free sp room k2 sn := fun x h1 h2 => by
              have := hmax (F57.cov sp k2 x : Int) (List.mem_map.mpr ⟨x - sn.1, List.mem_range.mpr (by omega), by rw [show sn.1 + (x - sn.1) = x by omega]⟩)
              omega
            refine iteT ?_
            refine ⟨_, rfl, _, rfl, _, _, rfl, rfl, _, _, rfl, ⟨by omega, by omega, by omega, by omega⟩, ?_⟩
            have en : (((sn.2.1 : Int) + 1) - (sn.1 : Int)).toNat = sn.2.1 + 1 - sn.1 := by omega
            rw [en]
            have ef : (List.range (j + 1)).filter (fun i => !F57.set k2 j true i) = (List.range j).filter (fun i => !k2 i) := by
              rw [List.range_succ, List.filter_append, List.filter_cons, F57.set_same]
              refine (List.append_nil _).trans (List.filter_congr fun i hi => ?_)
              rw [F57.set_ne (fun z => by have := List.mem_range.mp hi; omega)]
            refine for_range (lo := (sn.1 : Int)) (n := sn.2.1 + 1 - sn.1) (fun m σ H' => ∃ v5 v7 v8 v9 v10, σ = [some (.ref a), some (.int (room : Int)), some (.ref pk), some (.ref C), some (.ref Cv), v5, some (.ref L), v7, v8, v9, v10] ∧ Same H H' ∧ H' pk = some (.dK kvs) ∧ H' C = some (.lst (intL c (lenS sp + 1))) ∧ H' Cv = some (.lst (covL (part (F57.cov sp k2) sn.1 m) (lenS sp))) ∧ H' L = some (.lst ((((List.range j).filter fun i => !k2 i).map fun i : Nat => (i : Int)).map V.int))) ⟨_, _, _, _, _, rfl, sj, ekj, eCj, by rw [part_zero]; exact eVj, eLj⟩ ?_ ?_
            · rintro m σ H' hm ⟨v5, v7, v8, v9, v10, rfl, sm, ekm, eCm, em, eLm⟩
              rw [show (sn.1 : Int) + (m : Int) = ((sn.1 + m : Nat) : Int) by omega]
              refine ⟨_, rfl, _, rfl, Cv, _, sn.1 + m, _, rfl, rfl, em, covL_at (by omega), _, _, rfl, rfl, Cv, _, _, sn.1 + m, rfl, rfl, em, ixN_nat (by rw [covL_len]; omega), ?_⟩
              rw [covL_set (by omega), part_step]
              exact ⟨_, _, _, _, _, rfl, same_sub sm nCv, by rw [upd_ne (Ne.symm neCv.2)]; exact ekm, by rw [upd_ne (Ne.symm neCv.1)]; exact eCm, upd_same, by rw [upd_ne neL.1]; exact eLm⟩
            · rintro σ H' ⟨v5, v7, v8, v9, v10, rfl, sm, ekm, eCm, em, eLm⟩
              refine ⟨F57.set k2 j true, _, _, _, _, _, rfl, sm, ekm, eCm, ?_, by rw [ef]; exact eLm, Fj.add g hs hkj hfree⟩
              rw [em, part_all]
              refine congrArg (fun z => some (HO.lst z)) (covL_eq fun x _ => ?_)
              rw [F57.cov_set x hs hkj]
          · rw [decide_eq_false cm]
            refine iteF ?_
            obtain ⟨m, hm, em⟩ := List.mem_map.mp hM
            have hm := List.mem_range.mp hm
            refine ⟨_, rfl, .inl ⟨rfl, _, SqL.of eLj⟩, _, rfl, L, _, _, rfl, rfl, eLj, ?_, ?_⟩
            · have := List.length_filter_le (fun i => !k2 i) (List.range j)
              rw [List.length_range] at this
              rw [List.length_map, List.length_map]
              exact Nat.lt_of_le_of_lt (show _ ≤ 60 by omega) (by decide)
            · refine ⟨k2, _, _, _, _, _, rfl, same_sub sj nL, by rw [upd_ne (Ne.symm neL.2.2)]; exact ekj, by rw [upd_ne (Ne.symm neL.2.1)]; exact eCj, by rw [upd_ne (Ne.symm neL.1)]; exact eVj, ?_, Fj.keep (.inr ⟨sn, sn.1 + m, hs, by omega, by omega, by omega⟩)⟩
              rw [upd_same, er, hkj, if_neg (by decide), List.map_append, List.map_append]
              rfl
      · rintro σ H10 ⟨k2, v5, v7, v8, v9, v10, rfl, s10, ek10, eC10, eV10, eL10, F10⟩
        rw [lx] at eL10 F10
        refine ⟨_, rfl, _, rfl, a, xs, sp, rfl, hS.same s10, hA.same s10, ok.ln, fun H11 s11 => ?_⟩
        refine ⟨_, rfl, by omega, by omega, fun R hR => ?_⟩
        have nR := hR
        have eC11 := s11 _ _ eC10
        refine lc_range (lo := 0) (n := ((lenS sp : Int)).toNat) (fun j H' => Same H11 H' ∧ H' R = some (.lst (intL (F57.pr c) j))) ⟨same_new hR, upd_same⟩ ?_ ?_
        · rintro j H' hj ⟨sj, ej⟩
          rw [Int.zero_add]
          have eCj := sj _ _ eC11
          refine ⟨rfl, yesIf ⟨_, rfl, _, rfl, C, _, _, _, rfl, rfl, SqL.of eCj, atI_nat (intL_at (by omega)), _, rfl, _, rfl, _, _, rfl, rfl, C, _, _, _, rfl, rfl, SqL.of eCj, atI_nat (j := j + 1) (intL_at (by omega)), _, _, rfl, rfl, _, ej, ?_, same_sub sj nR, ?_⟩⟩
          · rw [intL_len]
            exact Nat.lt_of_lt_of_le (show j < 1001 by omega) (by decide)
          · rw [upd_same]
            unfold intL
            rw [List.range_succ, List.map_append]
            rfl
        · rintro H12 ⟨s12, e12⟩
          rw [show ((lenS sp : Int)).toNat = lenS sp by omega] at e12
          refine ⟨(show 2 ≤ sizeLine by decide), fun q hq => ?_⟩
          have sq := same_new (o := .tup [V.ref L, V.ref R]) hq
          exact k _ q L R (kOf kvs) k2 c (s10.trans (s11.trans (s12.trans sq))) upd_same (sq _ _ (s12 _ _ (s11 _ _ eL10))) (sq _ _ e12) g F10
end
/-! ## k57: least -/
def BadRoomV (H : Hp) (y : V) : Prop := (∃ i : Int, y = .int i ∧ (i < 0 ∨ 20 < i)) ∨ OtV H y
theorem BadRoomV.same {H H' : Hp} {y : V} (s : Same H H') (h : BadRoomV H y) : BadRoomV H' y := h.imp (fun x => x) (OtV.same s)
/-- what all three ask: spans, then room -/
def SpR (C CM : Addr) (x y : V) (H : Hp) (E : XK) (k : List F57.Span → Nat → Addr → List V → Prop) : Prop :=
  (NsV H x ∧ atE C .non H E) ∨ ∃ a xs ds, x = .ref a ∧ SeqH H a xs ∧ DtA anyA H xs ds ∧ ((400 < ds.length ∧ atE C .non H E) ∨ (ds.length ≤ 400 ∧ ((∃ i d, ds[i]? = some d ∧ spanD d = false ∧ (∀ j, j < i → ∀ e, ds[j]? = some e → spanD e = true) ∧ atE C (.int ((i : Nat) : Int)) H E) ∨
    ((∀ d ∈ ds, spanD d = true) ∧ ((BadRoomV H y ∧ ∀ H', Same H H' → E (.ref CM) none H') ∨ ∃ room : Nat, y = .int (room : Int) ∧ room ≤ 20 ∧ ∃ sp, ds = sp.map spD ∧ SpOk sp ∧ sp.length ≤ 60 ∧ k sp room a xs)))))
def spLst (C CM : Addr) : Sp := fun vs H Q E => ∃ x y, vs = [x, y] ∧ SpR C CM x y H E fun sp room _ _ =>
  ∀ H' q L R k k2 c, Same H H' → H' q = some (.tup [.ref L, .ref R]) → H' L = some (.lst ((((List.range sp.length).filter fun i => !k2 i).map fun i : Nat => (i : Int)).map V.int)) → H' R = some (.lst (intL (F57.pr c) (lenS sp))) → F57.Good sp (lenS sp) room k c → F57.Fill sp (lenS sp) room k k2 sp.length → Q (.ref q) H'
section
variable {P : Program} {w : World} {K : PySem.W.Frag} {mg : Str → Option Value} {base : Heap}
theorem sc_least : FnScope ["spans", "room"] ["spans", "room"] (defScope s_least) := ⟨rfl, rfl, rfl, by decide +kernel, rfl, by decide +kernel, by decide +kernel⟩
theorem ok_least {f C CM : Addr} {fd : FuncData} (F : FnP K "least" s_least f fd) (c_need_spans : CalX P w K mg base 4 "need_spans" ["spans"] (spNeedS C)) (c_need_room : CalX P w K mg base 2 "need_room" ["room", "least_room"] (spNeedM CM)) (c_least_of : Cal P w K mg base 4 "least_of" ["spans", "room"] spLeast) : FnOk P w K mg base (L2.CX P w) 5 f fd ["spans", "room"] (spLst C CM) := by
  obtain ⟨f_need_spans, fd_need_spans, g_need_spans, k_need_spans, b_need_spans, G_need_spans⟩ := c_need_spans
  obtain ⟨f_need_room, fd_need_room, g_need_room, k_need_room, b_need_room, G_need_room⟩ := c_need_room
  obtain ⟨f_least_of, fd_least_of, g_least_of, k_least_of, b_least_of, G_least_of⟩ := c_least_of
  refine F.ok sc_least (fun vs H Q E h => ?_) (fun cdv A outer s H vs Q E hr h => ?_)
  · obtain ⟨x, y, rfl, _⟩ := h
    rfl
  · obtain ⟨x, y, rfl, h⟩ := h
    have nd := sc_least.nd
    apply Exists.intro
    apply And.intro
    case left =>
     apply pss_cons
     · exact (ps_expr (pe_call G_need_spans (hr.mono (by decide)) rfl g_need_spans k_need_spans b_need_spans .nil (passes_call (takes_of rfl rfl rfl rfl) (fun _ _ _ _ h => h)) (pa_cons (pv 0) pa_nil)))
     apply pss_cons
     · exact (ps_expr (pe_call G_need_room (hr.mono (by decide)) rfl g_need_room k_need_room b_need_room .nil (passes_call (takes_of rfl rfl rfl rfl) (fun _ _ _ _ h => h)) (pa_cons (pv 1) (pa_cons pe_int pa_nil))))
     apply PSs.nox
     apply pss_one
     exact (ps_ret (pe_call G_least_of (hr.mono (by decide)) rfl g_least_of k_least_of b_least_of .nil pass0 (pa_cons (pv 0) (pa_cons (pv 1) pa_nil))))
    case right =>
      rcases h with ⟨h1, h2⟩ | ⟨a, xs, ds, rfl, hS, hA, h⟩
      · exact ⟨_, rfl, _, rfl, .inl ⟨h1, h2⟩⟩
      · refine ⟨_, rfl, _, rfl, .inr ⟨a, xs, ds, rfl, hS, hA, ?_⟩⟩
        rcases h with ⟨h1, h2⟩ | ⟨h4, h⟩
        · exact .inl ⟨h1, h2⟩
        refine .inr ⟨h4, ?_⟩
        rcases h with h | ⟨hall, h⟩
        · exact .inr h
        refine .inl ⟨hall, fun H1 s1 => ?_⟩
        refine ⟨_, rfl, y, rfl, ?_⟩
        rcases h with ⟨hb, q⟩ | ⟨room, rfl, hr20, sp, rfl, ok, h60, k⟩
        · exact .inr ⟨hb.same s1, q _ s1⟩
        · refine .inl ⟨room, rfl, hr20, ?_⟩
          exact ⟨_, rfl, _, rfl, a, xs, sp, room, rfl, hS.same s1, hA.same s1, ok, h60, hr20, fun H' q L R k1 k2 c s2 => k H' q L R k1 k2 c (s1.trans s2)⟩
end
/-! ## sum of a tuple of ints -/
namespace SmT
open PySem PyProof.Rows
section
variable {prog : Program} {w : World} {A : Around} {E : Value → Shared → Prop} {s : Shared} {l : Addr} {xs : Array (Int × Tok)} {its : List Value} {ns : List Int} {Q : Value → Shared → Prop}
theorem oldT (hk : ∀ b o, b ∉ [s.heap.objs.size] → (s.heap.push { cls := .type "tuple_iterator", data := .fields #[.ref l, .int 0 0] }).get? b = some o → (h' : Heap).get? b = some o) :
    ∀ b o, s.heap.get? b = some o → h'.get? b = some o := fun b o e => by
  refine hk b o (fun hm => ?_) (Heap.get?_push_of_some _ e)
  rw [List.mem_singleton] at hm
  exact absurd (hm ▸ Heap.lt_size e) (Nat.lt_irrefl _)
theorem sum_tupG (hh : A.handled = none) (hl : s.heap.IsTuple l (intItems xs))
    (h : ∀ h' tk t', (∀ b o, s.heap.get? b = some o → h'.get? b = some o) → Q (.int (preSum (numAt xs) xs.size) t') { s with heap := h', toks := tk }) : wpAny (model prog w) A (call (.builtin "sum") [.ref l]) Q E s := by
  obtain ⟨ol, hol, hc, n, hd⟩ := id hl
  have hlt : l < s.heap.objs.size := Heap.lt_size hol
  refine call_sum_walkG (wpAny_pyIter_tuple hl ?_)
  refine ⟨_, _, _, _, _, _, numAt xs, rfl, Walks.tuple (A := A.in1) hh _ l (Nat.ne_of_lt hlt) (intItems xs), ⟨⟨_, Heap.get?_push_size _ rfl, rfl, rfl⟩, ⟨ol, Heap.get?_push_of_some _ hol, hc, n, hd⟩⟩, fun b hb => ?_, (fun _ _ => intItems_at), fun h' tk t' hk => ?_⟩
  · show b < (s.heap.push _).objs.size
    rw [Heap.size_push]
    simp only [List.mem_cons, List.not_mem_nil, or_false] at hb
    rcases hb with rfl | rfl
    · exact Nat.lt_succ_self _
    · exact Nat.lt_succ_of_lt hlt
  · have := h h' tk t' (oldT hk)
    simpa [intItems] using this
theorem sum_rawT (hh : A.handled = none) (hl : s.heap.IsTuple l its.toArray) (hi : IntsAre its ns)
    (h : ∀ h' tk t', (∀ b o, s.heap.get? b = some o → h'.get? b = some o) → Q (.int ns.sum t') { s with heap := h', toks := tk }) : wpAny (model prog w) A (call (.builtin "sum") [.ref l]) Q E s := by
  obtain ⟨xs, e⟩ := hi.allInts.items
  have hn : numsOf (intItems xs).toList = ns := by rw [← e]; exact hi.numsOf
  rw [nums_intItems] at hn
  rw [e] at hl
  refine sum_tupG hh hl fun h' tk t' hk => ?_
  have := h h' tk t' hk
  rw [preSum_eq, List.take_of_length_le (by simp), hn]
  exact this
end
end SmT
section
variable {X : Cx}
def rSumT (K : PySem.W.Frag) : List V → Hp → VK → Prop := fun vs H Q => ∃ (a : Addr) (ns : List Int), vs = [V.ref a] ∧ SqT K H a (ns.map V.int) ∧ Q (.int ns.sum) H
theorem cr_sumT (hc : X.calm = true) : CallR X (.builtin "sum") (rSumT X.K) := by
  intro pins s σ H vs us Q I r h
  obtain ⟨a, ns, rfl, hs, q⟩ := h
  obtain ⟨its, rv, hl, _⟩ := I.tuple hs
  rw [Vals.ref1 r]
  exact SmT.sum_rawT (I.ok.hd hc) hl rv.ints fun h' tk t' hk => ⟨.int _, H, I.kept hk, ⟨_, rfl⟩, q⟩
end
/-! ## k57: what the law asks of what is left out -/
namespace F57
theorem cov_congr {x : Nat} : ∀ {sp : List Span} {k l : Nat → Bool}, (∀ i, i < sp.length → k i = l i) → cov sp k x = cov sp l x
  | [], _, _, _ => rfl
  | s :: r, k, l, h => by
    show (if k 0 && inS s x then 1 else 0) + cov r (fun i => k (i + 1)) x = (if l 0 && inS s x then 1 else 0) + cov r (fun i => l (i + 1)) x
    rw [h 0 (Nat.zero_lt_succ _), cov_congr fun i hi => h (i + 1) (Nat.succ_lt_succ hi)]
theorem kS_congr (f : Span → Int) : ∀ {sp : List Span} {k l : Nat → Bool}, (∀ i, i < sp.length → k i = l i) → kS sp k f = kS sp l f
  | [], _, _, _ => rfl
  | s :: r, k, l, h => by
    show (if k 0 = true then f s else 0) + kS r (fun i => k (i + 1)) f = (if l 0 = true then f s else 0) + kS r (fun i => l (i + 1)) f
    rw [h 0 (Nat.zero_lt_succ _), kS_congr f fun i hi => h (i + 1) (Nat.succ_lt_succ hi)]
/-- the indexes with k -/
def ixs (n : Nat) (k : Nat → Bool) : List Nat := (List.range n).filter k
theorem ixs_mem {n : Nat} {k : Nat → Bool} {i : Nat} : i ∈ ixs n k ↔ i < n ∧ k i = true := by
  unfold ixs
  rw [List.mem_filter, List.mem_range]
theorem ixs_asc (n : Nat) (k : Nat → Bool) : (ixs n k).Pairwise (· < ·) := List.pairwise_lt_range.sublist List.filter_sublist
theorem ixs_nodup (n : Nat) (k : Nat → Bool) : (ixs n k).Nodup := (ixs_asc n k).imp fun h => Nat.ne_of_lt h
theorem ixs_len (n : Nat) (k : Nat → Bool) : (ixs n k).length ≤ n := by
  have := List.length_filter_le k (List.range n)
  rw [List.length_range] at this
  exact this
/-- the spans with k -/
def sel (sp : List Span) (k : Nat → Bool) : List Span := (ixs sp.length k).filterMap fun i => sp[i]?
theorem sel_cov (sp : List Span) (k : Nat → Bool) (x : Nat) : cov (sel sp k) (fun _ => true) x = cov sp k x := by
  unfold sel
  rw [cov_sel x _ (ixs_nodup _ _) fun i hi => (ixs_mem.mp hi).1]
  refine cov_congr fun i hi => ?_
  cases h : k i with
  | true => exact decide_eq_true (ixs_mem.mpr ⟨hi, h⟩)
  | false => exact decide_eq_false fun z => by rw [(ixs_mem.mp z).2] at h; cases h
theorem sel_sum (sp : List Span) (k : Nat → Bool) (f : Span → Int) : ((sel sp k).map f).sum = kS sp k f := by
  unfold sel
  rw [← kS_sel f _ (ixs_nodup _ _) fun i hi => (ixs_mem.mp hi).1]
  refine kS_congr f fun i hi => ?_
  cases h : k i with
  | true => exact decide_eq_true (ixs_mem.mpr ⟨hi, h⟩)
  | false => exact decide_eq_false fun z => by rw [(ixs_mem.mp z).2] at h; cases h
theorem sel_mem {sp : List Span} {k : Nat → Bool} {s : Span} (h : s ∈ sel sp k) : s ∈ sp := by
  unfold sel at h
  obtain ⟨i, _, e⟩ := List.mem_filterMap.mp h
  exact List.mem_of_getElem? e
theorem sel_len (sp : List Span) (k : Nat → Bool) : (sel sp k).length ≤ sp.length := Nat.le_trans (List.length_filterMap_le _ _) (ixs_len _ _)
/-- no more than room of the kept ones anywhere -/
theorem Fill.room {sp : List Span} {N room : Nat} {k k2 : Nat → Bool} (F : Fill sp N room k k2 sp.length) (hN : ∀ s ∈ sp, s.2.1 < N) (x : Nat) : cov (sel sp k2) (fun _ => true) x ≤ room := by
  rw [sel_cov]
  by_cases h : x < N
  · exact F.cv x h
  · have far : ∀ (l : List Span) (k : Nat → Bool), (∀ s ∈ l, s.2.1 < x) → cov l k x = 0 := by
      intro l
      induction l with
      | nil => exact fun _ _ => rfl
      | cons s r ih =>
        intro k hl
        have e : inS s x = false := by
          have := hl s (List.mem_cons_self ..)
          unfold inS
          simp; omega
        show (if k 0 && inS s x then 1 else 0) + cov r _ x = 0
        rw [e, Bool.and_false, ih _ fun s hs => hl s (List.mem_cons_of_mem _ hs)]
        rfl
    rw [far sp k2 fun s hs => by have := hN s hs; omega]
    exact Nat.zero_le _
/-- none of those left out could be kept: a spot shows it -/
theorem Fill.spotted {sp : List Span} {N room : Nat} {k k2 : Nat → Bool} (F : Fill sp N room k k2 sp.length) {i : Nat} {s : Span} (hs : sp[i]? = some s) (h : k2 i = false) :
    ∃ y, (y = s.1 ∨ ∃ u ∈ sel sp k2, u.1 = y ∧ s.1 ≤ u.1 ∧ u.1 ≤ s.2.1) ∧ room ≤ cov (sel sp k2) (fun _ => true) y := by
  obtain ⟨x, h1, h2, h3⟩ := F.full i s (List.getElem?_eq_some_iff.mp hs).1 hs h
  rw [← sel_cov] at h3
  exact spot (x - s.1) x (by omega) h2 h3
/-- the prices that are told are worth what is left out -/
theorem Fill.cost {sp : List Span} {N room : Nat} {k k2 : Nat → Bool} {c : Nat → Int} (g : Good sp N room k c) (F : Fill sp N room k k2 sp.length) : W sp room (pr c) N = ((sel sp fun i => !k2 i).map fun s => (s.2.2 : Int)).sum := by
  rw [strong g, sel_sum, ← F.co]
/-- none are worth more -/
theorem Fill.most {sp : List Span} {N room M : Nat} {k k2 : Nat → Bool} {p : Nat → Int} (F : Fill sp N room k k2 sp.length) (hN : ∀ s ∈ sp, s.2.1 < N) (hp : ∀ x, x < M → 0 ≤ p x) : W sp room p M ≤ ((sel sp fun i => !k2 i).map fun s => (s.2.2 : Int)).sum := by
  rw [sel_sum]
  exact weak hp fun x _ => by
    have := F.room hN x
    rw [sel_cov] at this
    exact this
/-- ascending lists of the same members are the same -/
theorem asc_eq : ∀ {as bs : List Int}, as.Pairwise (· < ·) → bs.Pairwise (· < ·) → (∀ x, x ∈ as ↔ x ∈ bs) → as = bs
  | [], [], _, _, _ => rfl
  | [], b :: _, _, _, h => absurd ((h b).mpr (List.mem_cons_self ..)) (by simp)
  | a :: _, [], _, _, h => absurd ((h a).mp (List.mem_cons_self ..)) (by simp)
  | a :: as, b :: bs, ha, hb, h => by
    rw [List.pairwise_cons] at ha hb
    have e : a = b := by
      rcases List.mem_cons.mp ((h a).mp (List.mem_cons_self ..)) with z | z
      · exact z
      · rcases List.mem_cons.mp ((h b).mpr (List.mem_cons_self ..)) with y | y
        · exact y.symm
        · have := hb.1 a z
          have := ha.1 b y
          omega
    subst e
    rw [asc_eq ha.2 hb.2 fun x => ⟨fun hx => ?_, fun hx => ?_⟩]
    · rcases List.mem_cons.mp ((h x).mp (List.mem_cons_of_mem _ hx)) with z | z
      · have := ha.1 x hx
        omega
      · exact z
    · rcases List.mem_cons.mp ((h x).mpr (List.mem_cons_of_mem _ hx)) with z | z
      · have := hb.1 x hx
        omega
      · exact z
theorem ixs_ascI (n : Nat) (k : Nat → Bool) : ((ixs n k).map fun i : Nat => (i : Int)).Pairwise (· < ·) := List.pairwise_map.mpr ((ixs_asc n k).imp fun h => by omega)
end F57
/-! ## k57: what prices are worth, by lists -/
def pF (ps : List Int) (x : Nat) : Int := ps.getD x 0
theorem pF_at {ps : List Int} {j : Nat} {z : Int} (h : ps[j]? = some z) : pF ps j = z := by
  unfold pF
  rw [List.getD_eq_getElem?_getD, h]
  rfl
namespace F57
theorem S_cut (p : Nat → Int) (s : Span) (h : s.1 ≤ s.2.1) : ∀ M, S p M s = sumN (min (s.2.1 + 1) M - min s.1 M) (fun i => p (min s.1 M + i))
  | 0 => by
    rw [show min (s.2.1 + 1) 0 - min s.1 0 = 0 by omega]
    rfl
  | M + 1 => by
    have ih := S_cut p s h M
    unfold S at ih ⊢
    rw [sumN_succ, ih]
    by_cases c1 : M < s.1
    · have e : inS s M = false := by unfold inS; simp; omega
      rw [e, show min (s.2.1 + 1) M - min s.1 M = 0 by omega, show min (s.2.1 + 1) (M + 1) - min s.1 (M + 1) = 0 by omega]
      rfl
    · by_cases c2 : M ≤ s.2.1
      · have e : inS s M = true := by unfold inS; simp; omega
        rw [e, show min (s.2.1 + 1) (M + 1) - min s.1 (M + 1) = (min (s.2.1 + 1) M - min s.1 M) + 1 by omega, sumN_succ, show min s.1 (M + 1) = s.1 by omega, show min s.1 M = s.1 by omega, show s.1 + (min (s.2.1 + 1) M - s.1) = M by omega]
        rfl
      · have e : inS s M = false := by unfold inS; simp; omega
        rw [e, show min (s.2.1 + 1) (M + 1) = min (s.2.1 + 1) M by omega, show min s.1 (M + 1) = min s.1 M by omega]
        simp
theorem sum_cut (ps : List Int) (a : Nat) : ∀ m, ((ps.drop a).take m).sum = sumN m (fun i => pF ps (a + i))
  | 0 => by
    rw [List.take_zero]
    rfl
  | m + 1 => by
    rw [List.take_add_one, List.sum_append, sum_cut ps a m, sumN_succ, List.getElem?_drop]
    congr 1
    unfold pF
    rw [List.getD_eq_getElem?_getD]
    cases ps[a + m]? <;> simp
end F57
theorem cut_ints {ps : List Int} {s : F57.Span} (h : s.1 ≤ s.2.1) : ∃ ns : List Int, cutV (ps.map V.int) (some (s.1 : Int)) (some ((s.2.1 : Int) + 1)) = ns.map V.int ∧ ns.sum = F57.S (pF ps) ps.length s := by
  refine ⟨(ps.drop (min s.1 ps.length)).take (min (s.2.1 + 1) ps.length - min s.1 ps.length), ?_, ?_⟩
  · show cutV (ps.map V.int) (some ((s.1 : Nat) : Int)) (some (((s.2.1 + 1 : Nat)) : Int)) = _
    unfold cutV
    rw [List.length_map, HT.sIx_nat, HT.sIx_nat, List.map_take, List.map_drop]
  · rw [F57.sum_cut, F57.S_cut _ s h]
theorem sIx_nat2 (n d k : Nat) : HT.sIx n d (some ((k : Int) + 1)) = min (k + 1) n := HT.sIx_nat n d (k + 1)
def tot1 (sp : List F57.Span) (room : Nat) (ps : List Int) (j : Nat) : Int := F57.sumN j fun x => pF ps x * ((F57.cov sp (fun _ => true) x : Int) - (room : Int))
def cost1 (ps : List Int) (s : F57.Span) : Int := max 0 (F57.S (pF ps) ps.length s - (s.2.2 : Int))
def wor (sp : List F57.Span) (room : Nat) (ps : List Int) (j : Nat) : Int := tot1 sp room ps ps.length - ((sp.take j).map (cost1 ps)).sum
theorem wor_all (sp : List F57.Span) (room : Nat) (ps : List Int) : wor sp room ps sp.length = F57.W sp room (pF ps) ps.length := by
  unfold wor F57.W
  rw [List.take_length, F57.kS_list]
  rfl
theorem wor_zero (sp : List F57.Span) (room : Nat) (ps : List Int) : wor sp room ps 0 = tot1 sp room ps ps.length := by
  unfold wor
  rw [List.take_zero]
  exact Int.sub_zero _
theorem wor_step {sp : List F57.Span} {room : Nat} {ps : List Int} {j : Nat} {s : F57.Span} (h : sp[j]? = some s) : wor sp room ps (j + 1) = wor sp room ps j - cost1 ps s := by
  unfold wor
  rw [take_snoc2 h, List.map_append, List.sum_append]
  simp
  omega
theorem tot1_step {sp : List F57.Span} {room : Nat} {ps : List Int} {j : Nat} {z : Int} (h : ps[j]? = some z) : tot1 sp room ps (j + 1) = tot1 sp room ps j + z * ((F57.cov sp (fun _ => true) j : Int) - (room : Int)) := by
  unfold tot1
  rw [F57.sumN_succ, pF_at h]
theorem max0 (z : Int) : (if z > 0 then z else 0) = max 0 z := by
  by_cases c : z > 0
  · rw [if_pos c]; omega
  · rw [if_neg c]; omega
/-- what is asked of prices -/
def PrR (CP : Addr) (z : V) (H : Hp) (E : XK) (k : List Int → Addr → List V → Prop) : Prop :=
  (NsV H z ∧ ∀ H', Same H H' → E (.ref CP) none H') ∨ ∃ a xs ds, z = .ref a ∧ SeqH H a xs ∧ DtA anyA H xs ds ∧ (((1000 < ds.length ∨ ∃ d ∈ ds, f0D d = false) ∧ ∀ H', Same H H' → E (.ref CP) none H') ∨ (ds.length ≤ 1000 ∧ ∃ ps : List Int, ds = ps.map PyData.int ∧ (∀ p ∈ ps, 0 ≤ p) ∧ k ps a xs))
theorem ints_of {G : Addr → Prop} {H : Hp} : ∀ {ps : List Int} {xs : List V}, DtA G H xs (ps.map PyData.int) → xs = ps.map V.int
  | [], xs, h => by
    cases h
    rfl
  | p :: ps, xs, h => by
    rw [List.map_cons] at h
    cases h with
    | cons a b =>
      rw [a.intI, ints_of b]
      rfl
theorem cov_len {x : Nat} : ∀ {sp : List F57.Span} {k : Nat → Bool}, F57.cov sp k x ≤ sp.length
  | [], _ => Nat.le_refl _
  | s :: r, k => by
    have := cov_len (x := x) (sp := r) (k := fun i => k (i + 1))
    show (if k 0 && F57.inS s x then 1 else 0) + F57.cov r (fun i => k (i + 1)) x ≤ r.length + 1
    by_cases c : (k 0 && F57.inS s x) = true
    · rw [if_pos c]; omega
    · rw [if_neg c]; omega
/-! ## k57: worth -/
section
variable {P : Program} {w : World} {K : PySem.W.Frag} {mg : Str → Option Value} {base : Heap}
def spWorth (C CM CP : Addr) : Sp := fun vs H Q E => ∃ x y z, vs = [x, y, z] ∧ SpR C CM x y H E fun sp room _ _ => PrR CP z H E fun ps _ _ => ∀ H', Same H H' → Q (.int (F57.W sp room (pF ps) ps.length)) H'
theorem sc_worth : FnScope ["spans", "room", "prices", "price", "cover", "total", "at", "covering", "first", "last", "cost"] ["spans", "room", "prices"] (defScope s_worth) := ⟨rfl, rfl, rfl, by decide +kernel, rfl, by decide +kernel, by decide +kernel⟩
theorem ok_worth {f C CM CP : Addr} {fd : FuncData} {t9 : Tok} (F : FnP K "worth" s_worth f fd) (c_need_spans : CalX P w K mg base 4 "need_spans" ["spans"] (spNeedS C)) (c_need_room : CalX P w K mg base 2 "need_room" ["room", "least_room"] (spNeedM CM)) (c_cover_of : Cal P w K mg base 2 "cover_of" ["spans"] spCov) (c_is_from_0 : Cal P w K mg base 2 "is_from_0" ["thing"] (spDa f0D))
    (G : NkF K mg) (B : PlnX K mg "BadPrices" CP) (tup : mg "tuple" = none) (lis : mg "list" = none) (m_all : mg "all" = none) (m_max : mg "max" = none) (m_sum : mg "sum" = none) (m_enumerate : mg "enumerate" = none) (g_MOST_POSITION : mg "MOST_POSITION" = some (.int 999 t9)) : FnOk P w K mg base (L2.CX P w) 5 f fd ["spans", "room", "prices"] (spWorth C CM CP) := by
  obtain ⟨f_need_spans, fd_need_spans, g_need_spans, k_need_spans, b_need_spans, G_need_spans⟩ := c_need_spans
  obtain ⟨f_need_room, fd_need_room, g_need_room, k_need_room, b_need_room, G_need_room⟩ := c_need_room
  obtain ⟨f_cover_of, fd_cover_of, g_cover_of, k_cover_of, b_cover_of, G_cover_of⟩ := c_cover_of
  obtain ⟨f_is_from_0, fd_is_from_0, g_is_from_0, k_is_from_0, b_is_from_0, G_is_from_0⟩ := c_is_from_0
  refine F.ok sc_worth (fun vs H Q E h => ?_) (fun cdv A outer s H vs Q E hr h => ?_)
  · obtain ⟨x, y, z, rfl, _⟩ := h
    rfl
  · obtain ⟨x, y, z, rfl, h⟩ := h
    have nd := sc_worth.nd
    apply Exists.intro
    apply And.intro
    case left =>
     apply pss_cons
     · exact (ps_expr (pe_call G_need_spans (hr.mono (by decide)) rfl g_need_spans k_need_spans b_need_spans .nil (passes_call (takes_of rfl rfl rfl rfl) (fun _ _ _ _ h => h)) (pa_cons (pv 0) pa_nil)))
     apply pss_cons
     · exact (ps_expr (pe_call G_need_room (hr.mono (by decide)) rfl g_need_room k_need_room b_need_room .nil (passes_call (takes_of rfl rfl rfl rfl) (fun _ _ _ _ h => h)) (pa_cons (pv 1) (pa_cons pe_int pa_nil))))
     apply pss_cons
     · exact (ps_if (PW.pt (pw_or (pt_not (pt_val (pe_callB call_isiT (by rfl) G.isi (by decide +kernel) (pa_cons (pv 2) (pa_cons (pe_tup (pa_cons (pe_bltn (v := .ty "list") (by rfl) lis (by decide +kernel) rfl) (pa_cons (pe_bltn (v := .ty "tuple") (by rfl) tup (by decide +kernel) rfl) pa_nil))) pa_nil))))) (pw_or1 (pt_cmpR op_gt (pe_callB call_len (by rfl) G.len PySem.boot_len (pa_cons (pv 2) pa_nil)) (pe_op op_add (pe_glob (v := .int 999) (by rfl) g_MOST_POSITION ⟨_, rfl⟩) pe_int) (nomark _))))) (pss_one (ps_raise rfl (takes_of rfl rfl rfl rfl) (pmk_own PySem.F.excBase_ValueError B.x B.g B.o.kC (raises_own B.o.exC B.o.tyC) rfl))) pss_nil)
     apply pss_cons
     · exact (ps_if (pt_not (pt_val (pe_callB (cr_all rfl) (by rfl) m_all (by decide +kernel) (pa_cons (pe_lc (own := [("price", 3)]) (g := gName 3) rfl nd (pi_or (pi_list (pv 2)) (pi_tup (pv 2))) (blkOk_by (own := [("price", 3)]) (N := ["spans", "room", "prices", "price", "cover", "total", "at", "covering", "first", "last", "cost"]) (sc := defScope s_worth) (by decide +kernel)) (fun _ _ _ _ _ => (pg_name (i := 3) nd rfl (Or.inl rfl))) (fun _ _ _ _ _ => pts_nil) (fun _ _ _ _ _ => (pe_call G_is_from_0 (hr.mono (by decide)) rfl g_is_from_0 k_is_from_0 b_is_from_0 .nil pass0 (pa_cons (pv 3) pa_nil)))) pa_nil)))) (pss_one (ps_raise rfl (takes_of rfl rfl rfl rfl) (pmk_own PySem.F.excBase_ValueError B.x B.g B.o.kC (raises_own B.o.exC B.o.tyC) rfl))) pss_nil)
     apply pss_cons
     · exact (ps_set (i := 4) nd rfl (.inl rfl) (pe_call G_cover_of (hr.mono (by decide)) rfl g_cover_of k_cover_of b_cover_of .nil pass0 (pa_cons (pv 0) pa_nil)))
     apply pss_cons
     · exact (ps_set (i := 5) nd rfl (.inl rfl) pe_int)
     apply PSs.nox
     apply pss_cons
     · apply ps_for PassesOwn.never rfl
       · exact (pi_or (pi_enum (by rfl) m_enumerate (pa_cons (pv 2) pa_nil)) (pi_enumT (by rfl) m_enumerate (pa_cons (pv 2) pa_nil)))
       · exact (pg_tup rfl (pgs_cons (pg_name (i := 6) nd rfl (Or.inl rfl)) (pgs_cons (pg_name (i := 3) nd rfl (Or.inl rfl)) pgs_nil)))
       · apply pss_cons
         · exact (ps_set (i := 7) nd rfl (.inl rfl) (pe_ifExp (pt_cmpR op_lt (pv 6) (pe_callB call_len (by rfl) G.len PySem.boot_len (pa_cons (pv 4) pa_nil)) (nomark _)) (pe_ix ix_list (pv 4) (pv 6) (fun _ _ => rfl)) pe_int))
         apply pss_one
         exact (ps_aug (i := 5) nd rfl (.inl rfl) (pe_op op_mul (pv 3) (pe_op op_sub (pv 7) (pv 1))) ip_add)
     apply pss_cons
     · apply ps_for PassesOwn.never rfl
       · exact (pi_or (pi_list (pv 0)) (pi_tup (pv 0)))
       · exact (pg_tup rfl (pgs_cons (pg_name (i := 8) nd rfl (Or.inl rfl)) (pgs_cons (pg_name (i := 9) nd rfl (Or.inl rfl)) (pgs_cons (pg_name (i := 10) nd rfl (Or.inl rfl)) pgs_nil))))
       · apply pss_one
         exact (ps_set (i := 5) nd rfl (.inl rfl) (pe_op op_sub (pv 5) (pe_callB (call_max2 (by rfl)) (by rfl) m_max (by decide +kernel) (pa_cons pe_int (pa_cons (pe_op op_sub (pe_callB ((cr_sum (by rfl)).or (cr_sumT (by rfl))) (by rfl) m_sum (by decide +kernel) (pa_cons (pe_slice (sl_list.or sl_tupA) (pv 2) (po_some (pv 8)) (po_some (pe_op op_add (pv 9) pe_int))) pa_nil)) (pv 10)) pa_nil)))))
     apply pss_one
     exact (ps_ret (pv 5))
    case right =>
      rcases h with ⟨h1, h2⟩ | ⟨a, xs, ds, rfl, hS, hA, h⟩
      · exact ⟨_, rfl, _, rfl, .inl ⟨h1, h2⟩⟩
      refine ⟨_, rfl, _, rfl, .inr ⟨a, xs, ds, rfl, hS, hA, ?_⟩⟩
      rcases h with ⟨h1, h2⟩ | ⟨h4, h⟩
      · exact .inl ⟨h1, h2⟩
      refine .inr ⟨h4, ?_⟩
      rcases h with h | ⟨hall, h⟩
      · exact .inr h
      refine .inl ⟨hall, fun H1 s1 => ?_⟩
      refine ⟨_, rfl, y, rfl, ?_⟩
      rcases h with ⟨hb, q⟩ | ⟨room, rfl, hr20, sp, rfl, ok, h60, h⟩
      · exact .inr ⟨hb.same s1, q _ s1⟩
      refine .inl ⟨room, rfl, hr20, ?_⟩
      rcases h with ⟨hN, q⟩ | ⟨b, ys, pd, rfl, hT, hB, h⟩
      · refine ⟨_, rfl, (show 2 ≤ sizeLine by decide), fun p hp => ?_⟩
        have sp1 := same_new (o := .tup [.ty "list", .ty "tuple"]) hp
        obtain ⟨t, h1, h2, h3⟩ := (hN.same (s1.trans sp1)).ty (K := K)
        exact ⟨z, p, _, t, [.type "list", .type "tuple"], false, rfl, upd_same, .cons (.ty _) (.cons (.ty _) .nil), h1, kitAny_cons h2 (fun _ => kitAny_cons h3 (fun _ => kitAny_nil) fun z => by cases z) (fun z => by cases z), _, rfl, iteN0 (iteT (q _ (s1.trans sp1)))⟩
      refine ⟨_, rfl, (show 2 ≤ sizeLine by decide), fun p hp => ?_⟩
      have sp1 := same_new (o := .tup [.ty "list", .ty "tuple"]) hp
      have kit : ∃ t, TyX K (upd H1 p (.tup [.ty "list", .ty "tuple"])) (.ref b) t ∧ PySem.W.kitAny K t [.type "list", .type "tuple"] = some true := by
        rcases hT.same (s1.trans sp1) with h | h
        · exact ⟨_, .base (.lst h), kitAny_cons (kit_ty (b := "list") (r := true) (by decide +kernel)) (fun z => by cases z) fun _ => rfl⟩
        · exact ⟨_, .base (.tup h), kitAny_cons (kit_ty (b := "list") (r := false) (by decide +kernel)) (fun _ => kitAny_cons (kit_ty (b := "tuple") (r := true) (by decide +kernel)) (fun z => by cases z) fun _ => rfl) fun z => by cases z⟩
      obtain ⟨ty1, k1, k2⟩ := kit
      refine ⟨.ref b, p, _, ty1, [.type "list", .type "tuple"], true, rfl, upd_same, .cons (.ty _) (.cons (.ty _) .nil), k1, k2, _, rfl, iteN1 ?_⟩
      clear k1 k2
      replace s1 := s1.trans sp1
      have hS := hS.same s1
      have hA := hA.same s1
      have hT := hT.same s1
      have hB := hB.same s1
      generalize upd H1 p (.tup [.ty "list", .ty "tuple"]) = H2 at s1 hS hA hT hB ⊢
      clear sp1 hp
      have hl := hB.length
      refine ⟨_, rfl, _, _, rfl, hT.imp (fun e => ⟨_, SqL.of e, rfl⟩) (fun e => ⟨_, SqT.of e, rfl⟩), _, _, rfl, rfl, _, _, rfl, rfl, _, rfl, ?_⟩
      have h : (1000 < pd.length ∧ ∀ H', Same H2 H' → E (.ref CP) none H') ∨ (pd.length ≤ 1000 ∧ (((∃ d ∈ pd, f0D d = false) ∧ ∀ H', Same H2 H' → E (.ref CP) none H') ∨ ∃ ps : List Int, pd = ps.map PyData.int ∧ (∀ p ∈ ps, 0 ≤ p) ∧ ∀ H', Same H2 H' → Q (.int (F57.W sp room (pF ps) ps.length)) H')) := by
        rcases h with ⟨bad, q⟩ | ⟨hlen, ps, e, hps, k⟩
        · by_cases c : 1000 < pd.length
          · exact .inl ⟨c, fun H' s' => q _ (s1.trans s')⟩
          · exact .inr ⟨by omega, .inl ⟨bad.resolve_left c, fun H' s' => q _ (s1.trans s')⟩⟩
        · exact .inr ⟨hlen, .inr ⟨ps, e, hps, fun H' s' => k _ (s1.trans s')⟩⟩
      rcases h with ⟨c, q⟩ | ⟨hlen, h⟩
      · rw [decide_eq_true (show (999 : Int) + 1 < ((ys.length : Nat) : Int) by omega)]
        exact iteT (q _ (Same.refl _))
      rw [decide_eq_false (show ¬ (999 : Int) + 1 < ((ys.length : Nat) : Int) by omega)]
      refine iteF ?_
      refine ior_seq rfl hT fun J GG hw hG D hD => ?_
      refine lc_it hw (fun i H' => Same H2 H' ∧ H' D = some (.lst (((pd.map f0D).take i).map V.bl))) ⟨same_new hD, upd_same⟩ (fun i H' _ h => hG _ h.1) ?_ ?_
      · rintro i v H' H3 hi ⟨s3, e3⟩ ⟨rfl, hv⟩
        obtain ⟨dd, hdd, hy⟩ := hB.at hv
        refine ⟨rfl, yesIf ⟨_, rfl, v, dd, rfl, hy.same s3, fun H4 s4 => ⟨_, s4 _ _ e3, ?_, same_sub (s3.trans s4) hD, ?_⟩⟩⟩
        · rw [List.length_map]
          exact Nat.lt_of_le_of_lt (List.length_take_le' _ _) (Nat.lt_of_le_of_lt (show (pd.map f0D).length ≤ 1000 by rw [List.length_map]; exact hlen) (by decide))
        · rw [upd_same, take_snoc2 (l := pd.map f0D) (a := f0D dd) (by rw [List.getElem?_map, hdd]; rfl), List.map_append]
          rfl
      rintro H3 ⟨s3, e3⟩
      rw [hl, ← List.length_map (f := f0D), List.take_length] at e3
      refine ⟨D, _, rfl, SqL.of e3, _, rfl, ?_⟩
      rcases h with ⟨⟨db, hdb, hb⟩, q⟩ | ⟨ps, rfl, hps, k⟩
      · have e : (pd.map f0D).all id = false := by
          refine Bool.eq_false_iff.mpr fun z => ?_
          have := List.all_eq_true.mp z (f0D db) (List.mem_map.mpr ⟨db, hdb, rfl⟩)
          rw [hb] at this
          cases this
        rw [e]
        exact iteN0 (q _ s3)
      have e : ((ps.map PyData.int).map f0D).all id = true := by
        refine List.all_eq_true.mpr fun b hb => ?_
        obtain ⟨d1, hd1, rfl⟩ := List.mem_map.mp hb
        obtain ⟨z, hz, rfl⟩ := List.mem_map.mp hd1
        exact decide_eq_true (hps z hz)
      rw [e]
      refine iteN1 ?_
      have ey := ints_of hB
      subst ey
      have hS := hS.same s3
      have hA := hA.same s3
      have hT := hT.same s3
      have k := fun H' (s' : Same H3 H') => k H' (s3.trans s')
      clear e e3 hB hw hG hD s3
      refine ⟨_, rfl, a, xs, sp, rfl, hS, hA, ok, fun H4 cp s4 nc ec => ?_⟩
      have hN := ok.len
      refine ior_enumB rfl hT s4 fun J GG hw hG => ?_
      rw [List.length_map] at hlen hl hw
      refine for_it hw (fun j σ H' => ∃ v5 v6 v7 v8 v9 v10, σ = [some (.ref a), some (.int (room : Int)), some (.ref b), v5, some (.ref cp), some (.int (tot1 sp room ps j)), v6, v7, v8, v9, v10] ∧ Same H4 H') ⟨_, _, _, _, _, _, rfl, Same.refl _⟩ (fun j σ H' _ h => by
        obtain ⟨_, _, _, _, _, _, _, h⟩ := h
        exact hG _ (s4.trans h)) ?_ ?_
      · rintro j v σ H' H5 hj ⟨v5, v6, v7, v8, v9, v10, rfl, s5⟩ ⟨Tp, x1, x2, rfl, hTp, rfl, hx1, hx2⟩
        cases hx1
        have hj : j < ps.length := hj
        obtain ⟨z, hz, rfl⟩ := getI hx2
        have sTp := same_new (o := .tup [.int (j : Int), .int z]) hTp
        replace s5 := s5.trans sTp
        have eT : (upd H' Tp (.tup [.int (j : Int), .int z])) Tp = some (.tup [.int (j : Int), .int z]) := upd_same
        generalize upd H' Tp (.tup [.int (j : Int), .int z]) = H6 at s5 eT ⊢
        refine ⟨Tp, _, rfl, SqT.of eT, rfl, _, _, rfl, _, _, rfl, rfl, ?_⟩
        have ec6 := s5 _ _ ec
        refine ⟨_, rfl, _, rfl, _, _, rfl, .inl ⟨_, SqL.of ec6, rfl⟩, _, _, rfl, rfl, _, rfl, ?_⟩
        rw [covL_len]
        have hc := cov_len (x := j) (sp := sp) (k := fun _ => true)
        have fin : ∀ c : Nat, c = F57.cov sp (fun _ => true) j → tSeq (tAsg (tC (.int (c : Int))) (gName 7)) (tAug 5 (tOp (rI CMul fun i j => V.int (i * j)) (tVar 3) (tOp (rI0 fun i j => V.int (i - j)) (tVar 7) (tVar 1))) (ipI fun i j => i + j))
            { nx := fun σ H' => ∃ v5 v6 v7 v8 v9 v10, σ = [some (.ref a), some (.int (room : Int)), some (.ref b), v5, some (.ref cp), some (.int (tot1 sp room ps (j + 1))), v6, v7, v8, v9, v10] ∧ Same H4 H', rt := Q } [some (.ref a), some (.int (room : Int)), some (.ref b), some (.int z), some (.ref cp), some (.int (tot1 sp room ps j)), some (.int (j : Int)), v7, v8, v9, v10] H6 := by
          rintro c rfl
          refine ⟨_, rfl, _, rfl, _, rfl, _, rfl, _, _, rfl, rfl, _, _, rfl, rfl, .inr ⟨by omega, by omega⟩, _, _, rfl, rfl, ?_⟩
          exact ⟨_, _, _, _, _, _, by rw [tot1_step hz]; rfl, s5⟩
        by_cases c : j < lenS sp
        · rw [decide_eq_true (show (j : Int) < ((lenS sp : Nat) : Int) by omega)]
          refine iteT ⟨_, rfl, _, rfl, cp, _, _, _, rfl, rfl, SqL.of ec6, atI_nat (covL_at c), ?_⟩
          exact fin _ rfl
        · rw [decide_eq_false (show ¬ (j : Int) < ((lenS sp : Nat) : Int) by omega)]
          exact iteF (fin 0 (cov_high fun s hs => by have := lenS_lt hs; omega).symm)
      rintro σ H5 ⟨v5, v6, v7, v8, v9, v10, rfl, s5⟩
      rw [← wor_zero]
      have s45 := s4.trans s5
      have hS5 := hS.same s45
      refine ior_seqB rfl hS s45 fun J2 G2 hw2 hG2 => ?_
      have lx := hA.length
      rw [List.length_map] at lx
      refine for_it hw2 (fun j σ H' => ∃ v5 v6 v7 v8 v9 v10, σ = [some (.ref a), some (.int (room : Int)), some (.ref b), v5, some (.ref cp), some (.int (wor sp room ps j)), v6, v7, v8, v9, v10] ∧ Same H5 H') ⟨_, _, _, _, _, _, rfl, Same.refl _⟩ (fun j σ H' _ h => by
        obtain ⟨_, _, _, _, _, _, _, h⟩ := h
        exact hG2 _ (s45.trans h)) ?_ ?_
      · rintro j x σ H' H6 hj ⟨v5, v6, v7, v8, v9, v10, rfl, sj⟩ ⟨rfl, hx⟩
        obtain ⟨u, q, hu, rfl, hq⟩ := spD_at hA hx
        obtain ⟨ok1, ok2⟩ := ok.ok u (List.mem_of_getElem? hu)
        have s0 := s45.trans sj
        refine ⟨q, _, rfl, SqT.of (s0 _ _ hq), rfl, _, _, rfl, _, _, rfl, _, _, rfl, rfl, ?_⟩
        obtain ⟨ns, en, es⟩ := cut_ints (ps := ps) ok1
        have em : wor sp room ps j - (if ns.sum - (u.2.2 : Int) > 0 then ns.sum - (u.2.2 : Int) else 0) = wor sp room ps (j + 1) := by
          rw [wor_step hu, max0, es]
          rfl
        refine ⟨_, rfl, _, rfl, _, rfl, _, rfl, _, rfl, _, _, rfl, rfl, _, rfl, ?_⟩
        rcases hT.same s0 with hb | hb
        · refine .inl ⟨b, _, rfl, SqL.of hb, fun p hp => .inl ⟨p, ns, rfl, SqL.of (by rw [upd_same, en]), ?_⟩⟩
          refine ⟨_, rfl, _, _, rfl, rfl, _, _, rfl, _, _, rfl, rfl, ?_⟩
          exact ⟨_, _, _, _, _, _, by rw [← em]; rfl, sj.trans (same_new hp)⟩
        · refine .inr ⟨b, _, rfl, SqT.of hb, fun hw => .inr ⟨b, ns, rfl, ?_, ?_⟩, fun _ p hp => .inr ⟨p, ns, rfl, SqT.of (by rw [upd_same, en]), ?_⟩⟩
          · have e2 : ps.map V.int = ns.map V.int := by
              rw [← en]
              unfold cutV
              rw [hw.1, hw.2, List.drop_zero, Nat.sub_zero, List.take_length]
            rw [← e2]
            exact SqT.of hb
          · refine ⟨_, rfl, _, _, rfl, rfl, _, _, rfl, _, _, rfl, rfl, ?_⟩
            exact ⟨_, _, _, _, _, _, by rw [← em]; rfl, sj⟩
          · refine ⟨_, rfl, _, _, rfl, rfl, _, _, rfl, _, _, rfl, rfl, ?_⟩
            exact ⟨_, _, _, _, _, _, by rw [← em]; rfl, sj.trans (same_new hp)⟩
      rintro σ H6 ⟨v5, v6, v7, v8, v9, v10, rfl, s6⟩
      rw [lx, wor_all]
      exact ⟨_, rfl, k _ (s45.trans s6)⟩
end
/-! ## the visible heap grows -/
theorem Dw.mk {t : Nat} {V0 H : Hp} {d p : Addr} {o : HO} (h : Dw t V0 H d) (hp : H p = none) : ∃ V', Dw t V' (upd H p o) d ∧ Same V0 V' ∧ V' p = some o :=
  ⟨upd V0 p o, h.new hp, same_new (h.same.free hp), upd_same⟩
theorem Dw.grow {t : Nat} {V0 H H1 : Hp} {d : Addr} (h : Dw t V0 H d) (e : Same H H1) : ∃ V', Dw t V' H1 d ∧ Same V0 V' ∧ ∀ b o, H b = none → H1 b = some o → V' b = some o := by
  obtain ⟨s, w, c, ws, cs, rest, turn, h1, h2, h3, ht, D⟩ := h
  have D1 := D.same e
  have hid : ∀ b, H b = none → ¬ (b = d ∨ b = w ∨ b = c) := fun b q => by
    rintro (z | z | z) <;> subst z
    · rw [D.hd] at q; cases q
    · rw [D.hw] at q; cases q
    · rw [D.hc] at q; cases q
  have sm : Same V0 (fun b => if b = d ∨ b = w ∨ b = c then none else H1 b) := fun b o q => by
    have hb : ¬ (b = d ∨ b = w ∨ b = c) := by
      rintro (z | z | z) <;> subst z
      · rw [h1] at q; cases q
      · rw [h2] at q; cases q
      · rw [h3] at q; cases q
    simp only [if_neg hb]
    exact e _ _ (s _ _ q)
  refine ⟨fun b => if b = d ∨ b = w ∨ b = c then none else H1 b, ⟨fun b o q => ?_, w, c, ws, cs, rest, turn, if_pos (.inl rfl), if_pos (.inr (.inl rfl)), if_pos (.inr (.inr rfl)), ht, D1⟩, sm, fun b o q n => ?_⟩
  · by_cases hb : b = d ∨ b = w ∨ b = c
    · simp only [if_pos hb] at q
      cases q
    · simp only [if_neg hb] at q
      exact q
  · simp only [if_neg (hid b q)]
    exact n
/-! ## k57's law: spans drawn -/
def SpV (H : Hp) (p : Addr) (s : F57.Span) : Prop := H p = some (.tup [.int (s.1 : Int), .int (s.2.1 : Int), .int (s.2.2 : Int)]) ∧ s.1 ≤ s.2.1 ∧ s.2.1 ≤ 999
def spLSpan : Sp := fun vs H Q _ => ∃ (t : Nat) (V0 : Hp) (d : Addr) (wd : Nat) (far : Bool), vs = [.ref d, .int (wd : Int), .bl far] ∧ 1 ≤ wd ∧ wd ≤ 11 ∧ Dw t V0 H d ∧ t + 20 < T40 ∧
  ∀ (p : Addr) (s : F57.Span) (H' V' : Hp), Dw (t + 5) V' H' d → Same V0 V' → SpV V' p s → Q (.ref p) H'
theorem pick_lits {K : PySem.W.Frag} {i t : Nat} {d : Addr} {V0 H : Hp} {σ : L2.St} {Q : VK} {ta : TA} (vs : List V) (hta : ∀ (σ : L2.St) (H : Hp) (Q : List V → Hp → Prop), Q vs H → ta σ H Q) (hσ : σ[i]? = some (some (.ref d))) (hD : Dw t V0 H d) (ht : t < T40) (l0 : 0 < vs.length) (l1 : vs.length ≤ 1000)
    (k : ∀ v H' V', v ∈ vs → Dw (t + 1) V' H' d → Same V0 V' → Q v H') : tCall (spPick K) [] C8.E0 (tCons (tVar i) (tCons (tLst ta) tNil)) σ H Q := by
  refine ⟨_, hσ, hta _ _ _ ⟨Nat.le_trans l1 (by decide), fun p hp => ?_⟩⟩
  obtain ⟨V1, D1, y1, e1⟩ := hD.mk (o := .lst vs) hp
  exact ⟨t, V1, d, .ref p, vs, rfl, D1, ht, .lst (SqL.of e1), l0, Nat.lt_of_le_of_lt l1 (by decide), fun v H' hv D2 => k v H' V1 hv D2 y1⟩
theorem mem_ints {ns : List Int} {v : V} (h : v ∈ ns.map V.int) : ∃ n, n ∈ ns ∧ v = .int n := by
  obtain ⟨n, hn, rfl⟩ := List.mem_map.mp h
  exact ⟨n, hn, rfl⟩
theorem all_ints {ns : List Int} {a b n : Int} (h : n ∈ ns) (q : (ns.all fun n => decide (a ≤ n) && decide (n ≤ b)) = true) : a ≤ n ∧ n ≤ b := by
  have := List.all_eq_true.mp q n h
  obtain ⟨h1, h2⟩ := Bool.and_eq_true_iff.mp this
  exact ⟨of_decide_eq_true h1, of_decide_eq_true h2⟩
section
variable {P : Program} {w : World} {K : PySem.W.Frag} {mg : Str → Option Value} {base : Heap}
theorem sc__law_span : FnScope ["_law_draw", "_law_wide", "_law_is_far", "_law_first", "_law_last"] ["_law_draw", "_law_wide", "_law_is_far"] (defScope s_law_span) := ⟨rfl, rfl, rfl, by decide +kernel, rfl, by decide +kernel, by decide +kernel⟩
theorem ok_lspan {f : Addr} {fd : FuncData} (F : FnP K "_law_span" s_law_span f fd) (c__law_take : Cal P w K mg base 2 "_law_take" ["_law_draw", "_law_many"] spTake) (c__law_pick : Cal P w K mg base 3 "_law_pick" ["_law_draw", "_law_some"] (spPick K)) (m_min : mg "min" = none) : FnOk P w K mg base CX0 4 f fd ["_law_draw", "_law_wide", "_law_is_far"] spLSpan := by
  obtain ⟨f__law_take, fd__law_take, g__law_take, k__law_take, b__law_take, G__law_take⟩ := c__law_take
  obtain ⟨f__law_pick, fd__law_pick, g__law_pick, k__law_pick, b__law_pick, G__law_pick⟩ := c__law_pick
  refine F.ok sc__law_span (fun vs H Q E h => ?_) (fun cdv A outer s H vs Q E hr h => ?_)
  · obtain ⟨t, V0, d, wd, far, rfl, _⟩ := h
    rfl
  · obtain ⟨t, V0, d, wd, far, rfl, w2, w11, hD, ht, k⟩ := h
    have ht : t + 20 < 1099511627776 := ht
    have nd := sc__law_span.nd
    apply Exists.intro
    apply And.intro
    case left =>
     apply PSs.nox
     apply C8.pss_cut
     · exact (ps_if (PW.pt (pw_and (pt_val (pv 2)) (pw_and1 (pt_cmpR op_eq (pe_call G__law_take (hr.mono (by decide)) rfl g__law_take k__law_take b__law_take .nil pass0 (pa_cons (pv 0) (pa_cons pe_int pa_nil))) pe_int (nomark _))))) (pss_cons (ps_set (i := 3) nd rfl (.inl rfl) (pe_call G__law_pick (hr.mono (by decide)) rfl g__law_pick k__law_pick b__law_pick .nil pass0 (pa_cons (pv 0) (pa_cons (pe_lst (pa_cons pe_int (pa_cons pe_int (pa_cons pe_int pa_nil)))) pa_nil)))) (pss_one (ps_ret (pe_tup (pa_cons (pv 3) (pa_cons (pe_op op_add (pv 3) (pe_call G__law_pick (hr.mono (by decide)) rfl g__law_pick k__law_pick b__law_pick .nil pass0 (pa_cons (pv 0) (pa_cons (pe_lst (pa_cons pe_int (pa_cons pe_int pa_nil))) pa_nil)))) (pa_cons (pe_call G__law_pick (hr.mono (by decide)) rfl g__law_pick k__law_pick b__law_pick .nil pass0 (pa_cons (pv 0) (pa_cons (pe_lst (pa_cons pe_int (pa_cons pe_int (pa_cons pe_int pa_nil)))) pa_nil))) pa_nil))))))) pss_nil)
     apply pss_cons
     · exact (ps_set (i := 3) nd rfl (.inl rfl) (pe_call G__law_take (hr.mono (by decide)) rfl g__law_take k__law_take b__law_take .nil pass0 (pa_cons (pv 0) (pa_cons (pv 1) pa_nil))))
     apply pss_cons
     · exact (ps_set (i := 4) nd rfl (.inl rfl) (pe_callB (call_min2 (by rfl)) (by rfl) m_min (by decide +kernel) (pa_cons pe_int (pa_cons (pe_op op_add (pv 3) (pe_call G__law_pick (hr.mono (by decide)) rfl g__law_pick k__law_pick b__law_pick .nil pass0 (pa_cons (pv 0) (pa_cons (pe_lst (pa_cons pe_int (pa_cons pe_int (pa_cons pe_int (pa_cons pe_int (pa_cons pe_int (pa_cons pe_int (pa_cons pe_int pa_nil)))))))) pa_nil)))) pa_nil))))
     apply pss_one
     exact (ps_ret (pe_tup (pa_cons (pv 3) (pa_cons (pv 4) (pa_cons (pe_call G__law_pick (hr.mono (by decide)) rfl g__law_pick k__law_pick b__law_pick .nil pass0 (pa_cons (pv 0) (pa_cons (pe_lst (pa_cons pe_int (pa_cons pe_int (pa_cons pe_int (pa_cons pe_int (pa_cons pe_int (pa_cons pe_int (pa_cons pe_int (pa_cons pe_int (pa_cons pe_int pa_nil)))))))))) pa_nil))) pa_nil)))))
    case right =>
      refine ⟨fun σ H' => ∃ (t1 : Nat) (V1 : Hp), σ = [some (.ref d), some (.int (wd : Int)), some (.bl far), none, none] ∧ t1 ≤ t + 1 ∧ Dw t1 V1 H' d ∧ Same V0 V1, ?_, ?_⟩
      · cases far with
        | false => exact ⟨_, rfl, _, rfl, iteF ⟨t, V0, rfl, by omega, hD, Same.refl _⟩⟩
        | true =>
          refine ⟨_, rfl, _, rfl, iteT ⟨_, rfl, t, V0, d, 3, rfl, hD, by show t < 1099511627776; omega, by decide, by decide, fun z H1 z0 z1 D1 => ⟨rfl, _, rfl, ?_⟩⟩⟩
          refine ite2 (fun _ => ?_) (fun _ => ⟨t + 1, V0, rfl, by omega, D1, Same.refl _⟩)
          refine pick_lits ([0, 500, 990].map V.int) (fun _ _ _ q => q) rfl D1 (by show t + 1 < 1099511627776; omega) (by decide) (by decide) fun v H2 V2 hv D2 y2 => ?_
          obtain ⟨f0, hf, rfl⟩ := mem_ints hv
          obtain ⟨b1, b2⟩ := all_ints (a := 0) (b := 990) hf (by decide)
          refine ⟨_, rfl, _, rfl, ?_⟩
          refine pick_lits ([0, 9].map V.int) (fun _ _ _ q => q) rfl D2 (by show t + 2 < 1099511627776; omega) (by decide) (by decide) fun v H3 V3 hv D3 y3 => ?_
          obtain ⟨f1, hf1, rfl⟩ := mem_ints hv
          obtain ⟨b3, b4⟩ := all_ints (a := 0) (b := 9) hf1 (by decide)
          refine ⟨_, _, rfl, rfl, ?_⟩
          refine pick_lits ([0, 1, 999999999].map V.int) (fun _ _ _ q => q) rfl D3 (by show t + 3 < 1099511627776; omega) (by decide) (by decide) fun v H4 V4 hv D4 y4 => ?_
          obtain ⟨f2, hf2, rfl⟩ := mem_ints hv
          obtain ⟨b5, b6⟩ := all_ints (a := 0) (b := 999999999) hf2 (by decide)
          refine ⟨(show 3 ≤ sizeLine by decide), fun p hp => ?_⟩
          obtain ⟨V5, D5, y5, e5⟩ := D4.mk (o := .tup [.int f0, .int (f0 + f1), .int f2]) hp
          refine k p (f0.toNat, (f0 + f1).toNat, f2.toNat) _ V5 (D5.mono (by omega)) (((y2.trans y3).trans y4).trans y5) ⟨?_, ?_, ?_⟩
          · rw [e5]
            show some (HO.tup [.int f0, .int (f0 + f1), .int f2]) = some (HO.tup [.int (f0.toNat : Int), .int ((f0 + f1).toNat : Int), .int (f2.toNat : Int)])
            rw [Int.toNat_of_nonneg b1, Int.toNat_of_nonneg (show 0 ≤ f0 + f1 by omega), Int.toNat_of_nonneg b5]
          · show f0.toNat ≤ (f0 + f1).toNat
            omega
          · show (f0 + f1).toNat ≤ 999
            omega
      · rintro σ H1 ⟨t1, V1, rfl, ht1, D1, y1⟩
        refine ⟨_, rfl, _, rfl, t1, V1, d, _, rfl, D1, by show t1 < 1099511627776; omega, by omega, by omega, fun z H2 z0 z1 D2 => ?_⟩
        refine ⟨_, rfl, ?_⟩
        refine pick_lits ([0, 0, 1, 2, 3, 5, 11].map V.int) (fun _ _ _ q => q) rfl D2 (by show t1 + 1 < 1099511627776; omega) (by decide) (by decide) fun v H3 V3 hv D3 y3 => ?_
        obtain ⟨f1, hf1, rfl⟩ := mem_ints hv
        obtain ⟨b3, b4⟩ := all_ints (a := 0) (b := 11) hf1 (by decide)
        refine ⟨_, _, rfl, rfl, _, _, rfl, ?_⟩
        obtain ⟨la, hla, c1, c2⟩ : ∃ la : Int, (if z + f1 < 11 then z + f1 else 11) = la ∧ z ≤ la ∧ la ≤ 11 := by
          by_cases c : z + f1 < 11
          · exact ⟨_, if_pos c, by omega, by omega⟩
          · exact ⟨_, if_neg c, by omega, by omega⟩
        rw [hla]
        refine ⟨_, rfl, _, rfl, ?_⟩
        refine pick_lits ([0, 1, 1, 2, 2, 3, 4, 6, 100000].map V.int) (fun _ _ _ q => q) rfl D3 (by show t1 + 2 < 1099511627776; omega) (by decide) (by decide) fun v H4 V4 hv D4 y4 => ?_
        obtain ⟨f2, hf2, rfl⟩ := mem_ints hv
        obtain ⟨b5, b6⟩ := all_ints (a := 0) (b := 100000) hf2 (by decide)
        refine ⟨(show 3 ≤ sizeLine by decide), fun p hp => ?_⟩
        obtain ⟨V5, D5, y5, e5⟩ := D4.mk (o := .tup [.int z, .int la, .int f2]) hp
        refine k p (z.toNat, la.toNat, f2.toNat) _ V5 (D5.mono (by omega)) (((y1.trans y3).trans y4).trans y5) ⟨?_, ?_, ?_⟩
        · rw [e5]
          show some (HO.tup [.int z, .int la, .int f2]) = some (HO.tup [.int (z.toNat : Int), .int (la.toNat : Int), .int (f2.toNat : Int)])
          rw [Int.toNat_of_nonneg z0, Int.toNat_of_nonneg (show 0 ≤ la by omega), Int.toNat_of_nonneg b5]
        · show z.toNat ≤ la.toNat
          omega
        · show la.toNat ≤ 999
          omega
end
/-! ## data for == -/
mutual
theorem Dt.dp {K : PySem.W.Frag} {G : Addr → Prop} {H : Hp} : ∀ {d : PyData} {v : V}, d.canLay0 = true → Dt G H v d → Dp K H v d
  | _, _, _, .non => .non
  | _, _, _, .bl b => .bl b
  | _, _, _, .int i => .int i
  | _, _, _, .str x => .str x
  | _, _, l, .lst _ e h => .lst (SqL.of e) (h.dp (by simpa only [PyData.canLay0] using l))
  | _, _, l, .tup _ e h => .tup (SqT.of e) (h.dp (by simpa only [PyData.canLay0] using l))
  | _, _, l, .dic _ e => nomatch l
theorem DtA.dp {K : PySem.W.Frag} {G : Addr → Prop} {H : Hp} : ∀ {ds : List PyData} {vs : List V}, PyData.canLayAll0 ds = true → DtA G H vs ds → DpAll K H vs ds
  | _, _, _, .nil => .nil
  | _, _, l, .cons a t => by
    have l' := Bool.and_eq_true_iff.mp (by simpa only [PyData.canLayAll0] using l)
    exact .cons (a.dp l'.1) (t.dp l'.2)
end
/-- data of a bounded depth that == can read -/
structure LayB (k : Nat) (d : PyData) : Prop where
  lay : d.canLay0 = true
  dep : d.depth ≤ k
theorem LayB.shp {k : Nat} {d : PyData} (h : LayB k d) (hk : k ≤ 64) : SeqAt.shaped d = true := by
  unfold SeqAt.shaped
  rw [h.lay, Bool.true_and]
  exact decide_eq_true (Nat.le_trans h.dep hk)
theorem layb_int (i : Int) : LayB 0 (.int i) := ⟨by simp only [PyData.canLay0], by simp only [PyData.depth]; exact Nat.le_refl _⟩
theorem layb_all {k : Nat} : ∀ {ds : List PyData}, (∀ d ∈ ds, LayB k d) → PyData.depthAll ds ≤ k ∧ PyData.canLayAll0 ds = true
  | [], _ => ⟨by simp only [PyData.depthAll]; exact Nat.zero_le _, by simp only [PyData.canLayAll0]⟩
  | d :: ds, h => by
    have hd := h d (List.mem_cons_self ..)
    obtain ⟨b, c⟩ := layb_all (ds := ds) fun x hx => h x (List.mem_cons_of_mem _ hx)
    refine ⟨?_, ?_⟩
    · simp only [PyData.depthAll]
      exact Nat.max_le.mpr ⟨hd.dep, b⟩
    · simp only [PyData.canLayAll0, Bool.and_eq_true]
      exact ⟨hd.lay, c⟩
theorem layb_lst {k : Nat} {ds : List PyData} (h : ∀ d ∈ ds, LayB k d) : LayB (k + 1) (.list ds) := by
  obtain ⟨a, b⟩ := layb_all h
  exact ⟨by simp only [PyData.canLay0]; exact b, by simp only [PyData.depth]; omega⟩
theorem layb_tup {k : Nat} {ds : List PyData} (h : ∀ d ∈ ds, LayB k d) : LayB (k + 1) (.tuple ds) := by
  obtain ⟨a, b⟩ := layb_all h
  exact ⟨by simp only [PyData.canLay0]; exact b, by simp only [PyData.depth]; omega⟩
theorem layb_span (s : F57.Span) : LayB 1 (spD s) := layb_tup fun d hd => by
  simp only [List.mem_cons, List.not_mem_nil, or_false] at hd
  rcases hd with rfl | rfl | rfl <;> exact layb_int _
theorem layb_spans (sp : List F57.Span) : LayB 2 (.list (sp.map spD)) := layb_lst fun d hd => by
  obtain ⟨s, _, rfl⟩ := List.mem_map.mp hd
  exact layb_span s
theorem layb_ints (ns : List Int) : LayB 1 (.list (ns.map PyData.int)) := layb_lst fun d hd => by
  obtain ⟨n, _, rfl⟩ := List.mem_map.mp hd
  exact layb_int n
theorem eqv_nil2 (ds : List PyData) : PyData.eqv (.list ds) (.list []) = ds.isEmpty := by
  cases ds <;> simp [PyData.eqv, PyData.eqvAll]
/-! ## k57's law: rows of spans drawn -/
def spLSpans : Sp := fun vs H Q _ => ∃ (t : Nat) (V0 : Hp) (d : Addr), vs = [.ref d] ∧ Dw t V0 H d ∧ t + 300 < T40 ∧
  ∀ (a : Addr) (xs : List V) (sp : List F57.Span) (H' V' : Hp), Dw (t + 200) V' H' d → Same V0 V' → V' a = some (.lst xs) → DtA anyA V' xs (sp.map spD) → SpOk sp → sp.length ≤ 14 → Q (.ref a) H'
theorem SpV.dt {H : Hp} {p : Addr} {s : F57.Span} (h : SpV H p s) : Dt anyA H (.ref p) (spD s) := .tup trivial h.1 (.cons (.int _) (.cons (.int _) (.cons (.int _) .nil)))
section
variable {P : Program} {w : World} {K : PySem.W.Frag} {mg : Str → Option Value} {base : Heap}
theorem sc__law_spans : FnScope ["_law_draw", "_law_found", "_law_wide", "_law_is_far", "_law_k", "_law_again"] ["_law_draw"] (defScope s_law_spans) := ⟨rfl, rfl, rfl, by decide +kernel, rfl, by decide +kernel, by decide +kernel⟩
theorem ok_lspans {f : Addr} {fd : FuncData} (F : FnP K "_law_spans" s_law_spans f fd) (c__law_take : Cal P w K mg base 2 "_law_take" ["_law_draw", "_law_many"] spTake) (c__law_pick : Cal P w K mg base 3 "_law_pick" ["_law_draw", "_law_some"] (spPick K)) (c__law_span : Cal P w K mg base 4 "_law_span" ["_law_draw", "_law_wide", "_law_is_far"] spLSpan) (rng : mg "range" = none) : FnOk P w K mg base CX0 5 f fd ["_law_draw"] spLSpans := by
  obtain ⟨f__law_take, fd__law_take, g__law_take, k__law_take, b__law_take, G__law_take⟩ := c__law_take
  obtain ⟨f__law_pick, fd__law_pick, g__law_pick, k__law_pick, b__law_pick, G__law_pick⟩ := c__law_pick
  obtain ⟨f__law_span, fd__law_span, g__law_span, k__law_span, b__law_span, G__law_span⟩ := c__law_span
  refine F.ok sc__law_spans (fun vs H Q E h => ?_) (fun cdv A outer s H vs Q E hr h => ?_)
  · obtain ⟨t, V0, d, rfl, _⟩ := h
    rfl
  · obtain ⟨t, V0, d, rfl, hD, ht, k⟩ := h
    have ht : t + 300 < 1099511627776 := ht
    have nd := sc__law_spans.nd
    apply Exists.intro
    apply And.intro
    case left =>
     apply PSs.nox
     apply pss_cons
     · exact (ps_set (i := 1) nd rfl (.inl rfl) (pe_lst pa_nil))
     apply pss_cons
     · exact (ps_par (X := (cxOf CX0 P w K mg base ["_law_draw", "_law_found", "_law_wide", "_law_is_far", "_law_k", "_law_again"] "_law_spans" (defScope s_law_spans) f cdv A outer s H E).nox) (i := 2) (j := 3) rfl nd rfl rfl (by decide) rfl rfl (pa_cons (pe_op op_add pe_int (pe_call G__law_take (hr.mono (by decide)) rfl g__law_take k__law_take b__law_take .nil pass0 (pa_cons (pv 0) (pa_cons pe_int pa_nil)))) (pa_cons (pe_cmpR op_eq (pe_call G__law_take (hr.mono (by decide)) rfl g__law_take k__law_take b__law_take .nil pass0 (pa_cons (pv 0) (pa_cons pe_int pa_nil))) pe_int (nomark _)) pa_nil)) (by rfl))
     apply pss_cons
     · apply ps_for PassesOwn.never rfl
       · exact (pi_range1 (by rfl) rng (pa_cons (pe_call G__law_take (hr.mono (by decide)) rfl g__law_take k__law_take b__law_take .nil pass0 (pa_cons (pv 0) (pa_cons pe_int pa_nil))) pa_nil))
       · exact (pg_name (i := 4) nd rfl (Or.inl rfl))
       · apply C8.pss_cut
         · exact (ps_set (i := 5) nd rfl (.inl rfl) (pe_and (pe_cmpR (op_neD hr.units) (pv 1) (pe_lst pa_nil) (nomark _)) (pe_one (pe_cmpR op_eq (pe_call G__law_take (hr.mono (by decide)) rfl g__law_take k__law_take b__law_take .nil pass0 (pa_cons (pv 0) (pa_cons pe_int pa_nil))) pe_int (nomark _)))))
         apply pss_one
         exact (ps_expr (pe_bm PySem.F.plainAttrs_list PySem.F.slot_list_append PySem.F.type_list_append mt_append (pv 1) (pa_cons (pe_ifExp (pt_val (pv 5)) (pe_call G__law_pick (hr.mono (by decide)) rfl g__law_pick k__law_pick b__law_pick .nil pass0 (pa_cons (pv 0) (pa_cons (pv 1) pa_nil))) (pe_call G__law_span (hr.mono (by decide)) rfl g__law_span k__law_span b__law_span .nil pass0 (pa_cons (pv 0) (pa_cons (pv 2) (pa_cons (pv 3) pa_nil))))) pa_nil)))
     apply pss_one
     exact (ps_ret (pv 1))
    case right =>
      refine ⟨(show 0 ≤ sizeLine by decide), fun D hD0 => ?_⟩
      obtain ⟨V1, D1, y1, e1⟩ := hD.mk (o := .lst []) hD0
      have nD : V0 D = none := hD.same.free hD0
      generalize upd H D (.lst []) = H1 at D1 ⊢
      refine ⟨_, rfl, t, V1, d, 10, rfl, D1, by show t < 1099511627776; omega, by decide, by decide, fun w0 H2 w1 w2 D2 => ⟨_, _, rfl, rfl, ?_⟩⟩
      refine ⟨_, rfl, t + 1, V1, d, 8, rfl, D2, by show t + 1 < 1099511627776; omega, by decide, by decide, fun z3 H3 _ _ D3 => ⟨rfl, _, _, rfl, ?_⟩⟩
      refine ⟨_, rfl, t + 2, V1, d, 15, rfl, D3, by show t + 2 < 1099511627776; omega, by decide, by decide, fun m H4 m0 m1 D4 => ⟨m, rfl, by omega, by omega, ?_⟩⟩
      generalize decide (V.int z3 = V.int 0) = far
      refine for_range (lo := 0) (n := m.toNat) (fun j σ H' => ∃ (V' : Hp) (acc : List V) (sp : List F57.Span) (v4 v5 : Option V), σ = [some (.ref d), some (.ref D), some (.int (2 + w0)), some (.bl far), v4, v5] ∧ Dw (t + 3 + 7 * j) V' H' d ∧ Same V0 V' ∧ V' D = some (.lst acc) ∧ DtA (fun b => b ≠ D) V' acc (sp.map spD) ∧ SpOk sp ∧ sp.length = j)
        ⟨V1, [], [], none, none, rfl, D4, y1, e1, .nil, ⟨Nat.zero_le _, fun _ h => nomatch h⟩, rfl⟩ ?_ ?_
      · rintro j σ H' hj ⟨V', acc, sp, v4, v5, rfl, Dj, yj, ej, Aj, okj, lj⟩
        refine ⟨fun σ H' => ∃ (t1 : Nat) (V2 : Hp) (ag : Bool) (v4 : Option V), σ = [some (.ref d), some (.ref D), some (.int (2 + w0)), some (.bl far), v4, some (.bl ag)] ∧ t1 ≤ t + 3 + 7 * j + 1 ∧ Dw t1 V2 H' d ∧ Same V' V2 ∧ (ag = true → acc ≠ []), ?_, ?_⟩
        · refine ⟨_, rfl, (show 0 ≤ sizeLine by decide), fun p0 hp0 => ?_⟩
          obtain ⟨V2, D2, y2, e2⟩ := Dj.mk (o := .lst []) hp0
          have ej2 := y2 _ _ ej
          have Aj2 : DtA (fun b => b ≠ D) V2 acc (sp.map spD) := Aj.to fun b o g e => ⟨y2 _ _ e, g⟩
          have lx := Aj2.length
          rw [List.length_map] at lx
          refine ⟨.list (sp.map spD), .list [], .lst (SqL.of (D2.same _ _ ej2)) (DtA.dp (layb_all (k := 1) fun x hx => by
            obtain ⟨s, _, rfl⟩ := List.mem_map.mp hx
            exact layb_span s).2 (Aj2.to fun b o g e => ⟨D2.same _ _ e, g⟩)), .lst (SqL.of upd_same) .nil, (layb_spans sp).shp (by decide), by decide, ?_⟩
          rw [eqv_nil2]
          generalize upd H' p0 (.lst []) = H5 at D2 ⊢
          refine ⟨_, rfl, ?_⟩
          refine ite2 (fun c => ?_) (fun c => ⟨_, V2, _, _, rfl, by omega, D2, y2, fun z => nomatch z⟩)
          refine ⟨_, rfl, t + 3 + 7 * j, V2, d, 6, rfl, D2, by show t + 3 + 7 * j < 1099511627776; omega, by decide, by decide, fun z6 H6 _ _ D6 => ⟨rfl, _, V2, _, _, rfl, Nat.le_refl _, D6, y2, fun _ z => ?_⟩⟩
          subst z
          rw [show sp = [] from List.eq_nil_of_length_eq_zero (by rw [← lx]; rfl)] at c
          cases c
        · rintro σ H5 ⟨t1, V2, ag, v4, rfl, ht1, D2, y2, hag⟩
          have ej2 := y2 _ _ ej
          have Aj2 : DtA (fun b => b ≠ D) V2 acc (sp.map spD) := Aj.to fun b o g e => ⟨y2 _ _ e, g⟩
          have lx := Aj2.length
          rw [List.length_map] at lx
          have put : ∀ (x : V) (s : F57.Span) (H6 V6 : Hp), Dw (t + 3 + 7 * (j + 1)) V6 H6 d → Same V2 V6 → Dt (fun b => b ≠ D) V6 x (spD s) → s.1 ≤ s.2.1 → s.2.1 ≤ 999 →
              rAppend (.ref D) [x] H6 fun _ H' => ∃ (V' : Hp) (acc : List V) (sp : List F57.Span) (u4 u5 : Option V), ([some (.ref d), some (.ref D), some (.int (2 + w0)), some (.bl far), v4, some (.bl ag)] : L2.St) = [some (.ref d), some (.ref D), some (.int (2 + w0)), some (.bl far), u4, u5] ∧ Dw (t + 3 + 7 * (j + 1)) V' H' d ∧ Same V0 V' ∧ V' D = some (.lst acc) ∧ DtA (fun b => b ≠ D) V' acc (sp.map spD) ∧ SpOk sp ∧ sp.length = j + 1 := by
            intro x s H6 V6 D6 y6 hx o1 o2
            have e6 := y6 _ _ ej2
            have lj' : acc.length < 15 := by omega
            refine ⟨D, acc, x, rfl, rfl, D6.same _ _ e6, Nat.lt_of_lt_of_le lj' (by decide), upd V6 D (.lst (acc ++ [x])), acc ++ [x], sp ++ [s], v4, _, rfl, D6.set e6, ?_, upd_same, ?_, ⟨?_, ?_⟩, ?_⟩
            · exact same_sub (yj.trans (y2.trans y6)) nD
            · rw [List.map_append]
              exact (Aj2.to fun b o g e => ⟨by rw [upd_ne g]; exact y6 _ _ e, g⟩).app (.cons (hx.to fun b o g e => ⟨by rw [upd_ne g]; exact e, g⟩) .nil)
            · rw [List.length_append, lj]
              exact Nat.le_trans (show j + 1 ≤ 15 by omega) (by decide)
            · intro u hu
              rcases List.mem_append.mp hu with hu | hu
              · exact okj.ok u hu
              · rw [List.mem_singleton] at hu
                subst hu
                exact ⟨o1, o2⟩
            · rw [List.length_append, lj]
              rfl
          refine ⟨_, rfl, .inl ⟨rfl, _, SqL.of (D2.same _ _ ej2)⟩, _, rfl, _, rfl, ?_⟩
          cases ag with
          | true =>
            refine iteT ⟨_, rfl, _, rfl, t1, V2, d, .ref D, acc, rfl, D2, by show t1 < 1099511627776; omega, .lst (SqL.of ej2), List.length_pos_iff.mpr (hag rfl), by omega, fun v H6 hv D6 => ?_⟩
            obtain ⟨i, hi⟩ := List.mem_iff_getElem?.mp hv
            obtain ⟨dd, hdd, hy⟩ := Aj2.at hi
            rw [List.getElem?_map, Option.map_eq_some_iff] at hdd
            obtain ⟨s, hs, rfl⟩ := hdd
            obtain ⟨o1, o2⟩ := okj.ok s (List.mem_of_getElem? hs)
            dsimp only [tNil]
            exact put v s H6 V2 (D6.mono (by omega)) (Same.refl _) hy o1 o2
          | false =>
            refine iteF ⟨_, rfl, _, rfl, _, rfl, t1, V2, d, (2 + w0).toNat, far, ?_, by omega, by omega, D2, by show t1 + 20 < 1099511627776; omega, fun p s H6 V6 D6 y6 hs => ?_⟩
            · show [V.ref d, V.int (2 + w0), V.bl far] = _
              rw [Int.toNat_of_nonneg (by omega)]
            · dsimp only [tNil]
              exact put _ s H6 V6 (D6.mono (by omega)) y6 (.tup (fun z => by have := y6 _ _ ej2; rw [← z, hs.1] at this; cases this) hs.1 (.cons (.int _) (.cons (.int _) (.cons (.int _) .nil)))) hs.2.1 hs.2.2
      · rintro σ H' ⟨V', acc, sp, v4, v5, rfl, Dj, yj, ej, Aj, okj, lj⟩
        exact ⟨_, rfl, k D acc sp _ V' (Dj.mono (by omega)) yj ej (Aj.to fun b o _ e => ⟨e, trivial⟩) okj (by omega)⟩
end
/-! ## k57's law: covers and worths -/
def spCv : Sp := fun vs H Q _ => ∃ (a : Addr) (xs : List V) (sp : List F57.Span) (x : Nat), vs = [.ref a, .int (x : Int)] ∧ H a = some (.lst xs) ∧ DtA anyA H xs (sp.map spD) ∧ sp.length ≤ 400 ∧ ∀ H', Same H H' → Q (.int (F57.cov sp (fun _ => true) x : Int)) H'
def spVal : Sp := fun vs H Q _ => ∃ (a b : Addr) (xs : List V) (sp : List F57.Span) (room : Nat) (ps : List Int), vs = [.ref a, .int (room : Int), .ref b] ∧ H a = some (.lst xs) ∧ DtA anyA H xs (sp.map spD) ∧ SpOk sp ∧ room ≤ 20 ∧ H b = some (.lst (ps.map V.int)) ∧ ps.length ≤ 1000 ∧
  ∀ H', Same H H' → Q (.int (F57.W sp room (pF ps) ps.length)) H'
section
variable {P : Program} {w : World} {K : PySem.W.Frag} {mg : Str → Option Value} {base : Heap}
theorem sc__law_cover : FnScope ["_law_spans_here", "_law_at", "_law_span_here"] ["_law_spans_here", "_law_at"] (defScope s_law_cover) := ⟨rfl, rfl, rfl, by decide +kernel, rfl, by decide +kernel, by decide +kernel⟩
theorem ok_lcover {CX : CXT} {f : Addr} {fd : FuncData} (F : FnP K "_law_cover" s_law_cover f fd) (G : NkF K mg) : FnOk P w K mg base CX 1 f fd ["_law_spans_here", "_law_at"] spCv := by
  refine F.ok sc__law_cover (fun vs H Q E h => ?_) (fun cdv A outer s H vs Q E hr h => ?_)
  · obtain ⟨a, xs, sp, x, rfl, _⟩ := h
    rfl
  · obtain ⟨a, xs, sp, x, rfl, eS, hA, hl, k⟩ := h
    have nd := sc__law_cover.nd
    apply Exists.intro
    apply And.intro
    case left =>
     apply PSs.nox
     apply pss_one
     exact (ps_ret (pe_callB call_len (by rfl) G.len PySem.boot_len (pa_cons (pe_lc (own := [("_law_span_here", 2)]) (g := gName 2) rfl nd (pi_list (pv 0)) (blkOk_by (own := [("_law_span_here", 2)]) (N := ["_law_spans_here", "_law_at", "_law_span_here"]) (sc := defScope s_law_cover) (by decide +kernel)) (fun _ _ _ _ _ => (pg_name (i := 2) nd rfl (Or.inl rfl))) (fun _ _ _ _ _ => pts_one (PW.pt (pw_and (pt_cmpR op_le (pe_ix (ix_seqK (K := K)) (pv 2) pe_int (fun _ _ => rfl)) (pv 1) (nomark _)) (pw_and1 (pt_cmpR op_le (pv 1) (pe_ix (ix_seqK (K := K)) (pv 2) pe_int (fun _ _ => rfl)) (nomark _)))))) (fun _ _ _ _ _ => (pv 2))) pa_nil)))
    case right =>
      have lx := hA.length
      rw [List.length_map] at lx
      refine ⟨_, rfl, a, rfl, ⟨_, SqL.of eS⟩, fun D hD => ?_⟩
      refine lc_list (K := K) (a := a) (xs := xs) (fun j H' => Same H H' ∧ ∃ acc, H' D = some (.lst acc) ∧ acc.length = F57.cov (sp.take j) (fun _ => true) x) ⟨same_new hD, [], upd_same, by rw [List.take_zero]; rfl⟩ (fun j H' _ h => SqL.of (h.1 _ _ eS)) ?_ ?_
      · rintro j y H' hj ⟨sj, acc, ej, la⟩
        obtain ⟨s0, p, hs, rfl, hp⟩ := spD_at hA hj
        have hp := sj _ _ hp
        have hstep : F57.cov (sp.take (j + 1)) (fun _ => true) x = F57.cov (sp.take j) (fun _ => true) x + (if F57.inS s0 x then 1 else 0) := by
          rw [take_snoc2 hs, cov_snoc]
          simp
        have hcl := cov_len (x := x) (sp := sp.take j) (k := fun _ => true)
        have htl := List.length_take_le' j sp
        refine ⟨rfl, _, rfl, .inr (.inl ⟨_, _, _, _, rfl, rfl, SqT.of hp, rfl, _, rfl, _, _, rfl, rfl, _, rfl, ?_⟩)⟩
        refine ite2 (fun c1 => ?_) (fun c1 => ?_)
        · refine ⟨_, rfl, _, rfl, .inr (.inl ⟨_, _, _, _, rfl, rfl, SqT.of hp, rfl, _, _, rfl, rfl, _, rfl, ?_⟩)⟩
          have c1 := of_decide_eq_true c1
          refine ite2 (fun c2 => ?_) (fun c2 => ?_)
          · have c2 := of_decide_eq_true c2
            refine ⟨_, rfl, _, ej, ?_, same_sub sj hD, _, upd_same, ?_⟩
            · exact Nat.lt_of_le_of_lt (show acc.length ≤ 400 by omega) (by decide)
            · rw [List.length_append, la, hstep, if_pos (by unfold F57.inS; simp; omega)]
              rfl
          · have c2 : ¬ (x : Int) ≤ (s0.2.1 : Int) := fun z => c2 (decide_eq_true z)
            exact ⟨sj, acc, ej, by rw [hstep, if_neg (by unfold F57.inS; simp; omega), la]; rfl⟩
        · have c1 : ¬ (s0.1 : Int) ≤ (x : Int) := fun z => c1 (decide_eq_true z)
          exact ⟨sj, acc, ej, by rw [hstep, if_neg (by unfold F57.inS; simp; omega), la]; rfl⟩
      rintro H' ⟨s1, acc, e1, la⟩
      rw [lx, List.take_length] at la
      refine ⟨_, _, rfl, .inl ⟨_, SqL.of e1, rfl⟩, ?_⟩
      rw [la]
      exact k _ s1
theorem sc__law_value : FnScope ["_law_spans_here", "_law_room", "_law_prices_here", "_law_total", "_law_at", "_law_first", "_law_last", "_law_cost"] ["_law_spans_here", "_law_room", "_law_prices_here"] (defScope s_law_value) := ⟨rfl, rfl, rfl, by decide +kernel, rfl, by decide +kernel, by decide +kernel⟩
theorem ok_lvalue {CX : CXT} {f : Addr} {fd : FuncData} (F : FnP K "_law_value" s_law_value f fd) (c__law_cover : Cal P w K mg base 1 "_law_cover" ["_law_spans_here", "_law_at"] spCv) (G : NkF K mg) (rng : mg "range" = none) (m_max : mg "max" = none) (m_sum : mg "sum" = none) : FnOk P w K mg base CX 2 f fd ["_law_spans_here", "_law_room", "_law_prices_here"] spVal := by
  obtain ⟨f__law_cover, fd__law_cover, g__law_cover, k__law_cover, b__law_cover, G__law_cover⟩ := c__law_cover
  refine F.ok sc__law_value (fun vs H Q E h => ?_) (fun cdv A outer s H vs Q E hr h => ?_)
  · obtain ⟨a, b, xs, sp, room, ps, rfl, _⟩ := h
    rfl
  · obtain ⟨a, b, xs, sp, room, ps, rfl, eS, hA, ok, hroom, eP, hlen, k⟩ := h
    have nd := sc__law_value.nd
    apply Exists.intro
    apply And.intro
    case left =>
     apply PSs.nox
     apply pss_cons
     · exact (ps_set (i := 3) nd rfl (.inl rfl) pe_int)
     apply pss_cons
     · apply ps_for PassesOwn.never rfl
       · exact (pi_range1 (by rfl) rng (pa_cons (pe_callB call_len (by rfl) G.len PySem.boot_len (pa_cons (pv 2) pa_nil)) pa_nil))
       · exact (pg_name (i := 4) nd rfl (Or.inl rfl))
       · apply pss_one
         exact (ps_if (pt_cmpR op_ne (pe_ix ix_list (pv 2) (pv 4) (fun _ _ => rfl)) pe_int (nomark _)) (pss_one (ps_set (i := 3) nd rfl (.inl rfl) (pe_op op_add (pv 3) (pe_op op_mul (pe_ix ix_list (pv 2) (pv 4) (fun _ _ => rfl)) (pe_op op_sub (pe_call G__law_cover (hr.mono (by decide)) rfl g__law_cover k__law_cover b__law_cover .nil pass0 (pa_cons (pv 0) (pa_cons (pv 4) pa_nil))) (pv 1)))))) pss_nil)
     apply pss_cons
     · apply ps_for PassesOwn.never rfl
       · exact (pi_list (pv 0))
       · exact (pg_tup rfl (pgs_cons (pg_name (i := 5) nd rfl (Or.inl rfl)) (pgs_cons (pg_name (i := 6) nd rfl (Or.inl rfl)) (pgs_cons (pg_name (i := 7) nd rfl (Or.inl rfl)) pgs_nil))))
       · apply pss_one
         exact (ps_set (i := 3) nd rfl (.inl rfl) (pe_op op_sub (pv 3) (pe_callB (call_max2 (by rfl)) (by rfl) m_max (by decide +kernel) (pa_cons pe_int (pa_cons (pe_op op_sub (pe_callB (cr_sum (by rfl)) (by rfl) m_sum (by decide +kernel) (pa_cons (pe_slice sl_list (pv 2) (po_some (pv 5)) (po_some (pe_op op_add (pv 6) pe_int))) pa_nil)) (pv 7)) pa_nil)))))
     apply pss_one
     exact (ps_ret (pv 3))
    case right =>
      have hN := ok.len
      refine ⟨_, rfl, _, _, rfl, .inl ⟨_, SqL.of eP, rfl⟩, _, rfl, by omega, by rw [List.length_map]; omega, ?_⟩
      have lx := hA.length
      rw [List.length_map] at lx
      refine for_range (lo := 0) (n := (((ps.map V.int).length : Nat) : Int).toNat) (fun j σ H' => ∃ v4 v5 v6 v7, σ = [some (.ref a), some (.int (room : Int)), some (.ref b), some (.int (tot1 sp room ps j)), v4, v5, v6, v7] ∧ Same H H') ⟨_, _, _, _, rfl, Same.refl _⟩ ?_ ?_
      · rintro j σ H' hj ⟨v4, v5, v6, v7, rfl, sj⟩
        have hj : j < ps.length := by rw [List.length_map] at hj; omega
        have hz : ps[j]? = some ps[j] := List.getElem?_eq_getElem hj
        have hx : (ps.map V.int)[j]? = some (.int ps[j]) := by rw [List.getElem?_map, hz]; rfl
        rw [show (0 : Int) + (j : Int) = ((j : Nat) : Int) by omega]
        have eP' := sj _ _ eP
        refine ⟨_, rfl, _, rfl, b, _, _, _, rfl, rfl, SqL.of eP', atI_nat hx, rfl, _, rfl, ?_⟩
        refine ite2 (fun c => ?_) (fun c => ?_)
        · refine ⟨_, rfl, _, rfl, _, rfl, b, _, _, _, rfl, rfl, SqL.of eP', atI_nat hx, ?_⟩
          refine ⟨_, rfl, _, rfl, a, xs, sp, j, rfl, sj _ _ eS, hA.same sj, ok.ln, fun H2 s2 => ?_⟩
          have hc := cov_len (x := j) (sp := sp) (k := fun _ => true)
          have hln := ok.ln
          refine ⟨_, rfl, _, _, rfl, rfl, _, _, rfl, rfl, .inr ⟨by omega, by omega⟩, _, _, rfl, rfl, ?_⟩
          exact ⟨_, _, _, _, by rw [tot1_step hz]; rfl, sj.trans s2⟩
        · have c0 : ps[j] = 0 := by simpa using c
          exact ⟨_, _, _, _, by rw [tot1_step hz, c0, Int.zero_mul, Int.add_zero]; rfl, sj⟩
      · rintro σ H2 ⟨v4, v5, v6, v7, rfl, sj⟩
        rw [show (((ps.map V.int).length : Nat) : Int).toNat = ps.length by rw [List.length_map]; omega, ← wor_zero]
        refine ⟨_, rfl, a, rfl, ⟨_, SqL.of (sj _ _ eS)⟩, ?_⟩
        refine for_list (K := K) (a := a) (xs := xs) (fun j σ H' => ∃ v4 v5 v6 v7, σ = [some (.ref a), some (.int (room : Int)), some (.ref b), some (.int (wor sp room ps j)), v4, v5, v6, v7] ∧ Same H2 H') ⟨_, _, _, _, rfl, Same.refl _⟩ (fun j σ H' _ h => by
          obtain ⟨_, _, _, _, _, h⟩ := h
          exact SqL.of (sj.trans h _ _ eS)) ?_ ?_
        · rintro j x σ H' hj ⟨v4, v5, v6, v7, rfl, s3⟩
          obtain ⟨u, q, hu, rfl, hq⟩ := spD_at hA hj
          obtain ⟨ok1, ok2⟩ := ok.ok u (List.mem_of_getElem? hu)
          have s0 := sj.trans s3
          obtain ⟨ns, en, es⟩ := cut_ints (ps := ps) ok1
          have em : wor sp room ps j - (if ns.sum - (u.2.2 : Int) > 0 then ns.sum - (u.2.2 : Int) else 0) = wor sp room ps (j + 1) := by
            rw [wor_step hu, max0, es]
            rfl
          refine ⟨q, _, rfl, SqT.of (s0 _ _ hq), rfl, _, _, rfl, _, _, rfl, _, _, rfl, rfl, ?_⟩
          refine ⟨_, rfl, _, rfl, _, rfl, _, rfl, _, rfl, _, _, rfl, rfl, _, rfl, ?_⟩
          refine ⟨b, _, rfl, SqL.of (s0 _ _ eP), fun p hp => ⟨p, ns, rfl, SqL.of (by rw [upd_same, en]), ?_⟩⟩
          refine ⟨_, rfl, _, _, rfl, rfl, _, _, rfl, _, _, rfl, rfl, ?_⟩
          exact ⟨_, _, _, _, by rw [← em]; rfl, s3.trans (same_new hp)⟩
        · rintro σ H' ⟨v4, v5, v6, v7, rfl, s3⟩
          rw [lx, wor_all]
          exact ⟨_, rfl, k _ (sj.trans s3)⟩
end
/-! ## set(list of ints), such that sorted knows it -/
namespace SeI
open PySem PySem.Spec PyProof.Rows L2
abbrev bareO (w : World) : Obj := { cls := .type "set", dict := none, data := .set #[] 0 (.fresh 0 0 (!w.params.followText "set-order")) }
section
variable {P : Program} {w : World} {A : Around} {E : Value → Shared → Prop} {s : Shared} {l : Addr} {its : Array Value} {ns : List Int}
/-- what stands behind the call: a new set of these members, at most so many -/
def Full (w : World) (s : Shared) (ns : List Int) (h' : Heap) : Prop := (∃ c, c ≤ ns.length ∧ SetR w h' s.heap.objs.size (fun j => decide (j ∈ ns)) c) ∧ ∀ b o, s.heap.get? b = some o → h'.get? b = some o
theorem bare_made (a : Value) : codeAny (model P w) A (.call (.builtin "set.__new__") ⟨[.type "set", a], []⟩) (wants (fun v s1 => v = .ref s.heap.objs.size ∧ s1 = { s with heap := s.heap.push (bareO w) }) E) s := code_set_led1 a ⟨rfl, rfl⟩
theorem list_filled (hA : A.handled = none) (hl : s.heap.IsList l its) (hi : IntsAre its.toList ns) (hb : ns.length + 1 < scanBound) {R : Result → Shared → Prop} (k : ∀ (h' : Heap) (tk : Nat), Full w s ns h' → R (.ok (.ret .none)) { s with heap := h', toks := tk }) :
    codeAny (model P w) A (.builtin "set.update.loop" ⟨[.ref s.heap.objs.size, .ref (s.heap.objs.size + 1)], []⟩) R { s with heap := (s.heap.push (bareO w)).push { cls := .type "list_iterator", data := .fields #[.ref l, .int 0 0] } } := by
  have sz : its.size = ns.length := by
    have q := IntsAre.length hi
    rwa [Array.length_toList] at q
  have lt : l < s.heap.objs.size := by
    obtain ⟨ol, e, _⟩ := hl
    exact Heap.lt_size e
  have s1 : (s.heap.push (bareO w)).objs.size = s.heap.objs.size + 1 := Heap.size_push ..
  have hl1 : (s.heap.push (bareO w)).IsList l its := hl.push _
  have there : (s.heap.push (bareO w)).get? s.heap.objs.size = some (bareO w) := Heap.get?_push_size _ rfl
  have ne : l ≠ (s.heap.push (bareO w)).objs.size := Nat.ne_of_lt (s1 ▸ Nat.lt_succ_of_lt lt)
  have hA1 : A.in1.handled = none := by simp [hA]
  have val : ∀ (i : Nat) (v : Value), its[i]? = some v → ∃ z t, ns[i]? = some z ∧ v = .int z t := fun i v hv => by
    have hlt : i < ns.length := sz ▸ (Array.getElem?_eq_some_iff.mp hv).1
    obtain ⟨t, e⟩ := IntsAre.int_at hi i v (by rw [Array.getElem?_toList]; exact hv)
    exact ⟨ns[i], t, List.getElem?_eq_getElem hlt, by rw [e, List.getD_eq_getElem?_getD, List.getElem?_eq_getElem hlt] <;> rfl⟩
  rw [← s1]
  refine set_update_ints ((Walks.list hA1 _ l ne its).toS) s.heap.objs.size ?_ ns sz hb val (its.size - 0) 0 _ (by omega) (Nat.zero_le _) ⟨⟨_, Heap.get?_push_size _ rfl, rfl, rfl⟩, hl1.push _⟩ ⟨0, Nat.le_refl 0, setR_new_at (Heap.get?_push_of_some _ there)⟩ fun s' c hm hc hS => ?_
  · simp only [List.mem_cons, List.not_mem_nil, or_false, not_or]
    exact ⟨s1 ▸ Nat.ne_of_lt (Nat.lt_succ_self _), Nat.ne_of_gt lt⟩
  · obtain ⟨h', g2, d', tk', os'⟩ := s'
    have e1 : g2 = s.gens := hm.gens
    have e2 : d' = s.drawn := hm.drawn
    have e3 : os' = s.os := hm.os
    subst e1 e2 e3
    refine k h' tk' ⟨⟨c, sz ▸ hc, hS⟩, fun b o e => hm.heap b o ?_ (Heap.get?_push_of_some _ (Heap.get?_push_of_some _ e))⟩
    have lb := Heap.lt_size e
    simp only [List.mem_cons, List.not_mem_nil, or_false, not_or]
    exact ⟨Nat.ne_of_lt lb, s1 ▸ Nat.ne_of_lt (Nat.lt_succ_of_lt lb)⟩
theorem set_of_ints (hA : A.handled = none) (hl : s.heap.IsList l its) (hi : IntsAre its.toList ns) (hb : ns.length + 1 < scanBound) {Q : Value → Shared → Prop} (k : ∀ (h' : Heap) (tk : Nat), Full w s ns h' → Q (.ref s.heap.objs.size) { s with heap := h', toks := tk }) : wpAny (model P w) A (call (.type "set") [.ref l]) Q E s := by
  have C := PySem.F.called_set
  obtain ⟨c0, tl0, m0⟩ := C.mro
  have made := C.made
  have sub := C.sub
  have nt := C.notType
  have cc := C.canCreate
  have tc := PySem.F.typeCall_set_1 (.ref l)
  have there : (s.heap.push (bareO w)).get? s.heap.objs.size = some (bareO w) := Heap.get?_push_size _ rfl
  have isT : Shared.TypeIs { s with heap := s.heap.push (bareO w) } (.ref s.heap.objs.size) "set" := ⟨_, there, rfl⟩
  have li := C.init.lookup
  have bi := C.init.bind (.ref s.heap.objs.size)
  refine wpAny_call (codeAny_of_tree ?_)
  show wpAny (model P w) _ (callAny (.type "set") _) _ _ s
  refine wpAny_pure ⟨Code.quiet_builtin _ (by decide +kernel), codeAny_builtin PySem.F.entry_type_call ?_⟩
  rw [Around.under_plain (weight_type_call_type "set" [Value.ref l] []) (units_type_call_type "set" [Value.ref l] [])]
  repeat (any_goals (first | assumption | wp_step))
  refine codeAny_mono (bare_made (E := E) (.ref l)) fun r s1 hr => ?_
  match r, hr with
  | .error e, hr => exact hr
  | .ok (.ret obj), hr =>
    obtain ⟨rfl, rfl⟩ := hr
    repeat (any_goals (first | assumption | wp_step))
    refine codeAny_mono (R := wants (fun v s2 => v = .none ∧ ∃ h' tk, s2 = { s with heap := h', toks := tk } ∧ Full w s ns h') E) ?_ fun r2 s2 hr2 => ?_
    rotate_left
    · match r2, hr2 with
      | .error e, hr2 => exact hr2
      | .ok (.ret v), hr2 =>
        obtain ⟨rfl, h', tk, rfl, hF⟩ := hr2
        repeat (any_goals (first | assumption | wp_step))
        exact k _ _ hF
    refine codeAny_call_builtin C.init.plain PySem.F.entry_set_init (check_set_init_1 isT ?_)
    have h0 := hl
    obtain ⟨⟨oc, od, oda, osl⟩, e1, e2, n0, e3⟩ := h0
    dsimp only at e2 e3
    subst e2 e3
    have e4 := Heap.get?_push_of_some (bareO w) e1
    have sl1 := PySem.F.sub_list_set
    have sl2 := PySem.F.sub_list_frozenset
    have nd : (Value.type "list" == Value.type "dict") = false := by decide
    unfold Builtin.«set.__init__» noKeywords Builtin.Frozenset.updateFrom
    generalize hP : pyIter = PP
    wp_walk
    subst hP
    refine wpAny_pyIter_list (hl.push _) (wpAny_bind (wpAny_runValue ?_))
    have s1 : (s.heap.push (bareO w)).objs.size = s.heap.objs.size + 1 := Heap.size_push ..
    rw [s1]
    refine list_filled (by simp [hA]) hl hi hb fun h' tk hF => ?_
    show wpAny (model P w) _ _ _ _ { s with heap := h', toks := tk }
    refine wpAny_pure ?_
    show wpAny (model P w) _ (ret Value.none) _ _ { s with heap := h', toks := tk }
    exact wpAny_pure ⟨rfl, h', tk, rfl, hF⟩
end
end SeI
/-! ## k57's law: what is left out, looked at -/
section
variable {X : Cx}
/-- set(found), found a list of ints -/
def rSetI (K : PySem.W.Frag) (w : World) : List V → Hp → VK → Prop := fun vs H Q => ∃ (a : Addr) (ns : List Int), vs = [V.ref a] ∧ SqL K H a (ns.map V.int) ∧ ns.length ≤ 60 ∧ ∀ (n : Nat) (p : Addr), n ≤ ns.length → H p = none → Q (.ref p) (upd H p (SetO w p (fun j => decide (j ∈ ns)) n))
theorem cr_setI (hc : X.calm = true) : CallR X (.type "set") (rSetI X.K X.w) := by
  intro pins s σ H vs us Q I r h
  obtain ⟨a, ns, rfl, hs, hl, q⟩ := h
  obtain ⟨its, rv, pl, _⟩ := I.list hs
  rw [Vals.ref1 r]
  refine SeI.set_of_ints (I.ok.hd hc) pl.isList rv.ints (Nat.lt_of_le_of_lt (show ns.length + 1 ≤ 61 by omega) (by decide)) fun h' tk hF => ?_
  obtain ⟨⟨c, hc2, hS⟩, keep⟩ := hF
  have hn : H s.heap.objs.size = none := I.hok.fresh (Nat.le_refl _)
  exact ⟨.ref _, upd H s.heap.objs.size (SetO X.w s.heap.objs.size (fun j => decide (j ∈ ns)) c), I.laid (t' := tk) (fun b u e => keep b u e) (Nat.le_refl _) (setO_new hS), rfl, q _ _ hc2 hn⟩
end
def spNum0 : Sp := fun vs H Q _ => ∃ (a : Addr) (ns : List Int), vs = [.ref a, .int 0] ∧ H a = some (.lst (ns.map V.int)) ∧ ns.length ≤ 1000 ∧ (∀ n ∈ ns, 0 ≤ n) ∧ ∀ H', Same H H' → Q (.bl true) H'
section
variable {P : Program} {w : World} {K : PySem.W.Frag} {mg : Str → Option Value} {base : Heap}
theorem sc__law_numbers : FnScope ["_law_some", "_law_low", "_law_one"] ["_law_some", "_law_low"] (defScope s_law_numbers) := ⟨rfl, rfl, rfl, by decide +kernel, rfl, by decide +kernel, by decide +kernel⟩
theorem ok_lnumbers {CX : CXT} {f : Addr} {fd : FuncData} (F : FnP K "_law_numbers" s_law_numbers f fd) (G : NkF K mg) (lis : mg "list" = none) (m_all : mg "all" = none) : FnOk P w K mg base CX 1 f fd ["_law_some", "_law_low"] spNum0 := by
  refine F.ok sc__law_numbers (fun vs H Q E h => ?_) (fun cdv A outer s H vs Q E hr h => ?_)
  · obtain ⟨a, ns, rfl, _⟩ := h
    rfl
  · obtain ⟨a, ns, rfl, eS, hl, h0, k⟩ := h
    have nd := sc__law_numbers.nd
    apply Exists.intro
    apply And.intro
    case left =>
     apply PSs.nox
     apply pss_cons
     · exact (ps_if (pt_not (pt_val (pe_callB call_isi (by rfl) G.isi (by decide +kernel) (pa_cons (pv 0) (pa_cons (pe_bltn (v := .ty "list") (by rfl) lis (by decide +kernel) rfl) pa_nil))))) (pss_one (ps_ret pe_bl)) pss_nil)
     apply pss_one
     exact (ps_ret (pe_callB (cr_all rfl) (by rfl) m_all (by decide +kernel) (pa_cons (pe_lc (own := [("_law_one", 2)]) (g := gName 2) rfl nd (pi_list (pv 0)) (blkOk_by (own := [("_law_one", 2)]) (N := ["_law_some", "_law_low", "_law_one"]) (sc := defScope s_law_numbers) (by decide +kernel)) (fun _ _ _ _ _ => (pg_name (i := 2) nd rfl (Or.inl rfl))) (fun _ _ _ _ _ => pts_nil) (fun _ _ _ _ _ => (pe_and (pe_callB (call_isiK (K := K)) (by rfl) G.isi (by decide +kernel) (pa_cons (pv 2) (pa_cons (pe_bltn (v := .ty "int") (by rfl) G.int (by decide +kernel) rfl) pa_nil))) (pe_and (pe_not (pe_callB (call_isiK (K := K)) (by rfl) G.isi (by decide +kernel) (pa_cons (pv 2) (pa_cons (pe_bltn (v := .ty "bool") (by rfl) G.bool (by decide +kernel) rfl) pa_nil)))) (pe_one (pe_cmpR op_ge (pv 2) (pv 1) (nomark _))))))) pa_nil)))
    case right =>
      refine ⟨_, rfl, _, _, _, _, true, rfl, .ty "list", .base (.lst eS), kit_ty (by decide +kernel), _, rfl, iteN1 ?_⟩
      refine ⟨_, rfl, a, rfl, ⟨_, SqL.of eS⟩, fun D hD => ?_⟩
      refine lc_list (K := K) (a := a) (xs := ns.map V.int) (fun j H' => Same H H' ∧ H' D = some (.lst ((List.replicate j true).map V.bl))) ⟨same_new hD, upd_same⟩ (fun j H' _ h => SqL.of (h.1 _ _ eS)) ?_ ?_
      · rintro j y H' hj ⟨sj, ej⟩
        obtain ⟨z, hz, rfl⟩ := getI hj
        have hjl := (List.getElem?_eq_some_iff.mp hz).1
        refine ⟨rfl, yesIf ⟨_, rfl, _, _, _, _, true, rfl, .ty "int", .base (.int z), kit_ty (by decide +kernel), _, rfl, iteT ?_⟩⟩
        refine ⟨_, rfl, _, _, _, _, false, rfl, .ty "bool", .base (.int z), kit_ty (by decide +kernel), _, rfl, _, rfl, ?_⟩
        have hz0 : 0 ≤ z := h0 z (List.mem_of_getElem? hz)
        refine iteN0 ⟨_, rfl, _, rfl, _, _, rfl, rfl, _, ej, ?_, same_sub sj hD, ?_⟩
        · rw [List.length_map, List.length_replicate]
          exact Nat.lt_of_le_of_lt (show j ≤ 1000 by omega) (by decide)
        · rw [upd_same, List.replicate_succ', List.map_append, show (fun i j : Int => V.bl (decide (j ≤ i))) z 0 = V.bl true from congrArg V.bl (decide_eq_true hz0)]
          rfl
      · rintro H1 ⟨s1, e1⟩
        refine ⟨D, _, rfl, SqL.of e1, ?_⟩
        have e : (List.replicate (ns.map V.int).length true).all id = true := List.all_eq_true.mpr fun b hb => by
          rw [(List.mem_replicate.mp hb).2]
          rfl
        rw [e]
        exact k _ s1
end
/-! ## k57's law: is what is left out right? -/
open F57 in
def leftL (sp : List Span) (k2 : Nat → Bool) : List Int := (ixs sp.length fun i => !k2 i).map fun i : Nat => (i : Int)
theorem op_notIn_seqK {X : Cx} {K : PySem.W.Frag} (e : X.K = K := by rfl) : OpR X (compareOp .NotIn) (rIn K true) := by
  subst e
  exact op_notIn_seq
theorem left_len (sp : List F57.Span) (k2 : Nat → Bool) : (leftL sp k2).length ≤ sp.length := by
  unfold leftL
  rw [List.length_map]
  exact F57.ixs_len _ _
theorem left_asc (sp : List F57.Span) (k2 : Nat → Bool) : (leftL sp k2).Pairwise (· < ·) := F57.ixs_ascI _ _
theorem left_mem {sp : List F57.Span} {k2 : Nat → Bool} {z : Int} (h : z ∈ leftL sp k2) : ∃ i : Nat, z = (i : Int) ∧ i < sp.length ∧ k2 i = false := by
  unfold leftL at h
  obtain ⟨i, hi, rfl⟩ := List.mem_map.mp h
  obtain ⟨h1, h2⟩ := F57.ixs_mem.mp hi
  exact ⟨i, rfl, h1, by simpa using h2⟩
theorem inV_left {sp : List F57.Span} {k2 : Nat → Bool} {j : Nat} (hj : j < sp.length) : inV (.int (j : Int)) ((leftL sp k2).map V.int) = !k2 j := by
  unfold inV
  cases h : k2 j with
  | false =>
    refine List.any_eq_true.mpr ⟨.int (j : Int), List.mem_map.mpr ⟨(j : Int), ?_, rfl⟩, by simp [eqV]⟩
    unfold leftL
    exact List.mem_map.mpr ⟨j, F57.ixs_mem.mpr ⟨hj, by rw [h]; rfl⟩, rfl⟩
  | true =>
    refine Bool.eq_false_iff.mpr fun z => ?_
    obtain ⟨y, hy, e⟩ := List.any_eq_true.mp z
    obtain ⟨n, hn, rfl⟩ := List.mem_map.mp hy
    obtain ⟨i, rfl, hi, h2⟩ := left_mem hn
    have e : (i : Int) = (j : Int) := by simpa [eqV] using e
    have e : i = j := by omega
    subst e
    rw [h] at h2
    cases h2
theorem flat_ints (ns : List Int) : (ns.map V.int).all flatV = true := List.all_eq_true.mpr fun y hy => by
  obtain ⟨n, _, rfl⟩ := List.mem_map.mp hy
  rfl
theorem ixs_succ (j : Nat) (k : Nat → Bool) : F57.ixs (j + 1) k = F57.ixs j k ++ (if k j = true then [j] else []) := by
  unfold F57.ixs
  rw [List.range_succ, List.filter_append]
  cases h : k j <;> simp [h]
def spLR : Sp := fun vs H Q _ => ∃ (a b : Addr) (xs : List V) (sp : List F57.Span) (room : Nat) (k k2 : Nat → Bool), vs = [.ref a, .int (room : Int), .ref b] ∧ H a = some (.lst xs) ∧ DtA anyA H xs (sp.map spD) ∧ SpOk sp ∧ sp.length ≤ 14 ∧ H b = some (.lst ((leftL sp k2).map V.int)) ∧ F57.Fill sp (lenS sp) room k k2 sp.length ∧
  ∀ H', Same H H' → Q (.bl true) H'
section
variable {P : Program} {w : World} {K : PySem.W.Frag} {mg : Str → Option Value} {base : Heap}
theorem sc__law_left_right : FnScope ["_law_spans_here", "_law_room", "_law_left", "_law_kept", "_law_k", "_law_span_here", "_law_first", "_law_last", "_law_spots", "_law_at"] ["_law_spans_here", "_law_room", "_law_left"] (defScope s_law_left_right) := ⟨rfl, rfl, rfl, by decide +kernel, rfl, by decide +kernel, by decide +kernel⟩
theorem ok_lleft {f : Addr} {fd : FuncData} (F : FnP K "_law_left_right" s_law_left_right f fd) (c__law_cover : Cal P w K mg base 1 "_law_cover" ["_law_spans_here", "_law_at"] spCv) (c__law_numbers : Cal P w K mg base 1 "_law_numbers" ["_law_some", "_law_low"] spNum0) (G : NkF K mg) (rng : mg "range" = none) (m_max : mg "max" = none) (m_set : mg "set" = none) (m_sorted : mg "sorted" = none) : FnOk P w K mg base CX0 2 f fd ["_law_spans_here", "_law_room", "_law_left"] spLR := by
  obtain ⟨f__law_cover, fd__law_cover, g__law_cover, k__law_cover, b__law_cover, G__law_cover⟩ := c__law_cover
  obtain ⟨f__law_numbers, fd__law_numbers, g__law_numbers, k__law_numbers, b__law_numbers, G__law_numbers⟩ := c__law_numbers
  refine F.ok sc__law_left_right (fun vs H Q E h => ?_) (fun cdv A outer s H vs Q E hr h => ?_)
  · obtain ⟨a, b, xs, sp, room, k, k2, rfl, _⟩ := h
    rfl
  · obtain ⟨a, b, xs, sp, room, k1, k2, rfl, eS, hA, ok, h14, eL, F7, k⟩ := h
    have nd := sc__law_left_right.nd
    apply Exists.intro
    apply And.intro
    case left =>
     apply PSs.nox
     apply C8.pss_cut
     · exact (ps_if (PW.pt (pw_or (pt_not (pt_val (pe_call G__law_numbers (hr.mono (by decide)) rfl g__law_numbers k__law_numbers b__law_numbers .nil pass0 (pa_cons (pv 2) (pa_cons pe_int pa_nil))))) (pw_or (pt_cmpR (op_neD hr.units) (pv 2) (pe_callB (cr_sortedSet rfl) (by rfl) m_sorted (by decide +kernel) (pa_cons (pe_callTy (cr_setI rfl) (by rfl) m_set (by decide +kernel) (pa_cons (pv 2) pa_nil)) pa_nil)) (nomark _)) (pw_or1 (PW.pt (pw_and (pt_cmpR (op_neD hr.units) (pv 2) (pe_lst pa_nil) (nomark _)) (pw_and1 (pt_cmpR op_ge (pe_ix ix_list (pv 2) (pe_un un_neg pe_int) (fun _ _ => rfl)) (pe_callB call_len (by rfl) G.len PySem.boot_len (pa_cons (pv 0) pa_nil)) (nomark _))))))))) (pss_one (ps_ret pe_bl)) pss_nil)
     apply C8.pss_cut
     · exact (ps_set (i := 3) nd rfl (.inr rfl) (pe_lc (own := [("_law_k", 4)]) (g := gName 4) rfl nd (pi_range1 (by rfl) rng (pa_cons (pe_callB call_len (by rfl) G.len PySem.boot_len (pa_cons (pv 0) pa_nil)) pa_nil)) (blkOk_by (own := [("_law_k", 4)]) (N := ["_law_spans_here", "_law_room", "_law_left", "_law_kept", "_law_k", "_law_span_here", "_law_first", "_law_last", "_law_spots", "_law_at"]) (sc := defScope s_law_left_right) (by decide +kernel)) (fun _ _ _ _ _ => (pg_name (i := 4) nd rfl (Or.inl rfl))) (fun _ _ _ _ _ => pts_one (pt_cmpR (op_notIn_seqK (K := K)) (pv 4) (pv 2) (by rfl))) (fun _ _ _ _ _ => (pe_ix (ix_listK (K := K)) (pv 0) (pv 4) (fun _ _ => rfl)))))
     apply C8.pss_cut
     · apply ps_for PassesOwn.never rfl
       · exact (pi_list (pv 3))
       · exact (pg_name (i := 5) nd rfl (Or.inl rfl))
       · apply pss_one
         exact (ps_if (pt_cmpR op_gt (pe_call G__law_cover (hr.mono (by decide)) rfl g__law_cover k__law_cover b__law_cover .nil pass0 (pa_cons (pv 3) (pa_cons (pe_ix ix_seq (pv 5) pe_int (fun _ _ => rfl)) pa_nil))) (pv 1) (nomark _)) (pss_one (ps_ret pe_bl)) pss_nil)
     apply pss_cons
     · apply ps_for PassesOwn.never rfl
       · exact (pi_list (pv 2))
       · exact (pg_name (i := 4) nd rfl (Or.inl rfl))
       · apply pss_cons
         · exact (ps_asg (pe_tup (pa_cons (pe_ix ix_seq (pe_ix ix_list (pv 0) (pv 4) (fun _ _ => rfl)) pe_int (fun _ _ => rfl)) (pa_cons (pe_ix ix_seq (pe_ix ix_list (pv 0) (pv 4) (fun _ _ => rfl)) pe_int (fun _ _ => rfl)) pa_nil))) (pg_tup rfl (pgs_cons (pg_name (i := 6) nd rfl (Or.inr rfl)) (pgs_cons (pg_name (i := 7) nd rfl (Or.inr rfl)) pgs_nil))))
         apply pss_cons
         · exact (ps_set (i := 8) nd rfl (.inl rfl) (pe_op op_cat (pe_lst (pa_cons (pv 6) pa_nil)) (pe_lc (own := [("_law_span_here", 5)]) (g := gName 5) rfl nd (pi_list (pv 3)) (blkOk_by (own := [("_law_span_here", 5)]) (N := ["_law_spans_here", "_law_room", "_law_left", "_law_kept", "_law_k", "_law_span_here", "_law_first", "_law_last", "_law_spots", "_law_at"]) (sc := defScope s_law_left_right) (by decide +kernel)) (fun _ _ _ _ _ => (pg_name (i := 5) nd rfl (Or.inl rfl))) (fun _ _ _ _ _ => pts_one (PW.pt (pw_and (pt_cmpR op_le (pv 6) (pe_ix (ix_seqK (K := K)) (pv 5) pe_int (fun _ _ => rfl)) (nomark _)) (pw_and1 (pt_cmpR op_le (pe_ix (ix_seqK (K := K)) (pv 5) pe_int (fun _ _ => rfl)) (pv 7) (nomark _)))))) (fun _ _ _ _ _ => (pe_ix (ix_seqK (K := K)) (pv 5) pe_int (fun _ _ => rfl))))))
         apply pss_one
         exact (ps_if (pt_cmpR op_lt (pe_callB (cr_max (by rfl)) (by rfl) m_max (by decide +kernel) (pa_cons (pe_lc (own := [("_law_at", 9)]) (g := gName 9) rfl nd (pi_list (pv 8)) (blkOk_by (own := [("_law_at", 9)]) (N := ["_law_spans_here", "_law_room", "_law_left", "_law_kept", "_law_k", "_law_span_here", "_law_first", "_law_last", "_law_spots", "_law_at"]) (sc := defScope s_law_left_right) (by decide +kernel)) (fun _ _ _ _ _ => (pg_name (i := 9) nd rfl (Or.inl rfl))) (fun _ _ _ _ _ => pts_nil) (fun _ _ _ _ _ => (pe_call G__law_cover (hr.mono (by decide)) rfl g__law_cover k__law_cover b__law_cover .nil pass0 (pa_cons (pv 3) (pa_cons (pv 9) pa_nil))))) pa_nil)) (pv 1) (nomark _)) (pss_one (ps_ret pe_bl)) pss_nil)
     apply pss_one
     exact (ps_ret pe_bl)
    case right =>
      have hll := left_len sp k2
      have lx := hA.length
      rw [List.length_map] at lx
      refine ⟨fun σ H' => σ = [some (.ref a), some (.int (room : Int)), some (.ref b), none, none, none, none, none, none, none] ∧ Same H H', ?_, ?_⟩
      · refine ⟨_, rfl, b, leftL sp k2, rfl, eL, by omega, fun n hn => ?_, fun H1 s1 => ?_⟩
        · obtain ⟨i, rfl, _⟩ := left_mem hn
          omega
        have eL1 := s1 _ _ eL
        refine ⟨_, rfl, iteF ?_⟩
        refine ⟨_, rfl, _, rfl, b, leftL sp k2, rfl, SqL.of eL1, by omega, fun n p hn hp => ?_⟩
        have s2 := s1.trans (same_new (o := SetO w p (fun j => decide (j ∈ leftL sp k2)) n) hp)
        refine ⟨p, _, n, rfl, upd_same, by omega, fun ns q asc mem len hq => ?_⟩
        have e : ns = leftL sp k2 := F57.asc_eq asc (left_asc sp k2) fun x => (mem x).trans ⟨of_decide_eq_true, decide_eq_true⟩
        subst e
        have s3 := s2.trans (same_new (o := .lst ((leftL sp k2).map V.int)) hq)
        have eL3 := s3 _ _ eL
        refine ⟨_, _, .lst (SqL.of eL3) (dpAll_ints _), .lst (SqL.of upd_same) (dpAll_ints _), shaped_lst _, shaped_lst _, _, rfl, ?_⟩
        rw [show PyData.eqv (.list ((leftL sp k2).map PyData.int)) (.list ((leftL sp k2).map PyData.int)) = true from PySem.SeqAt.eqv_refl _ (layb_ints _).lay]
        refine iteF ?_
        refine ⟨_, rfl, (show 0 ≤ sizeLine by decide), fun p0 hp0 => ?_⟩
        have s4 := s3.trans (same_new (o := .lst []) hp0)
        have eL4 := s4 _ _ eL
        refine ⟨_, _, .lst (SqL.of eL4) (dpAll_ints _), .lst (SqL.of upd_same) .nil, shaped_lst _, shaped_lst [], _, rfl, ?_⟩
        rw [eqv_nil]
        refine ite2 (fun c => ?_) (fun c => ⟨rfl, s4⟩)
        obtain ⟨z, l0, ez, hz⟩ : ∃ z l0, leftL sp k2 = l0 ++ [z] ∧ z ∈ leftL sp k2 := by
          rcases List.eq_nil_or_concat (leftL sp k2) with e | ⟨l0, z, e⟩
          · rw [e] at c
            cases c
          · rw [List.concat_eq_append] at e
            exact ⟨z, l0, e, by rw [e]; exact List.mem_append_right _ (List.mem_singleton.mpr rfl)⟩
        obtain ⟨i, rfl, hi, _⟩ := left_mem hz
        refine ⟨_, rfl, _, rfl, b, _, _, .int (i : Int), rfl, rfl, SqL.of eL4, by rw [ez, List.map_append]; exact atI_last _ _, ?_⟩
        refine ⟨_, rfl, _, _, rfl, .inl ⟨_, SqL.of (s4 _ _ eS), rfl⟩, _, _, rfl, rfl, _, rfl, ?_⟩
        rw [decide_eq_false (show ¬ ((xs.length : Nat) : Int) ≤ (i : Int) by omega)]
        exact iteF ⟨rfl, s4⟩
      rintro σ H1 ⟨rfl, s1⟩
      have hS1 := s1 _ _ eS
      have hL1 := s1 _ _ eL
      refine ⟨fun σ H' => ∃ (kp : Addr) (ks : List V) (v4 v5 v6 v7 v8 v9 : Option V), σ = [some (.ref a), some (.int (room : Int)), some (.ref b), some (.ref kp), v4, v5, v6, v7, v8, v9] ∧ Same H H' ∧ H' kp = some (.lst ks) ∧ DtA anyA H' ks ((F57.sel sp k2).map spD), ?_, ?_⟩
      · refine ⟨_, rfl, _, _, rfl, .inl ⟨_, SqL.of hS1, rfl⟩, _, rfl, by omega, by omega, fun D hD => ?_⟩
        have hn : (((xs.length : Nat) : Int)).toNat = sp.length := by omega
        refine lc_range (lo := 0) (n := (((xs.length : Nat) : Int)).toNat) (fun j H' => Same H1 H' ∧ ∃ acc, H' D = some (.lst acc) ∧ acc.length ≤ j ∧ DtA (fun b => b ≠ D) H' acc (((F57.ixs j k2).filterMap fun i => sp[i]?).map spD)) ⟨same_new hD, [], upd_same, Nat.le_refl _, .nil⟩ ?_ ?_
        · rintro j H' hj ⟨sj, acc, ej, la, Aj⟩
          have hj : j < sp.length := by omega
          rw [show (0 : Int) + (j : Int) = ((j : Nat) : Int) by omega]
          refine ⟨rfl, _, rfl, _, rfl, b, _, rfl, .inl (SqL.of (sj _ _ hL1)), rfl, flat_ints _, _, rfl, ?_⟩
          rw [if_pos rfl, inV_left hj, Bool.not_not, ixs_succ]
          have ex : xs[j]? = some xs[j] := List.getElem?_eq_getElem (by omega)
          obtain ⟨s0, ap, hs0, exr, hap⟩ := spD_at hA ex
          have nap : ap ≠ D := fun z => by
            have := s1 _ _ hap
            rw [z, hD] at this
            cases this
          cases hk : k2 j with
          | true =>
            refine iteT ⟨_, rfl, _, rfl, a, _, _, _, rfl, rfl, SqL.of (sj _ _ hS1), atI_nat ex, acc, ej, Nat.lt_of_le_of_lt (show acc.length ≤ 14 by omega) (by decide), same_sub sj hD, _, upd_same, by rw [List.length_append]; exact Nat.succ_le_succ la, ?_⟩
            rw [if_pos rfl, List.filterMap_append, List.map_append, List.filterMap_cons, hs0, exr]
            exact (Aj.to fun b o g e => ⟨by rw [upd_ne g]; exact e, g⟩).app (.cons (.tup nap (by rw [upd_ne nap]; exact sj _ _ (s1 _ _ hap)) (.cons (.int _) (.cons (.int _) (.cons (.int _) .nil)))) .nil)
          | false =>
            refine iteF ⟨sj, acc, ej, by omega, ?_⟩
            rw [if_neg (by decide), List.append_nil]
            exact Aj
        · rintro H' ⟨sj, acc, ej, la, Aj⟩
          rw [hn] at Aj
          exact ⟨D, acc, _, _, _, _, _, _, rfl, s1.trans sj, ej, Aj.to fun b o _ e => ⟨e, trivial⟩⟩
      rintro σ H2 ⟨kp, ks, v4, v5, v6, v7, v8, v9, rfl, s2, ek, Ak⟩
      have lk := Ak.length
      rw [List.length_map] at lk
      have hsl := F57.sel_len sp k2
      have hN : ∀ s ∈ sp, s.2.1 < lenS sp := fun s hs => lenS_lt hs
      refine ⟨fun σ H' => ∃ (v4 v5 v6 v7 v8 v9 : Option V), σ = [some (.ref a), some (.int (room : Int)), some (.ref b), some (.ref kp), v4, v5, v6, v7, v8, v9] ∧ Same H2 H', ?_, ?_⟩
      · refine ⟨_, rfl, kp, rfl, ⟨_, SqL.of ek⟩, ?_⟩
        refine for_list (K := K) (a := kp) (xs := ks) (fun j σ H' => ∃ (v4 v5 v6 v7 v8 v9 : Option V), σ = [some (.ref a), some (.int (room : Int)), some (.ref b), some (.ref kp), v4, v5, v6, v7, v8, v9] ∧ Same H2 H') ⟨_, _, _, _, _, _, rfl, Same.refl _⟩ (fun j σ H' _ h => by
          obtain ⟨_, _, _, _, _, _, _, h⟩ := h
          exact SqL.of (h _ _ ek)) ?_ ?_
        · rintro j x σ H' hj ⟨v4, v5, v6, v7, v8, v9, rfl, sj⟩
          obtain ⟨u, q, hu, rfl, hq⟩ := spD_at Ak hj
          refine ⟨_, rfl, _, rfl, .inr (.inl ⟨_, _, _, _, rfl, rfl, SqT.of (sj _ _ hq), rfl, ?_⟩)⟩
          refine ⟨kp, ks, F57.sel sp k2, u.1, rfl, sj _ _ ek, Ak.same sj, by omega, fun H3 s3 => ?_⟩
          refine ⟨_, rfl, _, _, rfl, rfl, _, rfl, ?_⟩
          have := F7.room hN u.1
          rw [decide_eq_false (show ¬ (room : Int) < (F57.cov (F57.sel sp k2) (fun _ => true) u.1 : Int) by omega)]
          exact iteF ⟨_, _, _, _, _, _, rfl, sj.trans s3⟩
        · rintro σ H' ⟨v4, v5, v6, v7, v8, v9, rfl, sj⟩
          exact ⟨_, _, _, _, _, _, rfl, sj⟩
      rintro σ H3 ⟨v4, v5, v6, v7, v8, v9, rfl, s3⟩
      have s03 := s2.trans s3
      refine ⟨_, rfl, b, rfl, ⟨_, SqL.of (s03 _ _ eL)⟩, ?_⟩
      refine for_list (K := K) (a := b) (xs := (leftL sp k2).map V.int) (fun j σ H' => ∃ (v4 v5 v6 v7 v8 v9 : Option V), σ = [some (.ref a), some (.int (room : Int)), some (.ref b), some (.ref kp), v4, v5, v6, v7, v8, v9] ∧ Same H3 H') ⟨_, _, _, _, _, _, rfl, Same.refl _⟩ (fun j σ H' _ h => by
        obtain ⟨_, _, _, _, _, _, _, h⟩ := h
        exact SqL.of ((s03.trans h) _ _ eL)) ?_ ?_
      · rintro j x σ H4 hj ⟨v4, v5, v6, v7, v8, v9, rfl, s4⟩
        obtain ⟨z, hz, rfl⟩ := getI hj
        obtain ⟨i, rfl, hi, hki⟩ := left_mem (List.mem_of_getElem? hz)
        have s04 := s03.trans s4
        have ex : xs[i]? = some xs[i] := List.getElem?_eq_getElem (by omega)
        obtain ⟨u, ap, hu, exr, hap⟩ := spD_at hA ex
        have ex : xs[i]? = some (.ref ap) := by rw [ex, exr]
        obtain ⟨y, hy, hcov⟩ := F7.spotted hu hki
        refine ⟨_, rfl, _, rfl, a, _, _, _, rfl, rfl, SqL.of (s04 _ _ eS), atI_nat ex, .inr (.inl ⟨_, _, _, _, rfl, rfl, SqT.of (s04 _ _ hap), rfl, ?_⟩)⟩
        refine ⟨_, rfl, _, rfl, a, _, _, _, rfl, rfl, SqL.of (s04 _ _ eS), atI_nat ex, .inr (.inl ⟨_, _, _, _, rfl, rfl, SqT.of (s04 _ _ hap), rfl, ?_⟩)⟩
        refine ⟨(show 2 ≤ sizeLine by decide), fun q hq => ⟨q, _, rfl, SqT.of upd_same, rfl, _, _, rfl, _, _, rfl, rfl, ?_⟩⟩
        replace s4 := s4.trans (same_new (o := .tup [V.int (u.1 : Int), V.int (u.2.1 : Int)]) hq)
        generalize upd H4 q (.tup [V.int (u.1 : Int), V.int (u.2.1 : Int)]) = H5 at s4 ⊢
        refine ⟨_, rfl, (show 1 ≤ sizeLine by decide), fun p1 hp1 => ?_⟩
        replace s4 := s4.trans (same_new (o := .lst [V.int (u.1 : Int)]) hp1)
        have e1 : (upd H5 p1 (.lst [V.int (u.1 : Int)])) p1 = some (.lst [V.int (u.1 : Int)]) := upd_same
        generalize upd H5 p1 (.lst [V.int (u.1 : Int)]) = H6 at s4 e1 ⊢
        refine ⟨_, rfl, kp, rfl, ⟨_, SqL.of ((s3.trans s4) _ _ ek)⟩, fun D hD => ?_⟩
        refine lc_list (K := K) (a := kp) (xs := ks) (fun j H' => Same H6 H' ∧ ∃ acc : List Nat, H' D = some (.lst ((acc.map fun n : Nat => (n : Int)).map V.int)) ∧ acc.length ≤ j ∧ ∀ v ∈ (F57.sel sp k2).take j, u.1 ≤ v.1 → v.1 ≤ u.2.1 → v.1 ∈ acc) ⟨same_new hD, [], upd_same, Nat.le_refl _, by rw [List.take_zero]; exact fun v h => nomatch h⟩ (fun j H' _ h => SqL.of ((s3.trans (s4.trans h.1)) _ _ ek)) ?_ ?_
        · rintro m x H' hm ⟨sm, acc, em, la, hacc⟩
          obtain ⟨v, q2, hv, rfl, hq2⟩ := spD_at Ak hm
          have hq2 := (s3.trans (s4.trans sm)) _ _ hq2
          have hml : m < ks.length := (List.getElem?_eq_some_iff.mp hm).1
          have old : ∀ w ∈ (F57.sel sp k2).take (m + 1), w ∈ (F57.sel sp k2).take m ∨ w = v := fun w hw => by
            rw [take_snoc2 hv] at hw
            rcases List.mem_append.mp hw with h | h
            · exact .inl h
            · exact .inr (List.mem_singleton.mp h)
          refine ⟨rfl, _, rfl, _, rfl, .inr (.inl ⟨_, _, _, _, rfl, rfl, SqT.of hq2, rfl, _, _, rfl, rfl, _, rfl, ?_⟩)⟩
          refine ite2 (fun c1 => ?_) (fun c1 => ?_)
          · refine ⟨_, rfl, .inr (.inl ⟨_, _, _, _, rfl, rfl, SqT.of hq2, rfl, _, rfl, _, _, rfl, rfl, _, rfl, ?_⟩)⟩
            refine ite2 (fun c2 => ?_) (fun c2 => ?_)
            · refine ⟨_, rfl, .inr (.inl ⟨_, _, _, _, rfl, rfl, SqT.of hq2, rfl, _, em, ?_, same_sub sm hD, acc ++ [v.1], ?_, by rw [List.length_append]; exact Nat.succ_le_succ la, ?_⟩)⟩
              · rw [List.length_map, List.length_map]
                exact Nat.lt_of_le_of_lt (show acc.length ≤ 14 by omega) (by decide)
              · rw [upd_same, List.map_append, List.map_append]
                rfl
              · intro w hw a1 a2
                rcases old w hw with h | h
                · exact List.mem_append_left _ (hacc w h a1 a2)
                · rw [h]
                  exact List.mem_append_right _ (List.mem_singleton.mpr rfl)
            · refine ⟨sm, acc, em, by omega, fun w hw a1 a2 => ?_⟩
              rcases old w hw with h | h
              · exact hacc w h a1 a2
              · subst h
                exact absurd (decide_eq_true (show (w.1 : Int) ≤ (u.2.1 : Int) by omega)) c2
          · refine ⟨sm, acc, em, by omega, fun w hw a1 a2 => ?_⟩
            rcases old w hw with h | h
            · exact hacc w h a1 a2
            · subst h
              exact absurd (decide_eq_true (show (u.1 : Int) ≤ (w.1 : Int) by omega)) c1
        rintro H7 ⟨s7, acc, e7, la, hacc⟩
        rw [lk, List.take_length] at hacc
        refine ⟨p1, D, _, _, rfl, rfl, s7 _ _ e1, e7, ?_, fun p3 hp3 => ?_⟩
        · rw [List.length_map, List.length_map]
          exact Nat.le_trans (show 1 + acc.length ≤ 15 by omega) (by decide)
        replace s4 := s4.trans (s7.trans (same_new (o := .lst ([V.int (u.1 : Int)] ++ (acc.map fun n : Nat => (n : Int)).map V.int)) hp3))
        have e3 : (upd H7 p3 (.lst ([V.int (u.1 : Int)] ++ (acc.map fun n : Nat => (n : Int)).map V.int))) p3 = some (.lst (((u.1 :: acc).map fun n : Nat => (n : Int)).map V.int)) := upd_same
        generalize upd H7 p3 (.lst ([V.int (u.1 : Int)] ++ (acc.map fun n : Nat => (n : Int)).map V.int)) = H8 at s4 e3 ⊢
        refine ⟨_, rfl, p3, rfl, ⟨_, SqL.of e3⟩, fun D2 hD2 => ?_⟩
        have hyin : y ∈ u.1 :: acc := by
          rcases hy with rfl | ⟨v, hv, rfl, a1, a2⟩
          · exact List.mem_cons_self ..
          · exact List.mem_cons_of_mem _ (hacc v hv a1 a2)
        generalize hss : u.1 :: acc = ss at e3 hyin
        refine lc_list (K := K) (a := p3) (xs := (ss.map fun n : Nat => (n : Int)).map V.int) (fun j H' => Same H8 H' ∧ H' D2 = some (.lst (((ss.take j).map fun n : Nat => (F57.cov (F57.sel sp k2) (fun _ => true) n : Int)).map V.int))) ⟨same_new hD2, by rw [List.take_zero]; exact upd_same⟩ (fun j H' _ h => SqL.of (h.1 _ _ e3)) ?_ ?_
        · rintro m x H' hm ⟨sm, em⟩
          rw [List.map_map, List.getElem?_map, Option.map_eq_some_iff] at hm
          obtain ⟨n, hn, rfl⟩ := hm
          have hml := (List.getElem?_eq_some_iff.mp hn).1
          have lss : ss.length ≤ 15 := by rw [← hss, List.length_cons]; omega
          refine ⟨rfl, yesIf ⟨_, rfl, _, rfl, kp, ks, F57.sel sp k2, n, rfl, (s3.trans (s4.trans sm)) _ _ ek, Ak.same (s3.trans (s4.trans sm)), by omega, fun H9 s9 => ?_⟩⟩
          refine ⟨_, s9 _ _ em, ?_, same_sub (sm.trans s9) hD2, ?_⟩
          · rw [List.length_map, List.length_map]
            exact Nat.lt_of_le_of_lt (List.length_take_le' _ _) (Nat.lt_of_le_of_lt lss (by decide))
          · rw [upd_same, take_snoc2 hn, List.map_append, List.map_append]
            rfl
        rintro H9 ⟨s9, e9⟩
        rw [List.length_map, List.length_map, List.take_length] at e9
        refine ⟨D2, _, rfl, SqL.of e9, by rw [List.length_map]; exact List.length_pos_iff.mpr (by rw [← hss]; exact List.cons_ne_nil _ _), fun M hM hmax => ?_⟩
        refine ⟨_, rfl, _, _, rfl, rfl, _, rfl, ?_⟩
        have hM2 := hmax (F57.cov (F57.sel sp k2) (fun _ => true) y : Int) (List.mem_map.mpr ⟨y, hyin, rfl⟩)
        rw [decide_eq_false (show ¬ M < (room : Int) by omega)]
        exact iteF ⟨_, _, _, _, _, _, rfl, s4.trans s9⟩
      · rintro σ H' ⟨v4, v5, v6, v7, v8, v9, rfl, s4⟩
        exact k _ (s03.trans s4)
end
/-! ## calls by keyword -/
section
variable {X : Cx} {CX : CXT} {k : Nat} {f : Addr} {fd : FuncData} {ps ks : List Str} {sp : Sp} {E : XK} {x : Str} {p pos : Pos} {kws : List Keyword} {tk : TA} {g : List Value → List Value → List Value} {gV : List V → List V → List V}
/-- f(k = v, ..) -/
theorem pe_callN0 (F : FnOk X.prog X.w X.K X.mg X.base CX k f fd ps sp) (hr : Room k X.A) (hg : Gl X x) (hm : X.mg x = some (.ref f)) (hk : PySem.W.keepIn X.K (.ref f) = true) (hb : KBn X.K fd ps 0 ks g gV) (hx : Passes CX X E)
    (hkw : PK X kws tk) (hall : (backToKw pos (keywordEach kws X.env)).all (·.1.isSome) = true := by rfl) (hks : (backToKw pos (keywordEach kws X.env)).filterMap (·.1) = ks := by rfl)
    (hdb : (x == ("__debug__" : Str)) = false := by decide)
    (hpl : ((backTo pos (starEach [] X.env)).any (·.1) || (backToKw pos (keywordEach kws X.env)).any (·.1.isNone)) = false := by rfl) :
    PE X (.Call (.Name x p) [] kws pos) (tCallN 0 ks.length sp gV E tNil tk) := by
  refine ⟨fun pins s σ H Q I h => ?_⟩
  refine wpAny_Call_Name_kw (ld_glob I hg hm ?_ hdb)
  refine PySem.W.callWith_KW0 (h₀ := X.base) I.ok.mod.kin hk hall ?_ hpl
  refine thn (hkw.run pos pins s σ H _ I h) fun ws s2 ⟨zs, H2, I2, rz, l1, l2, q2⟩ => ⟨I2.kIn, ?_⟩
  rw [hks]
  exact run_fnN (us := []) (vs := []) F hr hb hx I2 .nil rz rfl l2 q2
end
section
variable {K : PySem.W.Frag} {x qual : Str} {params : Arguments} {body : List Stmt} {scope : Scope} {kws : List (Str × V)} {f : Addr} {fd : FuncData} {ps : List Str}
/-- every parameter by its name, in the order of the parameters -/
theorem FunD.kbindsA (F : FunD K x qual params body scope [] kws f fd)
    (h : ∀ (kV doc pm : Value) (an : Option Addr) (cdv ct : Value) (ws : List Value), ws.length = ps.length → bindArgs (PySem.W.fnOf x qual params body scope .none kV doc pm an cdv ct) ⟨[], ps.zip ws⟩ = pure (ps.zip ws)) : KBn K fd ps 0 ps (fun _ ws => ws) (fun _ zs => zs) := by
  obtain ⟨oc, od, dV, kV, doc, pm, an, cdv, ct, osl, rfl, lk, hcd, hD, hK⟩ := F.ex
  rcases hD with ⟨_, rfl⟩ | ⟨e, _⟩
  · refine ⟨fun s us ws X l1 l2 => ?_, fun _ r2 => r2⟩
    cases us with
    | nil => exact .of_eq (h kV doc pm an cdv ct ws l2)
    | cons a b => cases l1
  · exact absurd rfl e
end
/-! ## k57's law: least and worth looked at -/
/-- a def that is called by position and by keywords in its parameters' order -/
def CalKw (P : Program) (w : World) (K : PySem.W.Frag) (mg : Str → Option Value) (base : Heap) (k : Nat) (x : Str) (ps : List Str) (sp : Sp) : Prop :=
  ∃ (f : Addr) (fd : FuncData), mg x = some (.ref f) ∧ PySem.W.keepIn K (.ref f) = true ∧ Binds K fd ps [] ∧ KBn K fd ps 0 ps (fun _ ws => ws) (fun _ zs => zs) ∧ FnOk P w K mg base (L2.CX P w) k f fd ps sp
theorem spans_all {sp : List F57.Span} (ok : SpOk sp) : ∀ d ∈ sp.map spD, spanD d = true := fun d hd => by
  obtain ⟨s, hs, rfl⟩ := List.mem_map.mp hd
  obtain ⟨h1, h2⟩ := ok.ok s hs
  show (decide (0 ≤ (s.1 : Int)) && (decide (0 ≤ (s.2.1 : Int)) && (decide (0 ≤ (s.2.2 : Int)) && (decide ((s.1 : Int) ≤ (s.2.1 : Int)) && decide ((s.2.1 : Int) ≤ 999))))) = true
  rw [decide_eq_true (by omega), decide_eq_true (by omega), decide_eq_true (by omega), decide_eq_true (by omega), decide_eq_true (by omega)]
  rfl
theorem F57.W_congr {sp : List F57.Span} {room M : Nat} {p q : Nat → Int} (h : ∀ x, x < M → p x = q x) : F57.W sp room p M = F57.W sp room q M := by
  have hS : F57.S p M = F57.S q M := funext fun s => F57.sumN_eq fun x hx => by rw [h x hx]
  unfold F57.W
  rw [F57.sumN_eq fun x hx => by rw [h x hx], hS]
theorem lenS_max0 {sp : List F57.Span} {m : Int} (h1 : m ∈ (0 : Int) :: (sp.map fun s => ((s.2.1 : Int) + 1))) (h2 : ∀ y, y ∈ (0 : Int) :: (sp.map fun s => ((s.2.1 : Int) + 1)) → y ≤ m) : m = (lenS sp : Int) := by
  refine lenS_max ?_
  cases sp with
  | nil =>
    rcases List.mem_cons.mp h1 with h | h
    · exact .inl ⟨rfl, h⟩
    · exact nomatch h
  | cons s r =>
    rcases List.mem_cons.mp h1 with h | h
    · have := h2 ((s.2.1 : Int) + 1) (List.mem_cons_of_mem _ (List.mem_cons_self ..))
      omega
    · exact .inr ⟨h, fun y hy => h2 y (List.mem_cons_of_mem _ hy)⟩
def prL (c : Nat → Int) (N : Nat) : List Int := (List.range N).map (F57.pr c)
theorem prL_int (c : Nat → Int) (N : Nat) : intL (F57.pr c) N = (prL c N).map V.int := by
  unfold intL prL
  rw [List.map_map]
  rfl
theorem prL_len (c : Nat → Int) (N : Nat) : (prL c N).length = N := by
  unfold prL
  rw [List.length_map, List.length_range]
theorem prL_at {c : Nat → Int} {N x : Nat} (h : x < N) : pF (prL c N) x = F57.pr c x := pF_at (by unfold prL; rw [List.getElem?_map, List.getElem?_range h]; rfl)
theorem Fill_cost_eq {sp : List F57.Span} {N room : Nat} {k k2 : Nat → Bool} {c : Nat → Int} (g : F57.Good sp N room k c) (F : F57.Fill sp N room k k2 sp.length) : F57.W sp room (F57.pr c) N = (((F57.ixs sp.length fun i => !k2 i).filterMap fun i => sp[i]?).map fun s => (s.2.2 : Int)).sum := F.cost g
theorem dtA_ints {G : Addr → Prop} {H : Hp} : ∀ ns : List Int, DtA G H (ns.map V.int) (ns.map PyData.int)
  | [] => .nil
  | n :: ns => .cons (.int n) (dtA_ints ns)
theorem pF_pos {ps : List Int} (h : ∀ p ∈ ps, 0 ≤ p) (x : Nat) : 0 ≤ pF ps x := by
  unfold pF
  rw [List.getD_eq_getElem?_getD]
  cases e : ps[x]? with
  | none => exact Int.le_refl _
  | some z => exact h z (List.mem_of_getElem? e)
def spRight : Sp := fun vs H Q _ => ∃ (a : Addr) (xs : List V) (sp : List F57.Span) (room : Nat), vs = [.ref a, .int (room : Int)] ∧ H a = some (.lst xs) ∧ DtA anyA H xs (sp.map spD) ∧ SpOk sp ∧ sp.length ≤ 14 ∧ room ≤ 20 ∧
  ∀ (H' : Hp) (q : Addr) (c : Int), Same H H' → H' q = some (.tup [.bl true, .int c]) → (∀ ps : List Int, (∀ p ∈ ps, 0 ≤ p) → F57.W sp room (pF ps) ps.length ≤ c) → Q (.ref q) H'
section
variable {P : Program} {w : World} {K : PySem.W.Frag} {mg : Str → Option Value} {base : Heap}
theorem sc__law_right : FnScope ["_law_spans_here", "_law_room", "_law_handed", "_law_told", "_law_left", "_law_prices_here", "_law_span_here", "_law_cost", "_law_k", "_law_good"] ["_law_spans_here", "_law_room"] (defScope s_law_right) := ⟨rfl, rfl, rfl, by decide +kernel, rfl, by decide +kernel, by decide +kernel⟩
theorem ok_lright {f C CM CP : Addr} {fd : FuncData} (F : FnP K "_law_right" s_law_right f fd) (c_least : CalKw P w K mg base 5 "least" ["spans", "room"] (spLst C CM)) (c_worth : CalKw P w K mg base 5 "worth" ["spans", "room", "prices"] (spWorth C CM CP)) (c__law_value : Cal P w K mg base 2 "_law_value" ["_law_spans_here", "_law_room", "_law_prices_here"] spVal)
    (c__law_left_right : Cal P w K mg base 2 "_law_left_right" ["_law_spans_here", "_law_room", "_law_left"] spLR) (c__law_numbers : Cal P w K mg base 1 "_law_numbers" ["_law_some", "_law_low"] spNum0) (G : NkF K mg) (tup : mg "tuple" = none) (lis : mg "list" = none) (m_max : mg "max" = none) (m_sum : mg "sum" = none) : FnOk P w K mg base CX0 6 f fd ["_law_spans_here", "_law_room"] spRight := by
  obtain ⟨f__law_value, fd__law_value, g__law_value, k__law_value, b__law_value, G__law_value⟩ := c__law_value
  obtain ⟨f__law_left_right, fd__law_left_right, g__law_left_right, k__law_left_right, b__law_left_right, G__law_left_right⟩ := c__law_left_right
  obtain ⟨f__law_numbers, fd__law_numbers, g__law_numbers, k__law_numbers, b__law_numbers, G__law_numbers⟩ := c__law_numbers
  obtain ⟨f1, fd1, g1, k1, b1, kb1, G1⟩ := c_least
  obtain ⟨f2, fd2, g2, k2, b2, kb2, G2⟩ := c_worth
  refine F.ok sc__law_right (fun vs H Q E h => ?_) (fun cdv A outer s H vs Q E hr h => ?_)
  · obtain ⟨a, xs, sp, room, rfl, _⟩ := h
    rfl
  · obtain ⟨a, xs, sp, room, rfl, eS, hA, ok, h14, h20, k⟩ := h
    have nd := sc__law_right.nd
    apply Exists.intro
    apply And.intro
    case left =>
     apply PSs.nox
     apply pss_cons
     · exact (ps_set (i := 2) nd rfl (.inl rfl) (pe_callTy call_list_of (by rfl) lis (by decide +kernel) (pa_cons (pv 0) pa_nil)))
     apply pss_cons
     · exact (ps_set (i := 3) nd rfl (.inl rfl) (pe_callN0 G1 (hr.mono (by decide)) rfl g1 k1 kb1 (passes_call LamX.takes0 (fun _ _ _ _ h => h)) (pk_cons (pv 2) (pk_cons (pv 1) pk_nil))))
     apply pss_cons
     · exact (ps_if (PW.pt (pw_or (pt_cmpR (op_neD hr.units) (pv 2) (pv 0) (nomark _)) (pw_or (pt_not (pt_val (pe_callB call_isi (by rfl) G.isi (by decide +kernel) (pa_cons (pv 3) (pa_cons (pe_bltn (v := .ty "tuple") (by rfl) tup (by decide +kernel) rfl) pa_nil))))) (pw_or1 (pt_cmpR op_ne (pe_callB call_len (by rfl) G.len PySem.boot_len (pa_cons (pv 3) pa_nil)) pe_int (nomark _)))))) (pss_one (ps_ret (pe_tup (pa_cons pe_bl (pa_cons pe_int pa_nil))))) pss_nil)
     apply pss_cons
     · exact (ps_asg (pv 3) (pg_tup rfl (pgs_cons (pg_name (i := 4) nd rfl (Or.inl rfl)) (pgs_cons (pg_name (i := 5) nd rfl (Or.inl rfl)) pgs_nil))))
     apply pss_cons
     · exact (ps_if (PW.pt (pw_or (pt_not (pt_val (pe_call G__law_left_right (hr.mono (by decide)) rfl g__law_left_right k__law_left_right b__law_left_right .nil pass0 (pa_cons (pv 0) (pa_cons (pv 1) (pa_cons (pv 4) pa_nil)))))) (pw_or1 (pt_not (pt_val (pe_call G__law_numbers (hr.mono (by decide)) rfl g__law_numbers k__law_numbers b__law_numbers .nil pass0 (pa_cons (pv 5) (pa_cons pe_int pa_nil)))))))) (pss_one (ps_ret (pe_tup (pa_cons pe_bl (pa_cons pe_int pa_nil))))) pss_nil)
     apply pss_cons
     · exact (ps_if (pt_cmpR op_ne (pe_callB call_len (by rfl) G.len PySem.boot_len (pa_cons (pv 5) pa_nil)) (pe_callB (cr_max (by rfl)) (by rfl) m_max (by decide +kernel) (pa_cons (pe_op op_cat (pe_lst (pa_cons pe_int pa_nil)) (pe_lc (own := [("_law_span_here", 6)]) (g := gName 6) rfl nd (pi_list (pv 0)) (blkOk_by (own := [("_law_span_here", 6)]) (N := ["_law_spans_here", "_law_room", "_law_handed", "_law_told", "_law_left", "_law_prices_here", "_law_span_here", "_law_cost", "_law_k", "_law_good"]) (sc := defScope s_law_right) (by decide +kernel)) (fun _ _ _ _ _ => (pg_name (i := 6) nd rfl (Or.inl rfl))) (fun _ _ _ _ _ => pts_nil) (fun _ _ _ _ _ => (pe_op op_add (pe_ix (ix_seqK (K := K)) (pv 6) pe_int (fun _ _ => rfl)) pe_int)))) pa_nil)) (nomark _)) (pss_one (ps_ret (pe_tup (pa_cons pe_bl (pa_cons pe_int pa_nil))))) pss_nil)
     apply pss_cons
     · exact (ps_set (i := 7) nd rfl (.inl rfl) (pe_callB (cr_sum (by rfl)) (by rfl) m_sum (by decide +kernel) (pa_cons (pe_lc (own := [("_law_k", 8)]) (g := gName 8) rfl nd (pi_list (pv 4)) (blkOk_by (own := [("_law_k", 8)]) (N := ["_law_spans_here", "_law_room", "_law_handed", "_law_told", "_law_left", "_law_prices_here", "_law_span_here", "_law_cost", "_law_k", "_law_good"]) (sc := defScope s_law_right) (by decide +kernel)) (fun _ _ _ _ _ => (pg_name (i := 8) nd rfl (Or.inl rfl))) (fun _ _ _ _ _ => pts_nil) (fun _ _ _ _ _ => (pe_ix (ix_seqK (K := K)) (pe_ix (ix_listK (K := K)) (pv 0) (pv 8) (fun _ _ => rfl)) pe_int (fun _ _ => rfl)))) pa_nil)))
     apply pss_cons
     · exact (ps_set (i := 9) nd rfl (.inl rfl) (pe_and (pe_cmpR op_eq (pe_call G__law_value (hr.mono (by decide)) rfl g__law_value k__law_value b__law_value .nil pass0 (pa_cons (pv 0) (pa_cons (pv 1) (pa_cons (pv 5) pa_nil)))) (pv 7) (nomark _)) (pe_one (pe_cmpR op_eq (pe_callN0 G2 (hr.mono (by decide)) rfl g2 k2 kb2 (passes_call LamX.takes0 (fun _ _ _ _ h => h)) (pk_cons (pv 2) (pk_cons (pv 1) (pk_cons (pe_callTy call_list_of (by rfl) lis (by decide +kernel) (pa_cons (pv 5) pa_nil)) pk_nil)))) (pv 7) (nomark _)))))
     apply pss_one
     exact (ps_ret (pe_tup (pa_cons (pv 9) (pa_cons (pv 7) pa_nil))))
    case right =>
      have lx := hA.length
      rw [List.length_map] at lx
      refine ⟨_, rfl, a, xs, rfl, .inl (SqL.of eS), fun hp hhp => ?_⟩
      have s1 := same_new (o := .lst xs) hhp
      have eh : (upd H hp (.lst xs)) hp = some (.lst xs) := upd_same
      generalize upd H hp (.lst xs) = H1 at s1 eh ⊢
      refine ⟨_, rfl, _, rfl, rfl, rfl, .ref hp, .int (room : Int), rfl, .inr ⟨hp, xs, sp.map spD, rfl, .inl eh, hA.same s1, .inr ⟨by rw [List.length_map]; exact ok.ln, .inr ⟨spans_all ok, .inr ⟨room, rfl, h20, sp, rfl, ok, by omega, fun H2 q L R k1 k2 c s2 eq eL eR g F7 => ?_⟩⟩⟩⟩⟩
      have s02 := s1.trans s2
      have hN : ∀ s ∈ sp, s.2.1 < lenS sp := fun s hs => lenS_lt hs
      have hln := ok.len
      have dh : Dp K H2 (.ref hp) (.list (sp.map spD)) := .lst (SqL.of (s2 _ _ eh)) (DtA.dp (layb_all (k := 1) fun x hx => by
        obtain ⟨s, _, rfl⟩ := List.mem_map.mp hx
        exact layb_span s).2 (hA.same s02))
      have da : Dp K H2 (.ref a) (.list (sp.map spD)) := .lst (SqL.of (s02 _ _ eS)) (DtA.dp (layb_all (k := 1) fun x hx => by
        obtain ⟨s, _, rfl⟩ := List.mem_map.mp hx
        exact layb_span s).2 (hA.same s02))
      refine ⟨_, rfl, _, rfl, _, _, dh, da, (layb_spans sp).shp (by decide), (layb_spans sp).shp (by decide), _, rfl, ?_⟩
      rw [PySem.SeqAt.eqv_refl _ (layb_spans sp).lay]
      refine iteF ?_
      refine ⟨_, rfl, _, _, _, _, true, rfl, .ty "tuple", .base (.tup eq), kit_ty (by decide +kernel), _, rfl, iteN1 ?_⟩
      refine ⟨_, rfl, _, _, rfl, .inr ⟨_, SqT.of eq, rfl⟩, rfl, _, rfl, ?_⟩
      refine iteNe rfl ?_
      refine ⟨_, rfl, q, _, rfl, SqT.of eq, rfl, _, _, rfl, _, _, rfl, rfl, ?_⟩
      refine ⟨_, rfl, _, rfl, _, rfl, a, L, xs, sp, room, k1, k2, rfl, s02 _ _ eS, hA.same s02, ok, h14, eL, F7, fun H3 s3 => ?_⟩
      refine ⟨_, rfl, iteF ?_⟩
      rw [prL_int] at eR
      have pos : ∀ p ∈ prL c (lenS sp), 0 ≤ p := fun p hp => by
        unfold prL at hp
        obtain ⟨x, hx, rfl⟩ := List.mem_map.mp hp
        exact g.pos (List.mem_range.mp hx)
      refine ⟨_, rfl, R, prL c (lenS sp), rfl, s3 _ _ eR, by rw [prL_len]; omega, pos, fun H4 s4 => ?_⟩
      refine ⟨_, rfl, iteF ?_⟩
      have s24 := s3.trans s4
      have s04 := s02.trans s24
      refine ⟨_, rfl, _, _, rfl, .inl ⟨_, SqL.of (s24 _ _ eR), rfl⟩, ?_⟩
      refine ⟨(show 1 ≤ sizeLine by decide), fun p0 hp0 => ?_⟩
      have s5 := s24.trans (same_new (o := .lst [V.int 0]) hp0)
      have e0 : (upd H4 p0 (.lst [V.int 0])) p0 = some (.lst [V.int 0]) := upd_same
      generalize upd H4 p0 (.lst [V.int 0]) = H5 at s5 e0 ⊢
      have s05 := s02.trans s5
      refine ⟨_, rfl, a, rfl, ⟨_, SqL.of (s05 _ _ eS)⟩, fun D hD => ?_⟩
      refine lc_list (K := K) (a := a) (xs := xs) (fun j H' => Same H5 H' ∧ H' D = some (.lst (((sp.take j).map fun s => ((s.2.1 : Int) + 1)).map V.int))) ⟨same_new hD, upd_same⟩ (fun j H' _ h => SqL.of ((s05.trans h.1) _ _ eS)) ?_ ?_
      · rintro j x H' hj ⟨sj, ej⟩
        obtain ⟨s0, p, hs, rfl, hp⟩ := spD_at hA hj
        refine ⟨rfl, yesIf ⟨_, rfl, .inr (.inl ⟨_, _, _, _, rfl, rfl, SqT.of ((s05.trans sj) _ _ hp), rfl, _, _, rfl, rfl, _, ej, ?_, same_sub sj hD, ?_⟩)⟩⟩
        · rw [List.length_map, List.length_map]
          exact Nat.lt_of_le_of_lt (List.length_take_le' _ _) (Nat.lt_of_le_of_lt h14 (by decide))
        · rw [upd_same, take_snoc2 hs, List.map_append, List.map_append]
          rfl
      rintro H6 ⟨s6, e6⟩
      rw [lx, List.take_length] at e6
      refine ⟨p0, D, _, _, rfl, rfl, s6 _ _ e0, e6, ?_, fun p1 hp1 => ?_⟩
      · rw [List.length_map, List.length_map]
        exact Nat.le_trans (show 1 + sp.length ≤ 15 by omega) (by decide)
      have s7 := s5.trans (s6.trans (same_new (o := .lst ([V.int 0] ++ (sp.map fun s => ((s.2.1 : Int) + 1)).map V.int)) hp1))
      have e7 : (upd H6 p1 (.lst ([V.int 0] ++ (sp.map fun s => ((s.2.1 : Int) + 1)).map V.int))) p1 = some (.lst (((0 : Int) :: (sp.map fun s => ((s.2.1 : Int) + 1))).map V.int)) := upd_same
      generalize upd H6 p1 (.lst ([V.int 0] ++ (sp.map fun s => ((s.2.1 : Int) + 1)).map V.int)) = H7 at s7 e7 ⊢
      refine ⟨p1, _, rfl, SqL.of e7, by rw [List.length_cons]; omega, fun M hM hmax => ?_⟩
      have hM := lenS_max0 hM hmax
      subst hM
      refine ⟨rfl, _, rfl, ?_⟩
      refine iteNe (by rw [List.length_map, prL_len]) ?_
      have s07 := s02.trans s7
      have eL7 : H7 L = some (.lst (((F57.ixs sp.length fun i => !k2 i).map fun i : Nat => (i : Int)).map V.int)) := s7 _ _ eL
      refine ⟨_, rfl, L, rfl, ⟨_, SqL.of eL7⟩, fun D2 hD2 => ?_⟩
      have hys : ∀ i ∈ F57.ixs sp.length (fun i => !k2 i), i < sp.length := fun i hi => (F57.ixs_mem.mp hi).1
      have hyl := F57.ixs_len sp.length (fun i => !k2 i)
      have hcost := Fill_cost_eq g F7
      generalize F57.ixs sp.length (fun i => !k2 i) = ys at eL7 hys hyl hcost
      refine lc_list (K := K) (a := L) (xs := (ys.map fun i : Nat => (i : Int)).map V.int) (fun j H' => Same H7 H' ∧ H' D2 = some (.lst ((((ys.take j).filterMap fun i => sp[i]?).map fun s => (s.2.2 : Int)).map V.int))) ⟨same_new hD2, upd_same⟩ (fun j H' _ h => SqL.of (h.1 _ _ eL7)) ?_ ?_
      · rintro j x H' hj ⟨sj, ej⟩
        rw [List.map_map, List.getElem?_map, Option.map_eq_some_iff] at hj
        obtain ⟨i, hi, rfl⟩ := hj
        have hil := hys i (List.mem_of_getElem? hi)
        have ex : xs[i]? = some xs[i] := List.getElem?_eq_getElem (by omega)
        obtain ⟨s0, ap, hs0, exr, hap⟩ := spD_at hA ex
        have ex : xs[i]? = some (.ref ap) := by rw [ex, exr]
        have s0j := s07.trans sj
        refine ⟨rfl, yesIf ⟨_, rfl, _, rfl, a, _, _, _, rfl, rfl, SqL.of (s0j _ _ eS), atI_nat ex, .inr (.inl ⟨_, _, _, _, rfl, rfl, SqT.of (s0j _ _ hap), rfl, _, ej, ?_, same_sub sj hD2, ?_⟩)⟩⟩
        · rw [List.length_map, List.length_map]
          exact Nat.lt_of_le_of_lt (List.length_filterMap_le _ _) (Nat.lt_of_le_of_lt (List.length_take_le' _ _) (Nat.lt_of_le_of_lt (show ys.length ≤ 14 by omega) (by decide)))
        · rw [upd_same, take_snoc2 hi, List.filterMap_append, List.filterMap_cons, hs0, List.map_append, List.map_append]
          rfl
      rintro H8 ⟨s8, e8⟩
      rw [List.length_map, List.length_map, List.take_length] at e8
      refine ⟨D2, _, rfl, SqL.of e8, ?_⟩
      rw [← hcost]
      have s08 := s07.trans s8
      have eR8 := (s7.trans s8) _ _ eR
      have hW : F57.W sp room (pF (prL c (lenS sp))) (prL c (lenS sp)).length = F57.W sp room (F57.pr c) (lenS sp) := by
        rw [prL_len]
        exact F57.W_congr fun x hx => prL_at hx
      refine ⟨_, rfl, _, rfl, _, rfl, a, R, xs, sp, room, prL c (lenS sp), rfl, s08 _ _ eS, hA.same s08, ok, h20, eR8, by rw [prL_len]; omega, fun H9 s9 => ?_⟩
      rw [hW]
      refine ⟨_, rfl, rfl, ?_⟩
      rw [decide_eq_true rfl]
      refine ⟨_, rfl, iteT ?_⟩
      have s09 := s08.trans s9
      have eR9 := s9 _ _ eR8
      refine ⟨_, rfl, _, rfl, _, rfl, R, _, rfl, .inl (SqL.of eR9), fun p2 hp2 => ?_⟩
      have s10 := s09.trans (same_new (o := .lst ((prL c (lenS sp)).map V.int)) hp2)
      have e10 : (upd H9 p2 (.lst ((prL c (lenS sp)).map V.int))) p2 = some (.lst ((prL c (lenS sp)).map V.int)) := upd_same
      have eh10 := ((s2.trans (s7.trans (s8.trans s9))).trans (same_new (o := .lst ((prL c (lenS sp)).map V.int)) hp2)) _ _ eh
      generalize upd H9 p2 (.lst ((prL c (lenS sp)).map V.int)) = H10 at s10 e10 eh10 ⊢
      refine ⟨rfl, rfl, .ref hp, .int (room : Int), .ref p2, rfl, .inr ⟨hp, xs, sp.map spD, rfl, .inl eh10, hA.same s10, .inr ⟨by rw [List.length_map]; exact ok.ln, .inr ⟨spans_all ok, .inr ⟨room, rfl, h20, sp, rfl, ok, by omega, ?_⟩⟩⟩⟩⟩
      refine .inr ⟨p2, _, _, rfl, .inl e10, dtA_ints _, .inr ⟨by rw [List.length_map, prL_len]; omega, prL c (lenS sp), rfl, pos, fun H11 s11 => ?_⟩⟩
      rw [hW]
      refine ⟨_, rfl, rfl, ?_⟩
      rw [decide_eq_true rfl]
      refine ⟨_, rfl, _, rfl, (show 2 ≤ sizeLine by decide), fun q2 hq2 => ?_⟩
      refine k _ q2 _ (s10.trans (s11.trans (same_new hq2))) upd_same fun ps hps => ?_
      rw [F7.cost g]
      exact F7.most hN fun x _ => pF_pos hps x
end
/-! ## k57's law: prices drawn -/
def spPrices : Sp := fun vs H Q _ => ∃ (t : Nat) (V0 : Hp) (d : Addr) (x : V), vs = [.ref d, x] ∧ Dw t V0 H d ∧ t + 100 < T40 ∧
  ∀ (a : Addr) (ns : List Int) (H' V' : Hp), Dw (t + 50) V' H' d → Same V0 V' → V' a = some (.lst (ns.map V.int)) → ns.length ≤ 1000 → (∀ n ∈ ns, 0 ≤ n) → Q (.ref a) H'
section
variable {P : Program} {w : World} {K : PySem.W.Frag} {mg : Str → Option Value} {base : Heap}
theorem sc__law_prices : FnScope ["_law_draw", "_law_spans_here", "_law_found", "_law_k"] ["_law_draw", "_law_spans_here"] (defScope s_law_prices) := ⟨rfl, rfl, rfl, by decide +kernel, rfl, by decide +kernel, by decide +kernel⟩
theorem ok_lprices {f : Addr} {fd : FuncData} (F : FnP K "_law_prices" s_law_prices f fd) (c__law_take : Cal P w K mg base 2 "_law_take" ["_law_draw", "_law_many"] spTake) (c__law_pick : Cal P w K mg base 3 "_law_pick" ["_law_draw", "_law_some"] (spPick K)) (G : NkF K mg) (rng : mg "range" = none) : FnOk P w K mg base CX0 4 f fd ["_law_draw", "_law_spans_here"] spPrices := by
  obtain ⟨f__law_take, fd__law_take, g__law_take, k__law_take, b__law_take, G__law_take⟩ := c__law_take
  obtain ⟨f__law_pick, fd__law_pick, g__law_pick, k__law_pick, b__law_pick, G__law_pick⟩ := c__law_pick
  refine F.ok sc__law_prices (fun vs H Q E h => ?_) (fun cdv A outer s H vs Q E hr h => ?_)
  · obtain ⟨t, V0, d, x, rfl, _⟩ := h
    rfl
  · obtain ⟨t, V0, d, x, rfl, hD, ht, k⟩ := h
    have ht : t + 100 < 1099511627776 := ht
    have nd := sc__law_prices.nd
    apply Exists.intro
    apply And.intro
    case left =>
     apply PSs.nox
     apply pss_cons
     · exact (ps_setLc (i := 2) (own := [("_law_k", 3)]) (g := gName 3) rfl nd rfl rfl (sw_true rfl rfl rfl (by decide +kernel)) (pi_range1 (by rfl) rng (pa_cons (pe_call G__law_pick (hr.mono (by decide)) rfl g__law_pick k__law_pick b__law_pick .nil pass0 (pa_cons (pv 0) (pa_cons (pe_lst (pa_cons pe_int (pa_cons pe_int (pa_cons pe_int (pa_cons pe_int pa_nil))))) pa_nil))) pa_nil)) (blkOk_by (own := [("_law_k", 3)]) (N := ["_law_draw", "_law_spans_here", "_law_found", "_law_k"]) (sc := defScope s_law_prices) (by decide +kernel)) (fun _ _ _ _ _ => (pg_name (i := 3) nd rfl (Or.inl rfl))) (fun _ _ _ _ _ => pts_nil) (fun _ _ _ _ _ => (pe_call G__law_pick (hr.mono (by decide)) rfl g__law_pick k__law_pick b__law_pick .nil pass0 (pa_cons (pv 0) (pa_cons (pe_lst (pa_cons pe_int (pa_cons pe_int (pa_cons pe_int (pa_cons pe_int (pa_cons pe_int (pa_cons pe_int (pa_cons pe_int pa_nil)))))))) pa_nil)))))
     apply pss_one
     exact (ps_ret (pe_op op_cat (pv 2) (pe_ifExp (PW.pt (pw_and (pt_cmpR op_eq (pe_call G__law_take (hr.mono (by decide)) rfl g__law_take k__law_take b__law_take .nil pass0 (pa_cons (pv 0) (pa_cons pe_int pa_nil))) pe_int (nomark _)) (pw_and1 (pt_cmpR op_eq (pe_callB call_len (by rfl) G.len PySem.boot_len (pa_cons (pv 2) pa_nil)) pe_int (nomark _))))) (pe_lc (own := [("_law_k", 3)]) (g := gName 3) rfl nd (pi_range1 (by rfl) rng (pa_cons pe_int pa_nil)) (blkOk_by (own := [("_law_k", 3)]) (N := ["_law_draw", "_law_spans_here", "_law_found", "_law_k"]) (sc := defScope s_law_prices) (by decide +kernel)) (fun _ _ _ _ _ => (pg_name (i := 3) nd rfl (Or.inl rfl))) (fun _ _ _ _ _ => pts_nil) (fun _ _ _ _ _ => pe_int)) (pe_lst pa_nil))))
    case right =>
      refine pick_lits ([0, 3, 12, 14].map V.int) (fun _ _ _ q => q) rfl hD (by show t < 1099511627776; omega) (by decide) (by decide) fun v H1 V1 hv D1 y1 => ?_
      obtain ⟨m, hm, rfl⟩ := mem_ints hv
      obtain ⟨b1, b2⟩ := all_ints (a := 0) (b := 14) hm (by decide)
      refine ⟨m, rfl, by omega, by omega, fun D hD0 => ?_⟩
      obtain ⟨V2, D2, y2, e2⟩ := D1.mk (o := .lst []) hD0
      have nD : V1 D = none := D1.same.free hD0
      refine lc_range (lo := 0) (n := m.toNat) (fun j H' => ∃ (V' : Hp) (ns : List Int), Dw (t + 1 + j) V' H' d ∧ Same V1 V' ∧ V' D = some (.lst (ns.map V.int)) ∧ ns.length = j ∧ ∀ n ∈ ns, 0 ≤ n) ⟨V2, [], D2, y2, e2, rfl, fun n h => nomatch h⟩ ?_ ?_
      · rintro j H' hj ⟨V', ns, Dj, yj, ej, lj, pj⟩
        refine ⟨rfl, yesIf ?_⟩
        refine pick_lits ([0, 0, 0, 1, 2, 3, 5].map V.int) (fun _ _ _ q => q) rfl Dj (by show t + 1 + j < 1099511627776; omega) (by decide) (by decide) fun v H3 V3 hv D3 y3 => ?_
        obtain ⟨n, hn, rfl⟩ := mem_ints hv
        obtain ⟨b3, b4⟩ := all_ints (a := 0) (b := 5) hn (by decide)
        have e3 := y3 _ _ ej
        refine ⟨_, D3.same _ _ e3, ?_, upd V3 D (.lst (ns.map V.int ++ [V.int n])), ns ++ [n], D3.set e3, same_sub (yj.trans y3) nD, ?_, ?_, ?_⟩
        · rw [List.length_map]
          exact Nat.lt_of_le_of_lt (show ns.length ≤ 14 by omega) (by decide)
        · rw [upd_same, List.map_append]
          rfl
        · rw [List.length_append, lj]
          rfl
        · intro z hz
          rcases List.mem_append.mp hz with h | h
          · exact pj z h
          · rw [List.mem_singleton.mp h]
            exact b3
      rintro H4 ⟨V4, ns, D4, y4, e4, l4, p4⟩
      have fin : ∀ (H5 V5 : Hp) (x : Addr) (ms : List Int) (t5 : Nat), t5 ≤ t + 50 → Dw t5 V5 H5 d → Same V0 V5 → V5 D = some (.lst (ns.map V.int)) → V5 x = some (.lst (ms.map V.int)) → ns.length + ms.length ≤ 1000 → (∀ n ∈ ms, 0 ≤ n) →
          rCat (.ref D) (.ref x) H5 Q := by
        intro H5 V5 x ms t5 h5 D5 y5 e5 ex hl hms
        refine ⟨D, x, _, _, rfl, rfl, D5.same _ _ e5, D5.same _ _ ex, ?_, fun p hp => ?_⟩
        · rw [List.length_map, List.length_map]
          exact Nat.le_trans hl (by decide)
        obtain ⟨V6, D6, y6, e6⟩ := D5.mk (o := .lst (ns.map V.int ++ ms.map V.int)) hp
        refine k p (ns ++ ms) _ V6 (D6.mono h5) (y5.trans y6) (by rw [e6, List.map_append]) (by rw [List.length_append]; exact hl) fun n hn => ?_
        rcases List.mem_append.mp hn with h | h
        · exact p4 n h
        · exact hms n h
      have y04 := y1.trans y4
      refine ⟨_, rfl, _, rfl, t + 1 + m.toNat, V4, d, 9, rfl, D4, by show t + 1 + m.toNat < 1099511627776; omega, by decide, by decide, fun z H5 _ _ D5 => ⟨rfl, _, rfl, ?_⟩⟩
      have none2 : tLst tNil [some (.ref d), some x, some (.ref D), none] H5 fun y H1 => rCat (.ref D) y H1 Q := by
        refine ⟨(show 0 ≤ sizeLine by decide), fun p hp => ?_⟩
        obtain ⟨V6, D6, y6, e6⟩ := D5.mk (o := .lst []) hp
        exact fin _ V6 p [] _ (by omega) D6 (y04.trans y6) (y6 _ _ e4) e6 (by rw [l4]; show m.toNat + 0 ≤ 1000; omega) fun n h => nomatch h
      refine ite2 (fun _ => ?_) (fun _ => none2)
      refine ⟨_, rfl, _, _, rfl, .inl ⟨_, SqL.of (D5.same _ _ e4), rfl⟩, rfl, _, rfl, ?_⟩
      refine ite2 (fun _ => ?_) (fun _ => none2)
      refine ⟨986, rfl, by decide, by decide, fun D6 hD6 => ?_⟩
      obtain ⟨V6, D6w, y6, e6⟩ := D5.mk (o := .lst []) hD6
      have nD6 : V4 D6 = none := D5.same.free hD6
      refine lc_range (lo := 0) (n := Int.toNat 986) (fun j H' => ∃ (V' : Hp), Dw (t + 1 + m.toNat + 1) V' H' d ∧ Same V4 V' ∧ V' D6 = some (.lst ((List.replicate j (0 : Int)).map V.int))) ⟨V6, D6w, y6, e6⟩ ?_ ?_
      · rintro j H' hj ⟨V', Dj, yj, ej⟩
        have hj : j < 986 := hj
        refine ⟨rfl, yesIf ⟨_, Dj.same _ _ ej, ?_, upd V' D6 (.lst ((List.replicate j (0 : Int)).map V.int ++ [V.int 0])), Dj.set ej, same_sub yj nD6, ?_⟩⟩
        · rw [List.length_map, List.length_replicate]
          exact Nat.lt_of_le_of_lt (show j ≤ 1000 by omega) (by decide)
        · rw [upd_same, List.replicate_succ', List.map_append]
          rfl
      rintro H7 ⟨V7, D7, y7, e7⟩
      exact fin _ V7 D6 _ _ (by omega) D7 (y04.trans y7) (y7 _ _ e4) e7 (by rw [l4, List.length_replicate]; show m.toNat + 986 ≤ 1000; omega) fun n h => by rw [(List.mem_replicate.mp h).2]; exact Int.le_refl _
end
theorem takes_lenN {X : Cx} {W : WX} (n : Nat) (t : Takes X W) (hn : X.N.length = n) : Takes X (fun cls d σ H => σ.length = n → W cls d σ H) := fun u s' ⟨a, B, sI, pins, σ, H, cls, d, e, I, nb, up, sky, na, os, ag, w⟩ =>
  t u s' ⟨a, B, sI, pins, σ, H, cls, d, e, I, nb, up, sky, na, os, ag, w (I.len.trans hn)⟩
/-! ## several clauses, with and without a name; e.f within such a clause -/
abbrev HdL := List (Value × Option Nat × (Addr → Value → Option Addr → TS))
inductive HdM (X : Cx) : List ExceptHandler → HdL → Prop
  | nil : HdM X [] []
  | bare {x : Str} {c : Value} {ts : Addr → Value → Option Addr → TS} {b₀ : Stmt} {su : List Stmt} {np p2 : Pos} {rest : List ExceptHandler} {l : HdL} (hc : Names X x c) (hsu : ∀ (a : Addr) (oe : Obj) (cls : Value) (d : Option Addr) (pn : List (Addr × Obj)), Zc cls d oe → (∃ vs, oe.data = .fields vs) → PSs (X.suite a ((a, oe) :: pn)) (b₀ :: su) (ts a cls d))
      (r : HdM X rest l) : HdM X (.ExceptHandler (some (.Name x np)) none (b₀ :: su) p2 :: rest) ((c, none, ts) :: l)
  | named {x n : Str} {i : Nat} {c : Value} {ts : Addr → Value → Option Addr → TS} {b₀ : Stmt} {su : List Stmt} {np p2 : Pos} {rest : List ExceptHandler} {l : HdL} (hi : X.N[i]? = some n) (hln : X.env.kindOf n = some .local) (hc : Names X x c) (hsu : ∀ (a : Addr) (oe : Obj) (cls : Value) (d : Option Addr) (pn : List (Addr × Obj)), Zc cls d oe → (∃ vs, oe.data = .fields vs) → PSs (X.suite a ((a, oe) :: pn)) (b₀ :: su) (ts a cls d))
      (r : HdM X rest l) : HdM X (.ExceptHandler (some (.Name x np)) (some n) (b₀ :: su) p2 :: rest) ((c, some i, ts) :: l)
def wMix (K : PySem.W.Frag) (Wout : WX) (D : Ends) : HdL → WX
  | [] => Wout
  | (c, oi, ts) :: r => fun cls d σ H => ∃ b, PySem.W.exmOne K cls c = some b ∧ (b = true → ∀ a, H a = none → (match oi with
      | none => ts a cls d D σ H
      | some i => ts a cls d { nx := fun σ' H' => D.nx (σ'.set i none) H', rt := D.rt, bk := fun σ' H' => D.bk (σ'.set i none) H', ct := fun σ' H' => D.ct (σ'.set i none) H' } (σ.set i (some (.ref a))) H)) ∧ (b = false → wMix K Wout D r cls d σ H)
section
variable {X : Cx} {body : List Stmt} {h₀ : ExceptHandler} {hds : List ExceptHandler} {l : HdL} {pos : Pos} {tb : WX → TS} {Wout : WX}
theorem ps_try_mix (hs : X.stack = X.env :: X.outer) (hf : X.env.frame = some X.env.locals) (hN : X.N.Nodup) (tk : Takes X Wout)
    (hb : ∀ (W : WX) (pn : List (Addr × Obj)) (xe : Value → Shared → Prop), Takes (X.tr pn xe) W → PassesOwn (model X.prog X.w) X.A X.env xe → PSs (X.tr pn xe) body (tb W)) (hh : HdM X (h₀ :: hds) l) :
    PS X (.Try body (h₀ :: hds) [] [] pos) (fun D σ H => tb (wMix X.K Wout D l) D σ H) := by
  refine ⟨fun pins s σ H D I hw => ?_⟩
  have ok := I.ok
  have frames1 : X.A.frames = some (X.env :: X.outer) := ok.frames.trans (congrArg some hs)
  refine wpAny_Try_except ?_
  refine wpAny_mono ((hb (wMix X.K Wout D l) (X.pn ++ pins) (fun e s1 => wpAny (model X.prog X.w) X.A (noteFrame e X.env) (fun _ s2 => wpAny (model X.prog X.w) X.A (setFlight e none) (fun _ s3 => wpAny (model X.prog X.w) X.A (handleBy e X.env (h₀ :: hds)) (SP X pins D) X.xe s3) X.xe s2) X.xe s1) (fun u s' air => ?_) PassesOwn.looking).run [] s σ H D (I.toTry _) hw) (fun f s1 hsp => ?_) (fun e s1 he => he)
  · obtain ⟨a, B, sI, pins', σ', H', cls, d, rfl, J0, nb, up, sky, na, os, ag, wm⟩ := air
    have J : Inv X pins σ' H' sI := J0.ofTry ok
    have skyE : Sky B (X.env :: X.outer) a (Zc cls d) X.env.locals s'.heap := hs ▸ sky
    show wpAny (model X.prog X.w) X.A (noteFrame (.ref a) X.env) _ _ _
    refine Sky.land Zc.steady frames1 hf skyE fun h3 fl3 up3 => ?_
    have J3 : Inv X pins σ' H' { s' with heap := h3 } := J.landed nb fl3.1 (up.trans up3) os ag
    obtain ⟨oe3, vs3, he3, hz3, hd3⟩ := fl3.there
    have nfr : a ∉ frs (X.env :: X.outer) := fun hm => by
      obtain ⟨_, o', e', hnf⟩ := fl3.2.2.1.mem hm
      rw [he3] at e'
      cases e'
      exact hnf _ hd3
    have nL : a ≠ X.env.locals := fun z => nfr (List.mem_filterMap.mpr ⟨X.env, List.mem_cons_self, hf.trans (congrArg some z.symm)⟩)
    have nF : a ∉ X.fs := fun hm => by
      obtain ⟨e, he, q⟩ := List.mem_filterMap.mp hm
      exact nfr (List.mem_filterMap.mpr ⟨e, List.mem_cons_of_mem _ he, q⟩)
    have S3 := J3.suite he3 hd3 na nL nF
    have looksT : PySem.W.Looks (model X.prog X.w) h3 (typeOf (.ref a)) cls := fun A Q E s k q => wpAny_typeOf_ref (k _ _ he3) (by rw [hz3.1]; exact q)
    have named : ∀ {x : Str} {c : Value} {np : Pos} {Q : Value → Shared → Prop} {E : Value → Shared → Prop}, Names X x c → Q c { s' with heap := h3 } → wpAny (model X.prog X.w) (X.A.mark (some (.ref a))) (eval (.Name x np) X.env) Q E { s' with heap := h3 } := fun {x c np Q E} hc q => by
      obtain ⟨hg, hdbg, hm | ⟨hm, hv, hnn⟩⟩ := hc
      · exact ld_glob (X := X.suite a ((a, oe3) :: (X.pn ++ pins))) S3 hg hm q hdbg
      · exact ld_blt (X := X.suite a ((a, oe3) :: (X.pn ++ pins))) S3 hg hm hv q hnn hdbg
    have all : ∀ {hl : List ExceptHandler} {ll : HdL}, HdM X hl ll → wMix X.K Wout D ll cls d σ' H' → wpAny (model X.prog X.w) X.A (handleBy (.ref a) X.env hl) (SP X pins D) X.xe { s' with heap := h3 } := by
      intro hl ll hk
      induction hk with
      | nil =>
        intro wm
        refine wpAny_handleBy_nil ?_
        obtain ⟨k1, k2, k3, oe, vs, T, oT, ts', he, hz, hd, h1, hr⟩ := id fl3
        unfold PySem.passOn
        refine wpAny_bind (wpAny_field he hd h1 ?_)
        rw [if_neg (show ¬ ((Value.ref T == Value.none) = true) from by simp)]
        have thrown : wpAny (model X.prog X.w) X.A (setFlight (.ref a) X.env.frame) (fun _ s4 => wpAny (model X.prog X.w) X.A (throw (.ref a) : Sem Flow) (SP X pins D) X.xe s4) X.xe { s' with heap := h3 } := by
          rw [hf]
          refine HandSPX.setFlight_upZ fl3 fun h4 hh4 up4 => wpAny_throw (tk _ _ ?_)
          exact ⟨a, B, sI, pins, σ', H', cls, d, rfl, J, nb, (up.trans up3).trans up4, .inr (.inr (hs ▸ hh4)), na, os, ag, wm⟩
        first
          | exact wpAny_bind (wpAny_pure (wpAny_bind thrown))
          | exact wpAny_bind thrown
      | @bare x c ts b₀ su np p2 rest l2 hc hsu r ih =>
        intro wm
        obtain ⟨b, hb1, hyes, hno⟩ := wm
        refine wpAny_handleBy_cons (codeAny_handlers_test ?_) (by intro q; cases q)
        refine named hc ((PySem.W.exm_one (M := model X.prog X.w) J3.kIn looksT hb1).here ?_)
        cases b with
        | true =>
          refine codeAny_handlers_suite (HandSPX.lands_againZ fl3 fun h4 fl4 up4 => ?_)
          have J4 : Inv X pins σ' H' { s' with heap := h4 } := J.landed nb fl4.1 ((up.trans up3).trans up4) os ag
          obtain ⟨oe4, vs4, he4, hz4, hd4⟩ := fl4.there
          have S4 := J4.suite he4 hd4 na nL nF
          refine wpAny_mono ((hsu a oe4 cls d (X.pn ++ pins) hz4 ⟨_, hd4⟩).run [] _ _ H' _ S4 (hyes rfl a na)) (fun f s6 hsp => ?_) (fun _ _ z => False.elim z)
          cases f with
          | next =>
            obtain ⟨u6, H6, S6, q6⟩ := hsp
            exact ⟨u6, H6, S6.unsuite ok, q6⟩
          | brk =>
            obtain ⟨u6, H6, S6, q6⟩ := hsp
            exact ⟨u6, H6, S6.unsuite ok, q6⟩
          | cont =>
            obtain ⟨u6, H6, S6, q6⟩ := hsp
            exact ⟨u6, H6, S6.unsuite ok, q6⟩
          | ret u =>
            obtain ⟨v6, u6, H6, S6, r6, q6⟩ := hsp
            exact ⟨v6, u6, H6, S6.unsuite ok, r6, q6⟩
        | false =>
          exact ih (hno rfl)
      | @named x n i c ts b₀ su np p2 rest l2 hi hln hc hsu r ih =>
        intro wm
        obtain ⟨b, hb1, hyes, hno⟩ := wm
        refine wpAny_handleBy_cons (codeAny_handlers_test ?_) (by intro q; cases q)
        refine named hc ((PySem.W.exm_one (M := model X.prog X.w) J3.kIn looksT hb1).here ?_)
        cases b with
        | true =>
          refine codeAny_handlers_suite_as (HandSPX.lands_againZ fl3 fun h4 fl4 up4 => ?_)
          have J4 : Inv X pins σ' H' { s' with heap := h4 } := J.landed nb fl4.1 ((up.trans up3).trans up4) os ag
          obtain ⟨oe4, vs4, he4, hz4, hd4⟩ := fl4.there
          have S4 := J4.suite he4 hd4 na nL nF
          refine store_ok (X := X.suite a ((a, oe4) :: (X.pn ++ pins))) (v := .ref a) S4 hN hi (.inl hln) rfl (fun s5 S5 => ?_) (.inr hln)
          refine wpAny_mono ((hsu a oe4 cls d (X.pn ++ pins) hz4 ⟨_, hd4⟩).run [] s5 _ H' _ S5 (hyes rfl a na)) (fun f s6 hsp => ?_) (fun _ _ z => False.elim z)
          have leave : ∀ {σ6 : L2.St} {H6 : Hp} {Q : Shared → Prop}, Inv (X.suite a ((a, oe4) :: (X.pn ++ pins))) [] σ6 H6 s6 → (∀ s7, Inv X pins (σ6.set i none) H6 s7 → Q s7) →
              wpAny (model X.prog X.w) X.A (do bindName X.env n .none; unbindBehindTheSuite X.env n p2) (fun _ s7 => Q s7) X.xe s6 := fun {σ6 H6 Q} S6 hq => gone_ok (S6.unsuite ok) hN hi hln hq
          cases f with
          | next =>
            obtain ⟨u6, H6, S6, q6⟩ := hsp
            exact leave S6 fun s7 J7 => ⟨_, H6, J7, q6⟩
          | brk =>
            obtain ⟨u6, H6, S6, q6⟩ := hsp
            exact leave S6 fun s7 J7 => ⟨_, H6, J7, q6⟩
          | cont =>
            obtain ⟨u6, H6, S6, q6⟩ := hsp
            exact leave S6 fun s7 J7 => ⟨_, H6, J7, q6⟩
          | ret u =>
            obtain ⟨v6, u6, H6, S6, r6, q6⟩ := hsp
            exact leave S6 fun s7 J7 => ⟨v6, _, H6, J7, r6, q6⟩
        | false =>
          exact ih (hno rfl)
    exact all hh wm
  · cases f with
    | next =>
      obtain ⟨u1, H1, J1, q⟩ := hsp
      exact wpAny_execs_nil ⟨u1, H1, J1.ofTry ok, q⟩
    | brk =>
      obtain ⟨u1, H1, J1, q⟩ := hsp
      exact ⟨u1, H1, J1.ofTry ok, q⟩
    | cont =>
      obtain ⟨u1, H1, J1, q⟩ := hsp
      exact ⟨u1, H1, J1.ofTry ok, q⟩
    | ret u =>
      obtain ⟨v, u1, H1, J1, r, q⟩ := hsp
      exact ⟨v, u1, H1, J1.ofTry ok, r, q⟩
/-- e.f within the clause that holds the exception -/
def tExS (K : PySem.W.Frag) (te : TE) (a : Addr) (cls : Value) (d : Option Addr) (f : Str) : TE := fun σ H Q => te σ H fun x H1 => ∃ (D dx : Addr) (fs : List (Str × V)) (v : V), x = .ref a ∧ cls = .ref D ∧ d = some dx ∧ ExcR K D ∧ PySem.W.findIn K (.ref D) f = some none ∧ H1 dx = some (.xd fs) ∧ fs.lookup f = some v ∧ Q v H1
theorem pe_exS {X : Cx} {a : Addr} {oe : Obj} {cls : Value} {d : Option Addr} {pn : List (Addr × Obj)} (hz : Zc cls d oe) (hv : ∃ vs, oe.data = .fields vs) {e : Expr} {te : TE} {f : Str} {pos : Pos} (he : PE (X.suite a ((a, oe) :: pn)) e te) (hb : attributeBase e f X.env (eval e X.env) = eval e X.env := by rfl) :
    PE (X.suite a ((a, oe) :: pn)) (.Attribute e f pos) (tExS X.K te a cls d f) := by
  refine ⟨fun pins s σ H Q I h => ?_⟩
  refine attr_of (show attributeBase e f (X.suite a ((a, oe) :: pn)).env (eval e (X.suite a ((a, oe) :: pn)).env) = eval e (X.suite a ((a, oe) :: pn)).env from hb) (thn (he.run pins s σ H _ I h) fun u s1 hh => ?_)
  obtain ⟨x, H1, I1, rx, D, dx, fs, v, ex, ec, ed, C, no, st, l, q⟩ := hh
  subst ex ec ed
  cases (show u = Value.ref a from rx)
  obtain ⟨hget, _⟩ := I1.pin (a, oe) (List.mem_append.mpr (.inl List.mem_cons_self))
  obtain ⟨vs, hvs⟩ := hv
  obtain ⟨mA, hns, hr⟩ : ∃ mA, s1.heap.Ns1 dx mA ∧ ∀ f, RelO (fs.lookup f) (mA f) := I1.hok dx _ st
  obtain ⟨od, hod, hlk⟩ := lookIn_ns hns
  have rl := hr f
  rw [l] at rl
  cases hm : mA f with
  | none =>
    rw [hm] at rl
    exact rl.elim
  | some y =>
    rw [hm] at rl
    have J : PySem.W.InstAt s1.heap a oe D (some od) := ⟨hget, hz.1, by unfold PySem.W.notCls; rw [hvs] <;> rfl, by rw [hz.2]; exact hod⟩
    exact PySem.HandSPX.exc_get I1.kIn J C.ga C.gt C.sb (PySem.W.findObj_own C.hd no rfl (by rw [hlk, hm])) (handed_of rl) ⟨v, H1, I1.tok _, rl, q⟩
end
/-! ## k57's law: what is refused -/
inductive Ou where
  | ok
  | spans (o : Option Nat)
  | room
  | prices
def oV : Option Nat → V
  | none => .non
  | some i => .int (i : Int)
def oDt : Option Nat → PyData
  | none => .none
  | some i => .int (i : Int)
def Ou.data : Ou → PyData
  | .ok => .none
  | .spans o => .tuple [.str "spans", oDt o]
  | .room => .str "room"
  | .prices => .str "prices"
def Ou.wish (C CM CP : Addr) (H : Hp) (Q : VK) (E : XK) : Ou → Prop
  | .ok => ∀ v H', Same H H' → Q v H'
  | .spans o => atE C (oV o) H E
  | .room => ∀ H', Same H H' → E (.ref CM) none H'
  | .prices => ∀ H', Same H H' → E (.ref CP) none H'
structure OuX (K : PySem.W.Frag) (mg : Str → Option Value) (C CM CP : Addr) : Prop where
  gS : mg "BadSpans" = some (.ref C)
  gM : mg "BadRoom" = some (.ref CM)
  gP : mg "BadPrices" = some (.ref CP)
  xSS : PySem.W.exmOne K (.ref C) (.ref C) = some true
  xMS : PySem.W.exmOne K (.ref CM) (.ref C) = some false
  xMM : PySem.W.exmOne K (.ref CM) (.ref CM) = some true
  xPS : PySem.W.exmOne K (.ref CP) (.ref C) = some false
  xPM : PySem.W.exmOne K (.ref CP) (.ref CM) = some false
  xPP : PySem.W.exmOne K (.ref CP) (.ref CP) = some true
  rS : ExcR K C
  nS : PySem.W.findIn K (.ref C) "at" = some none
def spRefd (C CM CP : Addr) : Sp := fun vs H Q _ => ∃ (x y z : V) (o1 o2 : Ou), vs = [x, y, z] ∧ (∀ H1 Q' E', Same H H1 → o1.wish C CM CP H1 Q' E' → spWorth C CM CP [x, y, z] H1 Q' E') ∧ (∀ H1 Q' E', Same H H1 → o2.wish C CM CP H1 Q' E' → spLst C CM [x, y] H1 Q' E') ∧
  ∀ H' q, Same H H' → Dt (fun a => H a = none) H' (.ref q) (.list [o1.data, o2.data]) → Q (.ref q) H'
def tRefd (C CM CP : Addr) (W : WX) : TS := tIfS (tTest (tOp rEq (tVar 4) (tC (.int 0)))) (tDrop (tCallS (spWorth C CM CP) (WE fun cls d σ H => σ.length = 7 → W cls d σ H) (tCons (tVar 0) (tCons (tVar 1) (tCons (tVar 2) tNil))))) (tDrop (tCallS (spLst C CM) (WE fun cls d σ H => σ.length = 7 → W cls d σ H) (tCons (tVar 0) (tCons (tVar 1) tNil))))
def hRefd (K : PySem.W.Frag) (C CM CP : Addr) : HdL := [(.ref C, some 6, fun a cls d => tAsg (tTup (tCons (tC (.str "spans")) (tCons (tExS K (tVar 6) a cls d "at") tNil))) (gName 5)), (.ref CM, none, fun _ _ _ => tAsg (tC (.str "room")) (gName 5)), (.ref CP, none, fun _ _ _ => tAsg (tC (.str "prices")) (gName 5))]
/-- where the try of an outcome leads -/
theorem mix_out {K : PySem.W.Frag} {mg : Str → Option Value} {C CM CP : Addr} (X : OuX K mg C CM CP) {x y z w3 w4 : V} {v6 : Option V} {H1 : Hp} {D : Ends} (o : Ou) {Q : VK} {E : XK}
    (hnx : ∀ (v : V) (v6 : Option V) (H' : Hp), Same H1 H' → Dt (fun a => H1 a = none) H' v o.data → D.nx [some x, some y, some z, some w3, some w4, some v, v6] H') (hQ : Q = fun _ H' => D.nx [some x, some y, some z, some w3, some w4, some .non, v6] H')
    (hE : E = fun cls d H' => ([some x, some y, some z, some w3, some w4, some .non, v6] : L2.St).length = 7 → wMix K (fun _ _ _ _ => False) D (hRefd K C CM CP) cls d [some x, some y, some z, some w3, some w4, some .non, v6] H') : o.wish C CM CP H1 Q E := by
  subst hQ hE
  cases o with
  | ok => exact fun v H' s' => hnx .non v6 H' s' .non
  | spans o =>
    refine fun H' dx s' e n _ => ⟨true, X.xSS, fun _ a ha => ?_, fun z => nomatch z⟩
    refine ⟨_, rfl, C, dx, _, oV o, rfl, rfl, rfl, X.rS, X.nS, e, rfl, (show 2 ≤ sizeLine by decide), fun q hq => ?_⟩
    have s2 := s'.trans (same_new (o := .tup [V.str "spans", oV o]) hq)
    refine hnx (.ref q) none _ s2 (.tup (s'.free hq) upd_same (.cons (.str _) (.cons ?_ .nil)))
    cases o with
    | none => exact .non
    | some i => exact .int _
  | room =>
    exact fun H' s' _ => ⟨false, X.xMS, (fun z => nomatch z), fun _ => ⟨true, X.xMM, fun _ a ha => hnx (.str "room") v6 _ s' (.str _), fun z => nomatch z⟩⟩
  | prices =>
    exact fun H' s' _ => ⟨false, X.xPS, (fun z => nomatch z), fun _ => ⟨false, X.xPM, (fun z => nomatch z), fun _ => ⟨true, X.xPP, fun _ a ha => hnx (.str "prices") v6 _ s' (.str _), fun z => nomatch z⟩⟩⟩
section
variable {P : Program} {w : World} {K : PySem.W.Frag} {mg : Str → Option Value} {base : Heap}
theorem sc__law_refused : FnScope ["_law_spans_here", "_law_room", "_law_prices_here", "_law_found", "_law_k", "_law_word", "error"] ["_law_spans_here", "_law_room", "_law_prices_here"] (defScope s_law_refused) := ⟨rfl, rfl, rfl, by decide +kernel, rfl, by decide +kernel, by decide +kernel⟩
theorem ok_lrefused {f C CM CP : Addr} {fd : FuncData} (F : FnP K "_law_refused" s_law_refused f fd) (c_least : CalKw P w K mg base 5 "least" ["spans", "room"] (spLst C CM)) (c_worth : CalKw P w K mg base 5 "worth" ["spans", "room", "prices"] (spWorth C CM CP)) (X : OuX K mg C CM CP) (rng : mg "range" = none) : FnOk P w K mg base CX0 6 f fd ["_law_spans_here", "_law_room", "_law_prices_here"] (spRefd C CM CP) := by
  obtain ⟨f1, fd1, g1, k1, b1, kb1, G1⟩ := c_least
  obtain ⟨f2, fd2, g2, k2, b2, kb2, G2⟩ := c_worth
  refine F.ok sc__law_refused (fun vs H Q E h => ?_) (fun cdv A outer s H vs Q E hr h => ?_)
  · obtain ⟨x, y, z, o1, o2, rfl, _⟩ := h
    rfl
  · obtain ⟨x, y, z, o1, o2, rfl, hw1, hw2, k⟩ := h
    have nd := sc__law_refused.nd
    apply Exists.intro
    apply And.intro
    case left =>
     apply PSs.nox
     apply pss_cons
     · exact ps_set (i := 3) nd rfl (.inl rfl) (pe_lst pa_nil)
     apply pss_cons
     · apply ps_for PassesOwn.never rfl
       · exact (pi_range1 (by rfl) rng (pa_cons pe_int pa_nil))
       · exact (pg_name (i := 4) nd rfl (Or.inl rfl))
       · apply pss_cons
         · exact ps_set (i := 5) nd rfl (.inl rfl) pe_non
         apply C8.pss_cut
         · refine ps_try_mix (X := (cxOf CX0 P w K mg base ["_law_spans_here", "_law_room", "_law_prices_here", "_law_found", "_law_k", "_law_word", "error"] "_law_refused" (defScope s_law_refused) f cdv A outer s H E).nox) (l := hRefd K C CM CP) (tb := tRefd C CM CP) (Wout := fun _ _ _ _ => False)
             rfl rfl nd LamX.takes0 (fun W pn xe tk _ => ?_) ?_
           · exact pss_one (ps_if (pt_cmpR op_eq (pv 4) pe_int (nomark _))
               (pss_one (ps_expr (pe_callS G2 (hr.mono (by decide)) rfl g2 k2 b2 (fun σ => passAt (takes_lenN 7 tk rfl) σ) (pa_cons (pv 0) (pa_cons (pv 1) (pa_cons (pv 2) pa_nil))))))
               (pss_one (ps_expr (pe_callS G1 (hr.mono (by decide)) rfl g1 k1 b1 (fun σ => passAt (takes_lenN 7 tk rfl) σ) (pa_cons (pv 0) (pa_cons (pv 1) pa_nil))))))
           · exact .named rfl rfl ⟨rfl, by decide, .inl X.gS⟩ (fun a oe cls d pn hz hv => pss_one (ps_set (i := 5) nd rfl (.inl rfl) (pe_tup (pa_cons pe_str (pa_cons (pe_exS hz hv (pv 6)) pa_nil)))))
               (.bare ⟨rfl, by decide, .inl X.gM⟩ (fun a oe cls d pn hz hv => pss_one (ps_set (i := 5) nd rfl (.inl rfl) pe_str))
               (.bare ⟨rfl, by decide, .inl X.gP⟩ (fun a oe cls d pn hz hv => pss_one (ps_set (i := 5) nd rfl (.inl rfl) pe_str)) .nil))
         apply pss_one
         exact ps_expr (pe_bm PySem.F.plainAttrs_list PySem.F.slot_list_append PySem.F.type_list_append mt_append (pv 3) (pa_cons (pv 5) pa_nil))
     apply pss_one
     exact ps_ret (pv 3)
    case right =>
      refine ⟨(show 0 ≤ sizeLine by decide), fun D hD => ⟨2, rfl, by decide, by decide, ?_⟩⟩
      refine for_range (lo := 0) (n := Int.toNat 2) (fun j σ H' => ∃ (acc : List V) (v4 v5 v6 : Option V), σ = [some x, some y, some z, some (.ref D), v4, v5, v6] ∧ Same H H' ∧ H' D = some (.lst acc) ∧ DtA (fun a => H a = none ∧ a ≠ D) H' acc (([o1.data, o2.data] : List PyData).take j)) ⟨[], none, none, none, rfl, same_new hD, upd_same, .nil⟩ ?_ ?_
      · rintro j σ H1 hj ⟨acc, v4, v5, v6, rfl, sj, ej, Aj⟩
        have hj : j < 2 := hj
        have la := Aj.length
        obtain ⟨oj, hoj⟩ : ∃ oj : Ou, ([o1.data, o2.data] : List PyData)[j]? = some oj.data ∧ ((j = 0 ∧ oj = o1) ∨ (j = 1 ∧ oj = o2)) := by
          obtain rfl | rfl : j = 0 ∨ j = 1 := by omega
          · exact ⟨o1, rfl, .inl ⟨rfl, rfl⟩⟩
          · exact ⟨o2, rfl, .inr ⟨rfl, rfl⟩⟩
        obtain ⟨hd, hoj⟩ := hoj
        refine ⟨fun σ H' => ∃ (v : V) (v6 : Option V), σ = [some x, some y, some z, some (.ref D), some (.int (0 + (j : Int))), some v, v6] ∧ Same H1 H' ∧ Dt (fun a => H1 a = none) H' v oj.data, ?_, ?_⟩
        · rcases hoj with ⟨rfl, rfl⟩ | ⟨rfl, rfl⟩
          · refine ⟨_, rfl, rfl, _, rfl, ?_⟩
            rw [decide_eq_true (by rfl)]
            refine iteT ⟨_, rfl, _, rfl, _, rfl, ?_⟩
            refine hw1 _ _ _ sj (mix_out X (v6 := v6) oj ?_ rfl rfl)
            exact fun v v6 H' s' hv => ⟨v, v6, rfl, s', hv⟩
          · refine ⟨_, rfl, rfl, _, rfl, ?_⟩
            rw [decide_eq_false (by decide)]
            refine iteF ⟨_, rfl, _, rfl, ?_⟩
            refine hw2 _ _ _ sj (mix_out X (v6 := v6) oj ?_ rfl rfl)
            exact fun v v6 H' s' hv => ⟨v, v6, rfl, s', hv⟩
        · rintro σ H2 ⟨v, v6, rfl, s2, hv⟩
          have e2 := s2 _ _ ej
          refine ⟨_, rfl, .inl ⟨rfl, _, SqL.of e2⟩, _, rfl, D, acc, v, rfl, rfl, e2, ?_, ?_⟩
          · have := List.length_take_le' j ([o1.data, o2.data] : List PyData)
            exact Nat.lt_of_le_of_lt (show acc.length ≤ 2 by rw [la]; exact this) (by decide)
          · refine ⟨acc ++ [v], _, _, _, rfl, same_sub (sj.trans s2) hD, upd_same, ?_⟩
            rw [take_snoc2 hd]
            exact (Aj.to fun b o g e => ⟨by rw [upd_ne g.2]; exact s2 _ _ e, g⟩).app (.cons (hv.to fun b o g e => by
              have n1 : b ≠ D := fun q => by rw [q, ej] at g; cases g
              exact ⟨by rw [upd_ne n1]; exact e, sj.free g, n1⟩) .nil)
      · rintro σ H' ⟨acc, v4, v5, v6, rfl, sj, ej, Aj⟩
        exact ⟨_, rfl, k _ D sj (.lst hD ej (Aj.to fun b o g e => ⟨e, g.1⟩))⟩
end
/-! ## data as they are written in a text -/
def sD (t : TE) (d : PyData) : Prop := ∀ (σ : L2.St) (H : Hp) (Q : VK), (∀ v H', Same H H' → Dt (fun a => H a = none) H' v d → Q v H') → t σ H Q
def sA (t : TA) (ds : List PyData) : Prop := ∀ (σ : L2.St) (H : Hp) (Q : List V → Hp → Prop), (∀ vs H', Same H H' → DtA (fun a => H a = none) H' vs ds → Q vs H') → t σ H Q
theorem sD_non : sD (tC .non) .none := fun _ _ _ k => k _ _ (Same.refl _) .non
theorem sD_bl {b : Bool} : sD (tC (.bl b)) (.bool b) := fun _ _ _ k => k _ _ (Same.refl _) (.bl b)
theorem sD_int {n : Int} : sD (tC (.int n)) (.int n) := fun _ _ _ k => k _ _ (Same.refl _) (.int n)
theorem sD_str {z : Str} : sD (tC (.str z)) (.str z) := fun _ _ _ k => k _ _ (Same.refl _) (.str z)
theorem sD_dic : sD tDNewK (.dict []) := fun _ _ _ k p hp => k _ _ (same_new hp) (.dic hp upd_same)
theorem sA_nil : sA tNil [] := fun _ _ _ k => k _ _ (Same.refl _) .nil
theorem sA_cons {t : TE} {ta : TA} {d : PyData} {ds : List PyData} (h1 : sD t d) (h2 : sA ta ds) : sA (tCons t ta) (d :: ds) := fun σ H _ k =>
  h1 σ H _ fun _ H1 s1 d1 => h2 σ H1 _ fun _ _ s2 d2 => k _ _ (s1.trans s2) (.cons (d1.same s2) (d2.to fun _ _ g e => ⟨e, s1.free g⟩))
theorem sD_tup {ta : TA} {ds : List PyData} (h : sA ta ds) (hl : ds.length ≤ sizeLine) : sD (tTup ta) (.tuple ds) := fun σ H _ k =>
  h σ H _ fun vs H1 s1 d1 => ⟨by rw [d1.length]; exact hl, fun _ hp => k _ _ (s1.trans (same_new hp)) (.tup (s1.free hp) upd_same (d1.same (same_new hp)))⟩
theorem sD_lst {ta : TA} {ds : List PyData} (h : sA ta ds) (hl : ds.length ≤ sizeLine) : sD (tLst ta) (.list ds) := fun σ H _ k =>
  h σ H _ fun vs H1 s1 d1 => ⟨by rw [d1.length]; exact hl, fun _ hp => k _ _ (s1.trans (same_new hp)) (.lst (s1.free hp) upd_same (d1.same (same_new hp)))⟩
theorem it_sD {K : PySem.W.Frag} {t : TE} {ds : List PyData} (h : sD t (.list ds)) {σ : L2.St} {H : Hp} {R : It → Hp → Prop}
    (k : ∀ (J : It) (G : Hp → Prop) (xs : List V) (H1 : Hp) (a : Addr), Walk J xs.length G (YAt xs) → (∀ H', H' a = H1 a → G H') → H a = none → Same H H1 → DtA (fun a => H a = none) H1 xs ds → R J H1) : iList K t σ H R :=
  h σ H _ fun v H1 s1 hv => by
    cases hv with
    | lst g e hA => exact ⟨_, rfl, ⟨_, SqL.of e⟩, k _ _ _ _ _ walk_list (fun H' s => SqL.of (s.trans e)) g s1 hA⟩
theorem sD_neg {n : Int} : sD (tUn (rU fun i => .int (-i)) (tC (.int n))) (.int (-n)) := fun _ _ _ k => ⟨n, rfl, k _ _ (Same.refl _) (.int (-n))⟩
theorem sD_rng {n : Nat} {k : Nat} {te : TE} {d : PyData} (hn : n ≤ 10000) (he : sD te d) : sD (tLc (iRng1 (tCons (tC (.int (n : Int))) tNil)) (gName k) tYes te [k]) (.list (List.replicate n d)) := fun σ H Q q => by
  refine ⟨(n : Int), rfl, by omega, by omega, fun D hD => ?_⟩
  refine lc_range (lo := 0) (n := Int.toNat (n : Int)) (fun j H' => Same H H' ∧ ∃ acc, H' D = some (.lst acc) ∧ DtA (fun b => H b = none ∧ b ≠ D) H' acc (List.replicate j d)) ⟨same_new hD, [], upd_same, .nil⟩ ?_ ?_
  · rintro j H1 hj ⟨sj, acc, ej, Aj⟩
    have la := Aj.length
    rw [List.length_replicate] at la
    refine ⟨?_, yesIf (he _ _ _ fun v H2 s2 hv => ?_)⟩
    · show ((σ.set k none).set k _).set k none = σ.set k none
      rw [List.set_set, List.set_set]
    · refine ⟨acc, s2 _ _ ej, Nat.lt_of_lt_of_le (show acc.length < 10000 by omega) (by decide), same_sub (sj.trans s2) hD, _, upd_same, ?_⟩
      rw [List.replicate_succ']
      exact (Aj.to fun b o g e => ⟨by rw [upd_ne g.2]; exact s2 _ _ e, g⟩).app (.cons (hv.to fun b o g e => by
        have n1 : b ≠ D := fun z => by rw [z, ej] at g; cases g
        exact ⟨by rw [upd_ne n1]; exact e, sj.free g, n1⟩) .nil)
  · rintro H1 ⟨sj, acc, ej, Aj⟩
    rw [Int.toNat_natCast] at Aj
    exact q _ _ sj (.lst hD ej (Aj.to fun b o g e => ⟨e, g.1⟩))
theorem pick_sD {K : PySem.W.Frag} {i t : Nat} {d : Addr} {V0 H : Hp} {σ : L2.St} {Q : VK} {te : TE} (ds : List PyData) (h : sD te (.list ds)) (hσ : σ[i]? = some (some (.ref d))) (hD : Dw t V0 H d) (ht : t < T40) (l0 : 0 < ds.length) (l1 : ds.length ≤ 1000)
    (k : ∀ v dd H' V', dd ∈ ds → Dw (t + 1) V' H' d → Same V0 V' → Dt anyA V' v dd → Q v H') : tCall (spPick K) [] C8.E0 (tCons (tVar i) (tCons te tNil)) σ H Q := by
  refine ⟨_, hσ, h σ H _ fun v H1 s1 hv => ?_⟩
  cases hv with
  | @lst a xs _ g e A =>
    obtain ⟨V1, D1, y1, gv⟩ := hD.grow s1
    have eV := gv _ _ g e
    have AV : DtA anyA V1 xs ds := A.to fun b o gb eb => ⟨gv b o gb eb, trivial⟩
    have la := AV.length
    refine ⟨t, V1, d, .ref a, xs, rfl, D1, ht, .lst (SqL.of eV), by omega, by omega, fun v H' hv D2 => ?_⟩
    obtain ⟨j, hj⟩ := List.mem_iff_getElem?.mp hv
    obtain ⟨dd, hdd, hy⟩ := AV.at hj
    exact k v dd H' V1 (List.mem_of_getElem? hdd) D2 y1 hy
/-! ## k57's law: what is wrong -/
def oddL : List PyData := [.tuple [.int 2, .int 1, .int 0], .tuple [.int 0, .int 1000, .int 1], .tuple [.int (-1), .int 0, .int 1], .tuple [.int 0, .int 1, .int (-1)], .tuple [.int 0, .int 1], .tuple [.int 0, .int 1, .int 2, .int 3], .list [.int 0, .int 1, .int 2], .none, .tuple [.bool true, .int 1, .int 1], .tuple [.int 0, .bool true, .int 1], .tuple [.int 0, .int 1, .bool false], .tuple [.str "0", .int 1, .int 1], .tuple [.int 0, .none, .int 1], .int 5, .str ""]
theorem seq_asg {te : TE} {g : TG} {u : TS} {D : Ends} {σ : L2.St} {H : Hp} (k : te σ H fun v H1 => g v σ H1 fun σ2 H2 => u D σ2 H2) : tSeq (tAsg te g) u D σ H := k
theorem odd_no : ∀ d ∈ oddL, spanD d = false := by
  intro d hd
  have h : (oddL.all fun d => !spanD d) = true := by decide +kernel
  simpa using List.all_eq_true.mp h d hd
def roomL : List PyData := [.int (-1), .int 21, .bool true, .none, .str "1", .tuple [.int 1]]
theorem room_bad {H : Hp} {v : V} {d : PyData} (h : Dt anyA H v d) (hd : d ∈ roomL) : BadRoomV H v := by
  unfold roomL at hd
  simp only [List.mem_cons, List.not_mem_nil, or_false] at hd
  rcases hd with rfl | rfl | rfl | rfl | rfl | rfl <;> cases h
  · exact .inl ⟨_, rfl, .inl (by decide)⟩
  · exact .inl ⟨_, rfl, .inr (by decide)⟩
  · exact .inr (.bl _)
  · exact .inr .non
  · exact .inr (.str _)
  · rename_i e _
    exact .inr (.tup e)
def priceL : List PyData := [.none, .int 5, .list [.int (-1)], .list [.int 0, .bool true], .list [.int 0, .none], .list [.str "1"], .dict [], .list (List.replicate 1001 (.int 0)), .str "00"]
theorem price_bad {H : Hp} {v : V} {d : PyData} (h : Dt anyA H v d) (hd : d ∈ priceL) : NsV H v ∨ ∃ a xs ds, v = .ref a ∧ SeqH H a xs ∧ DtA anyA H xs ds ∧ (1000 < ds.length ∨ ∃ d ∈ ds, f0D d = false) := by
  unfold priceL at hd
  generalize hL : List.replicate 1001 (PyData.int 0) = L at hd
  simp only [List.mem_cons, List.not_mem_nil, or_false] at hd
  rcases hd with rfl | rfl | rfl | rfl | rfl | rfl | rfl | rfl | rfl <;> cases h
  · exact .inl .non
  · exact .inl (.int _)
  · rename_i e A
    exact .inr ⟨_, _, _, rfl, .inl e, A, .inr ⟨.int (-1), by simp, rfl⟩⟩
  · rename_i e A
    exact .inr ⟨_, _, _, rfl, .inl e, A, .inr ⟨.bool true, by simp, rfl⟩⟩
  · rename_i e A
    exact .inr ⟨_, _, _, rfl, .inl e, A, .inr ⟨.none, by simp, rfl⟩⟩
  · rename_i e A
    exact .inr ⟨_, _, _, rfl, .inl e, A, .inr ⟨.str "1", by simp, rfl⟩⟩
  · rename_i e
    exact .inl (.dic e)
  · rename_i e A
    exact .inr ⟨_, _, _, rfl, .inl e, A, .inl (by rw [← hL, List.length_replicate]; decide)⟩
  · exact .inl (.str _)
def manyL : List PyData := [.none, .int 7, .dict [], .str "", .list (List.replicate 401 (.tuple [.int 0, .int 0, .int 0]))]
theorem many_bad {H : Hp} {v : V} {d : PyData} (h : Dt anyA H v d) (hd : d ∈ manyL) : NsV H v ∨ ∃ a xs ds, v = .ref a ∧ SeqH H a xs ∧ DtA anyA H xs ds ∧ 400 < ds.length := by
  unfold manyL at hd
  generalize hL : List.replicate 401 (PyData.tuple [.int 0, .int 0, .int 0]) = L at hd
  simp only [List.mem_cons, List.not_mem_nil, or_false] at hd
  rcases hd with rfl | rfl | rfl | rfl | rfl <;> cases h
  · exact .inl .non
  · exact .inl (.int _)
  · rename_i e
    exact .inl (.dic e)
  · exact .inl (.str _)
  · rename_i e A
    exact .inr ⟨_, _, _, rfl, .inl e, A, by rw [← hL, List.length_replicate]; decide⟩
theorem Dw.keep {t : Nat} {V0 H H1 : Hp} {d : Addr} (h : Dw t V0 H d) (e : Same H H1) : Dw t V0 H1 d := by
  obtain ⟨V', D, y, _⟩ := h.grow e
  exact D.less y
theorem DtA.takeM {G : Addr → Prop} {H : Hp} : ∀ {ds : List PyData} {xs : List V} (n : Nat), DtA G H xs ds → DtA G H (xs.take n) (ds.take n)
  | _, _, 0, _ => by rw [List.take_zero, List.take_zero]; exact .nil
  | _, _, _ + 1, .nil => .nil
  | _, _, n + 1, .cons a h => .cons a (h.takeM n)
theorem DtA.dropM {G : Addr → Prop} {H : Hp} : ∀ {ds : List PyData} {xs : List V} (n : Nat), DtA G H xs ds → DtA G H (xs.drop n) (ds.drop n)
  | _, _, 0, h => h
  | _, _, _ + 1, .nil => .nil
  | _, _, n + 1, .cons a h => h.dropM n
theorem cut_to (xs : List V) {n : Nat} (h : n ≤ xs.length) : cutV xs none (some (n : Int)) = xs.take n := by
  unfold cutV
  rw [HT.sIx_nat, Nat.min_eq_left h]
  show (xs.drop 0).take (n - 0) = _
  rw [List.drop_zero, Nat.sub_zero]
theorem cut_from (xs : List V) {n : Nat} (h : n ≤ xs.length) : cutV xs (some (n : Int)) none = xs.drop n := by
  unfold cutV
  rw [HT.sIx_nat, Nat.min_eq_left h]
  show (xs.drop n).take (xs.length - n) = _
  rw [← List.length_drop, List.take_length]
/-- a list that is wrong at a place -/
def WrV (V0 : Hp) (wp : Addr) (m : Nat) : Prop := ∃ (ws : List V) (ds : List PyData) (od : PyData), V0 wp = some (.lst ws) ∧ DtA anyA V0 ws ds ∧ ds.length ≤ 16 ∧ ds[m]? = some od ∧ spanD od = false ∧ ∀ j, j < m → ∀ e, ds[j]? = some e → spanD e = true
theorem wr_at {sp : List F57.Span} {m : Nat} {dd dk : PyData} (hm : m ≤ sp.length) : ((((sp.map spD).take m ++ [dd]) ++ (sp.map spD).drop m) ++ [dk])[m]? = some dd := by
  have l : ((sp.map spD).take m).length = m := by rw [List.length_take, List.length_map]; omega
  rw [List.append_assoc, List.append_assoc, List.getElem?_append_right (by omega), l, Nat.sub_self]
  rfl
theorem wr_ahead {sp : List F57.Span} {m : Nat} {dd dk : PyData} (hm : m ≤ sp.length) (ok : SpOk sp) {j : Nat} (hj : j < m) {e : PyData} (h : ((((sp.map spD).take m ++ [dd]) ++ (sp.map spD).drop m) ++ [dk])[j]? = some e) : spanD e = true := by
  have l : ((sp.map spD).take m).length = m := by rw [List.length_take, List.length_map]; omega
  rw [List.append_assoc, List.append_assoc, List.getElem?_append_left (by omega)] at h
  exact spans_all ok e (List.take_subset _ _ (List.mem_of_getElem? h))
theorem layb_str {z : Str} (h : (z.cps.toList.all fun c => decide (c < 128)) = true) : LayB 0 (.str z) := by
  refine ⟨?_, by simp only [PyData.depth]; exact Nat.le_refl _⟩
  simp only [PyData.canLay0, PyData.strOk]
  rw [← Array.all_toList]
  exact List.all_eq_true.mpr fun c hc => decide_eq_true (Nat.lt_of_lt_of_le (of_decide_eq_true (List.all_eq_true.mp h c hc)) (by decide))
theorem layb_non : LayB 0 .none := ⟨by simp only [PyData.canLay0], by simp only [PyData.depth]; exact Nat.le_refl _⟩
theorem LayB.mono {k k' : Nat} {d : PyData} (h : LayB k d) (hk : k ≤ k') : LayB k' d := ⟨h.lay, Nat.le_trans h.dep hk⟩
theorem layb_out (o : Ou) : LayB 1 o.data := by
  cases o with
  | ok => exact layb_non.mono (by decide)
  | room => exact (layb_str (by decide +kernel)).mono (by decide)
  | prices => exact (layb_str (by decide +kernel)).mono (by decide)
  | spans o =>
    refine layb_tup fun d hd => ?_
    simp only [List.mem_cons, List.not_mem_nil, or_false] at hd
    rcases hd with rfl | rfl
    · exact layb_str (by decide +kernel)
    · cases o with
      | none => exact layb_non
      | some i => exact layb_int _
theorem layb_outs (o1 o2 : Ou) : LayB 2 (.list [o1.data, o2.data]) := layb_lst fun d hd => by
  simp only [List.mem_cons, List.not_mem_nil, or_false] at hd
  rcases hd with rfl | rfl <;> exact layb_out _
theorem ne_same {K : PySem.W.Frag} {H2 : Hp} {x y : V} {G1 G2 : Addr → Prop} {o1 o2 : Ou} (h1 : Dt G1 H2 x (.list [o1.data, o2.data])) (h2 : Dt G2 H2 y (.list [o1.data, o2.data])) {R : VK} (r : R (.bl false) H2) : rNeD K x y H2 R := by
  have l := layb_outs o1 o2
  refine ⟨_, _, h1.dp l.lay, h2.dp l.lay, l.shp (by decide), l.shp (by decide), ?_⟩
  rw [PySem.SeqAt.eqv_refl _ l.lay]
  exact r
theorem eq_same {K : PySem.W.Frag} {H2 : Hp} {x y : V} {G1 G2 : Addr → Prop} {o1 o2 : Ou} (h1 : Dt G1 H2 x (.list [o1.data, o2.data])) (h2 : Dt G2 H2 y (.list [o1.data, o2.data])) {R : VK} (r : R (.bl true) H2) : rEqD K x y H2 R := by
  have l := layb_outs o1 o2
  refine ⟨_, _, h1.dp l.lay, h2.dp l.lay, l.shp (by decide), l.shp (by decide), ?_⟩
  rw [PySem.SeqAt.eqv_refl _ l.lay]
  exact r
theorem wr_spr {C CM : Addr} {V0 H1 : Hp} {wp : Addr} {m : Nat} {y : V} {E : XK} {k : List F57.Span → Nat → Addr → List V → Prop} (h : WrV V0 wp m) (s : Same V0 H1) (e : atE C (.int (m : Int)) H1 E) : SpR C CM (.ref wp) y H1 E k := by
  obtain ⟨ws, ds, od, e1, A, hl, h1, h2, h3⟩ := h
  exact .inr ⟨wp, ws, ds, rfl, .inl (s _ _ e1), A.same s, .inr ⟨by omega, .inl ⟨m, od, h1, h2, h3, e⟩⟩⟩
/-- no list of spans at all -/
def ManyV (H : Hp) (v : V) : Prop := NsV H v ∨ ∃ a xs ds, v = .ref a ∧ SeqH H a xs ∧ DtA anyA H xs ds ∧ 400 < ds.length
theorem many_spr {C CM : Addr} {V0 H1 : Hp} {x y : V} {E : XK} {k : List F57.Span → Nat → Addr → List V → Prop} (h : ManyV V0 x) (s : Same V0 H1) (e : atE C .non H1 E) : SpR C CM x y H1 E k := by
  rcases h with h | ⟨a, xs, ds, rfl, hS, hA, hl⟩
  · exact .inl ⟨h.same s, e⟩
  · exact .inr ⟨a, xs, ds, rfl, hS.same s, hA.same s, .inl ⟨hl, e⟩⟩
theorem room_spr {C CM : Addr} {V0 H1 : Hp} {a : Addr} {xs : List V} {sp : List F57.Span} {y : V} {E : XK} {k : List F57.Span → Nat → Addr → List V → Prop} (eS : V0 a = some (.lst xs)) (hA : DtA anyA V0 xs (sp.map spD)) (ok : SpOk sp) (h : BadRoomV V0 y) (s : Same V0 H1) (e : ∀ H', Same H1 H' → E (.ref CM) none H') : SpR C CM (.ref a) y H1 E k :=
  .inr ⟨a, xs, sp.map spD, rfl, .inl (s _ _ eS), hA.same s, .inr ⟨by rw [List.length_map]; exact ok.ln, .inr ⟨spans_all ok, .inl ⟨h.same s, e⟩⟩⟩⟩
theorem ok_spr {C CM : Addr} {H1 : Hp} {a : Addr} {xs : List V} {sp : List F57.Span} {room : Nat} {E : XK} {k : List F57.Span → Nat → Addr → List V → Prop} (hS : SeqH H1 a xs) (hA : DtA anyA H1 xs (sp.map spD)) (ok : SpOk sp) (h14 : sp.length ≤ 14) (h20 : room ≤ 20) (q : k sp room a xs) : SpR C CM (.ref a) (.int (room : Int)) H1 E k :=
  .inr ⟨a, xs, sp.map spD, rfl, hS, hA, .inr ⟨by rw [List.length_map]; exact ok.ln, .inr ⟨spans_all ok, .inr ⟨room, rfl, h20, sp, rfl, ok, by omega, q⟩⟩⟩⟩
/-- no prices -/
def PrBad (H : Hp) (v : V) : Prop := NsV H v ∨ ∃ a xs ds, v = .ref a ∧ SeqH H a xs ∧ DtA anyA H xs ds ∧ (1000 < ds.length ∨ ∃ d ∈ ds, f0D d = false)
theorem bad_prr {CP : Addr} {V0 H1 : Hp} {z : V} {E : XK} {k : List Int → Addr → List V → Prop} (h : PrBad V0 z) (s : Same V0 H1) (e : ∀ H', Same H1 H' → E (.ref CP) none H') : PrR CP z H1 E k := by
  rcases h with h | ⟨a, xs, ds, rfl, hS, hA, hl⟩
  · exact .inl ⟨h.same s, e⟩
  · exact .inr ⟨a, xs, ds, rfl, hS.same s, hA.same s, .inl ⟨hl, e⟩⟩
def spRefR : Sp := fun vs H Q _ => ∃ (t : Nat) (V0 : Hp) (d a b : Addr) (xs : List V) (sp : List F57.Span) (room : Nat) (ps : List Int), vs = [.ref d, .ref a, .int (room : Int), .ref b] ∧ Dw t V0 H d ∧ t + 100 < T40 ∧ V0 a = some (.lst xs) ∧ DtA anyA V0 xs (sp.map spD) ∧ SpOk sp ∧ sp.length ≤ 14 ∧ room ≤ 20 ∧ V0 b = some (.lst (ps.map V.int)) ∧ ps.length ≤ 1000 ∧ (∀ p ∈ ps, 0 ≤ p) ∧
  ∀ H', Dw (t + 10) V0 H' d → Q (.bl true) H'
section
variable {P : Program} {w : World} {K : PySem.W.Frag} {mg : Str → Option Value} {base : Heap}
theorem sc__law_refusals_right : FnScope ["_law_draw", "_law_spans_here", "_law_room", "_law_prices_here", "_law_at", "_law_odd", "_law_wrong", "_law_bad_room", "_law_bad_prices", "_law_k", "_law_many"] ["_law_draw", "_law_spans_here", "_law_room", "_law_prices_here"] (defScope s_law_refusals_right) := ⟨rfl, rfl, rfl, by decide +kernel, rfl, by decide +kernel, by decide +kernel⟩
theorem ok_lrefR {f C CM CP : Addr} {fd : FuncData} (F : FnP K "_law_refusals_right" s_law_refusals_right f fd) (c__law_take : Cal P w K mg base 2 "_law_take" ["_law_draw", "_law_many"] spTake) (c__law_pick : Cal P w K mg base 3 "_law_pick" ["_law_draw", "_law_some"] (spPick K)) (c__law_refused : Cal P w K mg base 6 "_law_refused" ["_law_spans_here", "_law_room", "_law_prices_here"] (spRefd C CM CP)) (G : NkF K mg) (rng : mg "range" = none) (tup : mg "tuple" = none) : FnOk P w K mg base CX0 7 f fd ["_law_draw", "_law_spans_here", "_law_room", "_law_prices_here"] spRefR := by
  obtain ⟨f__law_take, fd__law_take, g__law_take, k__law_take, b__law_take, G__law_take⟩ := c__law_take
  obtain ⟨f__law_pick, fd__law_pick, g__law_pick, k__law_pick, b__law_pick, G__law_pick⟩ := c__law_pick
  obtain ⟨f__law_refused, fd__law_refused, g__law_refused, k__law_refused, b__law_refused, G__law_refused⟩ := c__law_refused
  refine F.ok sc__law_refusals_right (fun vs H Q E h => ?_) (fun cdv A outer s H vs Q E hr h => ?_)
  · obtain ⟨t, V0, d, a, b, xs, sp, room, ps, rfl, _⟩ := h
    rfl
  · obtain ⟨t, V0, d, a, b, xs, sp, room, ps, rfl, hD, ht, eS, hA, ok, h14, h20, eP, hps, pos, k⟩ := h
    have ht : t + 100 < 1099511627776 := ht
    have nd := sc__law_refusals_right.nd
    apply Exists.intro
    apply And.intro
    case left =>
     apply PSs.nox
     apply pss_cons
     · exact (ps_set (i := 4) nd rfl (.inl rfl) (pe_call G__law_take (hr.mono (by decide)) rfl g__law_take k__law_take b__law_take .nil pass0 (pa_cons (pv 0) (pa_cons (pe_op op_add (pe_callB call_len (by rfl) G.len PySem.boot_len (pa_cons (pv 1) pa_nil)) pe_int) pa_nil))))
     apply pss_cons
     · exact (ps_set (i := 5) nd rfl (.inl rfl) (pe_call G__law_pick (hr.mono (by decide)) rfl g__law_pick k__law_pick b__law_pick .nil pass0 (pa_cons (pv 0) (pa_cons (pe_lst (pa_cons (pe_tup (pa_cons pe_int (pa_cons pe_int (pa_cons pe_int pa_nil)))) (pa_cons (pe_tup (pa_cons pe_int (pa_cons pe_int (pa_cons pe_int pa_nil)))) (pa_cons (pe_tup (pa_cons (pe_un un_neg pe_int) (pa_cons pe_int (pa_cons pe_int pa_nil)))) (pa_cons (pe_tup (pa_cons pe_int (pa_cons pe_int (pa_cons (pe_un un_neg pe_int) pa_nil)))) (pa_cons (pe_tup (pa_cons pe_int (pa_cons pe_int pa_nil))) (pa_cons (pe_tup (pa_cons pe_int (pa_cons pe_int (pa_cons pe_int (pa_cons pe_int pa_nil))))) (pa_cons (pe_lst (pa_cons pe_int (pa_cons pe_int (pa_cons pe_int pa_nil)))) (pa_cons pe_non (pa_cons (pe_tup (pa_cons pe_bl (pa_cons pe_int (pa_cons pe_int pa_nil)))) (pa_cons (pe_tup (pa_cons pe_int (pa_cons pe_bl (pa_cons pe_int pa_nil)))) (pa_cons (pe_tup (pa_cons pe_int (pa_cons pe_int (pa_cons pe_bl pa_nil)))) (pa_cons (pe_tup (pa_cons pe_str (pa_cons pe_int (pa_cons pe_int pa_nil)))) (pa_cons (pe_tup (pa_cons pe_int (pa_cons pe_non (pa_cons pe_int pa_nil)))) (pa_cons pe_int (pa_cons pe_str pa_nil)))))))))))))))) pa_nil))))
     apply C8.pss_cut
     · exact (ps_set (i := 6) nd rfl (.inl rfl) (pe_op op_cat (pe_op op_cat (pe_op op_cat (pe_slice sl_list (pv 1) po_none (po_some (pv 4))) (pe_lst (pa_cons (pv 5) pa_nil))) (pe_slice sl_list (pv 1) (po_some (pv 4)) po_none)) (pe_lst (pa_cons (pe_call G__law_pick (hr.mono (by decide)) rfl g__law_pick k__law_pick b__law_pick .nil pass0 (pa_cons (pv 0) (pa_cons (pe_lst (pa_cons pe_non (pa_cons (pe_tup (pa_cons pe_int (pa_cons pe_int (pa_cons pe_int pa_nil)))) pa_nil))) pa_nil))) pa_nil))))
     apply pss_cons
     · exact (ps_set (i := 7) nd rfl (.inl rfl) (pe_call G__law_pick (hr.mono (by decide)) rfl g__law_pick k__law_pick b__law_pick .nil pass0 (pa_cons (pv 0) (pa_cons (pe_lst (pa_cons (pe_un un_neg pe_int) (pa_cons pe_int (pa_cons pe_bl (pa_cons pe_non (pa_cons pe_str (pa_cons (pe_tup (pa_cons pe_int pa_nil)) pa_nil))))))) pa_nil))))
     apply C8.pss_cut
     · exact (ps_set (i := 8) nd rfl (.inl rfl) (pe_call G__law_pick (hr.mono (by decide)) rfl g__law_pick k__law_pick b__law_pick .nil pass0 (pa_cons (pv 0) (pa_cons (pe_lst (pa_cons pe_non (pa_cons pe_int (pa_cons (pe_lst (pa_cons (pe_un un_neg pe_int) pa_nil)) (pa_cons (pe_lst (pa_cons pe_int (pa_cons pe_bl pa_nil))) (pa_cons (pe_lst (pa_cons pe_int (pa_cons pe_non pa_nil))) (pa_cons (pe_lst (pa_cons pe_str pa_nil)) (pa_cons pe_dnewK (pa_cons (pe_lc (own := [("_law_k", 9)]) (g := gName 9) rfl nd (pi_range1 (by rfl) rng (pa_cons pe_int pa_nil)) (blkOk_by (own := [("_law_k", 9)]) (N := ["_law_draw", "_law_spans_here", "_law_room", "_law_prices_here", "_law_at", "_law_odd", "_law_wrong", "_law_bad_room", "_law_bad_prices", "_law_k", "_law_many"]) (sc := defScope s_law_refusals_right) (by decide +kernel)) (fun _ _ _ _ _ => (pg_name (i := 9) nd rfl (Or.inl rfl))) (fun _ _ _ _ _ => pts_nil) (fun _ _ _ _ _ => pe_int)) (pa_cons pe_str pa_nil)))))))))) pa_nil))))
     apply C8.pss_cut
     · exact (ps_if (pt_cmpR (op_neD hr.units) (pe_call G__law_refused (hr.mono (by decide)) rfl g__law_refused k__law_refused b__law_refused .nil pass0 (pa_cons (pv 6) (pa_cons (pv 7) (pa_cons (pv 8) pa_nil)))) (pe_lst (pa_cons (pe_tup (pa_cons pe_str (pa_cons (pv 4) pa_nil))) (pa_cons (pe_tup (pa_cons pe_str (pa_cons (pv 4) pa_nil))) pa_nil))) (nomark _)) (pss_one (ps_ret pe_bl)) pss_nil)
     apply pss_cons
     · exact (ps_set (i := 10) nd rfl (.inl rfl) (pe_call G__law_pick (hr.mono (by decide)) rfl g__law_pick k__law_pick b__law_pick .nil pass0 (pa_cons (pv 0) (pa_cons (pe_lst (pa_cons pe_non (pa_cons pe_int (pa_cons pe_dnewK (pa_cons pe_str (pa_cons (pe_lc (own := [("_law_k", 9)]) (g := gName 9) rfl nd (pi_range1 (by rfl) rng (pa_cons pe_int pa_nil)) (blkOk_by (own := [("_law_k", 9)]) (N := ["_law_draw", "_law_spans_here", "_law_room", "_law_prices_here", "_law_at", "_law_odd", "_law_wrong", "_law_bad_room", "_law_bad_prices", "_law_k", "_law_many"]) (sc := defScope s_law_refusals_right) (by decide +kernel)) (fun _ _ _ _ _ => (pg_name (i := 9) nd rfl (Or.inl rfl))) (fun _ _ _ _ _ => pts_nil) (fun _ _ _ _ _ => (pe_tup (pa_cons pe_int (pa_cons pe_int (pa_cons pe_int pa_nil)))))) pa_nil)))))) pa_nil))))
     apply C8.pss_cut
     · exact (ps_if (pt_cmpR (op_neD hr.units) (pe_call G__law_refused (hr.mono (by decide)) rfl g__law_refused k__law_refused b__law_refused .nil pass0 (pa_cons (pv 10) (pa_cons (pv 7) (pa_cons (pv 3) pa_nil)))) (pe_lst (pa_cons (pe_tup (pa_cons pe_str (pa_cons pe_non pa_nil))) (pa_cons (pe_tup (pa_cons pe_str (pa_cons pe_non pa_nil))) pa_nil))) (nomark _)) (pss_one (ps_ret pe_bl)) pss_nil)
     apply C8.pss_cut
     · exact (ps_if (pt_cmpR (op_neD hr.units) (pe_call G__law_refused (hr.mono (by decide)) rfl g__law_refused k__law_refused b__law_refused .nil pass0 (pa_cons (pv 1) (pa_cons (pv 7) (pa_cons (pv 8) pa_nil)))) (pe_lst (pa_cons pe_str (pa_cons pe_str pa_nil))) (nomark _)) (pss_one (ps_ret pe_bl)) pss_nil)
     apply C8.pss_cut
     · exact (ps_if (pt_cmpR (op_neD hr.units) (pe_call G__law_refused (hr.mono (by decide)) rfl g__law_refused k__law_refused b__law_refused .nil pass0 (pa_cons (pv 1) (pa_cons (pv 2) (pa_cons (pv 8) pa_nil)))) (pe_lst (pa_cons pe_str (pa_cons pe_non pa_nil))) (nomark _)) (pss_one (ps_ret pe_bl)) pss_nil)
     apply pss_one
     exact (ps_ret (pe_cmpR (op_eqD hr.units) (pe_call G__law_refused (hr.mono (by decide)) rfl g__law_refused k__law_refused b__law_refused .nil pass0 (pa_cons (pe_callTy call_tuple_of (by rfl) tup (by decide +kernel) (pa_cons (pv 1) pa_nil)) (pa_cons (pv 2) (pa_cons (pe_callTy call_tuple_of (by rfl) tup (by decide +kernel) (pa_cons (pv 3) pa_nil)) pa_nil)))) (pe_lst (pa_cons pe_non (pa_cons pe_non pa_nil))) (nomark _)))
    case right =>
      have lx := hA.length
      rw [List.length_map] at lx
      refine ⟨_, rfl, _, rfl, _, _, rfl, .inl ⟨_, SqL.of (hD.same _ _ eS), rfl⟩, _, _, rfl, rfl, ?_⟩
      refine ⟨t, V0, d, _, rfl, hD, by show t < 1099511627776; omega, by omega, by omega, fun z H1 z0 z1 D1 => ?_⟩
      obtain ⟨m, rfl⟩ : ∃ m : Nat, z = (m : Int) := ⟨z.toNat, by omega⟩
      have hm : m ≤ sp.length := by omega
      refine pick_sD oddL ?hodd rfl D1 (by show t + 1 < 1099511627776; omega) (show 0 < 15 by decide) (show 15 ≤ 1000 by decide) fun od dd H2 V2 hdd D2 y2 hod => ?_
      case hodd =>
        unfold oddL
        exact sD_lst (by repeat' (first | exact sA_nil | exact sD_non | exact sD_bl | exact sD_int | exact sD_str | exact sD_dic | exact sD_neg | refine sA_cons ?_ ?_ | refine sD_tup ?_ (by decide) | refine sD_lst ?_ (by decide))) (show 15 ≤ sizeLine by decide)
      have hno := odd_no dd hdd
      refine ⟨fun σ H' => ∃ (V' : Hp) (wp : Addr), σ = [some (.ref d), some (.ref a), some (.int (room : Int)), some (.ref b), some (.int (m : Int)), some od, some (.ref wp), none, none, none, none] ∧ Dw (t + 3) V' H' d ∧ Same V0 V' ∧ WrV V' wp m, ?_, ?_⟩
      · have eS2 := y2 _ _ eS
        refine ⟨_, rfl, _, rfl, _, rfl, a, xs, rfl, SqL.of (D2.same _ _ eS2), fun p1 hp1 => ?_⟩
        rw [cut_to xs (by omega)]
        obtain ⟨Va, Da, ya, ea⟩ := D2.mk (o := .lst (xs.take m)) hp1
        generalize upd H2 p1 (.lst (xs.take m)) = Ha at Da ⊢
        refine ⟨_, rfl, (show 1 ≤ sizeLine by decide), fun p2 hp2 => ?_⟩
        obtain ⟨Vb, Db, yb, eb⟩ := Da.mk (o := .lst [od]) hp2
        generalize upd Ha p2 (.lst [od]) = Hb at Db ⊢
        refine ⟨p1, p2, _, _, rfl, rfl, Db.same _ _ (yb _ _ ea), Db.same _ _ eb, ?_, fun p3 hp3 => ?_⟩
        · rw [List.length_take]
          exact Nat.le_trans (show min m xs.length + 1 ≤ 15 by omega) (by decide)
        obtain ⟨Vc, Dc, yc, ec⟩ := Db.mk (o := .lst (xs.take m ++ [od])) hp3
        generalize upd Hb p3 (.lst (xs.take m ++ [od])) = Hc at Dc ⊢
        have eSc := yc _ _ (yb _ _ (ya _ _ eS2))
        refine ⟨_, rfl, _, rfl, _, rfl, a, xs, rfl, SqL.of (Dc.same _ _ eSc), fun p4 hp4 => ?_⟩
        rw [cut_from xs (by omega)]
        obtain ⟨Vd, Dd, yd, ed⟩ := Dc.mk (o := .lst (xs.drop m)) hp4
        generalize upd Hc p4 (.lst (xs.drop m)) = Hd at Dd ⊢
        refine ⟨p3, p4, _, _, rfl, rfl, Dd.same _ _ (yd _ _ ec), Dd.same _ _ ed, ?_, fun p5 hp5 => ?_⟩
        · rw [List.length_append, List.length_take, List.length_drop]
          exact Nat.le_trans (show min m xs.length + 1 + (xs.length - m) ≤ 16 by omega) (by decide)
        obtain ⟨Ve, De, ye, ee⟩ := Dd.mk (o := .lst (xs.take m ++ [od] ++ xs.drop m)) hp5
        generalize upd Hd p5 (.lst (xs.take m ++ [od] ++ xs.drop m)) = He at De ⊢
        refine pick_sD [.none, .tuple [.int 0, .int 0, .int 0]] ?hpk rfl De (by show t + 2 < 1099511627776; omega) (by decide) (by decide) fun pk dk Hf Vf hdk Df yf hpk => ?_
        case hpk => exact sD_lst (by repeat' (first | exact sA_nil | exact sD_non | exact sD_int | refine sA_cons ?_ ?_ | refine sD_tup ?_ (by decide))) (show 2 ≤ sizeLine by decide)
        refine ⟨(show 1 ≤ sizeLine by decide), fun p6 hp6 => ?_⟩
        obtain ⟨Vg, Dg, yg, eg⟩ := Df.mk (o := .lst [pk]) hp6
        generalize upd Hf p6 (.lst [pk]) = Hg at Dg ⊢
        refine ⟨p5, p6, _, _, rfl, rfl, Dg.same _ _ (yg _ _ (yf _ _ ee)), Dg.same _ _ eg, ?_, fun p7 hp7 => ?_⟩
        · rw [List.length_append, List.length_append, List.length_take, List.length_drop]
          exact Nat.le_trans (show min m xs.length + 1 + (xs.length - m) + 1 ≤ 17 by omega) (by decide)
        obtain ⟨Vh, Dh, yh, eh⟩ := Dg.mk (o := .lst (xs.take m ++ [od] ++ xs.drop m ++ [pk])) hp7
        have y2h := ya.trans (yb.trans (yc.trans (yd.trans (ye.trans (yf.trans (yg.trans yh))))))
        have y0h := y2.trans y2h
        refine ⟨Vh, p7, rfl, Dh, y0h, _, _, dd, eh, ((((hA.same y0h).takeM m).app (.cons (hod.same y2h) .nil)).app ((hA.same y0h).dropM m)).app (.cons (hpk.same (yg.trans yh)) .nil), ?_, wr_at hm, hno, fun j hj e he => wr_ahead hm ok hj he⟩
        rw [List.length_append, List.length_append, List.length_append, List.length_take, List.length_drop, List.length_map]
        show min m sp.length + 1 + (sp.length - m) + 1 ≤ 16
        omega
      rintro σ H3 ⟨V3, wp, rfl, D3, y3, hW⟩
      refine seq_asg ?_
      refine pick_sD roomL ?hroom rfl D3 (by show t + 3 < 1099511627776; omega) (by decide) (by decide) fun br db H4 V4 hdb D4 y4 hbr => ?_
      case hroom =>
        unfold roomL
        exact sD_lst (by repeat' (first | exact sA_nil | exact sD_non | exact sD_bl | exact sD_int | exact sD_str | exact sD_neg | refine sA_cons ?_ ?_ | refine sD_tup ?_ (by decide))) (show 6 ≤ sizeLine by decide)
      have hbr := room_bad hbr hdb
      refine ⟨fun σ H' => ∃ (V' : Hp) (bp : V), σ = [some (.ref d), some (.ref a), some (.int (room : Int)), some (.ref b), some (.int (m : Int)), some od, some (.ref wp), some br, some bp, none, none] ∧ Dw (t + 5) V' H' d ∧ Same V4 V' ∧ PrBad V' bp, ?_, ?_⟩
      · refine pick_sD priceL ?hprice rfl D4 (by show t + 4 < 1099511627776; omega) (show 0 < 9 by decide) (show 9 ≤ 1000 by decide) fun bp db H5 V5 hdb D5 y5 hbp => ⟨V5, bp, rfl, D5, y5, price_bad hbp hdb⟩
        unfold priceL
        exact sD_lst (by repeat' (first | exact sA_nil | exact sD_non | exact sD_bl | exact sD_int | exact sD_str | exact sD_dic | exact sD_neg | exact sD_rng (n := 1001) (k := 9) (by decide) sD_int | refine sA_cons ?_ ?_ | refine sD_lst ?_ (by decide))) (show 9 ≤ sizeLine by decide)
      rintro σ H5 ⟨V5, bp, rfl, D5, y5, hbp⟩
      have y35 := y4.trans y5
      have y05 := y3.trans y35
      have hbr5 := hbr.same y5
      have hW5 : WrV V5 wp m := by
        obtain ⟨ws, ds, od2, e1, A, hl, h1, h2, h3⟩ := hW
        exact ⟨ws, ds, od2, y35 _ _ e1, A.same y35, hl, h1, h2, h3⟩
      have eS5 := y05 _ _ eS
      have hA5 := hA.same y05
      have eP5 := y05 _ _ eP
      clear hbr hW eS hA eP hod y3 y4 y5 y35 y2
      refine ⟨fun σ H' => σ = [some (.ref d), some (.ref a), some (.int (room : Int)), some (.ref b), some (.int (m : Int)), some od, some (.ref wp), some br, some bp, none, none] ∧ Dw (t + 5) V5 H' d, ?_, ?_⟩
      · refine ⟨_, rfl, _, rfl, _, rfl, .ref wp, br, bp, .spans (some m), .spans (some m), rfl, ?_, ?_, fun H6 q s6 hq => ?_⟩
        · exact fun H1 Q' E' s' e => ⟨_, _, _, rfl, wr_spr hW5 (D5.same.trans s') e⟩
        · exact fun H1 Q' E' s' e => ⟨_, _, rfl, wr_spr hW5 (D5.same.trans s') e⟩
        refine ⟨_, rfl, (show 2 ≤ sizeLine by decide), fun q1 h1 => ⟨_, rfl, (show 2 ≤ sizeLine by decide), fun q2 h2 => ⟨(show 2 ≤ sizeLine by decide), fun q3 h3 => ?_⟩⟩⟩
        have s7 := same_new (o := .tup [V.str "spans", V.int (m : Int)]) h1
        have s8 := same_new (o := .tup [V.str "spans", V.int (m : Int)]) h2
        have s9 := same_new (o := .lst [V.ref q1, V.ref q2]) h3
        have s69 := s7.trans (s8.trans s9)
        refine ne_same (o1 := .spans (some m)) (o2 := .spans (some m)) (G2 := anyA) (hq.same s69) (.lst trivial upd_same (.cons (.tup trivial ((s8.trans s9) _ _ upd_same) (.cons (.str _) (.cons (.int _) .nil))) (.cons (.tup trivial (s9 _ _ upd_same) (.cons (.str _) (.cons (.int _) .nil))) .nil))) ⟨_, rfl, iteF ⟨rfl, D5.keep (s6.trans s69)⟩⟩
      rintro σ H6 ⟨rfl, D6⟩
      refine seq_asg ?_
      refine pick_sD manyL ?hmany rfl D6 (by show t + 5 < 1099511627776; omega) (show 0 < 5 by decide) (show 5 ≤ 1000 by decide) fun mv dm H7 V7 hdm D7 y7 hmv => ?_
      case hmany =>
        unfold manyL
        exact sD_lst (by repeat' (first | exact sA_nil | exact sD_non | exact sD_bl | exact sD_int | exact sD_str | exact sD_dic | exact sD_rng (n := 401) (k := 9) (by decide) (sD_tup (by repeat' (first | exact sA_nil | exact sD_int | refine sA_cons ?_ ?_)) (by decide)) | refine sA_cons ?_ ?_)) (show 5 ≤ sizeLine by decide)
      have hmv : ManyV V7 mv := many_bad hmv hdm
      have hbr7 := hbr5.same y7
      have eS7 := y7 _ _ eS5
      have hA7 := hA5.same y7
      have y07 := y05.trans y7
      refine ⟨fun σ H' => σ = [some (.ref d), some (.ref a), some (.int (room : Int)), some (.ref b), some (.int (m : Int)), some od, some (.ref wp), some br, some bp, none, some mv] ∧ Dw (t + 6) V7 H' d, ?_, ?_⟩
      · refine ⟨_, rfl, _, rfl, _, rfl, mv, br, .ref b, .spans none, .spans none, rfl, ?_, ?_, fun H8 q s8 hq => ?_⟩
        · exact fun H1 Q' E' s' e => ⟨_, _, _, rfl, many_spr hmv (D7.same.trans s') e⟩
        · exact fun H1 Q' E' s' e => ⟨_, _, rfl, many_spr hmv (D7.same.trans s') e⟩
        refine (sD_lst (ds := [(Ou.spans none).data, (Ou.spans none).data]) (by repeat' (first | exact sA_nil | exact sD_non | exact sD_str | refine sA_cons ?_ ?_ | refine sD_tup ?_ (by decide))) (show 2 ≤ sizeLine by decide)) _ _ _ fun v H9 s9 hv => ne_same (hq.same s9) hv ⟨_, rfl, iteF ⟨rfl, D7.keep (s8.trans s9)⟩⟩
      rintro σ H8 ⟨rfl, D8⟩
      refine ⟨fun σ H' => σ = [some (.ref d), some (.ref a), some (.int (room : Int)), some (.ref b), some (.int (m : Int)), some od, some (.ref wp), some br, some bp, none, some mv] ∧ Dw (t + 6) V7 H' d, ?_, ?_⟩
      · refine ⟨_, rfl, _, rfl, _, rfl, .ref a, br, bp, .room, .room, rfl, ?_, ?_, fun H9 q s9 hq => ?_⟩
        · exact fun H1 Q' E' s' e => ⟨_, _, _, rfl, room_spr eS7 hA7 ok hbr7 (D8.same.trans s') e⟩
        · exact fun H1 Q' E' s' e => ⟨_, _, rfl, room_spr eS7 hA7 ok hbr7 (D8.same.trans s') e⟩
        refine (sD_lst (ds := [Ou.room.data, Ou.room.data]) (by repeat' (first | exact sA_nil | exact sD_str | refine sA_cons ?_ ?_)) (show 2 ≤ sizeLine by decide)) _ _ _ fun v H10 s10 hv => ne_same (hq.same s10) hv ⟨_, rfl, iteF ⟨rfl, D8.keep (s9.trans s10)⟩⟩
      rintro σ H9 ⟨rfl, D9⟩
      refine ⟨fun σ H' => σ = [some (.ref d), some (.ref a), some (.int (room : Int)), some (.ref b), some (.int (m : Int)), some od, some (.ref wp), some br, some bp, none, some mv] ∧ Dw (t + 6) V7 H' d, ?_, ?_⟩
      · refine ⟨_, rfl, _, rfl, _, rfl, .ref a, .int (room : Int), bp, .prices, .ok, rfl, ?_, ?_, fun H10 q s10 hq => ?_⟩
        · exact fun H1 Q' E' s' e => ⟨_, _, _, rfl, ok_spr (.inl ((D9.same.trans s') _ _ eS7)) (hA7.same (D9.same.trans s')) ok h14 h20 (bad_prr hbp (y7.trans (D9.same.trans s')) e)⟩
        · exact fun H1 Q' E' s' e => ⟨_, _, rfl, ok_spr (.inl ((D9.same.trans s') _ _ eS7)) (hA7.same (D9.same.trans s')) ok h14 h20 (fun H' q L R k k2 c s2 _ _ _ _ _ => e (.ref q) H' s2)⟩
        refine (sD_lst (ds := [Ou.prices.data, Ou.ok.data]) (by repeat' (first | exact sA_nil | exact sD_non | exact sD_str | refine sA_cons ?_ ?_)) (show 2 ≤ sizeLine by decide)) _ _ _ fun v H11 s11 hv => ne_same (hq.same s11) hv ⟨_, rfl, iteF ⟨rfl, D9.keep (s10.trans s11)⟩⟩
      rintro σ H10 ⟨rfl, D10⟩
      have eP7 := y7 _ _ eP5
      refine ⟨_, rfl, a, xs, rfl, .inl ⟨SqL.of (D10.same _ _ eS7), fun ta hta => ?_⟩⟩
      have s11 := same_new (o := .tup xs) hta
      have ea : (upd H10 ta (.tup xs)) ta = some (.tup xs) := upd_same
      generalize upd H10 ta (.tup xs) = H11 at s11 ea ⊢
      refine ⟨_, rfl, _, rfl, b, _, rfl, .inl ⟨SqL.of ((D10.same.trans s11) _ _ eP7), fun tb htb => ?_⟩⟩
      have s12 := same_new (o := .tup (ps.map V.int)) htb
      have eb : (upd H11 tb (.tup (ps.map V.int))) tb = some (.tup (ps.map V.int)) := upd_same
      replace ea := s12 _ _ ea
      generalize upd H11 tb (.tup (ps.map V.int)) = H12 at s12 ea eb ⊢
      have D12 := D10.keep (s11.trans s12)
      refine ⟨.ref ta, .int (room : Int), .ref tb, .ok, .ok, rfl, ?_, ?_, fun H13 q s13 hq => ?_⟩
      · refine fun H1 Q' E' s' e => ⟨_, _, _, rfl, ok_spr (.inr (s' _ _ ea)) (hA7.same (D12.same.trans s')) ok h14 h20 (.inr ⟨tb, _, _, rfl, .inr (s' _ _ eb), dtA_ints ps, .inr ⟨by rw [List.length_map]; exact hps, ps, rfl, pos, fun H' s2 => e _ H' s2⟩⟩)⟩
      · exact fun H1 Q' E' s' e => ⟨_, _, rfl, ok_spr (.inr (s' _ _ ea)) (hA7.same (D12.same.trans s')) ok h14 h20 (fun H' q L R k k2 c s2 _ _ _ _ _ => e (.ref q) H' s2)⟩
      refine (sD_lst (ds := [Ou.ok.data, Ou.ok.data]) (by repeat' (first | exact sA_nil | exact sD_non | refine sA_cons ?_ ?_)) (show 2 ≤ sizeLine by decide)) _ _ _ fun v H14 s14 hv => eq_same (hq.same s14) hv (k _ ?_)
      exact ((D12.keep (s13.trans s14)).mono (by omega)).less y07
end
/-! ## k57's law -/
structure LawF (P : Program) (w : World) (K : PySem.W.Frag) (mg : Str → Option Value) (base : Heap) (C CM CP : Addr) : Prop where
  G : NkF K mg
  lis : mg "list" = none
  rng : mg "range" = none
  min : mg "min" = none
  begun : Cal P w K mg base 1 "_law_begun" ["_law_script"] (spBegun K)
  pick : Cal P w K mg base 3 "_law_pick" ["_law_draw", "_law_some"] (spPick K)
  spans : Cal P w K mg base 5 "_law_spans" ["_law_draw"] spLSpans
  right : Cal P w K mg base 6 "_law_right" ["_law_spans_here", "_law_room"] spRight
  prices : Cal P w K mg base 4 "_law_prices" ["_law_draw", "_law_spans_here"] spPrices
  value : Cal P w K mg base 2 "_law_value" ["_law_spans_here", "_law_room", "_law_prices_here"] spVal
  worth : CalKw P w K mg base 5 "worth" ["spans", "room", "prices"] (spWorth C CM CP)
  refr : Cal P w K mg base 7 "_law_refusals_right" ["_law_draw", "_law_spans_here", "_law_room", "_law_prices_here"] spRefR
def spLaw (K : PySem.W.Frag) : Sp := fun vs H Q _ => ∃ (a : Addr) (ns : List Int), vs = [.ref a] ∧ SqL K H a (ns.map V.int) ∧ ns.length ≤ 63 ∧ ∀ H', Q (.bl true) H'
section
variable {P : Program} {w : World} {K : PySem.W.Frag} {mg : Str → Option Value} {base : Heap}
theorem sc_law : FnScope ["_law_script", "_law_draw", "_law_turn", "_law_spans_here", "_law_room", "_law_good", "_law_cost", "_law_prices_here", "_law_told"] ["_law_script"] (defScope s_law) := ⟨rfl, rfl, rfl, by decide +kernel, rfl, by decide +kernel, by decide +kernel⟩
theorem ok_law {f C CM CP : Addr} {fd : FuncData} (F : FnP K "law" s_law f fd) (R : LawF P w K mg base C CM CP) : FnG P w K mg base 8 f fd ["_law_script"] (spLaw K) := by
  obtain ⟨f__law_begun, fd__law_begun, g__law_begun, k__law_begun, b__law_begun, G__law_begun⟩ := R.begun
  obtain ⟨f__law_pick, fd__law_pick, g__law_pick, k__law_pick, b__law_pick, G__law_pick⟩ := R.pick
  obtain ⟨f__law_spans, fd__law_spans, g__law_spans, k__law_spans, b__law_spans, G__law_spans⟩ := R.spans
  obtain ⟨f__law_right, fd__law_right, g__law_right, k__law_right, b__law_right, G__law_right⟩ := R.right
  obtain ⟨f__law_prices, fd__law_prices, g__law_prices, k__law_prices, b__law_prices, G__law_prices⟩ := R.prices
  obtain ⟨f__law_value, fd__law_value, g__law_value, k__law_value, b__law_value, G__law_value⟩ := R.value
  obtain ⟨f__law_refusals_right, fd__law_refusals_right, g__law_refusals_right, k__law_refusals_right, b__law_refusals_right, G__law_refusals_right⟩ := R.refr
  obtain ⟨f2, fd2, g2, k2, b2, kb2, G2⟩ := R.worth
  have G := R.G
  have lis := R.lis
  have rng := R.rng
  have m_min := R.min
  refine FunD.okG F sc_law (fun vs H Q E h => ?_) (fun cdv A outer s H vs Q E hgd hr h => ?_)
  · obtain ⟨a, ns, rfl, _⟩ := h
    rfl
  · obtain ⟨a, ns, rfl, hS, hl, k⟩ := h
    have nd := sc_law.nd
    apply Exists.intro
    apply And.intro
    case left =>
     apply PSs.nox
     apply pss_cons
     · exact (ps_set (i := 1) nd rfl (.inl rfl) (pe_call G__law_begun (hr.mono (by decide)) rfl g__law_begun k__law_begun b__law_begun .nil pass0 (pa_cons (pv 0) pa_nil)))
     apply pss_cons
     · apply ps_for PassesOwn.never rfl
       · exact (pi_range1 (by rfl) rng (pa_cons (pe_op op_add pe_int (pe_callB (call_min2 (by rfl)) (by rfl) m_min (by decide +kernel) (pa_cons (pe_callB call_len (by rfl) G.len PySem.boot_len (pa_cons (pv 0) pa_nil)) (pa_cons pe_int pa_nil)))) pa_nil))
       · exact (pg_name (i := 2) nd rfl (Or.inl rfl))
       · apply pss_cons
         · exact (ps_par (X := (cxOf CX0 P w K mg base ["_law_script", "_law_draw", "_law_turn", "_law_spans_here", "_law_room", "_law_good", "_law_cost", "_law_prices_here", "_law_told"] "law" (defScope s_law) f cdv A outer s H E).nox) (i := 3) (j := 4) rfl nd rfl rfl (by decide) rfl rfl (pa_cons (pe_call G__law_spans (hr.mono (by decide)) rfl g__law_spans k__law_spans b__law_spans .nil pass0 (pa_cons (pv 1) pa_nil)) (pa_cons (pe_call G__law_pick (hr.mono (by decide)) rfl g__law_pick k__law_pick b__law_pick .nil pass0 (pa_cons (pv 1) (pa_cons (pe_lst (pa_cons pe_int (pa_cons pe_int (pa_cons pe_int (pa_cons pe_int (pa_cons pe_int (pa_cons pe_int (pa_cons pe_int (pa_cons pe_int (pa_cons pe_int pa_nil)))))))))) pa_nil))) pa_nil)) (by rfl))
         apply pss_cons
         · exact (ps_asg (pe_call G__law_right (hr.mono (by decide)) rfl g__law_right k__law_right b__law_right .nil pass0 (pa_cons (pv 3) (pa_cons (pv 4) pa_nil))) (pg_tup rfl (pgs_cons (pg_name (i := 5) nd rfl (Or.inl rfl)) (pgs_cons (pg_name (i := 6) nd rfl (Or.inl rfl)) pgs_nil))))
         apply pss_cons
         · exact (ps_set (i := 7) nd rfl (.inl rfl) (pe_call G__law_prices (hr.mono (by decide)) rfl g__law_prices k__law_prices b__law_prices .nil pass0 (pa_cons (pv 1) (pa_cons (pv 3) pa_nil))))
         apply pss_cons
         · exact (ps_set (i := 8) nd rfl (.inl rfl) (pe_call G2 (hr.mono (by decide)) rfl g2 k2 b2 .nil (passes_call LamX.takes0 (fun _ _ _ _ h => h)) (pa_cons (pe_callTy call_list_of (by rfl) lis (by decide +kernel) (pa_cons (pv 3) pa_nil)) (pa_cons (pv 4) (pa_cons (pe_callTy call_list_of (by rfl) lis (by decide +kernel) (pa_cons (pv 7) pa_nil)) pa_nil)))))
         apply pss_cons
         · exact (ps_if (PW.pt (pw_or (pt_not (pt_val (pv 5))) (pw_or (pt_cmpR op_ne (pv 8) (pe_call G__law_value (hr.mono (by decide)) rfl g__law_value k__law_value b__law_value .nil pass0 (pa_cons (pv 3) (pa_cons (pv 4) (pa_cons (pv 7) pa_nil)))) (nomark _)) (pw_or1 (pt_cmpR op_gt (pv 8) (pv 6) (nomark _)))))) (pss_one (ps_ret pe_bl)) pss_nil)
         apply pss_one
         exact (ps_if (pt_not (pt_val (pe_call G__law_refusals_right (hr.mono (by decide)) rfl g__law_refusals_right k__law_refusals_right b__law_refusals_right .nil pass0 (pa_cons (pv 1) (pa_cons (pv 3) (pa_cons (pv 4) (pa_cons (pv 7) pa_nil))))))) (pss_one (ps_ret pe_bl)) pss_nil)
     apply pss_one
     exact (ps_ret pe_bl)
    case right =>
      refine ⟨_, rfl, a, ns, rfl, hS, hl, fun H1 d D1 _ => ?_⟩
      refine ⟨_, rfl, _, _, rfl, .inl ⟨_, D1.same.seq hS, rfl⟩, _, _, rfl, ?_⟩
      obtain ⟨n, hn, n7⟩ : ∃ n : Int, (2 : Int) + (if (5 : Int) < (((ns.map V.int).length : Nat) : Int) then 5 else (((ns.map V.int).length : Nat) : Int)) = n ∧ 0 ≤ n ∧ n ≤ 7 := by
        rw [List.length_map]
        by_cases c : (5 : Int) < ((ns.length : Nat) : Int)
        · exact ⟨_, rfl, by rw [if_pos c]; decide⟩
        · exact ⟨_, rfl, by rw [if_neg c]; omega⟩
      refine ⟨_, _, rfl, rfl, n, congrArg (fun z => [V.int z]) hn, by omega, by omega, ?_⟩
      refine for_range (lo := 0) (n := n.toNat) (fun j σ H' => ∃ (V' : Hp) (v2 v3 v4 v5 v6 v7 v8 : Option V), σ = [some (.ref a), some (.ref d), v2, v3, v4, v5, v6, v7, v8] ∧ Dw (300 * j) V' H' d) ⟨H, _, _, _, _, _, _, _, rfl, D1⟩ ?_ ?_
      · rintro j σ H2 hj ⟨V2, v2, v3, v4, v5, v6, v7, v8, rfl, D2⟩
        have hj : j < 7 := by omega
        refine ⟨_, rfl, 300 * j, V2, d, rfl, D2, by show 300 * j + 300 < 1099511627776; omega, fun sa xs sp H3 V3 D3 y3 eS hA ok h14 => ?_⟩
        refine pick_lits ([0, 1, 1, 2, 2, 3, 4, 5, 20].map V.int) (fun _ _ _ q => q) rfl D3 (by show 300 * j + 200 < 1099511627776; omega) (by decide) (by decide) fun v H4 V4 hv D4 y4 => ?_
        obtain ⟨r, hr1, rfl⟩ := mem_ints hv
        obtain ⟨b1, b2⟩ := all_ints (a := 0) (b := 20) hr1 (by decide)
        obtain ⟨room, rfl⟩ : ∃ room : Nat, r = (room : Int) := ⟨r.toNat, by omega⟩
        have eS4 := y4 _ _ eS
        have hA4 := hA.same y4
        refine ⟨_, _, rfl, ?_⟩
        refine ⟨_, rfl, _, rfl, sa, xs, sp, room, rfl, D4.same _ _ eS4, hA4.same D4.same, ok, h14, by omega, fun H5 q c s5 eq hc => ?_⟩
        have D5 := D4.keep s5
        refine ⟨q, _, rfl, SqT.of eq, rfl, _, _, rfl, _, _, rfl, rfl, ?_⟩
        refine ⟨_, rfl, _, rfl, 300 * j + 200 + 1, V4, d, .ref sa, rfl, D5, by show 300 * j + 200 + 1 + 100 < 1099511627776; omega, fun pb ps H6 V6 D6 y6 eP hlen pos => ?_⟩
        have eS6 := y6 _ _ eS4
        have hA6 := hA4.same y6
        refine ⟨_, rfl, sa, xs, rfl, .inl (SqL.of (D6.same _ _ eS6)), fun sb hsb => ?_⟩
        have s7 := same_new (o := .lst xs) hsb
        have esb : (upd H6 sb (.lst xs)) sb = some (.lst xs) := upd_same
        generalize upd H6 sb (.lst xs) = H7 at s7 esb ⊢
        refine ⟨_, rfl, _, rfl, pb, _, rfl, .inl (SqL.of ((D6.same.trans s7) _ _ eP)), fun pc hpc => ?_⟩
        have s8 := same_new (o := .lst (ps.map V.int)) hpc
        have epc : (upd H7 pc (.lst (ps.map V.int))) pc = some (.lst (ps.map V.int)) := upd_same
        replace esb := s8 _ _ esb
        generalize upd H7 pc (.lst (ps.map V.int)) = H8 at s8 epc esb ⊢
        have D8 := D6.keep (s7.trans s8)
        refine ⟨_, _, _, rfl, ok_spr (.inl esb) (hA6.same D8.same) ok h14 (by omega) (.inr ⟨pc, _, _, rfl, .inl epc, dtA_ints ps, .inr ⟨by rw [List.length_map]; exact hlen, ps, rfl, pos, fun H9 s9 => ?_⟩⟩)⟩
        have D9 := D8.keep s9
        refine ⟨_, rfl, _, rfl, iteF ?_⟩
        refine ⟨_, rfl, _, rfl, _, rfl, _, rfl, sa, pb, xs, sp, room, ps, rfl, D9.same _ _ eS6, hA6.same D9.same, ok, by omega, D9.same _ _ eP, hlen, fun H10 s10 => ?_⟩
        refine ⟨rfl, _, rfl, iteNe rfl ?_⟩
        have hle := hc ps pos
        refine ⟨_, rfl, _, rfl, _, _, rfl, rfl, _, rfl, ?_⟩
        rw [decide_eq_false (show ¬ c < F57.W sp room (pF ps) ps.length by omega)]
        refine iteF ?_
        have D10 := D9.keep s10
        refine ⟨_, rfl, _, rfl, _, rfl, _, rfl, 300 * j + 200 + 1 + 50, V6, d, sa, pb, xs, sp, room, ps, rfl, D10, by show 300 * j + 200 + 1 + 50 + 100 < 1099511627776; omega, eS6, hA6, ok, h14, by omega, eP, hlen, pos, fun H11 D11 => ?_⟩
        exact ⟨_, rfl, iteF ⟨V6, _, _, _, _, _, _, _, rfl, D11.mono (by omega)⟩⟩
      · rintro σ H2 ⟨V2, v2, v3, v4, v5, v6, v7, v8, rfl, D2⟩
        exact k _
end
section
abbrev LW : PySem.W.OpenLaw := PySem.Challenge.rw_stopanywhere_k57_least_spans_by_prices
theorem nkF {K : PySem.W.Frag} {h : Heap} {mg : Str → Option Value} (X : K.In h) (G : h.Ns mainGlobals mg) (c : SaysZ fbL fnL csL K) : NkF K mg where
  isi := He.free_ok X G (fact_f_isinstance c)
  int := He.free_ok X G (fact_f_int c)
  str := He.free_ok X G (fact_f_str c)
  len := He.free_ok X G (fact_f_len c)
  bool := He.free_ok X G (fact_f_bool c)
theorem law_at {w : World} {K : PySem.W.Frag} {h : Heap} {mg : Str → Option Value} {fa : Addr} (X : K.In h) (G : h.Ns mainGlobals mg) (c : SaysZ fbL fnL csL K) (T : TabsZ tsL K h) (hfa : mg "law" = some (.ref fa)) : LawAtZ LW w 8 63 "_law_script" mg fa h := by
  have e := hfa.symm.trans (He.glo_ok X G (fact_g_law c))
  cases e
  obtain ⟨fd, F⟩ := def_law c
  refine ⟨K, fd, [], spLaw K, X, ?_, ?_, ?_, fun s u => F.bindsA (ps := ["_law_script"]) (fun _ _ _ _ _ _ us hl => match us, hl with | [_], _ => rfl) s [u] rfl, fun H a ns hl hH hS => ⟨a, ns, rfl, hS, hl, fun _ => rfl⟩, fun base KX GX hB => ?_⟩
  · exact fun p hp => nomatch hp
  · exact fun p hp => nomatch hp
  · exact fun p hp => nomatch hp
  · have nk := nkF X G c
    have su := He.free_ok X G (fact_f_super c)
    have iS : Ix1 LW.prog w K mg base "BadSpans" (He.ga K "BadSpans") "at" := by
      obtain ⟨iC, tI, cc, cda, fi, FI⟩ := supB_ok (P := LW.prog) (mg := mg) (d := i_BadSpans) (ini_BadSpans c) (fact_sup_BadSpans c) (by decide +kernel) su
      exact ⟨He.glo_ok X G (fact_g_BadSpans c), oexB_ok (fact_o_BadSpans c), _, fi, iC, tI, ok_bsp (P := LW.prog) (w := w) (base := base) FI (oexB_ok (fact_o_BadSpans c)) (He.eqO_ok (fact_a_at c)), FI.binds (fact_dfl_BadSpans c) fun _ _ _ _ _ us hl => match us, hl with | [_, _], _ => rfl⟩
    have pM : PlnX K mg "BadRoom" (He.ga K "BadRoom") := ⟨He.glo_ok X G (fact_g_BadRoom c), fact_p_BadRoom c, oexB_ok (fact_o_BadRoom c)⟩
    have pP : PlnX K mg "BadPrices" (He.ga K "BadPrices") := ⟨He.glo_ok X G (fact_g_BadPrices c), fact_p_BadPrices c, oexB_ok (fact_o_BadPrices c)⟩
    obtain ⟨t4, n4⟩ := He.int_ok X G (fact_n_MOST_SPANS c)
    obtain ⟨t9, n9⟩ := He.int_ok X G (fact_n_MOST_POSITION c)
    obtain ⟨t2, n2⟩ := He.int_ok X G (fact_n_MOST_ROOM c)
    have ou : OuX K mg (He.ga K "BadSpans") (He.ga K "BadRoom") (He.ga K "BadPrices") := ⟨iS.g, pM.g, pP.g, He.exm_ok (fact_x_BadSpans_BadSpans c), He.exm_ok (fact_x_BadRoom_BadSpans c), He.exm_ok (fact_x_BadRoom_BadRoom c), He.exm_ok (fact_x_BadPrices_BadSpans c), He.exm_ok (fact_x_BadPrices_BadRoom c), He.exm_ok (fact_x_BadPrices_BadPrices c), excRB_ok (fact_r_BadSpans c), He.eqO_ok (fact_a_at c)⟩
    obtain ⟨f_is_number, F_is_number⟩ := def_is_number c
    obtain ⟨f_is_from_0, F_is_from_0⟩ := def_is_from_0 c
    obtain ⟨f_is_span, F_is_span⟩ := def_is_span c
    obtain ⟨f_need_spans, F_need_spans⟩ := def_need_spans c
    obtain ⟨f_need_room, F_need_room⟩ := def_need_room c
    obtain ⟨f_length_of, F_length_of⟩ := def_length_of c
    obtain ⟨f_cover_of, F_cover_of⟩ := def_cover_of c
    obtain ⟨f_arcs_of, F_arcs_of⟩ := def_arcs_of c
    obtain ⟨f_distances, F_distances⟩ := def_distances c
    obtain ⟨f_kept_spans, F_kept_spans⟩ := def_kept_spans c
    obtain ⟨f_least_of, F_least_of⟩ := def_least_of c
    obtain ⟨f_least, F_least⟩ := def_least c
    obtain ⟨f_worth, F_worth⟩ := def_worth c
    obtain ⟨f__law_begun, F__law_begun⟩ := def__law_begun c
    obtain ⟨f__law_mixed, F__law_mixed⟩ := def__law_mixed c
    obtain ⟨f__law_take, F__law_take⟩ := def__law_take c
    obtain ⟨f__law_pick, F__law_pick⟩ := def__law_pick c
    obtain ⟨f__law_span, F__law_span⟩ := def__law_span c
    obtain ⟨f__law_spans, F__law_spans⟩ := def__law_spans c
    obtain ⟨f__law_cover, F__law_cover⟩ := def__law_cover c
    obtain ⟨f__law_value, F__law_value⟩ := def__law_value c
    obtain ⟨f__law_numbers, F__law_numbers⟩ := def__law_numbers c
    obtain ⟨f__law_left_right, F__law_left_right⟩ := def__law_left_right c
    obtain ⟨f__law_right, F__law_right⟩ := def__law_right c
    obtain ⟨f__law_prices, F__law_prices⟩ := def__law_prices c
    obtain ⟨f__law_refused, F__law_refused⟩ := def__law_refused c
    obtain ⟨f__law_refusals_right, F__law_refusals_right⟩ := def__law_refusals_right c
    have b_is_number : Binds K f_is_number ["thing"] [] := F_is_number.bindsN fun _ _ _ _ _ _ us hl => match us, hl with | [_], _ => rfl
    have b_is_from_0 : Binds K f_is_from_0 ["thing"] [] := F_is_from_0.bindsN fun _ _ _ _ _ _ us hl => match us, hl with | [_], _ => rfl
    have b_is_span : Binds K f_is_span ["thing"] [] := F_is_span.bindsN fun _ _ _ _ _ _ us hl => match us, hl with | [_], _ => rfl
    have b_need_spans : Binds K f_need_spans ["spans"] [] := F_need_spans.bindsN fun _ _ _ _ _ _ us hl => match us, hl with | [_], _ => rfl
    have b_need_room : Binds K f_need_room ["room", "least_room"] [] := F_need_room.bindsN fun _ _ _ _ _ _ us hl => match us, hl with | [_, _], _ => rfl
    have b_length_of : Binds K f_length_of ["spans"] [] := F_length_of.bindsN fun _ _ _ _ _ _ us hl => match us, hl with | [_], _ => rfl
    have b_cover_of : Binds K f_cover_of ["spans"] [] := F_cover_of.bindsN fun _ _ _ _ _ _ us hl => match us, hl with | [_], _ => rfl
    have b_arcs_of : Binds K f_arcs_of ["spans", "kept", "units"] [] := F_arcs_of.bindsN fun _ _ _ _ _ _ us hl => match us, hl with | [_, _, _], _ => rfl
    have b_distances : Binds K f_distances ["arcs", "count"] [] := F_distances.bindsN fun _ _ _ _ _ _ us hl => match us, hl with | [_, _], _ => rfl
    have b_kept_spans : Binds K f_kept_spans ["spans", "room"] [] := F_kept_spans.bindsN fun _ _ _ _ _ _ us hl => match us, hl with | [_, _], _ => rfl
    have b_least_of : Binds K f_least_of ["spans", "room"] [] := F_least_of.bindsN fun _ _ _ _ _ _ us hl => match us, hl with | [_, _], _ => rfl
    have b_least : Binds K f_least ["spans", "room"] [] := F_least.bindsN fun _ _ _ _ _ _ us hl => match us, hl with | [_, _], _ => rfl
    have b_worth : Binds K f_worth ["spans", "room", "prices"] [] := F_worth.bindsN fun _ _ _ _ _ _ us hl => match us, hl with | [_, _, _], _ => rfl
    have b__law_begun : Binds K f__law_begun ["_law_script"] [] := F__law_begun.bindsN fun _ _ _ _ _ _ us hl => match us, hl with | [_], _ => rfl
    have b__law_mixed : Binds K f__law_mixed ["_law_draw"] [] := F__law_mixed.bindsN fun _ _ _ _ _ _ us hl => match us, hl with | [_], _ => rfl
    have b__law_take : Binds K f__law_take ["_law_draw", "_law_many"] [] := F__law_take.bindsN fun _ _ _ _ _ _ us hl => match us, hl with | [_, _], _ => rfl
    have b__law_pick : Binds K f__law_pick ["_law_draw", "_law_some"] [] := F__law_pick.bindsN fun _ _ _ _ _ _ us hl => match us, hl with | [_, _], _ => rfl
    have b__law_span : Binds K f__law_span ["_law_draw", "_law_wide", "_law_is_far"] [] := F__law_span.bindsN fun _ _ _ _ _ _ us hl => match us, hl with | [_, _, _], _ => rfl
    have b__law_spans : Binds K f__law_spans ["_law_draw"] [] := F__law_spans.bindsN fun _ _ _ _ _ _ us hl => match us, hl with | [_], _ => rfl
    have b__law_cover : Binds K f__law_cover ["_law_spans_here", "_law_at"] [] := F__law_cover.bindsN fun _ _ _ _ _ _ us hl => match us, hl with | [_, _], _ => rfl
    have b__law_value : Binds K f__law_value ["_law_spans_here", "_law_room", "_law_prices_here"] [] := F__law_value.bindsN fun _ _ _ _ _ _ us hl => match us, hl with | [_, _, _], _ => rfl
    have b__law_numbers : Binds K f__law_numbers ["_law_some", "_law_low"] [] := F__law_numbers.bindsN fun _ _ _ _ _ _ us hl => match us, hl with | [_, _], _ => rfl
    have b__law_left_right : Binds K f__law_left_right ["_law_spans_here", "_law_room", "_law_left"] [] := F__law_left_right.bindsN fun _ _ _ _ _ _ us hl => match us, hl with | [_, _, _], _ => rfl
    have b__law_right : Binds K f__law_right ["_law_spans_here", "_law_room"] [] := F__law_right.bindsN fun _ _ _ _ _ _ us hl => match us, hl with | [_, _], _ => rfl
    have b__law_prices : Binds K f__law_prices ["_law_draw", "_law_spans_here"] [] := F__law_prices.bindsN fun _ _ _ _ _ _ us hl => match us, hl with | [_, _], _ => rfl
    have b__law_refused : Binds K f__law_refused ["_law_spans_here", "_law_room", "_law_prices_here"] [] := F__law_refused.bindsN fun _ _ _ _ _ _ us hl => match us, hl with | [_, _, _], _ => rfl
    have b__law_refusals_right : Binds K f__law_refusals_right ["_law_draw", "_law_spans_here", "_law_room", "_law_prices_here"] [] := F__law_refusals_right.bindsN fun _ _ _ _ _ _ us hl => match us, hl with | [_, _, _, _], _ => rfl
    have kb_least := FunD.kbindsA F_least (ps := ["spans", "room"]) fun _ _ _ _ _ _ us hl => match us, hl with | [_, _], _ => rfl
    have kb_worth := FunD.kbindsA F_worth (ps := ["spans", "room", "prices"]) fun _ _ _ _ _ _ us hl => match us, hl with | [_, _, _], _ => rfl
    have mi := He.free_ok X G (fact_f_int c)
    have o__law_begun := ok_begun (P := LW.prog) (w := w) (base := base) F__law_begun mi (He.free_ok X G (fact_f_abs c))
    have o__law_take := ok_take (P := LW.prog) (w := w) (base := base) F__law_take F__law_mixed (He.glo_ok X G (fact_g__law_mixed c)) mi
    have o__law_pick := ok_pick (P := LW.prog) (w := w) (base := base) F__law_pick (He.glo_ok X G (fact_g__law_take c)) F__law_take.kp b__law_take o__law_take (He.free_ok X G (fact_f_len c))
    have o_is_number := ok_is_number (P := LW.prog) (w := w) (mg := mg) (base := base) (CX := CX0) F_is_number nk
    have o_is_from_0 := ok_from0 (P := LW.prog) (w := w) (mg := mg) (base := base) (CX := CX0) F_is_from_0 ⟨_, _, He.glo_ok X G (fact_g_is_number c), F_is_number.kp, b_is_number, o_is_number⟩
    have o_is_span := ok_span (P := LW.prog) (w := w) (mg := mg) (base := base) (CX := CX0) F_is_span ⟨_, _, He.glo_ok X G (fact_g_is_from_0 c), F_is_from_0.kp, b_is_from_0, o_is_from_0⟩ nk (He.free_ok X G (fact_f_all c)) (He.free_ok X G (fact_f_tuple c)) n9
    have o_need_spans := ok_needS (P := LW.prog) (w := w) (mg := mg) (base := base) F_need_spans ⟨_, _, He.glo_ok X G (fact_g_is_span c), F_is_span.kp, b_is_span, o_is_span⟩ nk iS (He.free_ok X G (fact_f_tuple c)) (He.free_ok X G (fact_f_list c)) (He.free_ok X G (fact_f_enumerate c)) n4
    have o_need_room := ok_needM (P := LW.prog) (w := w) (mg := mg) (base := base) F_need_room ⟨_, _, He.glo_ok X G (fact_g_is_number c), F_is_number.kp, b_is_number, o_is_number⟩ n2 pM
    have o_length_of := ok_length (P := LW.prog) (w := w) (mg := mg) (base := base) (CX := CX0) F_length_of (He.free_ok X G (fact_f_max c))
    have o_cover_of := ok_cover (P := LW.prog) (w := w) (mg := mg) (base := base) (CX := CX0) F_cover_of ⟨_, _, He.glo_ok X G (fact_g_length_of c), F_length_of.kp, b_length_of, o_length_of⟩ (He.free_ok X G (fact_f_range c))
    have o_arcs_of := ok_arcs (P := LW.prog) (w := w) (mg := mg) (base := base) (CX := CX0) F_arcs_of ⟨_, _, He.glo_ok X G (fact_g_length_of c), F_length_of.kp, b_length_of, o_length_of⟩ (He.free_ok X G (fact_f_range c)) (He.free_ok X G (fact_f_enumerate c))
    have o_distances := ok_dist (P := LW.prog) (w := w) (mg := mg) (base := base) (CX := CX0) F_distances (He.free_ok X G (fact_f_range c))
    have o_kept_spans := ok_kept (P := LW.prog) (w := w) (mg := mg) (base := base) (CX := CX0) F_kept_spans ⟨_, _, He.glo_ok X G (fact_g_length_of c), F_length_of.kp, b_length_of, o_length_of⟩ ⟨_, _, He.glo_ok X G (fact_g_arcs_of c), F_arcs_of.kp, b_arcs_of, o_arcs_of⟩ ⟨_, _, He.glo_ok X G (fact_g_distances c), F_distances.kp, b_distances, o_distances⟩ (He.free_ok X G (fact_f_range c))
    have o_least_of := ok_leastof (P := LW.prog) (w := w) (mg := mg) (base := base) F_least_of ⟨_, _, He.glo_ok X G (fact_g_length_of c), F_length_of.kp, b_length_of, o_length_of⟩ ⟨_, _, He.glo_ok X G (fact_g_cover_of c), F_cover_of.kp, b_cover_of, o_cover_of⟩ ⟨_, _, He.glo_ok X G (fact_g_kept_spans c), F_kept_spans.kp, b_kept_spans, o_kept_spans⟩ nk (He.free_ok X G (fact_f_range c)) (He.free_ok X G (fact_f_enumerate c)) (He.free_ok X G (fact_f_max c)) (He.free_ok X G (fact_f_sorted c))
    have o_least := ok_least (P := LW.prog) (w := w) (mg := mg) (base := base) F_least ⟨_, _, He.glo_ok X G (fact_g_need_spans c), F_need_spans.kp, b_need_spans, o_need_spans⟩ ⟨_, _, He.glo_ok X G (fact_g_need_room c), F_need_room.kp, b_need_room, o_need_room⟩ ⟨_, _, He.glo_ok X G (fact_g_least_of c), F_least_of.kp, b_least_of, o_least_of⟩
    have o_worth := ok_worth (P := LW.prog) (w := w) (mg := mg) (base := base) F_worth ⟨_, _, He.glo_ok X G (fact_g_need_spans c), F_need_spans.kp, b_need_spans, o_need_spans⟩ ⟨_, _, He.glo_ok X G (fact_g_need_room c), F_need_room.kp, b_need_room, o_need_room⟩ ⟨_, _, He.glo_ok X G (fact_g_cover_of c), F_cover_of.kp, b_cover_of, o_cover_of⟩ ⟨_, _, He.glo_ok X G (fact_g_is_from_0 c), F_is_from_0.kp, b_is_from_0, o_is_from_0⟩ nk pP (He.free_ok X G (fact_f_tuple c)) (He.free_ok X G (fact_f_list c)) (He.free_ok X G (fact_f_all c)) (He.free_ok X G (fact_f_max c)) (He.free_ok X G (fact_f_sum c)) (He.free_ok X G (fact_f_enumerate c)) n9
    have o__law_span := ok_lspan (P := LW.prog) (w := w) (mg := mg) (base := base) F__law_span ⟨_, _, He.glo_ok X G (fact_g__law_take c), F__law_take.kp, b__law_take, o__law_take⟩ ⟨_, _, He.glo_ok X G (fact_g__law_pick c), F__law_pick.kp, b__law_pick, o__law_pick⟩ (He.free_ok X G (fact_f_min c))
    have o__law_spans := ok_lspans (P := LW.prog) (w := w) (mg := mg) (base := base) F__law_spans ⟨_, _, He.glo_ok X G (fact_g__law_take c), F__law_take.kp, b__law_take, o__law_take⟩ ⟨_, _, He.glo_ok X G (fact_g__law_pick c), F__law_pick.kp, b__law_pick, o__law_pick⟩ ⟨_, _, He.glo_ok X G (fact_g__law_span c), F__law_span.kp, b__law_span, o__law_span⟩ (He.free_ok X G (fact_f_range c))
    have o__law_cover := ok_lcover (P := LW.prog) (w := w) (mg := mg) (base := base) (CX := CX0) F__law_cover nk
    have o__law_value := ok_lvalue (P := LW.prog) (w := w) (mg := mg) (base := base) (CX := CX0) F__law_value ⟨_, _, He.glo_ok X G (fact_g__law_cover c), F__law_cover.kp, b__law_cover, o__law_cover⟩ nk (He.free_ok X G (fact_f_range c)) (He.free_ok X G (fact_f_max c)) (He.free_ok X G (fact_f_sum c))
    have o__law_numbers := ok_lnumbers (P := LW.prog) (w := w) (mg := mg) (base := base) (CX := CX0) F__law_numbers nk (He.free_ok X G (fact_f_list c)) (He.free_ok X G (fact_f_all c))
    have o__law_left_right := ok_lleft (P := LW.prog) (w := w) (mg := mg) (base := base) F__law_left_right ⟨_, _, He.glo_ok X G (fact_g__law_cover c), F__law_cover.kp, b__law_cover, o__law_cover⟩ ⟨_, _, He.glo_ok X G (fact_g__law_numbers c), F__law_numbers.kp, b__law_numbers, o__law_numbers⟩ nk (He.free_ok X G (fact_f_range c)) (He.free_ok X G (fact_f_max c)) (He.free_ok X G (fact_f_set c)) (He.free_ok X G (fact_f_sorted c))
    have o__law_right := ok_lright (P := LW.prog) (w := w) (mg := mg) (base := base) F__law_right ⟨_, _, He.glo_ok X G (fact_g_least c), F_least.kp, b_least, kb_least, o_least⟩ ⟨_, _, He.glo_ok X G (fact_g_worth c), F_worth.kp, b_worth, kb_worth, o_worth⟩ ⟨_, _, He.glo_ok X G (fact_g__law_value c), F__law_value.kp, b__law_value, o__law_value⟩ ⟨_, _, He.glo_ok X G (fact_g__law_left_right c), F__law_left_right.kp, b__law_left_right, o__law_left_right⟩ ⟨_, _, He.glo_ok X G (fact_g__law_numbers c), F__law_numbers.kp, b__law_numbers, o__law_numbers⟩ nk (He.free_ok X G (fact_f_tuple c)) (He.free_ok X G (fact_f_list c)) (He.free_ok X G (fact_f_max c)) (He.free_ok X G (fact_f_sum c))
    have o__law_prices := ok_lprices (P := LW.prog) (w := w) (mg := mg) (base := base) F__law_prices ⟨_, _, He.glo_ok X G (fact_g__law_take c), F__law_take.kp, b__law_take, o__law_take⟩ ⟨_, _, He.glo_ok X G (fact_g__law_pick c), F__law_pick.kp, b__law_pick, o__law_pick⟩ nk (He.free_ok X G (fact_f_range c))
    have o__law_refused := ok_lrefused (P := LW.prog) (w := w) (mg := mg) (base := base) F__law_refused ⟨_, _, He.glo_ok X G (fact_g_least c), F_least.kp, b_least, kb_least, o_least⟩ ⟨_, _, He.glo_ok X G (fact_g_worth c), F_worth.kp, b_worth, kb_worth, o_worth⟩ ou (He.free_ok X G (fact_f_range c))
    have o__law_refusals_right := ok_lrefR (P := LW.prog) (w := w) (mg := mg) (base := base) F__law_refusals_right ⟨_, _, He.glo_ok X G (fact_g__law_take c), F__law_take.kp, b__law_take, o__law_take⟩ ⟨_, _, He.glo_ok X G (fact_g__law_pick c), F__law_pick.kp, b__law_pick, o__law_pick⟩ ⟨_, _, He.glo_ok X G (fact_g__law_refused c), F__law_refused.kp, b__law_refused, o__law_refused⟩ nk (He.free_ok X G (fact_f_range c)) (He.free_ok X G (fact_f_tuple c))
    exact ok_law F ⟨nk, He.free_ok X G (fact_f_list c), He.free_ok X G (fact_f_range c), He.free_ok X G (fact_f_min c), ⟨_, _, He.glo_ok X G (fact_g__law_begun c), F__law_begun.kp, b__law_begun, o__law_begun⟩, ⟨_, _, He.glo_ok X G (fact_g__law_pick c), F__law_pick.kp, b__law_pick, o__law_pick⟩, ⟨_, _, He.glo_ok X G (fact_g__law_spans c), F__law_spans.kp, b__law_spans, o__law_spans⟩, ⟨_, _, He.glo_ok X G (fact_g__law_right c), F__law_right.kp, b__law_right, o__law_right⟩, ⟨_, _, He.glo_ok X G (fact_g__law_prices c), F__law_prices.kp, b__law_prices, o__law_prices⟩, ⟨_, _, He.glo_ok X G (fact_g__law_value c), F__law_value.kp, b__law_value, o__law_value⟩, ⟨_, _, He.glo_ok X G (fact_g_worth c), F_worth.kp, b_worth, kb_worth, o_worth⟩, ⟨_, _, He.glo_ok X G (fact_g__law_refusals_right c), F__law_refusals_right.kp, b__law_refusals_right, o__law_refusals_right⟩⟩
end
end My
open PySem PySem.W PySem.Calls PyProof.Rows
set_option maxHeartbeats 0 in
theorem PySem.Challenge.cw_stopanywhere_k57_least_spans_by_prices_holds : PySem.Challenge.rw_stopanywhere_k57_least_spans_by_prices.Holds := by
  w_on; o_law
  refine HandSHeadRun.head_any (r := OpenLaw.row PySem.Challenge.rw_stopanywhere_k57_least_spans_by_prices) (q := view (OpenLaw.row PySem.Challenge.rw_stopanywhere_k57_least_spans_by_prices).prog [38]) (H := My.hk) (ob := My.ob) (M := 60000) (loose := My.looseL) (d := HandSHeadRun.topDef (OpenLaw.row PySem.Challenge.rw_stopanywhere_k57_least_spans_by_prices).prog 38) (kwd := []) My.ob_eq
    (by kernel_rfl) (fun s => by kernel_rfl) My.run (by kernel_rfl) (by kernel_rfl) (by kernel_rfl) (by rfl) (by first | assumption | decide +kernel) (by decide +kernel) ⟨rfl, rfl, rfl, rfl, rfl, by decide +kernel⟩ ?hw ?hc
  case hw => w_witness2
  case hc =>
    refine My.walk_ofZ (l := PySem.Challenge.rw_stopanywhere_k57_least_spans_by_prices) (n := 63) (k := 8) (x := "_law_script") rfl (by decide) (by kernel_rfl) ⟨rfl, by decide, by decide⟩ ?F
    intro w mg fa h Y G hmg0
    obtain ⟨K, KX, c, T⟩ := Y
    have hmg : mg ("law" : PySem.Str) = some (.ref fa) := by
      have e : (HandSHeadRun.topDef (OpenLaw.row PySem.Challenge.rw_stopanywhere_k57_least_spans_by_prices).prog 38).name = ("law" : PySem.Str) := by kernel_rfl
      rw [← e]
      exact hmg0
    exact My.law_at KX G c T hmg
