import PyProof.Rows.All
import Wide.All
import OpenK.AllK
import Wide.FinOn
import KE.KStateDown
import KE.KExcSuper
import Lean
import HandS.ForMost
import HandS.More
import HandS.WordsExc
import HandS.Defaults
import HandS.Head0
import HandS.Head1
import HandS.Head2
import HandS.HeadEnd
import HandS.HeadHook1
import HandS.HeadHook2
import HandS.HeadHook4
import HandS.IsInst
import HandS.ExcIs
import HandS.ExcInit
import HandS.ExcValue
import HandS.Strs
import HandS.Lambda
import HandS.Wide
import HandS.Walk
import HandS.Flow
import HandS.Deep
import HandS.Style
import HandS.Star
import KE.GoesEnum
import PyProof.EnumMake
import PyProof.EnumStmt
import PyProof.EqKinds
import KE.KRevSl
import PyProof.MinMaxWalk
import PyProof.WalkInts
import HandS.DictComp
import HandS.TupAny
import HandS.CallLocal
import HandS.IntHex
import HandS.WordsDict
import KE.KLam
import HandS.SortOrd
import PySem.Challenge.RW_stopanywhere_k11_units_in_order_or_the_s
set_option Elab.async false
set_option linter.all false
set_option maxRecDepth 100000
set_option maxHeartbeats 4000000
namespace My
open PySem L2
def top (i : Nat) : Stmt := PySem.Challenge.pw_stopanywhere_k11_units_in_order_or_the_s.main.body.getD i (.Pass ⟨0, 0, 0, 0⟩)
abbrev s_BadUnits___init__ : Stmt := inClass (top 2) 0
abbrev s_NoUnit___init__ : Stmt := inClass (top 3) 0
abbrev s_UsesRing___init__ : Stmt := inClass (top 4) 0
abbrev s_is_name : Stmt := top 8
abbrev s_is_kind : Stmt := top 12
abbrev s_is_int : Stmt := top 13
abbrev s_is_row_of : Stmt := top 14
abbrev s_is_tagged : Stmt := top 15
abbrev s_is_expression : Stmt := top 16
abbrev s_is_branch : Stmt := top 17
abbrev s_is_statement : Stmt := top 18
abbrev s_is_block : Stmt := top 19
abbrev s_is_function : Stmt := top 20
abbrev s_is_variant : Stmt := top 21
abbrev s_is_declaration : Stmt := top 22
abbrev s_is_unit : Stmt := top 23
abbrev s_need_units : Stmt := top 25
abbrev s_least_ring : Stmt := top 26
abbrev s_order_of : Stmt := top 27
abbrev s_users_of : Stmt := top 28
abbrev s_law_begun : Stmt := top 30
abbrev s_law_mixed : Stmt := top 31
abbrev s_law_take : Stmt := top 32
abbrev s_law_pick : Stmt := top 33
abbrev s_law_caught : Stmt := top 34
abbrev s_law_shuffled : Stmt := top 35
abbrev s_law_units : Stmt := top 36
abbrev s_law_trees : Stmt := top 37
abbrev s_law_rings : Stmt := top 38
abbrev s_law_order : Stmt := top 39
abbrev s_law_come : Stmt := top 40
abbrev s_law_refused_right : Stmt := top 41
abbrev s_law : Stmt := top 42

/-! ## the visible heap -/
/-- from the visible H0 (of H) to the visible H0' (of H') -/
structure Vs (H0 H H0' H' : Hp) : Prop where
  grow : Same H0 H0'
  sub : Same H0' H'
  old : ∀ b o, H0' b = some o → H0 b = some o ∨ H b = none
theorem Vs.refl {H0 H : Hp} (s : Same H0 H) : Vs H0 H H0 H := ⟨Same.refl _, s, fun _ _ e => .inl e⟩
theorem free_mono {H0 H : Hp} (s : Same H0 H) {p : Addr} (h : H p = none) : H0 p = none := s.free h
theorem same_upd {H0 H : Hp} (s : Same H0 H) (p : Addr) (o : HO) : Same (upd H0 p o) (upd H p o) := fun b u e => by
  by_cases hb : b = p
  · rw [hb, upd_same] at e ⊢; exact e
  · rw [upd_ne hb] at e ⊢; exact s b u e
theorem same_new {H : Hp} {p : Addr} {o : HO} (h : H p = none) : Same H (upd H p o) := fun b u e => by
  rw [upd_ne (ne_of_none e h)]; exact e
theorem same_sub {H0 H : Hp} (s : Same H0 H) {p : Addr} {o : HO} (h : H0 p = none) : Same H0 (upd H p o) := fun b u e => by
  rw [upd_ne (ne_of_none e h)]; exact s b u e

/-! ## draws -/
def kWide : Key := Sum.inr "wide"
def kCells : Key := Sum.inr "cells"
def kRest : Key := Sum.inr "rest"
def kTurn : Key := Sum.inr "turn"
def drK (w c : Addr) (rest turn : Int) : List (Key × V) := [(kWide, .ref w), (kCells, .ref c), (kRest, .int rest), (kTurn, .int turn)]
theorem ne_cw : ¬ kCells = kWide := by unfold kCells kWide; decide +kernel
theorem ne_rw : ¬ kRest = kWide := by unfold kRest kWide; decide +kernel
theorem ne_tw : ¬ kTurn = kWide := by unfold kTurn kWide; decide +kernel
theorem ne_rc : ¬ kRest = kCells := by unfold kRest kCells; decide +kernel
theorem ne_tc : ¬ kTurn = kCells := by unfold kTurn kCells; decide +kernel
theorem ne_tr : ¬ kTurn = kRest := by unfold kTurn kRest; decide +kernel
theorem dr_wide (w c : Addr) (r t : Int) : valV (drK w c r t) kWide = some (.ref w) := valV_pos rfl
theorem dr_cells (w c : Addr) (r t : Int) : valV (drK w c r t) kCells = some (.ref c) := by
  unfold drK; rw [valV_neg (Ne.symm ne_cw)]; exact valV_pos rfl
theorem dr_rest (w c : Addr) (r t : Int) : valV (drK w c r t) kRest = some (.int r) := by
  unfold drK; rw [valV_neg (Ne.symm ne_rw), valV_neg (Ne.symm ne_rc)]; exact valV_pos rfl
theorem dr_turn (w c : Addr) (r t : Int) : valV (drK w c r t) kTurn = some (.int t) := by
  unfold drK; rw [valV_neg (Ne.symm ne_tw), valV_neg (Ne.symm ne_tc), valV_neg (Ne.symm ne_tr)]; exact valV_pos rfl
theorem dr_putRest (w c : Addr) (r t x : Int) : putK (drK w c r t) kRest (.int x) = drK w c x t := by
  have e1 : ((drK w c r t).any fun kv => decide (kv.1 = kRest)) = true := by rw [valV_any, dr_rest]; rfl
  unfold putK
  rw [if_pos e1]
  unfold drK
  simp only [List.map_cons, List.map_nil]
  rw [if_neg (Ne.symm ne_rw), if_neg (Ne.symm ne_rc), if_pos True.intro, if_neg ne_tr]
theorem dr_putTurn (w c : Addr) (r t x : Int) : putK (drK w c r t) kTurn (.int x) = drK w c r x := by
  have e1 : ((drK w c r t).any fun kv => decide (kv.1 = kTurn)) = true := by rw [valV_any, dr_turn]; rfl
  unfold putK
  rw [if_pos e1]
  unfold drK
  simp only [List.map_cons, List.map_nil]
  rw [if_neg (Ne.symm ne_tw), if_neg (Ne.symm ne_tc), if_neg (Ne.symm ne_tr), if_pos True.intro]
theorem dr_made (w c : Addr) (r t : Int) : mergeK [] (drK w c r t) = drK w c r t := by
  have a1 : putK [] kWide (.ref w) = [(kWide, .ref w)] := putK_new _ valV_nil
  have a2 : putK [(kWide, .ref w)] kCells (.ref c) = [(kWide, .ref w), (kCells, .ref c)] := putK_new _ (by rw [valV_neg (Ne.symm ne_cw)]; exact valV_nil)
  have a3 : putK [(kWide, .ref w), (kCells, .ref c)] kRest (.int r) = [(kWide, .ref w), (kCells, .ref c), (kRest, .int r)] := putK_new _ (by rw [valV_neg (Ne.symm ne_rw), valV_neg (Ne.symm ne_rc)]; exact valV_nil)
  have a4 : putK [(kWide, .ref w), (kCells, .ref c), (kRest, .int r)] kTurn (.int t) = drK w c r t := putK_new _ (by rw [valV_neg (Ne.symm ne_tw), valV_neg (Ne.symm ne_tc), valV_neg (Ne.symm ne_tr)]; exact valV_nil)
  show putK (putK (putK (putK [] kWide (.ref w)) kCells (.ref c)) kRest (.int r)) kTurn (.int t) = drK w c r t
  rw [a1, a2, a3, a4]
/-- what the drawing dict at d holds, with its lists at w and c -/
structure DrD (H : Hp) (d w c : Addr) (ws cs : List Int) (rest turn : Int) : Prop where
  hd : H d = some (.dK (drK w c rest turn))
  hw : H w = some (.lst (ws.map V.int))
  hc : H c = some (.lst (cs.map V.int))
  wc : w ≠ c
  wl : ws.length ≤ 63
  wn : ∀ x ∈ ws, 0 ≤ x
  cl : cs.length ≤ 63
  rn : 0 ≤ rest
  tn : 0 ≤ turn
/-- H0 is seen of H, the drawing dict at d is not -/
def Dw (t : Nat) (H0 H : Hp) (d : Addr) : Prop := Same H0 H ∧ ∃ (w c : Addr) (ws cs : List Int) (rest turn : Int), H0 d = none ∧ H0 w = none ∧ H0 c = none ∧ turn ≤ t ∧ DrD H d w c ws cs rest turn
theorem Dw.same {t : Nat} {H0 H : Hp} {d : Addr} (h : Dw t H0 H d) : Same H0 H := h.1
theorem Dw.mono {t t' : Nat} {H0 H : Hp} {d : Addr} (h : Dw t H0 H d) (l : t ≤ t') : Dw t' H0 H d := by
  obtain ⟨s, w, c, ws, cs, rest, turn, h1, h2, h3, ht, D⟩ := h
  exact ⟨s, w, c, ws, cs, rest, turn, h1, h2, h3, by omega, D⟩
theorem DrD.updo {H : Hp} {d w c p : Addr} {o : HO} {ws cs : List Int} {rest turn : Int} (h : DrD H d w c ws cs rest turn) (n1 : p ≠ d) (n2 : p ≠ w) (n3 : p ≠ c) : DrD (upd H p o) d w c ws cs rest turn :=
  ⟨by rw [upd_ne (Ne.symm n1)]; exact h.hd, by rw [upd_ne (Ne.symm n2)]; exact h.hw, by rw [upd_ne (Ne.symm n3)]; exact h.hc, h.wc, h.wl, h.wn, h.cl, h.rn, h.tn⟩
theorem DrD.same {H H' : Hp} {d w c : Addr} {ws cs : List Int} {rest turn : Int} (h : DrD H d w c ws cs rest turn) (s : Same H H') : DrD H' d w c ws cs rest turn :=
  ⟨s _ _ h.hd, s _ _ h.hw, s _ _ h.hc, h.wc, h.wl, h.wn, h.cl, h.rn, h.tn⟩
/-- a new object -/
theorem Dw.new {t : Nat} {H0 H : Hp} {d p : Addr} {o : HO} (h : Dw t H0 H d) (hp : H p = none) : Dw t (upd H0 p o) (upd H p o) d := by
  obtain ⟨s, w, c, ws, cs, rest, turn, h1, h2, h3, ht, D⟩ := h
  have n1 : d ≠ p := ne_of_none D.hd hp
  have n2 : w ≠ p := ne_of_none D.hw hp
  have n3 : c ≠ p := ne_of_none D.hc hp
  exact ⟨same_upd s p o, w, c, ws, cs, rest, turn, by rw [upd_ne n1]; exact h1, by rw [upd_ne n2]; exact h2, by rw [upd_ne n3]; exact h3, ht, D.updo n1.symm n2.symm n3.symm⟩
/-- an object that is seen is changed -/
theorem Dw.set {t : Nat} {H0 H : Hp} {d p : Addr} {o o' : HO} (h : Dw t H0 H d) (hp : H0 p = some o) : Dw t (upd H0 p o') (upd H p o') d := by
  obtain ⟨s, w, c, ws, cs, rest, turn, h1, h2, h3, ht, D⟩ := h
  have n1 : p ≠ d := ne_of_none hp h1
  have n2 : p ≠ w := ne_of_none hp h2
  have n3 : p ≠ c := ne_of_none hp h3
  exact ⟨same_upd s p o', w, c, ws, cs, rest, turn, by rw [upd_ne n1.symm]; exact h1, by rw [upd_ne n2.symm]; exact h2, by rw [upd_ne n3.symm]; exact h3, ht, D.updo n1 n2 n3⟩
/-- behind what only adds -/
theorem Dw.go {t : Nat} {H0 H H0' H' : Hp} {d : Addr} (h : Dw t H0 H d) (v : Vs H0 H H0' H') (s : Same H H') : Dw t H0' H' d := by
  obtain ⟨_, w, c, ws, cs, rest, turn, h1, h2, h3, ht, D⟩ := h
  have f : ∀ {b : Addr} {o : HO}, H0 b = none → H b = some o → H0' b = none := fun {b o} e e2 => by
    cases q : H0' b with
    | none => rfl
    | some u =>
      rcases v.old b u q with z | z
      · rw [e] at z; cases z
      · rw [e2] at z; cases z
  exact ⟨v.sub, w, c, ws, cs, rest, turn, f h1 D.hd, f h2 D.hw, f h3 D.hc, ht, D.same s⟩
/-- less is seen -/
theorem Dw.less {t : Nat} {H0 H1 H : Hp} {d : Addr} (h : Dw t H0 H d) (s : Same H1 H0) : Dw t H1 H d := by
  obtain ⟨s0, w, c, ws, cs, rest, turn, h1, h2, h3, ht, D⟩ := h
  exact ⟨s.trans s0, w, c, ws, cs, rest, turn, s.free h1, s.free h2, s.free h3, ht, D⟩

/-- how many draws at most -/
abbrev T40 : Nat := 1099511627776
theorem dget_wide {H : Hp} {d w c : Addr} {r t : Int} (h : H d = some (.dK (drK w c r t))) : DGet H d (.str "wide") (some (.ref w)) := by
  have := DGet.k (k := kWide) h
  rw [dr_wide] at this
  exact this
theorem dget_cells {H : Hp} {d w c : Addr} {r t : Int} (h : H d = some (.dK (drK w c r t))) : DGet H d (.str "cells") (some (.ref c)) := by
  have := DGet.k (k := kCells) h
  rw [dr_cells] at this
  exact this
theorem dget_rest {H : Hp} {d w c : Addr} {r t : Int} (h : H d = some (.dK (drK w c r t))) : DGet H d (.str "rest") (some (.int r)) := by
  have := DGet.k (k := kRest) h
  rw [dr_rest] at this
  exact this
theorem dget_turn {H : Hp} {d w c : Addr} {r t : Int} (h : H d = some (.dK (drK w c r t))) : DGet H d (.str "turn") (some (.int t)) := by
  have := DGet.k (k := kTurn) h
  rw [dr_turn] at this
  exact this
theorem dput_rest {H : Hp} {d w c : Addr} {r t : Int} (x : Int) (h : H d = some (.dK (drK w c r t))) : DPut H d (.str "rest") (.int x) (upd H d (.dK (drK w c x t))) := by
  have := DPut.k (k := kRest) (v := .int x) h (by rw [sizeLine_eq]; exact (by decide : 4 < 16777216))
  rw [dr_putRest] at this
  exact this
theorem dput_turn {H : Hp} {d w c : Addr} {r t : Int} (x : Int) (h : H d = some (.dK (drK w c r t))) : DPut H d (.str "turn") (.int x) (upd H d (.dK (drK w c r x))) := by
  have := DPut.k (k := kTurn) (v := .int x) h (by rw [sizeLine_eq]; exact (by decide : 4 < 16777216))
  rw [dr_putTurn] at this
  exact this
theorem DrD.ne_dw {H : Hp} {d w c : Addr} {ws cs : List Int} {rest turn : Int} (h : DrD H d w c ws cs rest turn) : d ≠ w := ne_of h.hd h.hw (by intro z; cases z)
theorem DrD.ne_dc {H : Hp} {d w c : Addr} {ws cs : List Int} {rest turn : Int} (h : DrD H d w c ws cs rest turn) : d ≠ c := ne_of h.hd h.hc (by intro z; cases z)
theorem DrD.setD {H : Hp} {d w c : Addr} {ws cs : List Int} {rest turn r2 t2 : Int} (h : DrD H d w c ws cs rest turn) (h1 : 0 ≤ r2) (h2 : 0 ≤ t2) : DrD (upd H d (.dK (drK w c r2 t2))) d w c ws cs r2 t2 :=
  ⟨upd_same, by rw [upd_ne h.ne_dw.symm]; exact h.hw, by rw [upd_ne h.ne_dc.symm]; exact h.hc, h.wc, h.wl, h.wn, h.cl, h1, h2⟩
def spBegun (K : PySem.W.Frag) : Sp := fun vs H Q _ => ∃ (a : Addr) (ns : List Int), vs = [.ref a] ∧ SqL K H a (ns.map V.int) ∧ ns.length ≤ 63 ∧ ∀ (H' : Hp) (d : Addr), Dw 0 H H' d → H d = none → Q (.ref d) H'
def spMixed : Sp := fun vs H Q _ => ∃ (d w c : Addr) (ws cs : List Int) (rest turn : Int), vs = [.ref d] ∧ turn < T40 ∧ DrD H d w c ws cs rest turn ∧
  ∀ (n : Int) (H' : Hp), 0 ≤ n → DrD H' d w c ws cs rest (turn + 1) → (∀ b o, H b = some o → b ≠ d → H' b = some o) → Q (.int n) H'
def spTake : Sp := fun vs H Q _ => ∃ (t : Nat) (H0 : Hp) (d : Addr) (n : Int), vs = [.ref d, .int n] ∧ Dw t H0 H d ∧ t < T40 ∧ 0 < n ∧ n < 1152921504606846976 ∧
  ∀ (k : Int) (H' : Hp), 0 ≤ k → k < n → Dw (t + 1) H0 H' d → Q (.int k) H'
/-- what _law_pick picks from -/
inductive SomeV (K : PySem.W.Frag) (H : Hp) : V → List V → Prop where
  | lst {a : Addr} {xs : List V} (h : SqL K H a xs) : SomeV K H (.ref a) xs
  | tup {a : Addr} {xs : List V} (h : SqT K H a xs) : SomeV K H (.ref a) xs
  | str {z : Str} (h : z.length ≤ 100000) : SomeV K H (.str z) (z.cps.toList.map fun c => V.str ⟨#[c]⟩)
def spPick (K : PySem.W.Frag) : Sp := fun vs H Q _ => ∃ (t : Nat) (H0 : Hp) (d : Addr) (x : V) (xs : List V), vs = [.ref d, x] ∧ Dw t H0 H d ∧ t < T40 ∧ SomeV K H0 x xs ∧ 0 < xs.length ∧ xs.length < 100000 ∧
  ∀ (v : V) (H' : Hp), v ∈ xs → Dw (t + 1) H0 H' d → Q v H'
/-! ## own exceptions whose __init__ begins with super().__init__(text) -/
theorem lookup_app {α : Type} {x : Str} : ∀ {l m : List (Str × α)}, (l ++ m).lookup x = match l.lookup x with | some v => some v | none => m.lookup x
  | [], m => rfl
  | (y, v) :: l, m => by
    show (match x == y with | true => some v | false => (l ++ m).lookup x) = match (match x == y with | true => some v | false => l.lookup x) with | some v => some v | none => m.lookup x
    cases (x == y) with
    | true => rfl
    | false => exact lookup_app
theorem lookup_out {α : Type} {x : Str} : ∀ {l : List (Str × α)}, (∀ v, (x, v) ∉ l) → l.lookup x = none
  | [], _ => rfl
  | (y, v) :: l, h => by
    have e : (x == y) = false := by
      apply Bool.eq_false_iff.mpr
      intro q
      exact h v (by rw [eq_of_beq q]; exact List.mem_cons_self ..)
    show (match x == y with | true => some v | false => l.lookup x) = none
    rw [e]
    exact lookup_out fun w hw => h w (List.mem_cons_of_mem _ hw)
theorem rev_lookup {x : Str} {u : Value} : ∀ {ps : List Str} {us : List Value} {i : Nat}, ps.Nodup → ps[i]? = some x → us[i]? = some u → (ps.zip us).reverse.lookup x = some u
  | [], _, _, _, h, _ => by simp at h
  | _ :: _, [], _, _, _, h => by simp at h
  | p :: ps, v :: us, 0, nd, h1, h2 => by
    simp at h1 h2
    subst h1 h2
    show ((p, v) :: ps.zip us).reverse.lookup p = some v
    rw [List.reverse_cons, lookup_app, lookup_out]
    · show (match p == p with | true => some v | false => _) = some v
      rw [beq_self_eq_true]
    · intro w hw
      exact (List.nodup_cons.mp nd).1 (List.of_mem_zip (List.mem_reverse.mp hw)).1
  | p :: ps, v :: us, i + 1, nd, h1, h2 => by
    show ((p, v) :: ps.zip us).reverse.lookup x = some u
    rw [List.reverse_cons, lookup_app, rev_lookup (i := i) (List.nodup_cons.mp nd).2 (by simpa using h1) (by simpa using h2)]

/-- the context of such an __init__ behind its first statement -/
abbrev supEnv (qual : Str) (scope : Scope) (L f : Addr) (cd : Value) (cc : Addr) : Env := PySem.W.ksEnv qual scope L f cd cc
def cxS (CX : CXT) (P : Program) (w : World) (K : PySem.W.Frag) (mg : Str → Option Value) (base : Heap) (N : List Str) (qual : Str) (scope : Scope) (f : Addr) (cd : Value) (cc : Addr) (A : Around) (outer : List Env) (s : Shared) (H : Hp) (E : XK) : Cx where
  prog := P
  w := w
  K := K
  mg := mg
  base := base
  A := A.deeper (supEnv qual scope s.heap.objs.size f cd cc)
  N := N
  s_0 := s
  H_0 := H
  env := supEnv qual scope s.heap.objs.size f cd cc
  outer := outer
  stack := supEnv qual scope s.heap.objs.size f cd cc :: outer
  ex := []
  calm := true
  fn := fun _ => false
  pn := []
  xe := fun e s' => wpAny (model P w) (A.deeper (supEnv qual scope s.heap.objs.size f cd cc)) (leaving (supEnv qual scope s.heap.objs.size f cd cc) e) (fun _ s'' => CX outer H s E e s'') (fun e' s'' => CX outer H s E e' s'') s'
structure ScopeS (N : List Str) (sc : Scope) : Prop where
  kind : sc.kind = .function
  co : sc.isCoroutine = false
  gen : sc.isGenerator = false
  nd : N.Nodup
  par : ∀ x ∈ N, sc.names.lookup x = some .local
  free : ∀ y ∈ sc.names, y.2 ≠ .cell ∧ (y.2 = .free → y.1 = "__class__")
  cls : sc.names.lookup ("__class__" : Str) = some .free
  sup : sc.names.lookup ("super" : Str) = some .globalImplicit
section
variable {P : Program} {w : World} {K : PySem.W.Frag} {mg : Str → Option Value} {base : Heap}
theorem invS_start {CX : CXT} {N : List Str} {qual : Str} {scope : Scope} {f cc : Addr} {cd : Value} {A : Around} {outer : List Env} {s : Shared} {H : Hp} {E : XK} {us : List Value} {vs : List V} {h0 : Heap} {tk : Nat} {oc : Obj} {cv : Option Value}
    (S : ScopeS N scope) (hd : A.handled = none) (e0 : Env0 P w K mg base A outer s H) (hl : vs.length = N.length) (r : Vals vs us) (hcc : base.get? cc = some oc) (hcd : oc.data = .cell cv)
    (hns : h0.Ns s.heap.objs.size fun x => (N.zip us).reverse.lookup x) (hk : ∀ b o, s.heap.get? b = some o → h0.get? b = some o) :
    Inv (cxS CX P w K mg base N qual scope f cd cc A outer s H E) [] (vs.map some) H { s with heap := h0, toks := tk } := by
  have noA : ∀ b : Addr, b ∉ (cxS CX P w K mg base N qual scope f cd cc A outer s H E).ex := fun b z => absurd (show b ∈ ([] : List Addr) from z) (by simp)
  have one : ∀ {y : Str} {c : Addr}, List.lookup y [(("__class__" : Str), cc)] = some c → y = "__class__" ∧ c = cc := fun {y c} h => by
    have h2 : (match y == ("__class__" : Str) with | true => some cc | false => none) = some c := h
    cases q : (y == ("__class__" : Str)) with
    | true =>
      rw [q] at h2
      exact ⟨eq_of_beq q, (Option.some.inj h2).symm⟩
    | false =>
      rw [q] at h2
      cases h2
  have has : List.lookup ("__class__" : Str) [(("__class__" : Str), cc)] = some cc := by
    show (match ("__class__" : Str) == ("__class__" : Str) with | true => some cc | false => none) = some cc
    rw [beq_self_eq_true]
  refine ⟨⟨e0.mod, S.kind, rfl, rfl, Nat.le_refl _, fun y z c h1 h2 => ?_, fun y hy => ?_, fun y c z _ => ?_, fun _ => hd, Around.frames_deeper e0.frames, .inr ⟨rfl, rfl⟩, fun b z => absurd z (noA b), e0.bs, e0.bsz, fun b _ _ => noA b, fun b z => absurd z (noA b), e0.funs, e0.frf⟩,
    rfl, e0.bare, Un.kept hk, ⟨_, hns, fun i y v h1 h2 h3 => ?_⟩, fun y c h => ?_, e0.hok.fresh (Nat.le_refl _), fun y c h => ?_, fun p hp => absurd (show p ∈ ([] : List (Addr × Obj)) from hp) (by simp), e0.hok.kept hk, ?_⟩
  · rw [(one h1).1, (one h2).1]
  · have hy : scope.names.lookup y = some .cell ∨ scope.names.lookup y = some .free := hy
    rcases hy with hy | hy
    · exact absurd rfl (S.free _ (PySem.mem_of_lookup hy)).1
    · have e : y = "__class__" := (S.free _ (PySem.mem_of_lookup hy)).2 rfl
      exact ⟨cc, by rw [e]; exact has⟩
  · have z : false = true := z
    cases z
  · have h1 : N[i]? = some y := h1
    rw [List.getElem?_map] at h2
    cases e : vs[i]? with
    | none => rw [e] at h2; cases h2
    | some a =>
      rw [e] at h2
      cases h2
      obtain ⟨u, hu, rv⟩ := r.get e
      exact ⟨u, rv, .inl ⟨S.par y (List.mem_of_getElem? h1), rev_lookup S.nd h1 hu⟩⟩
  · rw [(one h).2]
    exact ⟨cv, oc, hk _ _ (e0.bs _ _ hcc).1, hcd⟩
  · rw [(one h).2]
    exact (e0.bs _ _ hcc).2
  · show (vs.map some).length = N.length
    rw [List.length_map, hl]

/-- the written part about such a class and its __init__ -/
structure SupF (P : Program) (K : PySem.W.Frag) (mg : Str → Option Value) (C f cc cda : Addr) (qual : Str) (params : Arguments) (body : List Stmt) (scope : Scope) (fd : FuncData) : Prop where
  ex : ∃ (oc : Value) (od : Option Addr) (dV kV doc pm ct : Value) (an : Option Addr) (osl : Array (Option Value)),
    fd = PySem.W.ksFn "__init__" qual params body scope dV kV doc pm an (.ref cda) ct cc ∧ K.lookup f = some ⟨oc, od, .func fd, osl⟩
  cd : PySem.W.codeIn K (.ref cda) qual = true
  co : ∃ (oc : Obj) (vs : Array Value) (file : Str) (tf : Tok), K.lookup cda = some oc ∧ oc.data = .fields vs ∧ vs[2]? = some (.str file tf) ∧ ((P.main.file : Str) == file) = true
  cell : ∃ oc : Obj, K.lookup cc = some oc ∧ oc.data = .cell (some (.ref C))
  top : (P.main.scope.names.lookup ("super" : Str)).isSome = false
  sub : PySem.W.mroIn K C (.ref C) = some true
  opq : PySem.W.nsIn K cStatics "thirdparty.any" = some none
  al : ∃ cd, PySem.W.clsIn K C = some cd ∧ PySem.W.alongIn K "__init__" ((cd.mro.dropWhile (· != .ref C)).drop 1) = some (some (.builtin "ValueError.__init__"))
  ve : PySem.W.subIn K (.ref C) (.type "ValueError") = some true
  su : mg "super" = none
/-- the first statement -/
abbrev supCall (p0 p1 p2 p3 p4 : Pos) (txt : Str) (kd : Nat) : Expr := .Call (.Attribute (.Call (.Name "super" p0) [] [] p1) "__init__" p2) [.Constant (.str txt) kd p3] [] p4
/-- what the evaluator's own text says there, by rfl at a written scope -/
structure SupE (qual : Str) (scope : Scope) (p0 p1 p2 p3 p4 p5 : Pos) (txt : Str) (kd : Nat) : Prop where
  hi : ∀ L f cd cc, interactive (supEnv qual scope L f cd cc) = false
  hs : ∀ L f cd cc, swapsWith (supCall p0 p1 p2 p3 p4 txt kd) none p5.line (supEnv qual scope L f cd cc) = pure false
  he : ∃ pl : Sem Bool, ∀ L f cd cc, eval (supCall p0 p1 p2 p3 p4 txt kd) (supEnv qual scope L f cd cc) = (do
      let ov ← attributeBase (.Call (.Name "super" p0) [] [] p1) "__init__" (supEnv qual scope L f cd cc) (eval (.Call (.Name "super" p0) [] [] p1) (supEnv qual scope L f cd cc))
      standAt p2.atName
      let (g, first) ← holding [ov] (getMethod ov "__init__" pl)
      callWith p4 g first (backTo p4 (starEach [.Constant (.str txt) kd p3] (supEnv qual scope L f cd cc))) [])
theorem super_init {CX : CXT} {N : List Str} {qual : Str} {params : Arguments} {body : List Stmt} {scope : Scope} {C f cc cda e : Addr} {fd : FuncData} {A : Around} {outer : List Env} {s : Shared} {H : Hp} {E : XK} {s0 : Shared} {H0 : Hp} {σ : St} {p0 p1 p2 p3 p4 p5 : Pos} {txt : Str} {kd : Nat} {ar : Arg}
    (F : SupF P K mg C f cc cda qual params body scope fd) (T : OexC K C) (S : ScopeS N scope) (SE : SupE qual scope p0 p1 p2 p3 p4 p5 txt kd) (hhd : (params.posonlyargs ++ params.args).head? = some ar) (hN : N[0]? = some ar.arg)
    (I : Inv (cxS CX P w K mg base N qual scope f (.ref cda) cc A outer s0 H0 E) [] σ H s) (hσ : σ[0]? = some (some (.ref e))) (he : H e = some (exo e C none)) {Q : Flow → Shared → Prop} {EE : Value → Shared → Prop}
    (h : ∀ s', Inv (cxS CX P w K mg base N qual scope f (.ref cda) cc A outer s0 H0 E) [] σ H s' → Q .next s') :
    PySem.wpAt (model P w) (A.deeper (supEnv qual scope s0.heap.objs.size f (.ref cda) cc)) (.func body (supEnv qual scope s0.heap.objs.size f (.ref cda) cc))
      (exec (.Expr (supCall p0 p1 p2 p3 p4 txt kd) p5) (supEnv qual scope s0.heap.objs.size f (.ref cda) cc)) Q EE s := by
  obtain ⟨oc, od, dV, kV, doc, pm, ct, an, osl, rfl, lk⟩ := F.ex
  obtain ⟨co, vs, file, tf, lco, dco, vs2, hfile⟩ := F.co
  obtain ⟨cel, lcel, dcel⟩ := F.cell
  obtain ⟨cdC, hcl, hal⟩ := F.al
  have X := I.kIn
  obtain ⟨t1, ho⟩ := exo_at I.hok he
  obtain ⟨oD, hD1, hD2⟩ : ∃ oD, s.heap.get? C = some oD ∧ oD.data = .cls cdC := by
    unfold PySem.W.clsIn at hcl
    split at hcl
    · rename_i c d cd' sl hoo
      cases hcl
      exact ⟨_, X _ _ hoo, rfl⟩
    · cases hcl
  have eC : e ≠ C := fun z => by
    rw [z] at ho
    rw [ho] at hD1
    cases hD1
    cases hD2
  obtain ⟨m, hns, hloc⟩ := I.loc
  have harl : scope.names.lookup ar.arg = some .local := S.par _ (List.mem_of_getElem? hN)
  obtain ⟨u, ru, lu⟩ := hloc 0 ar.arg (.ref e) hN hσ (.inl harl)
  cases (show u = Value.ref e from ru)
  have hm : m ar.arg = some (.ref e) := by
    rcases lu with ⟨_, z⟩ | ⟨z, _⟩
    · exact z
    · have z : scope.names.lookup ar.arg = some .cell ∨ scope.names.lookup ar.arg = some .free := z
      rw [harl] at z
      rcases z with z | z <;> cases z
  have J : PySem.W.InstAt s.heap e ({ cls := .ref C, dict := none, data := .fields #[.ref t1, .none, .none, .none, .bool false, .none] } : Obj) C none := ⟨ho, rfl, rfl, trivial⟩
  obtain ⟨pl, hev⟩ := SE.he
  refine PySem.ks_wpAt_Expr_any ?_ (SE.hi _ _ _ _) (SE.hs _ _ _ _)
  refine PySem.ks_wpAt_MethodCall (pl := pl) ?_ (hev _ _ _ _)
  refine PySem.ks_wpAt_super_base (env := supEnv qual scope s0.heap.objs.size f (.ref cda) cc) S.sup S.cls (by decide +kernel) rfl (X _ _ lk) rfl hhd rfl (X _ _ lco) dco vs2 hfile F.top ?_
  obtain ⟨mb, mb1, mb2⟩ := I.mod.blt
  refine PySem.W.ks_loadName_global S.kind S.sup (Calls.loadGlobal_builtin (env := supEnv qual scope s0.heap.objs.size f (.ref cda) cc) (I.mod.glob.keeps I.bk) F.su (mb1.keeps I.bk) ((mb2 _ (by decide)).trans (show bootBuiltins "super" = some (.type "super") by decide +kernel)) ⟨rfl, ?_⟩)
  refine wpAny_loadName_free S.kind S.cls rfl ⟨_, X _ _ lcel, dcel⟩ ?_
  refine wpAny_loadName_local S.kind harl hns hm ?_
  refine ks_wpAny_isType_cls hD1 hD2 ⟨rfl, ?_⟩
  obtain ⟨hp, g, d, t, os⟩ := s
  refine ks_wpAny_call_super hD1 hD2 ho rfl (fun c z => by cases z) (PySem.W.looks_mroIn X F.sub) (fun h' es k => ?_)
  have I1 : Inv (cxS CX P w K mg base N qual scope f (.ref cda) cc A outer s0 H0 E) [] σ H ⟨h', g, d, t, os⟩ := I.kept (t' := t) k
  have X1 := I1.kIn
  refine PySem.W.kxs_getMethod PySem.W.kxs_ValueError es (PySem.W.looks_opaque X1 F.opq) (l₀ := cdC.mro) (fun A Q E s k q => wpAny_bind ((PySem.W.looks_clsIn X1 hcl) A _ E s k (wpAny_pure q))) rfl X1 hal ((show PySem.W.InstAt h' e _ C none from ⟨k _ _ ho, rfl, rfl, trivial⟩).type.andThen (PySem.W.looks_subIn X1 F.ve)) eC (by decide +kernel) ?_
  have es2 : (h'.push (PySem.W.kxs_mw "ValueError.__init__" e)).get? h'.objs.size = some (PySem.W.kxs_mw "ValueError.__init__" e) := Heap.get?_push_at rfl rfl
  generalize h'.objs.size = u at es2
  have k2 : ∀ b o, h'.get? b = some o → (h'.push (PySem.W.kxs_mw "ValueError.__init__" e)).get? b = some o := fun b o q => Heap.get?_push_of_some _ q
  generalize h'.push (PySem.W.kxs_mw "ValueError.__init__" e) = h2 at es2 k2
  have I2 : Inv (cxS CX P w K mg base N qual scope f (.ref cda) cc A outer s0 H0 E) [] σ H ⟨h2, g, d, t + 1, os⟩ := I1.kept (t' := t + 1) k2
  have hee : ∀ env : Env, starEach [.Constant (.str txt) kd p3] env = (false, eval (.Constant (.str txt) kd p3) env) :: starEach [] env := fun env => rfl
  refine PySem.W.kxs_callWith (i := "ValueError.__init__") (x := e) (by rw [hee]; rfl) ?_
  rw [hee]
  refine Calls.evalArgs_plain (Calls.spliced_cons (Calls.Constant_str (pos := p3) (k := kd) (Calls.spliced_nil ?_)))
  refine ⟨es2, ?_⟩
  have he2 := k2 _ _ (k _ _ ho)
  obtain ⟨nm, q, N', bs, bm, sn, sub, ab, col, dd, k0, k1, k2', k3, k5, hC, hbm⟩ := T.cls
  have hC2 := I2.kIn _ _ hC
  refine wpAny_call (codeAny_of_tree ?_)
  show wpAny _ (A.deeper (supEnv qual scope s0.heap.objs.size f (.ref cda) cc)).in1 (callAny (.ref u) ⟨[.str txt _], []⟩) _ _ _
  simp only [callAny]
  refine wpAny_bind (wpAny_load es2 ?_)
  simp only [PySem.W.kxs_mw, show (Value.type "method-wrapper" == Value.type "method" || Value.type "method-wrapper" == Value.type "builtin_function_or_method" || Value.type "method-wrapper" == Value.type "method-wrapper") = true by decide, if_true]
  refine PySem.W.KFB.if_so (by decide) ?_
  refine wpAny_bind (PySem.W.check_bound_init PySem.F.excBase_ValueError.toExcCallFacts hC2 he2 rfl ?_)
  refine wpAny_bind (wpAny_pure (wpAny_pure ?_))
  refine ⟨plainId_quiet PySem.F.excBase_ValueError.init.plain _, codeAny_builtin PySem.F.excBase_ValueError.initEntry ?_⟩
  refine PySem.W.exc_init_tree (cls := .ref C) (t0 := t1) (dv := none) (c2 := .none) (c3 := .none) (b4 := .bool false) he2 (by rw [sizeLine_eq]; exact (by decide : 1 ≤ 16777216)) fun h3 k3 hx _ => ?_
  have I3 : Inv (cxS CX P w K mg base N qual scope f (.ref cda) cc A outer s0 H0 E) [] σ (upd H e (exo e C none)) ⟨h3, g, d, t + 1 + 1, os⟩ := I2.write (t' := t + 1 + 1) (x := e) (e := e) (o := exo e C none) (by rw [he]; exact True.intro) (.inl rfl) k3 ⟨_, hx⟩ (exo_ok hx)
  have eu : upd H e (exo e C none) = H := by
    funext b
    by_cases hb : b = e
    · rw [hb, upd_same, he]
    · rw [upd_ne hb]
  rw [eu] at I3
  exact h _ I3
end
section
variable {P : Program} {w : World} {K : PySem.W.Frag} {mg : Str → Option Value} {base : Heap}
/-- THE RULE for such an __init__: behind its first statement, by the rest of its body -/
theorem fn_super {CX : CXT} {k : Nat} {sp : Sp} {N : List Str} {qual : Str} {params : Arguments} {rest : List Stmt} {scope : Scope} {C f cc cda : Addr} {fd : FuncData} {p0 p1 p2 p3 p4 p5 : Pos} {txt : Str} {kd : Nat} {ar : Arg}
    (F : SupF P K mg C f cc cda qual params (.Expr (supCall p0 p1 p2 p3 p4 txt kd) p5 :: rest) scope fd) (T : OexC K C) (S : ScopeS N scope) (SE : SupE qual scope p0 p1 p2 p3 p4 p5 txt kd) (hhd : (params.posonlyargs ++ params.args).head? = some ar) (hN : N[0]? = some ar.arg)
    (len : ∀ vs H Q E, sp vs H Q E → vs.length = N.length) (first : ∀ vs H Q E, sp vs H Q E → ∃ e r, vs = .ref e :: r ∧ H e = some (exo e C none))
    (hbody : ∀ (A : Around) (outer : List Env) (s : Shared) (H : Hp) (vs : List V) (Q : VK) (E : XK), sp vs H Q E →
      ∃ t, PSs (cxS CX P w K mg base N qual scope f (.ref cda) cc A outer s H E) rest t ∧ t { nx := fun _ H' => Q .non H', rt := Q } (vs.map some) H) : FnOk P w K mg base CX (k + 1) f fd N sp := by
  refine ⟨len, fun A outer s H args us vs Q E hr e0 hb r hsp => ?_⟩
  have hl := len _ _ _ _ hsp
  obtain ⟨e, rv, rfl, he⟩ := first _ _ _ _ hsp
  have F' := F
  obtain ⟨oc, od, dV, kV, doc, pm, ct, an, osl, rfl, lk⟩ := F.ex
  obtain ⟨oc', lcel, dcel⟩ := F.cell
  have KX : K.In s.heap := e0.mod.kin.keeps fun b o e => (e0.bs b o e).1
  have lim : s.heap.NoLimit := e0.mod.nolimit.keeps fun b o e => (e0.bs b o e).1
  have hloc : ∀ x ∈ N.zip us, scope.names.lookup x.1 = some .local := fun ⟨n, v⟩ hy => S.par n (List.of_mem_zip hy).1
  refine PySem.ks_codeAny_call_defAt (binds := N.zip us) hr.depth (KX _ _ lk) rfl lim (PySem.W.codeRec_of KX F.cd) rfl hb (fun x hx => (S.free x hx).1) hloc (fun h0 hns hk => ?_) S.co S.gen S.kind
  have I := invS_start (CX := CX) (P := P) (w := w) (E := E) (f := f) (cd := .ref cda) (tk := s.toks + (N.zip us).length) (qual := qual) S hr.hd e0 hl r (e0.mod.kin _ _ lcel) dcel hns hk
  obtain ⟨t, ht, hq⟩ := hbody A outer s H _ Q E hsp
  refine PySem.ks_wpAt_execs_cons (super_init F' T S SE hhd hN I rfl he fun s' I' => wpAt_of_wpAny ?_)
  refine wpAny_mono (ht.run [] s' _ H _ I' hq) (fun fl s' hs => ?_) fun e s' hs => hs
  have fin : ∀ {σ' : St} {H' : Hp} {v : V} {u : Value}, Inv (cxS CX P w K mg base N qual scope f (.ref cda) cc A outer s H E) [] σ' H' s' → RelV v u → Q v H' → CE outer P w H s Q u s' :=
    fun {σ' H' v u} J rv q => ⟨v, H', J.os, J.bare, J.base, J.hok, rv, q⟩
  cases fl with
  | ret u =>
    obtain ⟨v, σ', H', J, rv, q⟩ := hs
    exact fin J rv q
  | next =>
    obtain ⟨σ', H', J, q⟩ := hs
    exact fin (v := V.non) (u := Value.none) J rfl q
  | brk =>
    obtain ⟨_, _, _, q⟩ := hs
    exact False.elim q
  | cont =>
    obtain ⟨_, _, _, q⟩ := hs
    exact False.elim q
end
/-- C(e, ..) as a value, C an own exception whose __init__ keeps sp -/
def tMkV (C : Addr) (sp : Sp) (E : XK) (ta : TA) : TE := fun σ H Q => ta σ H fun vs H1 => vs.length ≤ 1000 ∧ ∀ a, H1 a = none → sp (.ref a :: vs) (upd H1 a (exo a C none)) (fun v H2 => v = .non ∧ Q (.ref a) H2) E
theorem pe_mkS {X : Cx} {e : Expr} {es : List Expr} {ta : TA} {p pos : Pos} {CX : CXT} {x : Str} {C fI : Addr} {k : Nat} {fd : FuncData} {ps : List Str} {sp : Sp} {E : XK} (T : OexC X.K C) (iC : PySem.W.findIn X.K (.ref C) "__init__" = some (some (.ref fI))) (tI : PySem.W.typeIn X.K (.ref fI) = some (.type "function"))
    (F1 : FnOk X.prog X.w X.K X.mg X.base CX k fI fd ps sp) (hr : Room (k + 1) X.A) (hb : Binds X.K fd ps []) (hx : Passes CX X E) (hg : Gl X x) (hm : X.mg x = some (.ref C)) (ha : PA X (e :: es) ta)
    (hdb : (x == ("__debug__" : Str)) = false := by decide) (he : starEach (e :: es) X.env = (false, eval e X.env) :: starEach es X.env := by rfl) (hpl : (backTo pos (starEach es X.env)).any (·.1) = false := by rfl) :
    PE X (.Call (.Name x p) (e :: es) [] pos) (tMkV C sp E ta) := by
  refine ⟨fun pins s σ H Q I h => ?_⟩
  obtain ⟨nm, q, N, bs, bm, sn, sub, ab, col, dd, k0, k1, k2, k3, k5, hC, hbm⟩ := T.cls
  refine wpAny_Call_Name_kw (ld_glob I hg hm ?_ hdb)
  refine PySem.W.callWith_K (h₀ := X.base) I.ok.mod.kin T.kC (thn (ha.run pos pins s σ H _ I h) fun us s1 ⟨vs, H1, I1, r1, hz, q1⟩ => ⟨I1.kIn, ?_⟩) he hpl
  show wpAny _ _ (call (.ref C) us) _ _ _
  obtain ⟨hp, g, dr, tk, os⟩ := s1
  have hsz : hp.objs.size ≤ hp.objs.size + 1 := Nat.le_succ _
  have hn : H1 (hp.objs.size + 1) = none := I1.hok.fresh hsz
  have hq := q1 (hp.objs.size + 1) hn
  have kk : ∀ b o, hp.get? b = some o → ((hp.push (PySem.W.kdv_tup us)).push (PySem.HandSPX.excO C hp.objs.size)).get? b = some o := fun b o e => Heap.get?_push_of_some _ (Heap.get?_push_of_some _ e)
  have hget : ((hp.push (PySem.W.kdv_tup us)).push (PySem.HandSPX.excO C hp.objs.size)).get? (hp.objs.size + 1) = some (PySem.HandSPX.excO C hp.objs.size) := by heap_get
  have I2 : Inv X pins σ (upd H1 (hp.objs.size + 1) (exo (hp.objs.size + 1) C none)) ⟨(hp.push (PySem.W.kdv_tup us)).push (PySem.HandSPX.excO C hp.objs.size), g, dr, tk, os⟩ :=
    I1.laid (t' := tk) (a := hp.objs.size + 1) (o := exo (hp.objs.size + 1) C none) (h' := (hp.push (PySem.W.kdv_tup us)).push (PySem.HandSPX.excO C hp.objs.size)) kk hsz (exo_ok hget)
  have r2 : Vals (V.ref (hp.objs.size + 1) :: vs) (Value.ref (hp.objs.size + 1) :: us) := .cons rfl r1
  have hl : (Value.ref (hp.objs.size + 1) :: us).length = ps.length := by
    have e := r2.length
    rw [F1.len _ _ _ _ hq] at e
    exact e.symm
  have hus : us.length ≤ sizeLine := by
    rw [← Paired.length r1, sizeLine_eq]
    omega
  have hb' := hb ⟨(hp.push (PySem.W.kdv_tup us)).push (PySem.HandSPX.excO C hp.objs.size), g, dr, tk, os⟩ (Value.ref (hp.objs.size + 1) :: us) I2.kIn (by rw [List.append_nil]; exact hl)
  rw [List.append_nil] at hb'
  refine wpAny_call (PySem.HandSPX.call_own PySem.F.excBase_ValueError (fun Y => PySem.HandSPX.refsVE_contains Y bm hbm) (I1.kIn _ _ hC) (PySem.W.looks_findIn I1.kIn iC) (fun self => PySem.W.bind_fn I1.kIn self tI) hus
    (codeAny_mono (F1.run _ X.stack _ _ ⟨Value.ref (hp.objs.size + 1) :: us, []⟩ (Value.ref (hp.objs.size + 1) :: us) _ _ E (hr.make C us []) (I2.env0.make C us []) hb' r2 hq) fun r s' hq' => ?_))
  cases r with
  | error er => exact hx pins σ _ _ er s' I2 hq'
  | ok fl =>
    cases fl with
    | ret u =>
      obtain ⟨v, H', I3, rv, ev, q3⟩ := I2.after hq'
      subst ev
      exact ⟨rv, V.ref (hp.objs.size + 1), H', I3, rfl, q3⟩
    | next => exact False.elim hq'
    | brk => exact False.elim hq'
    | cont => exact False.elim hq'
/-! ## an exception that a clause has caught stays held -/
/-- an exception of the class cls, its dict d, stands at a -/
def ExH (cls : Value) (a : Addr) (d : Option Addr) : HO := .ext fun h => ∃ (oe : Obj) (vs : Array Value), h.get? a = some oe ∧ Zc cls d oe ∧ oe.data = .fields vs
theorem exH_ok {P : Program} {w : World} {H : Hp} {h : Heap} {a : Addr} {cls : Value} {d : Option Addr} {oe : Obj} {vs : Array Value} (e : h.get? a = some oe) (z : Zc cls d oe) (dd : oe.data = .fields vs) : ObjOk P w H h a (ExH cls a d) :=
  ⟨⟨oe, vs, e, z, dd⟩, ⟨oe, e⟩, fun _ _ ⟨o, v, q, r⟩ k => ⟨o, v, k o q, r⟩⟩
section
variable {X : Cx} {pins : List (Addr × Obj)} {σ : L2.St} {H : Hp} {s : Shared}
theorem inv_track {a : Addr} {o : HO} {ob : Obj} (I : Inv X pins σ H s) (n0 : X.s_0.heap.get? a = none) (na : H a = none) (nL : a ≠ X.env.locals) (ha : s.heap.get? a = some ob) (nc : ∀ v, ob.data ≠ .cell v)
    (np : ∀ p ∈ X.pn ++ pins, p.1 ≠ a) (ok : ObjOk X.prog X.w (upd H a o) s.heap a o) : Inv X pins σ (upd H a o) s := by
  have old : ∀ {b : Addr} {u : Obj}, X.s_0.heap.get? b = some u → b ≠ a := fun {b u} e z => by
    rw [z, n0] at e
    cases e
  have nec : ∀ x c, X.env.cells.lookup x = some c → c ≠ a := fun x c e z => by
    obtain ⟨v, oc, hoc, hd⟩ := I.cell x c e
    rw [z, ha] at hoc
    cases hoc
    exact nc v hd
  refine ⟨I.ok, I.os, I.bare, ⟨I.base.keep, I.base.slot, fun b u e n x => ?_, I.base.there, fun b xs e => ?_, fun b u v e => ?_, fun b ps e => ?_⟩, I.loc, I.cell, ?_, fun x c e => ?_, fun p hp => ?_, fun b u e => ?_, I.len⟩
  · rw [upd_ne (old e)]
    exact I.base.free b u e n x
  · rw [upd_ne (ne_of_none (I.base.tups b xs e) na)]
    exact I.base.tups b xs e
  · rw [upd_ne (ne_of_none (I.base.frzs b u v e) na)]
    exact I.base.frzs b u v e
  · obtain ⟨m, q⟩ := I.base.tbls b ps e
    exact ⟨m, by rw [upd_ne (ne_of_none q na)]; exact q⟩
  · rw [upd_ne nL.symm]
    exact I.free
  · rw [upd_ne (nec x c e)]
    exact I.freeC x c e
  · obtain ⟨h1, h2, h3⟩ := I.pin p hp
    exact ⟨h1, by rw [upd_ne (np p hp)]; exact h2, h3⟩
  · by_cases hb : b = a
    · subst hb
      rw [upd_same] at e
      cases e
      exact ok
    · rw [upd_ne hb] at e
      exact (I.hok b u e).stay (fun c v _ q => q) (fun c q => by rw [upd_ne (ne_of_none q na)]; exact q) fun c xs q => by rw [upd_ne (ne_of_none q na)]; exact q
end
/-- what the clause 'except x as n' wishes, behind which the exception stays held -/
def wHeld (K : PySem.W.Frag) (c : Value) (i : Nat) (ts : Addr → Value → Option Addr → TS) (Wout : WX) (D : Ends) : WX := fun cls d σ H =>
  ∃ b, PySem.W.exmOne K cls c = some b ∧ (b = true → ∀ a, H a = none → ts a cls d
    { nx := fun σ' H' => D.nx (σ'.set i none) (upd H' a (ExH cls a d)), rt := fun v H' => D.rt v (upd H' a (ExH cls a d)), bk := fun σ' H' => D.bk (σ'.set i none) (upd H' a (ExH cls a d)), ct := fun σ' H' => D.ct (σ'.set i none) (upd H' a (ExH cls a d)) } (σ.set i (some (.ref a))) H) ∧
    (b = false → Wout cls d σ H)
section
variable {X : Cx} {x n : Str} {c : Value} {i : Nat} {body suite : List Stmt} {b₀ : Stmt} {np pos pos' : Pos} {tb : WX → TS} {ts : Addr → Value → Option Addr → TS} {Wout : WX}
theorem ps_try_held (hex : X.ex = []) (hs : X.stack = X.env :: X.outer) (hf : X.env.frame = some X.env.locals) (hN : X.N.Nodup) (hi : X.N[i]? = some n) (hln : X.env.kindOf n = some .local) (hc : Names X x c) (tk : Takes X Wout)
    (hb : ∀ (W : WX) (pn : List (Addr × Obj)) (xe : Value → Shared → Prop), Takes (X.tr pn xe) W → PassesOwn (model X.prog X.w) X.A X.env xe → PSs (X.tr pn xe) body (tb W))
    (hsu : ∀ (a : Addr) (oe : Obj) (cls : Value) (d : Option Addr) (pn : List (Addr × Obj)), Zc cls d oe → (∃ vs, oe.data = .fields vs) → PSs (X.suite a ((a, oe) :: pn)) (b₀ :: suite) (ts a cls d)) :
    PS X (.Try body [.ExceptHandler (some (.Name x np)) (some n) (b₀ :: suite) pos'] [] [] pos) (fun D σ H => tb (wHeld X.K c i ts Wout D) D σ H) := by
  refine ⟨fun pins s σ H D I hw => ?_⟩
  have ok := I.ok
  have frames1 : X.A.frames = some (X.env :: X.outer) := ok.frames.trans (congrArg some hs)
  refine wpAny_Try_except ?_
  refine wpAny_mono ((hb (wHeld X.K c i ts Wout D) (X.pn ++ pins) (fun e s1 => wpAny (model X.prog X.w) X.A (noteFrame e X.env) (fun _ s2 => wpAny (model X.prog X.w) X.A (setFlight e none) (fun _ s3 =>
    wpAny (model X.prog X.w) X.A (handleBy e X.env [.ExceptHandler (some (.Name x np)) (some n) (b₀ :: suite) pos']) (SP X pins D) X.xe s3) X.xe s2) X.xe s1) (fun u s' air => ?_) PassesOwn.looking).run [] s σ H D (I.toTry _) hw) (fun f s1 hsp => ?_) (fun e s1 he => he)
  · obtain ⟨a, B, sI, pins', σ', H', cls, d, rfl, J0, nb, up, sky, na, os, ag, b, hb1, hyes, hno⟩ := air
    have J : Inv X pins σ' H' sI := J0.ofTry ok
    have skyE : Sky B (X.env :: X.outer) a (Zc cls d) X.env.locals s'.heap := hs ▸ sky
    show wpAny (model X.prog X.w) X.A (noteFrame (.ref a) X.env) _ _ _
    refine Sky.land Zc.steady frames1 hf skyE fun h3 fl3 up3 => ?_
    have J3 : Inv X pins σ' H' { s' with heap := h3 } := J.landed nb fl3.1 (up.trans up3) os ag
    obtain ⟨oe3, vs3, he3, hz3, hd3⟩ := fl3.there
    have nfr : a ∉ frs (X.env :: X.outer) := fun hm => by
      obtain ⟨_, o', e', hnf⟩ := fl3.2.2.1.mem hm
      rw [he3] at e'
      cases e'
      exact hnf _ hd3
    have nL : a ≠ X.env.locals := fun z => nfr (List.mem_filterMap.mpr ⟨X.env, List.mem_cons_self, hf.trans (congrArg some z.symm)⟩)
    have nF : a ∉ X.fs := fun hm => by
      obtain ⟨e, he, q⟩ := List.mem_filterMap.mp hm
      exact nfr (List.mem_filterMap.mpr ⟨e, List.mem_cons_of_mem _ he, q⟩)
    -- the exception is not of the state ahead
    have nI : sI.heap.get? a = none := by
      cases e : sI.heap.get? a with
      | none => rfl
      | some o =>
        have z := nb a o e (by rw [hs]; exact nfr)
        rw [fl3.2.1] at z
        cases z
    have n0 : X.s_0.heap.get? a = none := by
      cases e : X.s_0.heap.get? a with
      | none => rfl
      | some o =>
        obtain ⟨o', z⟩ := J.base.there a o e (by rw [hex]; exact fun q => nomatch q)
        rw [nI] at z
        cases z
    have np' : ∀ p ∈ X.pn ++ pins, p.1 ≠ a := fun p hp z => by
      have q := (J.pin p hp).1
      rw [z, nI] at q
      cases q
    have S3 := J3.suite he3 hd3 na nL nF
    refine wpAny_handleBy_cons (codeAny_handlers_test ?_) (by intro q; cases q)
    have looksT : PySem.W.Looks (model X.prog X.w) h3 (typeOf (.ref a)) cls := fun A Q E s k q => wpAny_typeOf_ref (k _ _ he3) (by rw [hz3.1]; exact q)
    have looksM := PySem.W.exm_one (M := model X.prog X.w) J3.kIn looksT hb1
    have named : ∀ {Q : Value → Shared → Prop} {E : Value → Shared → Prop}, Q c { s' with heap := h3 } → wpAny (model X.prog X.w) (X.A.mark (some (.ref a))) (eval (.Name x np) X.env) Q E { s' with heap := h3 } := fun {Q E} q => by
      obtain ⟨hg, hdbg, hm | ⟨hm, hv, hnn⟩⟩ := hc
      · exact ld_glob (X := X.suite a ((a, oe3) :: (X.pn ++ pins))) S3 hg hm q hdbg
      · exact ld_blt (X := X.suite a ((a, oe3) :: (X.pn ++ pins))) S3 hg hm hv q hnn hdbg
    refine named (looksM.here ?_)
    cases b with
    | true =>
      refine codeAny_handlers_suite_as (HandSPX.lands_againZ fl3 fun h4 fl4 up4 => ?_)
      have J4 : Inv X pins σ' H' { s' with heap := h4 } := J.landed nb fl4.1 ((up.trans up3).trans up4) os ag
      obtain ⟨oe4, vs4, he4, hz4, hd4⟩ := fl4.there
      have S4 := J4.suite he4 hd4 na nL nF
      refine store_ok (X := X.suite a ((a, oe4) :: (X.pn ++ pins))) (v := .ref a) S4 hN hi (.inl hln) rfl (fun s5 S5 => ?_) (.inr hln)
      refine wpAny_mono ((hsu a oe4 cls d (X.pn ++ pins) hz4 ⟨_, hd4⟩).run [] s5 _ H' _ S5 (hyes rfl a na)) (fun f s6 hsp => ?_) (fun _ _ z => False.elim z)
      have leave : ∀ {σ6 : L2.St} {H6 : Hp} {Q : Shared → Prop}, Inv (X.suite a ((a, oe4) :: (X.pn ++ pins))) [] σ6 H6 s6 → (∀ s7, Inv X pins (σ6.set i none) (upd H6 a (ExH cls a d)) s7 → Q s7) →
          wpAny (model X.prog X.w) X.A (do bindName X.env n .none; unbindBehindTheSuite X.env n pos') (fun _ s7 => Q s7) X.xe s6 := fun {σ6 H6 Q} S6 hq => by
        obtain ⟨g1, g2, _, _, g5⟩ := S6.pin (a, oe4) (List.mem_append_left _ List.mem_cons_self)
        exact gone_ok (inv_track (S6.unsuite ok) n0 g2 nL g1 g5 np' (exH_ok g1 hz4 hd4)) hN hi hln hq
      cases f with
      | next =>
        obtain ⟨σ6, H6, S6, q6⟩ := hsp
        exact leave S6 fun s7 J7 => ⟨_, _, J7, q6⟩
      | brk =>
        obtain ⟨σ6, H6, S6, q6⟩ := hsp
        exact leave S6 fun s7 J7 => ⟨_, _, J7, q6⟩
      | cont =>
        obtain ⟨σ6, H6, S6, q6⟩ := hsp
        exact leave S6 fun s7 J7 => ⟨_, _, J7, q6⟩
      | ret u =>
        obtain ⟨v6, σ6, H6, S6, r6, q6⟩ := hsp
        exact leave S6 fun s7 J7 => ⟨_, _, _, J7, r6, q6⟩
    | false =>
      show wpAny _ X.A (handleBy (.ref a) X.env []) _ _ _
      refine wpAny_handleBy_nil ?_
      obtain ⟨k1, k2, k3, oe, vs, T, oT, ts', he, hz, hd, h1, hr⟩ := id fl3
      unfold PySem.passOn
      refine wpAny_bind (wpAny_field he hd h1 ?_)
      rw [if_neg (show ¬ ((Value.ref T == Value.none) = true) from by simp)]
      have thrown : wpAny (model X.prog X.w) X.A (setFlight (.ref a) X.env.frame) (fun _ s4 => wpAny (model X.prog X.w) X.A (throw (.ref a) : Sem Flow) (SP X pins D) X.xe s4) X.xe { s' with heap := h3 } := by
        rw [hf]
        refine HandSPX.setFlight_upZ fl3 fun h4 hh4 up4 => wpAny_throw (tk _ _ ?_)
        exact ⟨a, B, sI, pins, σ', H', cls, d, rfl, J, nb, (up.trans up3).trans up4, .inr (.inr (hs ▸ hh4)), na, os, ag, hno rfl⟩
      first
        | exact wpAny_bind (wpAny_pure (wpAny_bind thrown))
        | exact wpAny_bind thrown
  · cases f with
    | next =>
      obtain ⟨σ', H', J', q⟩ := hsp
      exact wpAny_execs_nil ⟨σ', H', J'.ofTry ok, q⟩
    | brk =>
      obtain ⟨σ', H', J', q⟩ := hsp
      exact ⟨σ', H', J'.ofTry ok, q⟩
    | cont =>
      obtain ⟨σ', H', J', q⟩ := hsp
      exact ⟨σ', H', J'.ofTry ok, q⟩
    | ret u =>
      obtain ⟨v, σ', H', J', r, q⟩ := hsp
      exact ⟨v, σ', H', J'.ofTry ok, r, q⟩
end
/-! ## attributes and classes of exceptions that are held -/
/-- what the class at D says, for reads of its instances -/
structure ExcR (K : PySem.W.Frag) (D : Addr) : Prop where
  ga : PySem.W.findIn K (.ref D) "__getattribute__" = some (some (.builtin "BaseException.__getattribute__"))
  gt : PySem.W.findIn K (.ref D) "__getattr__" = some none
  sb : PySem.W.subIn K (.ref D) (.type "BaseException") = some true
  hd : PySem.W.hasDictIn K D = true
  kl : PySem.W.findIn K (.ref D) "__class__" = some (some (.builtin "object.__class__"))
  sp : PySem.W.specialIn K (.builtin "object.__class__") "__get__" = some (some (.builtin "getset_descriptor.__get__"))
  tk : PySem.W.takesIn K (.builtin "object.__class__") = some true
  ob : PySem.W.mroIn K D (.type "object") = some true
/-- an exception of the class at D stands at a -/
def ExAt (H : Hp) (a D : Addr) : Prop := (∃ d, H a = some (exo a D d) ∧ ∀ dx, d = some dx → ∃ fs, H dx = some (exd dx fs)) ∨ H a = some (ExO (.ref D) a) ∨ ∃ d, H a = some (ExH (.ref D) a d) ∧ ∀ dx, d = some dx → ∃ fs, H dx = some (.xd fs)
section
variable {X : Cx} {pins : List (Addr × Obj)} {σ : L2.St} {H : Hp} {s : Shared}
theorem exAt_inst {a D : Addr} (I : Inv X pins σ H s) (h : ExAt H a D) : ∃ ob od, PySem.W.InstAt s.heap a ob D od := by
  rcases h with ⟨d, h1, h2⟩ | h | ⟨d, h1, h2⟩
  · obtain ⟨t1, ho⟩ := exo_at I.hok h1
    cases d with
    | none => exact ⟨_, none, ho, rfl, rfl, trivial⟩
    | some dx =>
      obtain ⟨fs, h3⟩ := h2 dx rfl
      obtain ⟨mA, ⟨od, es, ep, hod, r⟩, _⟩ := exd_at I.hok h3
      exact ⟨_, some od, ho, rfl, rfl, hod⟩
  · have x : ObjOk X.prog X.w H s.heap a (ExO (.ref D) a) := I.hok a _ h
    obtain ⟨⟨oe, vs, e1, e2, e3, _⟩, _⟩ := x
    obtain ⟨oc, odd, oda, osl⟩ := oe
    obtain ⟨z1, z2⟩ := e2
    dsimp only at z1 z2 e3
    subst z1 z2 e3
    exact ⟨_, none, e1, rfl, rfl, trivial⟩
  · have x : ObjOk X.prog X.w H s.heap a (ExH (.ref D) a d) := I.hok a _ h1
    obtain ⟨⟨oe, vs, e1, e2, e3⟩, _⟩ := x
    obtain ⟨oc, odd, oda, osl⟩ := oe
    obtain ⟨z1, z2⟩ := e2
    dsimp only at z1 z2 e3
    subst z1 z2 e3
    cases odd with
    | none => exact ⟨_, none, e1, rfl, rfl, trivial⟩
    | some dx =>
      obtain ⟨fs, h3⟩ := h2 dx rfl
      obtain ⟨mA, ⟨od, es, ep, hod, r⟩, _⟩ : ∃ mA, s.heap.Ns1 dx mA ∧ ∀ f, RelO (fs.lookup f) (mA f) := I.hok dx _ h3
      exact ⟨_, some od, e1, rfl, rfl, hod⟩
end
open PySem.W in
theorem exc_class {prog : Program} {w : World} {A : Around} {E : Value → Shared → Prop} {s : Shared} {K : Frag} {x D : Addr} {ox : Obj} {od : Option Obj} {Q : Option Value → Shared → Prop} (C : ExcR K D)
    (X : K.In s.heap) (I : InstAt s.heap x ox D od) (h : Q (some (.ref D)) { s with toks := s.toks + 1 }) : wpAny (model prog w) A (getAttr? (.ref x) "__class__") Q E s := by
  obtain ⟨cdD, hcD⟩ : ∃ cd, clsIn K D = some cd := by
    obtain ⟨cd, q, _⟩ := any_some C.hd
    exact ⟨cd, q⟩
  have hfo : findObj K D od "__class__" = some (.bind (.builtin "getset_descriptor.__get__") (.builtin "object.__class__")) := by
    unfold findObj
    rw [hcD, Option.bind_some, C.kl, Option.bind_some]
    simp [C.sp, C.tk]
  obtain ⟨hp, gs, dr, tk, os⟩ := s
  have lt := I.type (M := model prog w)
  have lg := looks_findIn (M := model prog w) X C.ga
  have lh := looks_findIn (M := model prog w) X C.gt
  have lf := looks_find (M := model prog w) X I hfo
  have lb : Looks (model prog w) hp (isInstance (.ref x) (.type "BaseException")) true := lt.andThen (looks_subIn X C.sb)
  have z2 : (onTheHeap (Value.ref D) && Value.builtin "BaseException.__getattribute__" == Value.builtin "object.__getattribute__") = false := by
    rw [show (Value.builtin "BaseException.__getattribute__" == Value.builtin "object.__getattribute__") = false by decide +kernel] <;> rfl
  unfold getAttr? getAttrBy? getAttrBy
  refine wpAny_bind (wpAny_mkText (wpAny_bind (wpAny_attempt (wpAny_holding (wpAny_bind (lt.at (wpAny_bind (lg.at ?_))))))))
  show wpAny _ _ (if (onTheHeap (Value.ref D) && Value.builtin "BaseException.__getattribute__" == Value.builtin "object.__getattribute__") = true then _ else _) _ _ _
  rw [z2, if_neg Bool.false_ne_true]
  unfold getAttrByItsOwn hookBefore
  refine wpAny_bind ?_
  rw [if_pos (show onTheHeap (Value.ref D) = true from rfl)]
  refine lh.at (wpAny_bind (wpAny_attempt (wpAny_holding ?_)))
  unfold callGetattribute
  rw [show (false && onTheHeap (Value.builtin "BaseException.__getattribute__")) = false from rfl, if_neg Bool.false_ne_true]
  unfold boundAndCalled
  rw [PySem.F.excAttr_ValueError.ga.bind (.ref x)]
  refine wpAny_bind (wpAny_pure ?_)
  show wpAny _ _ (call (.builtin "BaseException.__getattribute__") [.ref x, .str "__class__" tk]) _ _ _
  refine wpAny_call (codeAny_call_builtin PySem.F.excAttr_ValueError.ga.plain PySem.F.entry_bexc_ga ?_)
  refine @check_slot (model prog w) _ _ ⟨hp, gs, dr, tk + 1, os⟩ "BaseException.__getattribute__" "BaseException" "__getattribute__" (.ref x) [.str "__class__" tk] [] _ (by decide +kernel) (by decide +kernel) lb (PySem.F.args_bexc_ga (.ref x) (.str "__class__" tk)) ?_
  unfold Builtin.«object.__getattribute__»
  refine wpAny_bind (wpAny_of_eq (a := ((Value.ref x : Value), [Value.str "__class__" tk])) (by first | rfl | (simp only [slotArgs]; rfl)) ?_)
  refine wpAny_bind (wpAny_pure (wpAny_bind (lt.at (wpAny_bind (lf.at ?_)))))
  show wpAny _ _ (holding [Value.builtin "object.__class__"] (call (.builtin "getset_descriptor.__get__") [.builtin "object.__class__", .ref x, .ref D]) >>= ret) _ _ _
  refine wpAny_bind (wpAny_holding (wpAny_call (class_get (s := ⟨hp, gs, dr, tk + 1, os⟩) (ox := ox) (od := od) X I C.ob ?_)))
  refine wpAny_pure ?_
  show wpAny _ _ (handedOut (.ref D)) _ _ _
  rw [handedOut_of (v := .ref D) rfl]
  exact wpAny_pure (wpAny_pure h)
open PySem.W in
theorem kitx_held {K : Frag} {x D : Addr} (C : ExcR K D) : KitX K (.ref x) (.ref D) (fun h => ∃ ox od, InstAt h x ox D od) where
  ty := fun _ _ _ ⟨_, _, I⟩ => I.type
  it := fun _ _ X _ => by
    obtain ⟨cdD, hcD, _⟩ := any_some C.hd
    unfold clsIn at hcD
    split at hcD
    · rename_i c' d' cd' sl' ho
      intro A' Q' E' s' k q
      unfold isType loadHead
      exact wpAny_bind (wpAny_loadPart (k _ _ (X _ _ ho)) (wpAny_pure q))
    · cases hcD
  ne := fun h tp dd its n sl X htp => by
    obtain ⟨cdD, hcD, _⟩ := any_some C.hd
    refine Bool.eq_false_iff.mpr fun q => ?_
    have e : D = tp := Value.ref.inj (beq_iff_eq.mp q)
    subst e
    unfold clsIn at hcD
    split at hcD
    · rename_i c' d' cd' sl' ho
      have z := (X _ _ ho).symm.trans htp
      cases z
    · cases hcD
  ca := fun X ⟨_, _, I⟩ k => exc_class C X I k
/-- isinstance(e, c), e an exception that is held -/
def rIsiX (K : PySem.W.Frag) : List V → Hp → VK → Prop := fun xs H Q => ∃ (a D : Addr) (c : V) (u : Value) (b : Bool), xs = [.ref a, c] ∧ ClsV c u ∧ ExcR K D ∧ ExAt H a D ∧ PySem.W.kitOne K (.ref D) u = some b ∧ Q (.bl b) H
theorem call_isiX {X : Cx} : CallR X (.builtin "isinstance") (rIsiX X.K) := by
  intro pins s σ H xs us Q I r h
  obtain ⟨a, D, c, u, b, rfl, k, C, ea, e, q⟩ := h
  obtain ⟨u1, u2, rfl, r1, r2⟩ := vals2 r
  have e2 := k.eq r2
  subst e2
  cases (show u1 = Value.ref a from r1)
  obtain ⟨ob, od, J⟩ := exAt_inst I ea
  exact PySem.W.kia_one (kitx_held C) I.kIn ⟨_, _, J⟩ e (fun z => nomatch z) fun tk => ⟨.bl b, H, I.tok tk, rfl, q⟩
/-- e.f, e an exception that is held, f a field of its own dict -/
def tExF (K : PySem.W.Frag) (te : TE) (f : Str) : TE := fun σ H Q => te σ H fun x H1 => ∃ (a D dx : Addr) (fs : List (Str × V)) (v : V), x = .ref a ∧ ExcR K D ∧ PySem.W.findIn K (.ref D) f = some none ∧ ((H1 a = some (exo a D (some dx)) ∧ H1 dx = some (exd dx fs)) ∨ (H1 a = some (ExH (.ref D) a (some dx)) ∧ H1 dx = some (.xd fs))) ∧ fs.lookup f = some v ∧ Q v H1
theorem pe_exF {X : Cx} {e : Expr} {te : TE} {f : Str} {pos : Pos} (he : PE X e te) (hb : attributeBase e f X.env (eval e X.env) = eval e X.env := by rfl) : PE X (.Attribute e f pos) (tExF X.K te f) := by
  refine ⟨fun pins s σ H Q I h => ?_⟩
  refine attr_of hb (thn (he.run pins s σ H _ I h) fun u s1 hh => ?_)
  obtain ⟨x, H1, I1, rx, a, D, dx, fs, v, ex, C, no, st, l, q⟩ := hh
  subst ex
  cases (show u = Value.ref a from rx)
  have key : ∃ (ob : Obj) (mA : Str → Option Value), s1.heap.Ns1 dx mA ∧ (∀ f, RelO (fs.lookup f) (mA f)) ∧ s1.heap.get? a = some ob ∧ ob.cls = .ref D ∧ PySem.W.notCls ob = true ∧ ob.dict = some dx := by
    rcases st with ⟨ea, ed⟩ | ⟨ea, ed⟩
    · obtain ⟨t1, ho⟩ := exo_at I1.hok ea
      obtain ⟨mA, hns, hr⟩ := exd_at I1.hok ed
      exact ⟨_, mA, hns, hr, ho, rfl, rfl, rfl⟩
    · have x : ObjOk X.prog X.w H1 s1.heap a (ExH (.ref D) a (some dx)) := I1.hok a _ ea
      obtain ⟨⟨oe, vs, e1, e2, e3⟩, _⟩ := x
      obtain ⟨mA, hns, hr⟩ : ∃ mA, s1.heap.Ns1 dx mA ∧ ∀ f, RelO (fs.lookup f) (mA f) := I1.hok dx _ ed
      exact ⟨oe, mA, hns, hr, e1, e2.1, by unfold PySem.W.notCls; rw [e3] <;> rfl, e2.2⟩
  obtain ⟨ob, mA, hns, hr, ho, oc, onc, odx⟩ := key
  obtain ⟨od, hod, hlk⟩ := lookIn_ns hns
  have rl := hr f
  rw [l] at rl
  cases hm : mA f with
  | none =>
    rw [hm] at rl
    exact rl.elim
  | some y =>
    rw [hm] at rl
    have J : PySem.W.InstAt s1.heap a ob D (some od) := ⟨ho, oc, onc, by rw [odx]; exact hod⟩
    exact PySem.HandSPX.exc_get I1.kIn J C.ga C.gt C.sb (PySem.W.findObj_own C.hd no rfl (by rw [hlk, hm])) (handed_of rl) ⟨v, H1, I1.tok _, rl, q⟩
/-! ## defs that are called where no repr runs -/
structure FnG (P : Program) (w : World) (K : PySem.W.Frag) (mg : Str → Option Value) (base : Heap) (k : Nat) (f : Addr) (fd : FuncData) (ps : List Str) (sp : Sp) : Prop where
  len : ∀ vs H Q E, sp vs H Q E → vs.length = ps.length
  run : ∀ (A : Around) (outer : List Env) (s : Shared) (H : Hp) (args : Args) (us : List Value) (vs : List V) (Q : VK) (E : XK), A.guards = some [] → Room k A → Env0 P w K mg base A outer s H → BindsTo s fd args (ps.zip us) → Vals vs us → sp vs H Q E →
    codeAny (model P w) A (.call (.ref f) args) (CR CX0 outer P w H s Q E) s
section
variable {P : Program} {w : World} {K : PySem.W.Frag} {mg : Str → Option Value} {base : Heap} {x qual : Str} {params : Arguments} {body : List Stmt} {scope : Scope} {dvs : List V} {kws : List (Str × V)} {f : Addr} {fd : FuncData}
theorem FunD.okG {N ps : List Str} {k : Nat} {sp : Sp} (F : FunD K x qual params body scope dvs kws f fd) (S : FnScope N ps scope) (len : ∀ vs H Q E, sp vs H Q E → vs.length = ps.length)
    (hbody : ∀ (cdv : Value) (A : Around) (outer : List Env) (s : Shared) (H : Hp) (vs : List V) (Q : VK) (E : XK), (A.deeper (PyProof.Rows.envOfC qual scope s.heap.objs.size f cdv)).guards = some [] → Room k (A.deeper (PyProof.Rows.envOfC qual scope s.heap.objs.size f cdv)) → sp vs H Q E →
      ∃ t, PSs (cxOf CX0 P w K mg base N qual scope f cdv A outer s H E) body t ∧ t { nx := fun _ H' => Q .non H', rt := Q } (start N vs) H) : FnG P w K mg base (k + 1) f fd ps sp := by
  obtain ⟨oc, od, dV, kV, doc, pm, an, cdv, ct, osl, rfl, lk, hcd, _, _⟩ := F.ex
  refine ⟨len, fun A outer s H args us vs Q E hg hr e0 hb r hsp => ?_⟩
  have hlen := len _ _ _ _ hsp
  have kin : K.In s.heap := e0.mod.kin.keeps fun b o e => (e0.bs b o e).1
  have nol : s.heap.NoLimit := e0.mod.nolimit.keeps fun b o e => (e0.bs b o e).1
  have kinds : ∀ y ∈ ps.zip us, scope.names.lookup y.1 = some .local ∨ (scope.names.lookup y.1 = some .cell ∧ ((cellsFrom (s.heap.objs.size + 1) scope.names []).lookup y.1).isSome = true) := fun ⟨n, v⟩ hy => by
    rcases S.par n (List.of_mem_zip hy).1 with q | q
    · exact .inl q
    · exact .inr ⟨q, PySem.W.cellsFrom_some _ _ _ (.inl q)⟩
  refine codeAny_call_function hr.depth (kin _ _ lk) rfl S.co S.gen rfl (PySem.W.codeRec_of kin hcd) (hb _ _ _ _ ?_)
  refine wpAny_newFunctionEnv_cells S.kind kinds fun env he s1 ic => ?_
  subst he
  refine ⟨nol.keeps ic.toInCall.keep, codeAny_func ?_⟩
  obtain ⟨t, ht, hq⟩ := hbody cdv A outer s H vs Q E hg (hr.deeper _) hsp
  have I : Inv (cxOf CX0 P w K mg base N qual scope f cdv A outer s H E) [] (start N vs) H s1 := inv_start S hr.hd e0 hlen r ic
  refine wpAny_mono (ht.run [] s1 (start N vs) H _ I hq) (fun fl s' hs => ?_) fun e s' hs => hs
  cases fl with
  | ret u =>
    obtain ⟨v, σ', H', J, rv, q⟩ := hs
    exact ⟨v, H', J.os, J.bare, J.base, J.hok, rv, q⟩
  | next =>
    obtain ⟨σ', H', J, q⟩ := hs
    exact ⟨V.non, H', J.os, J.bare, J.base, J.hok, rfl, q⟩
  | brk =>
    obtain ⟨_, _, _, q⟩ := hs
    exact q.elim
  | cont =>
    obtain ⟨_, _, _, q⟩ := hs
    exact q.elim
end
section
variable {X : Cx} {k : Nat} {f : Addr} {fd : FuncData} {ps : List Str} {sp : Sp} {E : XK} {x : Str} {p pos : Pos} {e : Expr} {es : List Expr} {t : TA} {ds : List Value} {dvs : List V}
theorem run_fnG {pins : List (Addr × Obj)} {σ : L2.St} {H : Hp} {s : Shared} {Q : VK} {us : List Value} {vs : List V} (F : FnG X.prog X.w X.K X.mg X.base k f fd ps sp) (hg : X.A.guards = some []) (hr : Room k X.A) (hb : Binds X.K fd ps ds) (hd : Vals dvs ds)
    (I : Inv X pins σ H s) (r : Vals vs us) (h : sp (vs ++ dvs) H Q E) : wpAny (model X.prog X.w) X.A (call (.ref f) us) (EP X pins σ Q) X.xe s := by
  have rr : Vals (vs ++ dvs) (us ++ ds) := r.append hd
  have hlen : (us ++ ds).length = ps.length := by
    rw [← rr.length]
    exact F.len _ _ _ _ h
  refine wpAny_call (codeAny_mono (F.run X.A X.stack s H ⟨us, []⟩ (us ++ ds) (vs ++ dvs) Q E hg hr I.env0 (hb s us I.kIn hlen) rr h) fun r s' hq => ?_)
  cases r with
  | error e => exact False.elim hq
  | ok fl =>
    cases fl with
    | ret u => exact I.after hq
    | next => exact hq.elim
    | brk => exact hq.elim
    | cont => exact hq.elim
theorem pe_callG (F : FnG X.prog X.w X.K X.mg X.base k f fd ps sp) (hgd : X.A.guards = some []) (hr : Room k X.A) (hg : Gl X x) (hm : X.mg x = some (.ref f)) (hk : PySem.W.keepIn X.K (.ref f) = true) (hb : Binds X.K fd ps ds) (hd : Vals dvs ds)
    (ha : PA X (e :: es) t) (hdb : (x == ("__debug__" : Str)) = false := by decide) (he : starEach (e :: es) X.env = (false, eval e X.env) :: starEach es X.env := by rfl) (hpl : (backTo pos (starEach es X.env)).any (·.1) = false := by rfl) :
    PE X (.Call (.Name x p) (e :: es) [] pos) (tCall sp dvs E t) :=
  ⟨fun pins s σ H Q I h => wpAny_Call_Name_kw (ld_glob I hg hm (PySem.W.callWith_K (h₀ := X.base) I.ok.mod.kin hk (thn (ha.run pos pins s σ H _ I h) fun us s1 ⟨vs, H1, I1, r, q⟩ => ⟨I1.kIn, run_fnG F hgd hr hb hd I1 r q⟩) he hpl) hdb)⟩
end
/-! ## repr of data, where no repr runs -/
def keyD : Key → PyData
  | .inl i => .int i
  | .inr x => .str x
mutual
inductive Dx (K : PySem.W.Frag) (H : Hp) : V → PyData → Prop
  | non : Dx K H .non .none
  | bl (b : Bool) : Dx K H (.bl b) (.bool b)
  | int (i : Int) : Dx K H (.int i) (.int i)
  | str (x : Str) : Dx K H (.str x) (.str x)
  | lst {a : Addr} {xs : List V} {ds : List PyData} : SqL K H a xs → DxAll K H xs ds → Dx K H (.ref a) (.list ds)
  | tup {a : Addr} {xs : List V} {ds : List PyData} : SqT K H a xs → DxAll K H xs ds → Dx K H (.ref a) (.tuple ds)
  | dic {a : Addr} {kvs : List (Key × V)} {ds : List PyData} : H a = some (.dK kvs) → DxAll K H (kvs.map (·.2)) ds → Dx K H (.ref a) (.dict ((kvs.map fun kv => keyD kv.1).zip ds))
inductive DxAll (K : PySem.W.Frag) (H : Hp) : List V → List PyData → Prop
  | nil : DxAll K H [] []
  | cons {v : V} {vs : List V} {d : PyData} {ds : List PyData} : Dx K H v d → DxAll K H vs ds → DxAll K H (v :: vs) (d :: ds)
end
/-- the modules' table is a dict of the written part -/
def SmD (K : PySem.W.Frag) : Prop := ∃ o : Obj, K.lookup sysModules = some o ∧ o.cls = .type "dict"
theorem DxAll.length {K : PySem.W.Frag} {H : Hp} : ∀ {vs : List V} {ds : List PyData}, DxAll K H vs ds → vs.length = ds.length
  | _, _, .nil => rfl
  | _, _, .cons _ t => by rw [List.length_cons, List.length_cons, t.length]
section
variable {X : Cx} {pins : List (Addr × Obj)} {σ : L2.St} {H : Hp} {s : Shared}
theorem keys_read {P : Program} {w : World} : ∀ {es : List DictEntry} {vs : List (Key × Value)} {kvs : List (Key × V)} {h : Heap}, Pairs (mixKind P w) es vs → KV kvs vs → ∃ as, ReadsAll h (es.map (·.key)) (kvs.map fun kv => keyD kv.1) as ∧ as = []
  | _, _, _, h, .nil, .nil => ⟨[], .nil, rfl⟩
  | e :: es, kv :: vs, p :: kvs, h, .cons k1 _ t, .cons r t2 => by
    obtain ⟨as, q, rfl⟩ := keys_read (h := h) t t2
    obtain ⟨c1, e1, e2⟩ := e
    obtain ⟨kk, vv⟩ := p
    have ek : kv.1 = kk := r.1.symm
    rw [ek] at k1
    have kd : Reads h e1 (keyD kk) [] := by
      rcases keyIs_shape k1 with ⟨i, tt, rfl, z⟩ | ⟨x, tt, rfl, z⟩
      · have z : e1 = Value.int i tt := z
        subst z
        exact Reads.int i tt
      · have z : e1 = Value.str x tt := z
        subst z
        exact Reads.str x tt
    exact ⟨_, ReadsAll.cons kd q, rfl⟩
theorem vals_read {P : Program} {w : World} : ∀ {es : List DictEntry} {vs : List (Key × Value)} {kvs : List (Key × V)}, Pairs (mixKind P w) es vs → KV kvs vs → Vals (kvs.map (·.2)) (es.map (·.val))
  | _, _, _, .nil, .nil => .nil
  | e :: es, kv :: vs, p :: kvs, .cons _ e1 t, .cons r t2 => by
    refine .cons ?_ (vals_read t t2)
    show RelV p.2 e.val
    rw [e1]
    exact r.2
theorem zip_fst {α β : Type} : ∀ {l : List α} {m : List β}, l.length = m.length → (l.zip m).map (·.1) = l
  | [], _, _ => rfl
  | a :: l, b :: m, h => by
    show a :: (l.zip m).map (·.1) = a :: l
    rw [zip_fst (Nat.succ.inj h)]
theorem zip_snd {α β : Type} : ∀ {l : List α} {m : List β}, l.length = m.length → (l.zip m).map (·.2) = m
  | [], [], _ => rfl
  | a :: l, b :: m, h => by
    show b :: (l.zip m).map (·.2) = b :: m
    rw [zip_snd (Nat.succ.inj h)]
mutual
theorem Dx.reads (I : Inv X pins σ H s) (S : SmD X.K) : ∀ {d : PyData} {v : V} {u : Value}, Dx X.K H v d → RelV v u → ∃ as, Reads s.heap u d as ∧ sysModules ∉ as
  | _, _, _, .non, r => by
    cases r
    exact ⟨_, Reads.none, by simp⟩
  | _, _, _, .bl b, r => by
    cases r
    exact ⟨_, Reads.bool b, by simp⟩
  | _, _, _, .int i, r => by
    obtain ⟨t, rfl⟩ := r
    exact ⟨_, Reads.int i t, by simp⟩
  | _, _, _, .str x, r => by
    obtain ⟨t, rfl⟩ := r
    exact ⟨_, Reads.str x t, by simp⟩
  | _, _, _, .lst hs ha, r => by
    cases r
    obtain ⟨its, rv, ⟨o, n, ho, hc, _, hd⟩, _⟩ := I.list hs
    obtain ⟨as, hr, hn⟩ := DxAll.reads I S ha rv
    refine ⟨_, Reads.list ho hc hd hr, fun z => ?_⟩
    rcases List.mem_cons.mp z with z | z
    · obtain ⟨om, hm, hmc⟩ := S
      have h2 := I.kIn _ _ hm
      rw [z, ho] at h2
      cases h2
      rw [hc] at hmc
      exact absurd hmc (by decide)
    · exact hn z
  | _, _, _, .tup hs ha, r => by
    cases r
    obtain ⟨its, rv, ⟨o, ho, hc, n, hd⟩, _⟩ := I.tuple hs
    obtain ⟨as, hr, hn⟩ := DxAll.reads I S ha rv
    exact ⟨_, Reads.tuple ho hc hd hr, hn⟩
  | _, _, _, .dic (a := a) (kvs := kvs) (ds := ds) hk ha, r => by
    cases r
    obtain ⟨hz, hsm, vs, rk, o, es, ep, ho, hx, hd, _, hp, _⟩ : kvs.length ≤ sizeLine ∧ (a == sysModules) = false ∧ ∃ vs, KV kvs vs ∧ s.heap.DictOf (mixKind X.prog X.w) a vs := I.hok _ _ hk
    obtain ⟨as, h1, rfl⟩ := keys_read (h := s.heap) hp rk
    obtain ⟨bs, h2, hn⟩ := DxAll.reads I S ha (vals_read hp rk)
    have hl : (kvs.map fun kv => keyD kv.1).length = ds.length := by rw [List.length_map, ← ha.length, List.length_map]
    refine ⟨_, Reads.dict (kvs := (kvs.map fun kv => keyD kv.1).zip ds) ho hx.1 hd (by rw [zip_fst hl]; exact h1) (by rw [zip_snd hl]; exact h2), fun z => ?_⟩
    rcases List.mem_cons.mp z with z | z
    · rw [z] at hsm
      simp at hsm
    · exact hn (by simpa using z)
theorem DxAll.reads (I : Inv X pins σ H s) (S : SmD X.K) : ∀ {ds : List PyData} {vs : List V} {us : List Value}, DxAll X.K H vs ds → Vals vs us → ∃ as, ReadsAll s.heap us ds as ∧ sysModules ∉ as
  | _, _, _, .nil, r => by
    cases r
    exact ⟨_, ReadsAll.nil, by simp⟩
  | _, _, _, .cons h1 h2, r => by
    cases r with
    | cons r1 r2 =>
      obtain ⟨as, q1, n1⟩ := Dx.reads I S h1 r1
      obtain ⟨bs, q2, n2⟩ := DxAll.reads I S h2 r2
      exact ⟨_, ReadsAll.cons q1 q2, fun z => (List.mem_append.mp z).elim n1 n2⟩
end
end
/-- repr(x), x a list, tuple or dict of data -/
def rRepr (K : PySem.W.Frag) : List V → Hp → VK → Prop := fun xs H Q => ∃ (a : Addr) (d : PyData), xs = [.ref a] ∧ Dx K H (.ref a) d ∧ d.showable = true ∧ d.depth ≤ 100 ∧ d.shown.length ≤ sizeLine ∧ Q (.str d.shown) H
theorem call_reprX {X : Cx} (hg : X.A.guards = some []) (hu : X.A.units + 101 < cLine) (S : SmD X.K) : CallR X (.builtin "repr") (rRepr X.K) := by
  intro pins s σ H xs us Q I r h
  obtain ⟨a, d, rfl, hd, hs, hdp, hz, q⟩ := h
  obtain ⟨u, rfl, ru⟩ := vals1 r
  obtain ⟨as, hr, hn⟩ := hd.reads I S ru
  cases (show u = Value.ref a from ru)
  exact repr_of_reads' hr hs (fun _ => hn) hg (by omega) (fun _ _ e => e) (fun h' t tk hk => ⟨.str d.shown, H, I.kept (t' := tk) hk, ⟨_, rfl⟩, q⟩) hz
/-! ## the head's facts, by tables of tests on the written part -/
open PySem.W in
def oexB (K : Frag) (C : Addr) : Bool := (match K.lookup C with
  | some ⟨.type "type", _, .cls cd, sl⟩ => (match cd.mro, sl.toList with
    | .ref C' :: bm, [_, _, _, _, some (.builtin n), _] => C' == C && (n == "ValueError.__new__" && (!cd.hasDel && (cd.hasDict && PySem.HandSPX.refsVE bm)))
    | _, _ => false)
  | _ => false) && (He.eqO (findIn K (.ref C) "__setattr__") (some (some (.builtin "object.__setattr__"))) && (decide (subIn K (.ref C) (.type "BaseException") = some true) && (decide (typeIn K (.ref C) = some (.type "type")) && keepIn K (.ref C))))
theorem oexB_ok {K : PySem.W.Frag} {C : Addr} (h : oexB K C = true) : OexC K C := by
  obtain ⟨h1, h2⟩ := He.ba h
  obtain ⟨h3, h4⟩ := He.ba h2
  obtain ⟨h5, h6⟩ := He.ba h4
  obtain ⟨h7, h8⟩ := He.ba h6
  refine ⟨?_, He.eqO_ok h3, of_decide_eq_true h5, of_decide_eq_true h7, h8⟩
  split at h1
  · rename_i dd cd sl ho
    split at h1
    · rename_i C' bm k0 k1 k2 k3 n k5 hm hs
      obtain ⟨e1, h1⟩ := He.ba h1
      obtain ⟨e2, h1⟩ := He.ba h1
      obtain ⟨e3, h1⟩ := He.ba h1
      obtain ⟨e4, e5⟩ := He.ba h1
      obtain ⟨nm, bs, mro, ns, qn, hd, sn, sub, ab, col, del⟩ := cd
      dsimp only at hm e3 e4
      have e1 : C' = C := eq_of_beq e1
      have e2 : n = "ValueError.__new__" := eq_of_beq e2
      have e3 : del = false := by simpa using e3
      subst hm e1 e2 e3 e4
      have hsl : sl = #[k0, k1, k2, k3, some (.builtin "ValueError.__new__"), k5] := by
        obtain ⟨l⟩ := sl
        simp only at hs
        rw [hs]
      subst hsl
      exact ⟨_, _, _, _, _, _, _, _, _, _, _, _, _, _, _, ho, e5⟩
    · cases h1
  · cases h1
open PySem.W in
def excRB (K : Frag) (D : Addr) : Bool := He.eqO (findIn K (.ref D) "__getattribute__") (some (some (.builtin "BaseException.__getattribute__"))) && (He.eqO (findIn K (.ref D) "__getattr__") (some none) && (decide (subIn K (.ref D) (.type "BaseException") = some true) &&
  (hasDictIn K D && (He.eqO (findIn K (.ref D) "__class__") (some (some (.builtin "object.__class__"))) && (He.eqO (specialIn K (.builtin "object.__class__") "__get__") (some (some (.builtin "getset_descriptor.__get__"))) &&
  (decide (takesIn K (.builtin "object.__class__") = some true) && decide (mroIn K D (.type "object") = some true)))))))
theorem excRB_ok {K : PySem.W.Frag} {D : Addr} (h : excRB K D = true) : ExcR K D := by
  obtain ⟨h1, h⟩ := He.ba h
  obtain ⟨h2, h⟩ := He.ba h
  obtain ⟨h3, h⟩ := He.ba h
  obtain ⟨h4, h⟩ := He.ba h
  obtain ⟨h5, h⟩ := He.ba h
  obtain ⟨h6, h⟩ := He.ba h
  obtain ⟨h7, h8⟩ := He.ba h
  exact ⟨He.eqO_ok h1, He.eqO_ok h2, of_decide_eq_true h3, h4, He.eqO_ok h5, He.eqO_ok h6, of_decide_eq_true h7, of_decide_eq_true h8⟩
/-- an __init__ of an own exception that begins with super() -/
structure DefS where
  cls : Str
  qual : Str
  params : Arguments
  body : List Stmt
  scope : Scope
abbrev FnSW : Type := Option (Str × Str × Arguments × FuncBody × Scope × Addr × List Str × Addr)
abbrev initAd (K : PySem.W.Frag) (C : Str) : Addr := He.ma K (He.ga K C) "__init__"
def fnSW (K : PySem.W.Frag) (C : Str) : FnSW := match K.lookup (initAd K C) with
  | some ⟨_, _, .func fd, _⟩ => some (fd.name, fd.qualname, fd.params, fd.body, fd.scope, fd.globals, fd.closure.map (·.1), fd.builtins)
  | _ => none
def DefS.val (d : DefS) : FnSW := some ("__init__", d.qual, d.params, .stmts d.body, d.scope, mainGlobals, ["__class__"], builtinsNs)
open PySem.W in
/-- what such an __init__ of the class C wants of the written part, the module's file given -/
def supB (file : Str) (K : Frag) (C : Str) (qual : Str) : Bool :=
  He.eqO (findIn K (.ref (He.ga K C)) "__init__") (some (some (.ref (initAd K C)))) && (decide (typeIn K (.ref (initAd K C)) = some (.type "function")) &&
  ((match K.lookup (initAd K C) with
    | some ⟨_, _, .func fd, _⟩ => (match fd.closure, fd.code with
      | [(_, cc)], .ref cda => (match K.lookup cc with
          | some ⟨_, _, .cell (some (.ref D)), _⟩ => D == He.ga K C
          | _ => false) && (codeIn K (.ref cda) qual && (match K.lookup cda with
          | some ⟨_, _, .fields vs, _⟩ => (match vs[2]? with
            | some (Value.str f _) => file == f
            | _ => false)
          | _ => false))
      | _, _ => false)
    | _ => false) && (decide (mroIn K (He.ga K C) (.ref (He.ga K C)) = some true) && (He.eqO (nsIn K cStatics "thirdparty.any") (some none) && (decide (subIn K (.ref (He.ga K C)) (.type "ValueError") = some true) &&
    (match clsIn K (He.ga K C) with
    | some cd => He.eqO (alongIn K "__init__" ((cd.mro.dropWhile (· != .ref (He.ga K C))).drop 1)) (some (some (.builtin "ValueError.__init__")))
    | none => false))))))
theorem supB_ok {P : Program} {K : PySem.W.Frag} {mg : Str → Option Value} {d : DefS} (hw : fnSW K d.cls = d.val) (h : supB P.main.file K d.cls d.qual = true) (top : (P.main.scope.names.lookup ("super" : Str)).isSome = false) (su : mg "super" = none) :
    PySem.W.findIn K (.ref (He.ga K d.cls)) "__init__" = some (some (.ref (initAd K d.cls))) ∧ PySem.W.typeIn K (.ref (initAd K d.cls)) = some (.type "function") ∧
    ∃ (cc cda : Addr) (fd : FuncData), SupF P K mg (He.ga K d.cls) (initAd K d.cls) cc cda d.qual d.params d.body d.scope fd := by
  obtain ⟨h1, h⟩ := He.ba h
  obtain ⟨h2, h⟩ := He.ba h
  obtain ⟨h3, h⟩ := He.ba h
  obtain ⟨h4, h⟩ := He.ba h
  obtain ⟨h5, h⟩ := He.ba h
  obtain ⟨h6, h7⟩ := He.ba h
  refine ⟨He.eqO_ok h1, of_decide_eq_true h2, ?_⟩
  unfold fnSW at hw
  split at h3
  · rename_i oc od fd osl lk
    rw [lk] at hw
    split at h3
    · rename_i nm cc cda hclo hcod
      obtain ⟨h8, h3⟩ := He.ba h3
      obtain ⟨h9, h10⟩ := He.ba h3
      have e2 : (some (fd.name, fd.qualname, fd.params, fd.body, fd.scope, fd.globals, fd.closure.map (·.1), fd.builtins) : FnSW) = d.val := hw
      unfold DefS.val at e2
      simp only [Option.some.injEq, Prod.mk.injEq] at e2
      obtain ⟨g1, g2, g3, g4, g5, g6, g7, g8⟩ := e2
      rw [hclo] at g7
      have g7 : nm = "__class__" := by simpa using g7
      refine ⟨cc, cda, fd, ?_⟩
      have hcell : ∃ oc : Obj, K.lookup cc = some oc ∧ oc.data = .cell (some (.ref (He.ga K d.cls))) := by
        split at h8
        · rename_i a b D c hl
          have e : D = He.ga K d.cls := eq_of_beq h8
          exact ⟨_, hl, by rw [← e]⟩
        · cases h8
      have hco : ∃ (oc : Obj) (vs : Array Value) (file : Str) (tf : Tok), K.lookup cda = some oc ∧ oc.data = .fields vs ∧ vs[2]? = some (.str file tf) ∧ ((P.main.file : Str) == file) = true := by
        split at h10
        · rename_i a b vs c hl
          split at h10
          · rename_i f t hv
            exact ⟨_, vs, f, t, hl, rfl, hv, h10⟩
          · cases h10
        · cases h10
      have hal : ∃ cd, PySem.W.clsIn K (He.ga K d.cls) = some cd ∧ PySem.W.alongIn K "__init__" ((cd.mro.dropWhile (· != .ref (He.ga K d.cls))).drop 1) = some (some (.builtin "ValueError.__init__")) := by
        split at h7
        · rename_i cd hc
          exact ⟨cd, hc, He.eqO_ok h7⟩
        · cases h7
      obtain ⟨n1, n2, n3, n4, n5, n6, n7, n8, n9, n10, n11, n12, n13, n14, n15⟩ := fd
      dsimp only at g1 g2 g3 g4 g5 g6 g8 hclo hcod
      subst g1 g2 g3 g4 g5 g6 g8 hclo hcod g7
      exact ⟨⟨oc, od, n8, n9, n10, n11, n14, n12, osl, rfl, lk⟩, h9, hco, hcell, top, of_decide_eq_true h4, He.eqO_ok h5, hal, of_decide_eq_true h6, su⟩
    · cases h3
  · cases h3
/-! ### the Hook -/
abbrev AlZ : Type := Bool × List He.FnW × List FnSW
def obsZ (fb : List (PySem.W.Frag → Bool)) (fn : List He.DefD) (cs : List DefS) (K : PySem.W.Frag) : AlZ := ((fb.all fun f => f K) && fn.all fun d => d.ok K, fn.map fun d => He.fnW K d.at_, cs.map fun d => fnSW K d.cls)
def valZ (fn : List He.DefD) (cs : List DefS) : AlZ := (true, fn.map He.DefD.val, cs.map DefS.val)
def SaysZ (fb : List (PySem.W.Frag → Bool)) (fn : List He.DefD) (cs : List DefS) (K : PySem.W.Frag) : Prop := obsZ fb fn cs K = valZ fn cs
/-- a def whose lambdas are made: its code object, the table in it -/
def tabB (g : Addr → Option Obj) (K : PySem.W.Frag) (p : He.Defn) : Bool := (match g (He.cT K p).2 with
  | some o => He.emptyTab o
  | none => false) && (match K.lookup (He.cT K p).1 with
  | some ⟨.type c, _, .fields vs, _⟩ => decide (c = "code") && (decide (vs[11]? = some (.ref (He.cT K p).2)) && ((match vs.getD 18 .none, vs.getD 7 .none, vs.getD 9 .none, vs.getD 10 .none with
      | .str _ _, .int _ _, .bool _, .int _ _ => true
      | _, _, _, _ => false) && decide ((He.cT K p).1 ≠ (He.cT K p).2)))
  | _ => false)
theorem tabB_ok {h : Heap} {K : PySem.W.Frag} (X : K.In h) {p : He.Defn} (e : tabB h.get? K p = true) : h.get? (He.cT K p).2 = some { cls := .none, data := .fields #[] } ∧ PySem.W.CodeHd h (He.cT K p).1 (He.cT K p).2 := by
  obtain ⟨h1, h2⟩ := He.ba e
  refine ⟨?_, ?_⟩
  · split at h1
    · rename_i o ho
      rw [ho, He.emptyTab_eq h1]
    · cases h1
  · split at h2
    · rename_i c dd vs sl lk
      obtain ⟨q1, h2⟩ := He.ba h2
      obtain ⟨q2, h2⟩ := He.ba h2
      obtain ⟨q3, q4⟩ := He.ba h2
      have e2 := of_decide_eq_true q2
      have e3 : vs.getD 11 .none = .ref (He.cT K p).2 := by
        rw [Array.getD_eq_getD_getElem?, e2] <;> rfl
      split at q3
      · rename_i f tf fl tg b i tt z1 z2 z3 z4
        exact ⟨_, vs, f, tf, fl, tg, b, i, tt, X _ _ lk, congrArg Value.type (of_decide_eq_true q1), rfl, e2, e3, z1, z2, z3, z4, of_decide_eq_true q4⟩
      · cases q3
    · cases h2
def obsZG (n : Nat) (fb : List (PySem.W.Frag → Bool)) (fn : List He.DefD) (cs : List DefS) (ts : List He.Defn) (g : Addr → Option Obj) : Bool × AlZ := (ts.all fun p => tabB g (He.frT g (He.asD g n ++ [cStatics, sysModules])) p, obsZ fb fn cs (He.frT g (He.asD g n ++ [cStatics, sysModules])))
def TabsZ (ts : List He.Defn) (K : PySem.W.Frag) (h : Heap) : Prop := ∀ p ∈ ts, h.get? (He.cT K p).2 = some { cls := .none, data := .fields #[] } ∧ K.lookup (He.cT K p).2 = none ∧ PySem.W.CodeHd h (He.cT K p).1 (He.cT K p).2
def hookZ (n : Nat) (fb : List (PySem.W.Frag → Bool)) (fn : List He.DefD) (cs : List DefS) (ts : List He.Defn) : PySem.W.Hook where
  α := Bool × AlZ
  obs := fun s => obsZG n fb fn cs ts s.heap.get?
  val := fun _ => (true, valZ fn cs)
  says := fun _ h => ∃ K : PySem.W.Frag, K.In h ∧ SaysZ fb fn cs K ∧ TabsZ ts K h
  of := fun _ s e => by
    refine ⟨_, He.frT_in, congrArg Prod.snd e, fun p hp => ?_⟩
    have q := List.all_eq_true.mp (show (ts.all fun p => tabB s.heap.get? (He.frT s.heap.get? (He.asD s.heap.get? n ++ [cStatics, sysModules])) p) = true from congrArg Prod.fst e) p hp
    obtain ⟨h1, h2⟩ := tabB_ok He.frT_in q
    exact ⟨h1, He.frT_none h1 rfl, h2⟩
  keeps := fun _ _ _ ⟨K, hK, c, t⟩ k => ⟨K, PySem.W.Frag.In.keeps hK k, c, fun p hp => ⟨k _ _ (t p hp).1, (t p hp).2.1, (t p hp).2.2.keeps k⟩⟩
theorem obsZG_eq {n : Nat} {fb : List (PySem.W.Frag → Bool)} {fn : List He.DefD} {cs : List DefS} {ts : List He.Defn} {g : Addr → Option Obj} {s : Shared} (h : ∀ a, g a = s.heap.get? a) : obsZG n fb fn cs ts g = (hookZ n fb fn cs ts).obs s := by
  have e : g = s.heap.get? := funext h
  rw [e] <;> rfl
section
variable {fb : List (PySem.W.Frag → Bool)} {fn : List He.DefD} {cs : List DefS} {K : PySem.W.Frag}
theorem SaysZ.all (c : SaysZ fb fn cs K) : ∀ f ∈ fb, f K = true :=
  List.all_eq_true.mp (He.ba (show ((fb.all fun f => f K) && fn.all fun d => d.ok K) = true from congrArg (fun z : AlZ => z.1) c)).1
theorem SaysZ.fact (c : SaysZ fb fn cs K) (i : Nat) {f : PySem.W.Frag → Bool} (h : fb[i]? = some f := by rfl) : f K = true := c.all f (List.mem_of_getElem? h)
theorem SaysZ.def_ (c : SaysZ fb fn cs K) (i : Nat) {d : He.DefD} (h : fn[i]? = some d := by rfl) : ∃ fd, FunD K d.name d.qual d.params d.body d.scope (d.dvs K) (d.kws K) (He.fAd K d.at_) fd := by
  have c2 := (He.ba (show ((fb.all fun f => f K) && fn.all fun d => d.ok K) = true from congrArg (fun z : AlZ => z.1) c)).2
  have e : fn.map (fun d => He.fnW K d.at_) = fn.map He.DefD.val := congrArg (fun z : AlZ => z.2.1) c
  have e2 : (fn.map fun d => He.fnW K d.at_)[i]? = (fn.map He.DefD.val)[i]? := by rw [e]
  rw [List.getElem?_map, List.getElem?_map, h] at e2
  exact He.DefD.funD (Option.some.inj e2) (List.all_eq_true.mp c2 d (List.mem_of_getElem? h))
theorem SaysZ.ini (c : SaysZ fb fn cs K) {d : DefS} (h : d ∈ cs) : fnSW K d.cls = d.val := by
  have e : cs.map (fun d => fnSW K d.cls) = cs.map DefS.val := congrArg (fun z : AlZ => z.2.2) c
  obtain ⟨i, hi⟩ := List.mem_iff_getElem?.mp h
  have e2 : (cs.map fun d => fnSW K d.cls)[i]? = (cs.map DefS.val)[i]? := by rw [e]
  rw [List.getElem?_map, List.getElem?_map, hi] at e2
  exact Option.some.inj e2
end
/-! ## the law's end: no repr runs at its call; tables of code objects for the lambdas -/
theorem law_callZ {P : Program} {w : World} {K : PySem.W.Frag} {mg mb : Str → Option Value} {k : Nat} {fa a : Addr} {cs : List (Addr × Addr)} {fd : FuncData} {x : Str} {sp : Sp} {s : Shared} {vs : List Value} {ns : List Int}
    (KX : K.In s.heap) (hns : s.heap.Ns mainGlobals mg) (hb : s.heap.Ns builtinsNs mb) (hbb : ∀ x : Str, x ≠ "__name__" → mb x = bootBuiltins x) (hlim : s.heap.NoLimit) (hg : s.gens = #[])
    (hT : ∀ p ∈ cs, s.heap.get? p.2 = some { cls := .none, data := .fields #[] }) (nT : ∀ p ∈ cs, K.lookup p.2 = none) (C : ∀ p ∈ cs, PySem.W.CodeHd s.heap p.1 p.2)
    (hbm : ∃ (bm : Addr) (ob : Obj), mg "__builtins__" = some (.ref bm) ∧ bm ≠ builtinsNs ∧ s.heap.get? bm = some ob ∧ ob.cls = .type "module" ∧ ob.dict = some builtinsNs ∧ ob.data = .plain)
    (ha : s.heap.get? a = some { cls := .type "list", data := .seq vs.toArray }) (hi : PyProof.Rows.IntsAre vs ns) (hl : ns.length ≤ sizeLine) (hr : Room k callerA)
    (F : ∀ base : Heap, K.In base → base.Ns mainGlobals mg → (∀ p ∈ cs, LamX.TabB base mg p.1 p.2) → FnG P w K mg base k fa fd [x] sp) (hbind : ∀ (s : Shared) (u : Value), BindsTo s fd ⟨[u], []⟩ [(x, u)])
    (hsp : ∀ H : Hp, (∀ p ∈ cs, H p.2 = some (.tbl #[])) → SqL K H a (ns.map V.int) → sp [.ref a] H (fun v _ => v = .bl true) fun _ _ _ => False) :
    codeAny (model P w) callerA (.call (.ref fa) ⟨[.ref a], []⟩) (fun r s' => r = .ok (.ret (.bool true)) ∧ PySem.OldK s.heap s'.heap ∧ s'.os = s.os ∧ PyProof.Rows.AllBare s'.gens) s := by
  have rv := vals_ints hi
  have lenV := hi.length
  let tabs : List Addr := cs.map (·.2)
  have inTab : ∀ p ∈ cs, p.2 ∈ tabs := fun p hp => List.mem_map.mpr ⟨p, hp, rfl⟩
  have isTab : ∀ b ∈ tabs, ∃ p ∈ cs, p.2 = b := fun b hb => List.mem_map.mp hb
  have tabO : ∀ b ∈ tabs, s.heap.get? b = some { cls := .none, data := .fields #[] } := fun b hb => by
    obtain ⟨p, hp, e⟩ := isTab b hb
    exact e ▸ hT p hp
  have aN : a ∉ tabs := fun z => by
    have q := tabO a z
    rw [ha] at q
    cases q
  -- what is tracked at the start: the tables, and the script where it is none of the module's own
  let H : Hp := fun b => if b ∈ tabs then some (.tbl #[]) else if b = a ∧ K.lookup a = none then some (.frz { cls := .type "list", data := .seq vs.toArray } (.lst (ns.map V.int))) else none
  have Htab : ∀ b ∈ tabs, H b = some (.tbl #[]) := fun b hb => if_pos hb
  have Hscr : K.lookup a = none → H a = some (.frz { cls := .type "list", data := .seq vs.toArray } (.lst (ns.map V.int))) := fun q => (if_neg aN).trans (if_pos ⟨rfl, q⟩)
  have Hcases : ∀ b, H b = none ∨ b ∈ tabs ∨ (b = a ∧ K.lookup a = none) := fun b => by
    by_cases h1 : b ∈ tabs
    · exact .inr (.inl h1)
    · by_cases h2 : b = a ∧ K.lookup a = none
      · exact .inr (.inr h2)
      · exact .inl ((if_neg h1).trans (if_neg h2))
  have hok : HOk P w H s.heap := fun b u e => by
    rcases Hcases b with z | z | ⟨z, q⟩
    · rw [z] at e
      cases e
    · rw [Htab b z] at e
      cases e
      exact tabO b z
    · subst z
      rw [Hscr q] at e
      cases e
      exact ⟨ha, by rw [List.length_map]; exact hl, vs, _, rv, ha⟩
  have seq : SqL K H a (ns.map V.int) := by
    cases hk : K.lookup a with
    | none => exact .inl (.inr ⟨_, Hscr hk⟩)
    | some o =>
      have e := KX a o hk
      rw [ha] at e
      cases e
      exact .inr ⟨_, vs.toArray, _, hk, rfl, rfl, rfl, by rw [List.size_toArray, lenV]; exact hl, by simpa using rv⟩
  -- the ground
  have gr : ∀ {b : Addr} {o : Obj}, s.heap.get? b = some o → H b = none → (hidT s.heap H).get? b = some o := fun e n => hidT_get e n
  have untr : ∀ {b : Addr} {o : Obj}, s.heap.get? b = some o → (∀ us n, o.data ≠ .seq us n) → o.data ≠ .fields #[] → H b = none := fun {b o} e h1 h2 => by
    rcases Hcases b with z | z | ⟨z, _⟩
    · exact z
    · rw [tabO b z] at e
      cases e
      exact absurd rfl h2
    · rw [z, ha] at e
      cases e
      exact absurd rfl (h1 _ _)
  have dictU : ∀ {b : Addr} {o : Obj} {es : Array DictEntry} {ep : Nat}, s.heap.get? b = some o → o.data = .dict es ep → H b = none := fun e d => untr e (fun _ _ z => by rw [d] at z; cases z) (fun z => by rw [d] at z; cases z)
  have nsU : ∀ {b : Addr} {m : Str → Option Value}, s.heap.Ns b m → (hidT s.heap H).Ns b m := fun ⟨o, es, ep, e, d, r⟩ => ⟨o, es, ep, gr e (dictU e d), d, r⟩
  have kin : K.In (hidT s.heap H) := fun b o e => gr (KX b o e) (by
    rcases Hcases b with z | z | ⟨z, q⟩
    · exact z
    · obtain ⟨p, hp, ep⟩ := isTab b z
      rw [← ep, nT p hp] at e
      cases e
    · rw [z, q] at e
      cases e)
  have mod : L2.Mod K mg (hidT s.heap H) := ⟨kin, nsU hns, ⟨mb, nsU hb, hbb⟩, let ⟨mc, h1, h2⟩ := hlim; ⟨mc, nsU h1, h2⟩⟩
  have TB : ∀ p ∈ cs, LamX.TabB (hidT s.heap H) mg p.1 p.2 := fun p hp => by
    have tp := hT p hp
    refine ⟨?_, ?_, fun z => ?_⟩
    · obtain ⟨o, us, file, tf, flags, tg, inF, text, tt, e1, r1, r2, r3, rr⟩ := C p hp
      refine ⟨o, us, file, tf, flags, tg, inF, text, tt, gr e1 (untr e1 (fun _ _ z => by rw [r2] at z; cases z) fun z => ?_), r1, r2, r3, rr⟩
      rw [r2] at z
      cases z
      simp at r3
    · obtain ⟨bm, ob, b1, b2, b3, b4, b5, b6⟩ := hbm
      refine ⟨bm, ob, b1, b2, fun q => ?_, fun q => ?_, gr b3 (untr b3 (fun _ _ z => by rw [b6] at z; cases z) (fun z => by rw [b6] at z; cases z)), b4, b5, b6⟩
      · obtain ⟨o, es, ep, e, hd, _⟩ := hns
        rw [q, e] at b3
        cases b3
        rw [hd] at b6
        cases b6
      · rw [q, tp] at b3
        cases b3
        cases b6
    · obtain ⟨o, es, ep, e, hd, _⟩ := hns
      rw [z, tp] at e
      cases e
      cases hd
  have e0 : Env0 P w K mg (hidT s.heap H) callerA [] s H := ⟨rfl, mod, fun b o e => of_hidT e, Nat.le_of_eq (hidT_size _ _), trivial, fun b hb => absurd (show b ∈ ([] : List Addr) from hb) (by simp), hok, .of_eq hg⟩
  refine codeAny_mono ((F _ kin (nsU hns) TB).run callerA [] s H ⟨[.ref a], []⟩ [.ref a] [.ref a] _ _ rfl hr e0 (hbind s (.ref a)) (.cons rfl .nil) (hsp H (fun p hp => Htab _ (inTab p hp)) seq)) fun r s' h => ?_
  cases r with
  | error e => exact False.elim h
  | ok fl =>
    cases fl with
    | next => exact False.elim h
    | brk => exact False.elim h
    | cont => exact False.elim h
    | ret u =>
      obtain ⟨v, H', os, bare, un, hok', r', q⟩ := h
      have q' : v = .bl true := q
      subst q'
      obtain rfl : u = Value.bool true := r'
      have kept : ∀ b o, b ∉ tabs → s.heap.get? b = some o → s'.heap.get? b = some o := fun b o nb e => by
        rcases Hcases b with z | z | ⟨z, q⟩
        · exact un.keep b o e z (by intro z; exact absurd (show b ∈ ([] : List Addr) from z) (by simp)) (by simp)
        · exact absurd z nb
        · subst z
          have z2 := un.frzs _ _ _ (Hscr q)
          obtain ⟨e2, _⟩ := hok' _ _ z2
          rw [ha] at e
          cases e
          exact e2
      have more : ∀ p ∈ cs, ∃ more : Array Value, s'.heap.get? p.2 = some { cls := .none, data := .fields more } := fun p hp => by
        obtain ⟨mr, z⟩ := un.tbls p.2 #[] (Htab _ (inTab p hp))
        exact ⟨_, hok' p.2 _ z⟩
      refine ⟨rfl, ⟨fun b o e => ?_, fun b o e => ?_⟩, os, bare⟩
      · by_cases hbt : b ∈ tabs
        · obtain ⟨p, hp, ep⟩ := isTab b hbt
          obtain ⟨mr, hm⟩ := more p hp
          rw [← ep] at e ⊢
          rw [hT p hp] at e
          cases e
          exact .inr (.inl ⟨((C p hp).tab (hT p hp)).isCodeTable, rfl, #[], mr, rfl, by rw [Array.empty_append]; exact hm⟩)
        · exact .inl (kept b o hbt e)
      · by_cases hbt : b ∈ tabs
        · obtain ⟨p, hp, ep⟩ := isTab b hbt
          obtain ⟨mr, hm⟩ := more p hp
          exact ⟨_, ep ▸ hm⟩
        · exact ⟨o, kept b o hbt e⟩
/-- what is known of the law's promise at the head's heap -/
def LawAtZ (l : PySem.W.OpenLaw) (w : World) (k n : Nat) (x : Str) (mg : Str → Option Value) (fa : Addr) (h : Heap) : Prop :=
  ∃ (K : PySem.W.Frag) (fd : FuncData) (cs : List (Addr × Addr)) (sp : Sp), K.In h ∧ (∀ p ∈ cs, h.get? p.2 = some { cls := .none, data := .fields #[] }) ∧ (∀ p ∈ cs, K.lookup p.2 = none) ∧ (∀ p ∈ cs, PySem.W.CodeHd h p.1 p.2) ∧ (∀ (s : Shared) (u : Value), BindsTo s fd ⟨[u], []⟩ [(x, u)]) ∧
    (∀ (H : Hp) (a : Addr) (ns : List Int), ns.length ≤ n → (∀ p ∈ cs, H p.2 = some (.tbl #[])) → SqL K H a (ns.map V.int) → sp [.ref a] H (fun v _ => v = .bl true) fun _ _ _ => False) ∧
    ∀ base : Heap, K.In base → base.Ns mainGlobals mg → (∀ p ∈ cs, LamX.TabB base mg p.1 p.2) → FnG l.prog w K mg base k fa fd [x] sp
theorem walk_ofZ {l : PySem.W.OpenLaw} {n k : Nat} {q : Program} {loose : List Str} {XP : (Str → Option Value) → Heap → Prop} {YP : World → Heap → Prop} {d : DefRec} {x : Str}
    (hn : l.most = some n) (hn2 : n ≤ sizeLine) (hdf : d.params.defaults = []) (hr : Room k callerA)
    (F : ∀ (w : World) (mg : Str → Option Value) (fa : Addr) (h : Heap), YP w h → h.Ns mainGlobals mg → mg d.name = some (.ref fa) → LawAtZ l w k n x mg fa h) :
    PySem.W.WalkO q loose XP YP l.row.toRowW d [] (fun f vs => PySem.call f vs) :=
  Att.attach_call hn hdf fun w s0 s1 mg mb fa o pm cd doc a vs ns G Y ho hd hcd hmg hobj hints hlen hg => by
    obtain ⟨K, fd, cs, sp, KX, hT, nT, C, hb, hsp, hF⟩ := F w mg fa _ Y G.T.g hmg
    exact law_callZ KX G.T.g G.T.b G.T.builtins G.T.nolimit hg hT nT C G.T.bmain hobj hints (Nat.le_trans hlen hn2) hr hF hb (fun H hH hS => hsp H a ns hlen hH hS)
abbrev Rw : PySem.W.OpenRow := PySem.W.OpenLaw.row PySem.Challenge.rw_stopanywhere_k11_units_in_order_or_the_s
def d_is_name : He.DefD := ⟨("is_name", none), "is_name", "is_name", defArgs s_is_name, defBody s_is_name, defScope s_is_name, [], []⟩
def d_is_kind : He.DefD := ⟨("is_kind", none), "is_kind", "is_kind", defArgs s_is_kind, defBody s_is_kind, defScope s_is_kind, [], []⟩
def d_is_int : He.DefD := ⟨("is_int", none), "is_int", "is_int", defArgs s_is_int, defBody s_is_int, defScope s_is_int, [], []⟩
def d_is_row_of : He.DefD := ⟨("is_row_of", none), "is_row_of", "is_row_of", defArgs s_is_row_of, defBody s_is_row_of, defScope s_is_row_of, [], []⟩
def d_is_tagged : He.DefD := ⟨("is_tagged", none), "is_tagged", "is_tagged", defArgs s_is_tagged, defBody s_is_tagged, defScope s_is_tagged, [], []⟩
def d_is_expression : He.DefD := ⟨("is_expression", none), "is_expression", "is_expression", defArgs s_is_expression, defBody s_is_expression, defScope s_is_expression, [], []⟩
def d_is_branch : He.DefD := ⟨("is_branch", none), "is_branch", "is_branch", defArgs s_is_branch, defBody s_is_branch, defScope s_is_branch, [], []⟩
def d_is_statement : He.DefD := ⟨("is_statement", none), "is_statement", "is_statement", defArgs s_is_statement, defBody s_is_statement, defScope s_is_statement, [], []⟩
def d_is_block : He.DefD := ⟨("is_block", none), "is_block", "is_block", defArgs s_is_block, defBody s_is_block, defScope s_is_block, [], []⟩
def d_is_function : He.DefD := ⟨("is_function", none), "is_function", "is_function", defArgs s_is_function, defBody s_is_function, defScope s_is_function, [], []⟩
def d_is_variant : He.DefD := ⟨("is_variant", none), "is_variant", "is_variant", defArgs s_is_variant, defBody s_is_variant, defScope s_is_variant, [], []⟩
def d_is_declaration : He.DefD := ⟨("is_declaration", none), "is_declaration", "is_declaration", defArgs s_is_declaration, defBody s_is_declaration, defScope s_is_declaration, [], []⟩
def d_is_unit : He.DefD := ⟨("is_unit", none), "is_unit", "is_unit", defArgs s_is_unit, defBody s_is_unit, defScope s_is_unit, [], []⟩
def d_need_units : He.DefD := ⟨("need_units", none), "need_units", "need_units", defArgs s_need_units, defBody s_need_units, defScope s_need_units, [], []⟩
def d_least_ring : He.DefD := ⟨("least_ring", none), "least_ring", "least_ring", defArgs s_least_ring, defBody s_least_ring, defScope s_least_ring, [], []⟩
def d_order_of : He.DefD := ⟨("order_of", none), "order_of", "order_of", defArgs s_order_of, defBody s_order_of, defScope s_order_of, [], []⟩
def d_users_of : He.DefD := ⟨("users_of", none), "users_of", "users_of", defArgs s_users_of, defBody s_users_of, defScope s_users_of, [], []⟩
def d__law_begun : He.DefD := ⟨("_law_begun", none), "_law_begun", "_law_begun", defArgs s_law_begun, defBody s_law_begun, defScope s_law_begun, [], []⟩
def d__law_mixed : He.DefD := ⟨("_law_mixed", none), "_law_mixed", "_law_mixed", defArgs s_law_mixed, defBody s_law_mixed, defScope s_law_mixed, [], []⟩
def d__law_take : He.DefD := ⟨("_law_take", none), "_law_take", "_law_take", defArgs s_law_take, defBody s_law_take, defScope s_law_take, [], []⟩
def d__law_pick : He.DefD := ⟨("_law_pick", none), "_law_pick", "_law_pick", defArgs s_law_pick, defBody s_law_pick, defScope s_law_pick, [], []⟩
def d__law_caught : He.DefD := ⟨("_law_caught", none), "_law_caught", "_law_caught", defArgs s_law_caught, defBody s_law_caught, defScope s_law_caught, [], []⟩
def d__law_shuffled : He.DefD := ⟨("_law_shuffled", none), "_law_shuffled", "_law_shuffled", defArgs s_law_shuffled, defBody s_law_shuffled, defScope s_law_shuffled, [], []⟩
def d__law_units : He.DefD := ⟨("_law_units", none), "_law_units", "_law_units", defArgs s_law_units, defBody s_law_units, defScope s_law_units, [], []⟩
def d__law_trees : He.DefD := ⟨("_law_trees", none), "_law_trees", "_law_trees", defArgs s_law_trees, defBody s_law_trees, defScope s_law_trees, [], []⟩
def d__law_rings : He.DefD := ⟨("_law_rings", none), "_law_rings", "_law_rings", defArgs s_law_rings, defBody s_law_rings, defScope s_law_rings, [], []⟩
def d__law_order : He.DefD := ⟨("_law_order", none), "_law_order", "_law_order", defArgs s_law_order, defBody s_law_order, defScope s_law_order, [], []⟩
def d__law_come : He.DefD := ⟨("_law_come", none), "_law_come", "_law_come", defArgs s_law_come, defBody s_law_come, defScope s_law_come, [], []⟩
def d__law_refused_right : He.DefD := ⟨("_law_refused_right", none), "_law_refused_right", "_law_refused_right", defArgs s_law_refused_right, defBody s_law_refused_right, defScope s_law_refused_right, [], []⟩
def d_law : He.DefD := ⟨("law", none), "law", "law", defArgs s_law, defBody s_law, defScope s_law, [], []⟩
def i_BadUnits : DefS := ⟨"BadUnits", "BadUnits.__init__", defArgs s_BadUnits___init__, defBody s_BadUnits___init__, defScope s_BadUnits___init__⟩
def i_NoUnit : DefS := ⟨"NoUnit", "NoUnit.__init__", defArgs s_NoUnit___init__, defBody s_NoUnit___init__, defScope s_NoUnit___init__⟩
def i_UsesRing : DefS := ⟨"UsesRing", "UsesRing.__init__", defArgs s_UsesRing___init__, defBody s_UsesRing___init__, defScope s_UsesRing___init__⟩
def fnL : List He.DefD := [d_is_name, d_is_kind, d_is_int, d_is_row_of, d_is_tagged, d_is_expression, d_is_branch, d_is_statement, d_is_block, d_is_function, d_is_variant, d_is_declaration, d_is_unit, d_need_units, d_least_ring, d_order_of, d_users_of, d__law_begun, d__law_mixed, d__law_take, d__law_pick, d__law_caught, d__law_shuffled, d__law_units, d__law_trees, d__law_rings, d__law_order, d__law_come, d__law_refused_right, d_law]
def csL : List DefS := [i_BadUnits, i_NoUnit, i_UsesRing]
abbrev gloB (x : Str) (K : PySem.W.Frag) : Bool := (He.Fa.glo x).ok K
abbrev freeB (x : Str) (K : PySem.W.Frag) : Bool := (He.Fa.free x).ok K
abbrev strB (x z : Str) (K : PySem.W.Frag) : Bool := (He.Fa.str x z).ok K
abbrev exmB (x y : Str) (K : PySem.W.Frag) : Bool := (He.Fa.exm x y true).ok K
abbrev noatB (x f : Str) (K : PySem.W.Frag) : Bool := (He.Fa.noat x f).ok K
abbrev kitB (x y : Str) (K : PySem.W.Frag) : Bool := decide (PySem.W.kitOne K (.ref (He.ga K x)) (.ref (He.ga K y)) = some true)
abbrev kitF (x y : Str) (K : PySem.W.Frag) : Bool := decide (PySem.W.kitOne K (.ref (He.ga K x)) (.ref (He.ga K y)) = some false)
abbrev kitT (x : Str) (n : String) (K : PySem.W.Frag) : Bool := decide (PySem.W.kitOne K (.ref (He.ga K x)) (.type n) = some true)
def mainFile : Str := PySem.Challenge.pw_stopanywhere_k11_units_in_order_or_the_s.main.file
def smdB (K : PySem.W.Frag) : Bool := match K.lookup sysModules with | some ⟨.type n, _, _, _⟩ => decide (n = "dict") | _ => false
theorem smdB_ok {K : PySem.W.Frag} (h : smdB K = true) : SmD K := by
  unfold smdB at h
  split at h
  · rename_i n a b c e
    exact ⟨_, e, congrArg Value.type (of_decide_eq_true h)⟩
  · cases h
abbrev excN (x : Str) (K : PySem.W.Frag) : Bool := PySem.W.excIn K (He.ga K x) He.veBase "ValueError.__new__"
abbrev oexN (x : Str) (K : PySem.W.Frag) : Bool := oexB K (He.ga K x)
abbrev excR (x : Str) (K : PySem.W.Frag) : Bool := excRB K (He.ga K x)
abbrev supN (d : DefS) (K : PySem.W.Frag) : Bool := supB mainFile K d.cls d.qual
def dflB (x : Str) (K : PySem.W.Frag) : Bool := match K.lookup (initAd K x) with | some ⟨_, _, .func fd, _⟩ => (match fd.defaults with | .none => true | _ => false) | _ => false
theorem dflB_ok {K : PySem.W.Frag} {x : Str} (h : dflB x K = true) {oc : Value} {od : Option Addr} {fd : FuncData} {osl : Array (Option Value)} (lk : K.lookup (initAd K x) = some ⟨oc, od, .func fd, osl⟩) : fd.defaults = .none := by
  unfold dflB at h
  rw [lk] at h
  dsimp only at h
  split at h
  · assumption
  · cases h
theorem SupF.binds {P : Program} {K : PySem.W.Frag} {mg : Str → Option Value} {C cc cda : Addr} {x qual : Str} {params : Arguments} {body : List Stmt} {scope : Scope} {fd : FuncData} {ps : List Str} (F : SupF P K mg C (initAd K x) cc cda qual params body scope fd) (hd : dflB x K = true)
    (h : ∀ (kV doc pm ct : Value) (an : Option Addr) (us : List Value), us.length = ps.length → bindArgs (PySem.W.ksFn "__init__" qual params body scope .none kV doc pm an (.ref cda) ct cc) ⟨us, []⟩ = pure (ps.zip us)) : Binds K fd ps [] := by
  obtain ⟨oc, od, dV, kV, doc, pm, ct, an, osl, rfl, lk⟩ := F.ex
  have e : dV = .none := dflB_ok hd lk
  subst e
  exact .all (h kV doc pm ct an)
def strOf : Value → Option Str
  | .str z _ => some z
  | _ => none
def tupB (x : Str) (ss : List Str) (K : PySem.W.Frag) : Bool := match K.lookup (He.ga K x) with | some ⟨.type c, _, .seq its _, _⟩ => decide (c = "tuple") && (decide (its.size ≤ sizeLine) && decide (its.toList.map strOf = ss.map some)) | _ => false
theorem strOf_vals : ∀ {us : List Value} {ss : List Str}, us.map strOf = ss.map some → Vals (ss.map V.str) us
  | [], [], _ => .nil
  | [], _ :: _, h => by cases h
  | _ :: _, [], h => by cases h
  | u :: us, z :: ss, h => by
    simp only [List.map_cons, List.cons.injEq] at h
    refine .cons ?_ (strOf_vals h.2)
    cases u with
    | str y t =>
      have e : y = z := by injection h.1
      subst e
      exact ⟨t, rfl⟩
    | _ => cases h.1
theorem tupB_ok {x : Str} {ss : List Str} {K : PySem.W.Frag} (h : tupB x ss K = true) (H : Hp) : SqT K H (He.ga K x) (ss.map V.str) := by
  unfold tupB at h
  split at h
  · rename_i c d its n sl lk
    obtain ⟨h1, h⟩ := He.ba h
    obtain ⟨h2, h3⟩ := He.ba h
    exact .inr ⟨_, its, n, lk, congrArg Value.type (of_decide_eq_true h1), rfl, of_decide_eq_true h2, strOf_vals (of_decide_eq_true h3)⟩
  · cases h
def fbL : List (PySem.W.Frag → Bool) := [smdB, gloB "is_name", gloB "is_kind", gloB "is_int", gloB "is_row_of", gloB "is_tagged", gloB "is_expression", gloB "is_branch", gloB "is_statement", gloB "is_block", gloB "is_function", gloB "is_variant", gloB "is_declaration", gloB "is_unit", gloB "need_units", gloB "least_ring", gloB "order_of", gloB "users_of", gloB "_law_begun", gloB "_law_mixed", gloB "_law_take", gloB "_law_pick", gloB "_law_caught", gloB "_law_shuffled", gloB "_law_units", gloB "_law_trees", gloB "_law_rings", gloB "_law_order", gloB "_law_come", gloB "_law_refused_right", gloB "law", gloB "StopError", gloB "BadUnits", gloB "NoUnit", gloB "UsesRing", freeB "ValueError", freeB "abs", freeB "all", freeB "bool", freeB "dict", freeB "enumerate", freeB "int", freeB "isinstance", freeB "len", freeB "list", freeB "min", freeB "range", freeB "repr", freeB "sorted", freeB "str", freeB "super", freeB "tuple", oexN "StopError", oexN "BadUnits", oexN "NoUnit", oexN "UsesRing", supN i_BadUnits, dflB "BadUnits", supN i_NoUnit, dflB "NoUnit", supN i_UsesRing, dflB "UsesRing", gloB "KEPT", tupB "KEPT" ["and", "at", "choice", "else", "fail", "false", "function", "if", "let", "long", "make", "match", "new", "not", "number", "of", "or", "over", "put", "rest", "return", "row", "set", "show", "true", "truth", "try", "unit", "uses", "while"], strB "SMALL" "abcdefghijklmnopqrstuvwxyz", excR "BadUnits", exmB "BadUnits" "StopError", kitB "BadUnits" "BadUnits", noatB "BadUnits" "at", excR "NoUnit", exmB "NoUnit" "StopError", kitB "NoUnit" "NoUnit", noatB "NoUnit" "name", excR "UsesRing", exmB "UsesRing" "StopError", kitB "UsesRing" "UsesRing", noatB "UsesRing" "ring", (fun K => decide ((He.cT K ("law", none)).2 ≠ (He.cT K ("_law_refused_right", none)).2))]
def tsL : List He.Defn := [("_law_refused_right", none), ("law", none)]
abbrev hk : PySem.W.Hook := hookZ 4 fbL fnL csL tsL
def ob (s : PySem.W.SharedT) : Bool × AlZ := obsZG 4 fbL fnL csL tsL (HandSHeadRun.getT s)
theorem ob_eq (s : PySem.W.SharedT) : ob s = hk.obs s.abs := obsZG_eq (HandSHeadRun.getT_eq s)
def looseL : List PySem.Str := (["StopError", "BadUnits", "NoUnit", "UsesRing", "KEPT", "SMALL", "is_name", "PAIRS", "ENDS", "is_kind", "is_int", "is_row_of", "is_tagged", "is_expression", "is_branch", "is_statement", "is_block", "is_function", "is_variant", "is_declaration", "is_unit", "need_units", "least_ring", "order_of", "users_of", "_law_begun", "_law_mixed", "_law_take", "_law_pick", "_law_caught"] : List PySem.Str) ++ (["_law_shuffled", "_law_units", "_law_trees", "_law_rings", "_law_order", "_law_come", "_law_refused_right"] : List PySem.Str)
set_option maxHeartbeats 0 in
theorem run (w : World) : HandSHeadRun.RunEq Rw (PySem.W.view Rw.prog [42]) hk ob 60000 looseL w := by
  intro os
  kernel_rfl
section
variable {K : PySem.W.Frag}
theorem fact_smd (c : SaysZ fbL fnL csL K) : (smdB) K = true := c.fact 0
theorem fact_g_is_name (c : SaysZ fbL fnL csL K) : (gloB "is_name") K = true := c.fact 1
theorem fact_g_is_kind (c : SaysZ fbL fnL csL K) : (gloB "is_kind") K = true := c.fact 2
theorem fact_g_is_int (c : SaysZ fbL fnL csL K) : (gloB "is_int") K = true := c.fact 3
theorem fact_g_is_row_of (c : SaysZ fbL fnL csL K) : (gloB "is_row_of") K = true := c.fact 4
theorem fact_g_is_tagged (c : SaysZ fbL fnL csL K) : (gloB "is_tagged") K = true := c.fact 5
theorem fact_g_is_expression (c : SaysZ fbL fnL csL K) : (gloB "is_expression") K = true := c.fact 6
theorem fact_g_is_branch (c : SaysZ fbL fnL csL K) : (gloB "is_branch") K = true := c.fact 7
theorem fact_g_is_statement (c : SaysZ fbL fnL csL K) : (gloB "is_statement") K = true := c.fact 8
theorem fact_g_is_block (c : SaysZ fbL fnL csL K) : (gloB "is_block") K = true := c.fact 9
theorem fact_g_is_function (c : SaysZ fbL fnL csL K) : (gloB "is_function") K = true := c.fact 10
theorem fact_g_is_variant (c : SaysZ fbL fnL csL K) : (gloB "is_variant") K = true := c.fact 11
theorem fact_g_is_declaration (c : SaysZ fbL fnL csL K) : (gloB "is_declaration") K = true := c.fact 12
theorem fact_g_is_unit (c : SaysZ fbL fnL csL K) : (gloB "is_unit") K = true := c.fact 13
theorem fact_g_need_units (c : SaysZ fbL fnL csL K) : (gloB "need_units") K = true := c.fact 14
theorem fact_g_least_ring (c : SaysZ fbL fnL csL K) : (gloB "least_ring") K = true := c.fact 15
theorem fact_g_order_of (c : SaysZ fbL fnL csL K) : (gloB "order_of") K = true := c.fact 16
theorem fact_g_users_of (c : SaysZ fbL fnL csL K) : (gloB "users_of") K = true := c.fact 17
theorem fact_g__law_begun (c : SaysZ fbL fnL csL K) : (gloB "_law_begun") K = true := c.fact 18
theorem fact_g__law_mixed (c : SaysZ fbL fnL csL K) : (gloB "_law_mixed") K = true := c.fact 19
theorem fact_g__law_take (c : SaysZ fbL fnL csL K) : (gloB "_law_take") K = true := c.fact 20
theorem fact_g__law_pick (c : SaysZ fbL fnL csL K) : (gloB "_law_pick") K = true := c.fact 21
theorem fact_g__law_caught (c : SaysZ fbL fnL csL K) : (gloB "_law_caught") K = true := c.fact 22
theorem fact_g__law_shuffled (c : SaysZ fbL fnL csL K) : (gloB "_law_shuffled") K = true := c.fact 23
theorem fact_g__law_units (c : SaysZ fbL fnL csL K) : (gloB "_law_units") K = true := c.fact 24
theorem fact_g__law_trees (c : SaysZ fbL fnL csL K) : (gloB "_law_trees") K = true := c.fact 25
theorem fact_g__law_rings (c : SaysZ fbL fnL csL K) : (gloB "_law_rings") K = true := c.fact 26
theorem fact_g__law_order (c : SaysZ fbL fnL csL K) : (gloB "_law_order") K = true := c.fact 27
theorem fact_g__law_come (c : SaysZ fbL fnL csL K) : (gloB "_law_come") K = true := c.fact 28
theorem fact_g__law_refused_right (c : SaysZ fbL fnL csL K) : (gloB "_law_refused_right") K = true := c.fact 29
theorem fact_g_law (c : SaysZ fbL fnL csL K) : (gloB "law") K = true := c.fact 30
theorem fact_g_StopError (c : SaysZ fbL fnL csL K) : (gloB "StopError") K = true := c.fact 31
theorem fact_g_BadUnits (c : SaysZ fbL fnL csL K) : (gloB "BadUnits") K = true := c.fact 32
theorem fact_g_NoUnit (c : SaysZ fbL fnL csL K) : (gloB "NoUnit") K = true := c.fact 33
theorem fact_g_UsesRing (c : SaysZ fbL fnL csL K) : (gloB "UsesRing") K = true := c.fact 34
theorem fact_f_ValueError (c : SaysZ fbL fnL csL K) : (freeB "ValueError") K = true := c.fact 35
theorem fact_f_abs (c : SaysZ fbL fnL csL K) : (freeB "abs") K = true := c.fact 36
theorem fact_f_all (c : SaysZ fbL fnL csL K) : (freeB "all") K = true := c.fact 37
theorem fact_f_bool (c : SaysZ fbL fnL csL K) : (freeB "bool") K = true := c.fact 38
theorem fact_f_dict (c : SaysZ fbL fnL csL K) : (freeB "dict") K = true := c.fact 39
theorem fact_f_enumerate (c : SaysZ fbL fnL csL K) : (freeB "enumerate") K = true := c.fact 40
theorem fact_f_int (c : SaysZ fbL fnL csL K) : (freeB "int") K = true := c.fact 41
theorem fact_f_isinstance (c : SaysZ fbL fnL csL K) : (freeB "isinstance") K = true := c.fact 42
theorem fact_f_len (c : SaysZ fbL fnL csL K) : (freeB "len") K = true := c.fact 43
theorem fact_f_list (c : SaysZ fbL fnL csL K) : (freeB "list") K = true := c.fact 44
theorem fact_f_min (c : SaysZ fbL fnL csL K) : (freeB "min") K = true := c.fact 45
theorem fact_f_range (c : SaysZ fbL fnL csL K) : (freeB "range") K = true := c.fact 46
theorem fact_f_repr (c : SaysZ fbL fnL csL K) : (freeB "repr") K = true := c.fact 47
theorem fact_f_sorted (c : SaysZ fbL fnL csL K) : (freeB "sorted") K = true := c.fact 48
theorem fact_f_str (c : SaysZ fbL fnL csL K) : (freeB "str") K = true := c.fact 49
theorem fact_f_super (c : SaysZ fbL fnL csL K) : (freeB "super") K = true := c.fact 50
theorem fact_f_tuple (c : SaysZ fbL fnL csL K) : (freeB "tuple") K = true := c.fact 51
theorem fact_o_StopError (c : SaysZ fbL fnL csL K) : (oexN "StopError") K = true := c.fact 52
theorem fact_o_BadUnits (c : SaysZ fbL fnL csL K) : (oexN "BadUnits") K = true := c.fact 53
theorem fact_o_NoUnit (c : SaysZ fbL fnL csL K) : (oexN "NoUnit") K = true := c.fact 54
theorem fact_o_UsesRing (c : SaysZ fbL fnL csL K) : (oexN "UsesRing") K = true := c.fact 55
theorem fact_sup_BadUnits (c : SaysZ fbL fnL csL K) : (supN i_BadUnits) K = true := c.fact 56
theorem fact_dfl_BadUnits (c : SaysZ fbL fnL csL K) : (dflB "BadUnits") K = true := c.fact 57
theorem fact_sup_NoUnit (c : SaysZ fbL fnL csL K) : (supN i_NoUnit) K = true := c.fact 58
theorem fact_dfl_NoUnit (c : SaysZ fbL fnL csL K) : (dflB "NoUnit") K = true := c.fact 59
theorem fact_sup_UsesRing (c : SaysZ fbL fnL csL K) : (supN i_UsesRing) K = true := c.fact 60
theorem fact_dfl_UsesRing (c : SaysZ fbL fnL csL K) : (dflB "UsesRing") K = true := c.fact 61
theorem fact_g_KEPT (c : SaysZ fbL fnL csL K) : (gloB "KEPT") K = true := c.fact 62
theorem fact_t_KEPT (c : SaysZ fbL fnL csL K) : (tupB "KEPT" ["and", "at", "choice", "else", "fail", "false", "function", "if", "let", "long", "make", "match", "new", "not", "number", "of", "or", "over", "put", "rest", "return", "row", "set", "show", "true", "truth", "try", "unit", "uses", "while"]) K = true := c.fact 63
theorem fact_s_SMALL (c : SaysZ fbL fnL csL K) : (strB "SMALL" "abcdefghijklmnopqrstuvwxyz") K = true := c.fact 64
theorem fact_r_BadUnits (c : SaysZ fbL fnL csL K) : (excR "BadUnits") K = true := c.fact 65
theorem fact_x_BadUnits (c : SaysZ fbL fnL csL K) : (exmB "BadUnits" "StopError") K = true := c.fact 66
theorem fact_k_BadUnits (c : SaysZ fbL fnL csL K) : (kitB "BadUnits" "BadUnits") K = true := c.fact 67
theorem fact_a_BadUnits (c : SaysZ fbL fnL csL K) : (noatB "BadUnits" "at") K = true := c.fact 68
theorem fact_r_NoUnit (c : SaysZ fbL fnL csL K) : (excR "NoUnit") K = true := c.fact 69
theorem fact_x_NoUnit (c : SaysZ fbL fnL csL K) : (exmB "NoUnit" "StopError") K = true := c.fact 70
theorem fact_k_NoUnit (c : SaysZ fbL fnL csL K) : (kitB "NoUnit" "NoUnit") K = true := c.fact 71
theorem fact_a_NoUnit (c : SaysZ fbL fnL csL K) : (noatB "NoUnit" "name") K = true := c.fact 72
theorem fact_r_UsesRing (c : SaysZ fbL fnL csL K) : (excR "UsesRing") K = true := c.fact 73
theorem fact_x_UsesRing (c : SaysZ fbL fnL csL K) : (exmB "UsesRing" "StopError") K = true := c.fact 74
theorem fact_k_UsesRing (c : SaysZ fbL fnL csL K) : (kitB "UsesRing" "UsesRing") K = true := c.fact 75
theorem fact_a_UsesRing (c : SaysZ fbL fnL csL K) : (noatB "UsesRing" "ring") K = true := c.fact 76
theorem fact_tabs_ne (c : SaysZ fbL fnL csL K) : ((fun K => decide ((He.cT K ("law", none)).2 ≠ (He.cT K ("_law_refused_right", none)).2))) K = true := c.fact 77
theorem def_is_name (c : SaysZ fbL fnL csL K) : ∃ fd, FunD K "is_name" "is_name" (defArgs s_is_name) (defBody s_is_name) (defScope s_is_name) [] [] (He.ga K "is_name") fd := c.def_ 0 (d := d_is_name) rfl
theorem def_is_kind (c : SaysZ fbL fnL csL K) : ∃ fd, FunD K "is_kind" "is_kind" (defArgs s_is_kind) (defBody s_is_kind) (defScope s_is_kind) [] [] (He.ga K "is_kind") fd := c.def_ 1 (d := d_is_kind) rfl
theorem def_is_int (c : SaysZ fbL fnL csL K) : ∃ fd, FunD K "is_int" "is_int" (defArgs s_is_int) (defBody s_is_int) (defScope s_is_int) [] [] (He.ga K "is_int") fd := c.def_ 2 (d := d_is_int) rfl
theorem def_is_row_of (c : SaysZ fbL fnL csL K) : ∃ fd, FunD K "is_row_of" "is_row_of" (defArgs s_is_row_of) (defBody s_is_row_of) (defScope s_is_row_of) [] [] (He.ga K "is_row_of") fd := c.def_ 3 (d := d_is_row_of) rfl
theorem def_is_tagged (c : SaysZ fbL fnL csL K) : ∃ fd, FunD K "is_tagged" "is_tagged" (defArgs s_is_tagged) (defBody s_is_tagged) (defScope s_is_tagged) [] [] (He.ga K "is_tagged") fd := c.def_ 4 (d := d_is_tagged) rfl
theorem def_is_expression (c : SaysZ fbL fnL csL K) : ∃ fd, FunD K "is_expression" "is_expression" (defArgs s_is_expression) (defBody s_is_expression) (defScope s_is_expression) [] [] (He.ga K "is_expression") fd := c.def_ 5 (d := d_is_expression) rfl
theorem def_is_branch (c : SaysZ fbL fnL csL K) : ∃ fd, FunD K "is_branch" "is_branch" (defArgs s_is_branch) (defBody s_is_branch) (defScope s_is_branch) [] [] (He.ga K "is_branch") fd := c.def_ 6 (d := d_is_branch) rfl
theorem def_is_statement (c : SaysZ fbL fnL csL K) : ∃ fd, FunD K "is_statement" "is_statement" (defArgs s_is_statement) (defBody s_is_statement) (defScope s_is_statement) [] [] (He.ga K "is_statement") fd := c.def_ 7 (d := d_is_statement) rfl
theorem def_is_block (c : SaysZ fbL fnL csL K) : ∃ fd, FunD K "is_block" "is_block" (defArgs s_is_block) (defBody s_is_block) (defScope s_is_block) [] [] (He.ga K "is_block") fd := c.def_ 8 (d := d_is_block) rfl
theorem def_is_function (c : SaysZ fbL fnL csL K) : ∃ fd, FunD K "is_function" "is_function" (defArgs s_is_function) (defBody s_is_function) (defScope s_is_function) [] [] (He.ga K "is_function") fd := c.def_ 9 (d := d_is_function) rfl
theorem def_is_variant (c : SaysZ fbL fnL csL K) : ∃ fd, FunD K "is_variant" "is_variant" (defArgs s_is_variant) (defBody s_is_variant) (defScope s_is_variant) [] [] (He.ga K "is_variant") fd := c.def_ 10 (d := d_is_variant) rfl
theorem def_is_declaration (c : SaysZ fbL fnL csL K) : ∃ fd, FunD K "is_declaration" "is_declaration" (defArgs s_is_declaration) (defBody s_is_declaration) (defScope s_is_declaration) [] [] (He.ga K "is_declaration") fd := c.def_ 11 (d := d_is_declaration) rfl
theorem def_is_unit (c : SaysZ fbL fnL csL K) : ∃ fd, FunD K "is_unit" "is_unit" (defArgs s_is_unit) (defBody s_is_unit) (defScope s_is_unit) [] [] (He.ga K "is_unit") fd := c.def_ 12 (d := d_is_unit) rfl
theorem def_need_units (c : SaysZ fbL fnL csL K) : ∃ fd, FunD K "need_units" "need_units" (defArgs s_need_units) (defBody s_need_units) (defScope s_need_units) [] [] (He.ga K "need_units") fd := c.def_ 13 (d := d_need_units) rfl
theorem def_least_ring (c : SaysZ fbL fnL csL K) : ∃ fd, FunD K "least_ring" "least_ring" (defArgs s_least_ring) (defBody s_least_ring) (defScope s_least_ring) [] [] (He.ga K "least_ring") fd := c.def_ 14 (d := d_least_ring) rfl
theorem def_order_of (c : SaysZ fbL fnL csL K) : ∃ fd, FunD K "order_of" "order_of" (defArgs s_order_of) (defBody s_order_of) (defScope s_order_of) [] [] (He.ga K "order_of") fd := c.def_ 15 (d := d_order_of) rfl
theorem def_users_of (c : SaysZ fbL fnL csL K) : ∃ fd, FunD K "users_of" "users_of" (defArgs s_users_of) (defBody s_users_of) (defScope s_users_of) [] [] (He.ga K "users_of") fd := c.def_ 16 (d := d_users_of) rfl
theorem def__law_begun (c : SaysZ fbL fnL csL K) : ∃ fd, FunD K "_law_begun" "_law_begun" (defArgs s_law_begun) (defBody s_law_begun) (defScope s_law_begun) [] [] (He.ga K "_law_begun") fd := c.def_ 17 (d := d__law_begun) rfl
theorem def__law_mixed (c : SaysZ fbL fnL csL K) : ∃ fd, FunD K "_law_mixed" "_law_mixed" (defArgs s_law_mixed) (defBody s_law_mixed) (defScope s_law_mixed) [] [] (He.ga K "_law_mixed") fd := c.def_ 18 (d := d__law_mixed) rfl
theorem def__law_take (c : SaysZ fbL fnL csL K) : ∃ fd, FunD K "_law_take" "_law_take" (defArgs s_law_take) (defBody s_law_take) (defScope s_law_take) [] [] (He.ga K "_law_take") fd := c.def_ 19 (d := d__law_take) rfl
theorem def__law_pick (c : SaysZ fbL fnL csL K) : ∃ fd, FunD K "_law_pick" "_law_pick" (defArgs s_law_pick) (defBody s_law_pick) (defScope s_law_pick) [] [] (He.ga K "_law_pick") fd := c.def_ 20 (d := d__law_pick) rfl
theorem def__law_caught (c : SaysZ fbL fnL csL K) : ∃ fd, FunD K "_law_caught" "_law_caught" (defArgs s_law_caught) (defBody s_law_caught) (defScope s_law_caught) [] [] (He.ga K "_law_caught") fd := c.def_ 21 (d := d__law_caught) rfl
theorem def__law_shuffled (c : SaysZ fbL fnL csL K) : ∃ fd, FunD K "_law_shuffled" "_law_shuffled" (defArgs s_law_shuffled) (defBody s_law_shuffled) (defScope s_law_shuffled) [] [] (He.ga K "_law_shuffled") fd := c.def_ 22 (d := d__law_shuffled) rfl
theorem def__law_units (c : SaysZ fbL fnL csL K) : ∃ fd, FunD K "_law_units" "_law_units" (defArgs s_law_units) (defBody s_law_units) (defScope s_law_units) [] [] (He.ga K "_law_units") fd := c.def_ 23 (d := d__law_units) rfl
theorem def__law_trees (c : SaysZ fbL fnL csL K) : ∃ fd, FunD K "_law_trees" "_law_trees" (defArgs s_law_trees) (defBody s_law_trees) (defScope s_law_trees) [] [] (He.ga K "_law_trees") fd := c.def_ 24 (d := d__law_trees) rfl
theorem def__law_rings (c : SaysZ fbL fnL csL K) : ∃ fd, FunD K "_law_rings" "_law_rings" (defArgs s_law_rings) (defBody s_law_rings) (defScope s_law_rings) [] [] (He.ga K "_law_rings") fd := c.def_ 25 (d := d__law_rings) rfl
theorem def__law_order (c : SaysZ fbL fnL csL K) : ∃ fd, FunD K "_law_order" "_law_order" (defArgs s_law_order) (defBody s_law_order) (defScope s_law_order) [] [] (He.ga K "_law_order") fd := c.def_ 26 (d := d__law_order) rfl
theorem def__law_come (c : SaysZ fbL fnL csL K) : ∃ fd, FunD K "_law_come" "_law_come" (defArgs s_law_come) (defBody s_law_come) (defScope s_law_come) [] [] (He.ga K "_law_come") fd := c.def_ 27 (d := d__law_come) rfl
theorem def__law_refused_right (c : SaysZ fbL fnL csL K) : ∃ fd, FunD K "_law_refused_right" "_law_refused_right" (defArgs s_law_refused_right) (defBody s_law_refused_right) (defScope s_law_refused_right) [] [] (He.ga K "_law_refused_right") fd := c.def_ 28 (d := d__law_refused_right) rfl
theorem def_law (c : SaysZ fbL fnL csL K) : ∃ fd, FunD K "law" "law" (defArgs s_law) (defBody s_law) (defScope s_law) [] [] (He.ga K "law") fd := c.def_ 29 (d := d_law) rfl
theorem ini_BadUnits (c : SaysZ fbL fnL csL K) : fnSW K "BadUnits" = (i_BadUnits).val := c.ini (d := i_BadUnits) (List.mem_of_getElem? (i := 0) rfl)
theorem ini_NoUnit (c : SaysZ fbL fnL csL K) : fnSW K "NoUnit" = (i_NoUnit).val := c.ini (d := i_NoUnit) (List.mem_of_getElem? (i := 1) rfl)
theorem ini_UsesRing (c : SaysZ fbL fnL csL K) : fnSW K "UsesRing" = (i_UsesRing).val := c.ini (d := i_UsesRing) (List.mem_of_getElem? (i := 2) rfl)
end
/-! ## k11: ways and rings (a way is kept with its last one in front) -/
namespace G11
/-- a way from s along the uses us, the last one in front -/
inductive Way (us : Nat → List Nat) (s : Nat) : List Nat → Prop
  | one : Way us s [s]
  | step {a b : Nat} {r : List Nat} : Way us s (a :: r) → b ∈ us a → Way us s (b :: a :: r)
theorem Way.ne {us : Nat → List Nat} {s : Nat} {w : List Nat} (h : Way us s w) : w ≠ [] := by cases h <;> simp
theorem Way.start {us : Nat → List Nat} {s : Nat} {w : List Nat} (h : Way us s w) : s ∈ w := by
  induction h with
  | one => exact List.mem_singleton.mpr rfl
  | step _ _ ih => exact List.mem_cons_of_mem _ ih
theorem Way.cons {us : Nat → List Nat} {s b : Nat} {w : List Nat} (h : Way us s (b :: w)) : (w = [] ∧ b = s) ∨ ∃ a r, w = a :: r ∧ Way us s (a :: r) ∧ b ∈ us a := by
  cases h with
  | one => exact .inl ⟨rfl, rfl⟩
  | step h e => exact .inr ⟨_, _, rfl, h, e⟩
theorem Way.in_nodes {us : Nat → List Nat} {s : Nat} {w N : List Nat} (h : Way us s w) (hs : s ∈ N) (hc : ∀ n ∈ N, ∀ m ∈ us n, m ∈ N) : ∀ x ∈ w, x ∈ N := by
  induction h with
  | one => intro x hx; rw [List.mem_singleton.mp hx]; exact hs
  | step _ e ih =>
    intro x hx
    rcases List.mem_cons.mp hx with rfl | hx
    · exact hc _ (ih _ (List.mem_cons_self ..)) _ e
    · exact ih x hx
/-- shorter, or as long and less at the first place where they differ (from the start) -/
def lexR : List Nat → List Nat → Prop
  | a :: x, b :: y => lexR x y ∨ (x = y ∧ a < b)
  | _, _ => False
def slt (x y : List Nat) : Prop := x.length < y.length ∨ (x.length = y.length ∧ lexR x y)
def sle (x y : List Nat) : Prop := slt x y ∨ x = y
theorem lexR_trans : ∀ {x y z : List Nat}, lexR x y → lexR y z → lexR x z
  | [], _, _, h, _ => h.elim
  | _ :: _, [], _, h, _ => h.elim
  | _ :: _, _ :: _, [], _, h => h.elim
  | a :: x, b :: y, c :: z, h1, h2 => by
    rcases h1 with h1 | ⟨rfl, h1⟩
    · rcases h2 with h2 | ⟨rfl, h2⟩
      · exact .inl (lexR_trans h1 h2)
      · exact .inl h1
    · rcases h2 with h2 | ⟨rfl, h2⟩
      · exact .inl h2
      · exact .inr ⟨rfl, by omega⟩
theorem lexR_irrefl : ∀ {x : List Nat}, ¬ lexR x x
  | [], h => h
  | a :: x, h => by
    rcases h with h | ⟨_, h⟩
    · exact lexR_irrefl h
    · omega
theorem lexR_total : ∀ {x y : List Nat}, x.length = y.length → lexR x y ∨ x = y ∨ lexR y x
  | [], [], _ => .inr (.inl rfl)
  | [], _ :: _, h => by simp at h
  | _ :: _, [], h => by simp at h
  | a :: x, b :: y, h => by
    rcases lexR_total (x := x) (y := y) (by simpa using h) with h | rfl | h
    · exact .inl (.inl h)
    · rcases Nat.lt_trichotomy a b with h | rfl | h
      · exact .inl (.inr ⟨rfl, h⟩)
      · exact .inr (.inl rfl)
      · exact .inr (.inr (.inr ⟨rfl, h⟩))
    · exact .inr (.inr (.inl h))
theorem slt_trans {x y z : List Nat} (h1 : slt x y) (h2 : slt y z) : slt x z := by
  rcases h1 with h1 | ⟨h1, l1⟩ <;> rcases h2 with h2 | ⟨h2, l2⟩
  · exact .inl (by omega)
  · exact .inl (by omega)
  · exact .inl (by omega)
  · exact .inr ⟨by omega, lexR_trans l1 l2⟩
theorem slt_irrefl {x : List Nat} (h : slt x x) : False := by
  rcases h with h | ⟨_, h⟩
  · omega
  · exact lexR_irrefl h
theorem sle_refl (x : List Nat) : sle x x := .inr rfl
theorem sle_trans {x y z : List Nat} (h1 : sle x y) (h2 : sle y z) : sle x z := by
  rcases h1 with h1 | rfl
  · rcases h2 with h2 | rfl
    · exact .inl (slt_trans h1 h2)
    · exact .inl h1
  · exact h2
theorem slt_of_le {x y z : List Nat} (h1 : sle x y) (h2 : slt y z) : slt x z := by
  rcases h1 with h1 | rfl
  · exact slt_trans h1 h2
  · exact h2
theorem lt_sle {x y z : List Nat} (h1 : slt x y) (h2 : sle y z) : slt x z := by
  rcases h2 with h2 | rfl
  · exact slt_trans h1 h2
  · exact h1
theorem sle_total (x y : List Nat) : sle x y ∨ slt y x := by
  rcases Nat.lt_trichotomy x.length y.length with h | h | h
  · exact .inl (.inl (.inl h))
  · rcases lexR_total h with l | rfl | l
    · exact .inl (.inl (.inr ⟨h, l⟩))
    · exact .inl (.inr rfl)
    · exact .inr (.inr ⟨h.symm, l⟩)
  · exact .inr (.inl h)
theorem sle_antisymm {x y : List Nat} (h1 : sle x y) (h2 : sle y x) : x = y := by
  rcases h1 with h1 | h1
  · exact (slt_irrefl (lt_sle h1 h2)).elim
  · exact h1
theorem sle_len {x y : List Nat} (h : sle x y) : x.length ≤ y.length := by
  rcases h with (h | ⟨h, _⟩) | rfl <;> omega
/-- one more behind -/
theorem slt_cons {x y : List Nat} (a b : Nat) (h : slt x y) : slt (a :: x) (b :: y) := by
  rcases h with h | ⟨h, l⟩
  · exact .inl (by simpa using h)
  · exact .inr ⟨by simpa using h, .inl l⟩
theorem slt_last {x : List Nat} {a b : Nat} (h : a < b) : slt (a :: x) (b :: x) := .inr ⟨rfl, .inr ⟨rfl, h⟩⟩
theorem sle_cons {x y : List Nat} (a : Nat) (h : sle x y) : sle (a :: x) (a :: y) := by
  rcases h with h | rfl
  · exact .inl (slt_cons a a h)
  · exact .inr rfl
theorem slt_len {x y : List Nat} (h : x.length < y.length) : slt x y := .inl h
end G11
/-! ## k11: the nearest ring through a name, by breadth first -/
namespace G11
def hd (w : List Nat) : Nat := w.headD 0
/-- the state ahead of a turn: the ways that were looked at, those in the line -/
structure Bf (us : Nat → List Nat) (s : Nat) (D L : List (List Nat)) : Prop where
  way : ∀ w ∈ D ++ L, Way us s w ∧ w.Nodup ∧ ∀ x ∈ w, x ∈ (D ++ L).map hd
  asc : (D ++ L).Pairwise slt
  one : ((D ++ L).map hd).Nodup
  sin : [s] ∈ D ++ L
  don : ∀ w ∈ D, s ∉ us (hd w) ∧ ∀ x ∈ us (hd w), x ∈ (D ++ L).map hd
  lst : ∀ w ∈ D ++ L, ∀ q, Way us s q → hd q = hd w → sle w q
  prv : ∀ z ∈ L, z = [s] ∨ ∃ a d, z = a :: d ∧ d ∈ D
theorem Bf.start (us : Nat → List Nat) (s : Nat) : Bf us s [] [[s]] := by
  refine ⟨fun w hw => ?_, by simp, by simp, by simp, (fun w h => nomatch h), fun w hw q hq e => ?_, fun z hz => .inl (List.mem_singleton.mp hz)⟩
  · have : w = [s] := List.mem_singleton.mp hw
    subst this
    exact ⟨.one, by simp, fun x hx => by rw [List.mem_singleton.mp hx]; exact List.mem_singleton.mpr rfl⟩
  · have : w = [s] := List.mem_singleton.mp hw
    subst this
    cases hq with
    | one => exact sle_refl _
    | step h e2 => exact .inl (.inl (by simp))
/-- a way leads to what was looked at, or through the line -/
theorem Bf.front {us : Nat → List Nat} {s : Nat} {D L : List (List Nat)} (B : Bf us s D L) {q : List Nat} (h : Way us s q) : (∃ w ∈ D, hd w = hd q) ∨ ∃ z ∈ L, ∃ q', q' <:+ q ∧ Way us s q' ∧ hd q' = hd z := by
  induction h with
  | one =>
    rcases List.mem_append.mp B.sin with h | h
    · exact .inl ⟨_, h, rfl⟩
    · exact .inr ⟨_, h, [s], List.suffix_refl _, .one, rfl⟩
  | @step a b r h e ih =>
    rcases ih with ⟨w, hw, e1⟩ | ⟨z, hz, q', h1, h2, h3⟩
    · have e1 : hd w = a := e1
      have hb := (B.don w hw).2 b (by rw [e1]; exact e)
      obtain ⟨v, hv, e2⟩ := List.mem_map.mp hb
      rcases List.mem_append.mp hv with hv | hv
      · exact .inl ⟨v, hv, e2⟩
      · exact .inr ⟨v, hv, _, List.suffix_refl _, .step h e, e2.symm⟩
    · exact .inr ⟨z, hz, q', h1.trans (List.suffix_cons _ _), h2, h3⟩
theorem suffix_sle {a b : List Nat} (h : a <:+ b) : sle a b := by
  obtain ⟨t, rfl⟩ := h
  cases t with
  | nil => exact .inr rfl
  | cons x t => exact .inl (.inl (by simp; omega))
theorem Bf.first {us : Nat → List Nat} {s : Nat} {D L : List (List Nat)} {w : List Nat} (B : Bf us s D (w :: L)) : ∀ z ∈ w :: L, sle w z := by
  intro z hz
  rcases List.mem_cons.mp hz with rfl | hz
  · exact sle_refl _
  · have := (List.pairwise_append.mp B.asc).2.1
    exact .inl ((List.pairwise_cons.mp this).1 z hz)
/-- the way that closes first is the least of all that close -/
theorem Bf.closes {us : Nat → List Nat} {s : Nat} {D L : List (List Nat)} {w q : List Nat} (B : Bf us s D (w :: L)) (h : Way us s q) (e : s ∈ us (hd q)) : sle w q := by
  rcases B.front h with ⟨v, hv, e1⟩ | ⟨z, hz, q', h1, h2, h3⟩
  · exact absurd (by rw [e1]; exact e) (B.don v hv).1
  · exact sle_trans (B.first z hz) (sle_trans (B.lst z (List.mem_append_right _ hz) q' h2 h3) (suffix_sle h1))
theorem Bf.none {us : Nat → List Nat} {s : Nat} {D : List (List Nat)} {q : List Nat} (B : Bf us s D []) (h : Way us s q) : s ∉ us (hd q) := by
  rcases B.front h with ⟨v, hv, e1⟩ | ⟨z, hz, _⟩
  · rw [← e1]
    exact (B.don v hv).1
  · exact nomatch hz
/-- the ways that a turn puts into the line -/
def ext (w : List Nat) : List Nat → List Nat → List (List Nat) → List (List Nat)
  | [], _, acc => acc
  | v :: vs, met, acc => if v ∈ met then ext w vs met acc else ext w vs (met ++ [v]) (acc ++ [v :: w])
/-- while a turn runs: N is what it has put into the line so far -/
structure Tn (us : Nat → List Nat) (s : Nat) (D L : List (List Nat)) (w : List Nat) (N : List (List Nat)) (vs : List Nat) : Prop where
  new : ∀ z ∈ N, ∃ v, z = v :: w ∧ v ∈ us (hd w) ∧ v ∉ (D ++ w :: L).map hd ∧ ∀ u ∈ vs, v ≤ u
  asc : N.Pairwise slt
  one : (N.map hd).Nodup
theorem Bf.tn_end {us : Nat → List Nat} {s : Nat} {D L N : List (List Nat)} {w : List Nat} (B : Bf us s D (w :: L)) (T : Tn us s D L w N []) (hall : ∀ x ∈ us (hd w), x ∈ (D ++ w :: L ++ N).map hd) (hs : s ∉ us (hd w)) : Bf us s (D ++ [w]) (L ++ N) := by
  have e : D ++ [w] ++ (L ++ N) = (D ++ w :: L) ++ N := by simp
  have hw : w ∈ D ++ w :: L := List.mem_append_right _ (List.mem_cons_self ..)
  obtain ⟨wW, wN, wM⟩ := B.way w hw
  have old : ∀ x, x ∈ (D ++ w :: L).map hd → x ∈ ((D ++ w :: L) ++ N).map hd := fun x hx => by
    rw [List.map_append]
    exact List.mem_append_left _ hx
  have wne : ∃ a r, w = a :: r := by
    cases w with
    | nil => exact absurd rfl wW.ne
    | cons a r => exact ⟨a, r, rfl⟩
  obtain ⟨a0, r0, ew⟩ := wne
  have newWay : ∀ v, v ∈ us (hd w) → Way us s (v :: w) := fun v hv => by
    subst ew
    exact .step wW hv
  -- whatever stood in the line is ahead of what comes
  have ahead : ∀ z ∈ D ++ w :: L, ∀ v, slt z (v :: w) := fun z hz v => by
    rcases List.mem_append.mp hz with hz | hz
    · have := (List.pairwise_append.mp B.asc).2.2 z hz w (List.mem_cons_self ..)
      exact slt_trans this (slt_len (by simp))
    · rcases List.mem_cons.mp hz with rfl | hz
      · exact slt_len (by simp)
      · rcases B.prv z (List.mem_cons_of_mem _ hz) with rfl | ⟨a, d, rfl, hd⟩
        · exact slt_len (by subst ew; simp)
        · have := (List.pairwise_append.mp B.asc).2.2 d hd w (List.mem_cons_self ..)
          exact slt_cons a v this
  refine ⟨fun z hz => ?_, ?_, ?_, ?_, fun z hz => ?_, fun z hz q hq eq => ?_, fun z hz => ?_⟩
  · rw [e] at hz ⊢
    rcases List.mem_append.mp hz with hz | hz
    · obtain ⟨h1, h2, h3⟩ := B.way z hz
      exact ⟨h1, h2, fun x hx => old x (h3 x hx)⟩
    · obtain ⟨v, rfl, h1, h2, _⟩ := T.new z hz
      refine ⟨newWay v h1, List.nodup_cons.mpr ⟨fun hm => h2 (wM v hm), wN⟩, fun x hx => ?_⟩
      rcases List.mem_cons.mp hx with rfl | hx
      · rw [List.map_append]
        exact List.mem_append_right _ (List.mem_map.mpr ⟨_, hz, rfl⟩)
      · exact old x (wM x hx)
  · rw [e]
    refine List.pairwise_append.mpr ⟨B.asc, T.asc, fun z hz y hy => ?_⟩
    obtain ⟨v, rfl, _⟩ := T.new y hy
    exact ahead z hz v
  · rw [e, List.map_append]
    refine List.nodup_append.mpr ⟨B.one, T.one, fun x hx y hy q => ?_⟩
    subst q
    obtain ⟨z, hz, rfl⟩ := List.mem_map.mp hy
    obtain ⟨v, rfl, _, h2, _⟩ := T.new z hz
    exact h2 hx
  · rw [e]
    exact List.mem_append_left _ B.sin
  · rw [e]
    rcases List.mem_append.mp hz with hz | hz
    · exact ⟨(B.don z hz).1, fun x hx => old x ((B.don z hz).2 x hx)⟩
    · rw [List.mem_singleton.mp hz]
      exact ⟨hs, hall⟩
  · rw [e] at hz
    rcases List.mem_append.mp hz with hz | hz
    · exact B.lst z hz q hq eq
    · obtain ⟨v, rfl, h1, h2, _⟩ := T.new z hz
      cases q with
      | nil => exact absurd rfl hq.ne
      | cons b q =>
        have eb : b = v := eq
        subst eb
        rcases hq.cons with ⟨rfl, rfl⟩ | ⟨a, r, rfl, hr, ea⟩
        · exfalso
          refine h2 ?_
          obtain ⟨y, hy, e2⟩ := List.mem_map.mp (List.mem_map.mpr ⟨_, B.sin, rfl⟩ : hd [b] ∈ (D ++ w :: L).map hd)
          exact List.mem_map.mpr ⟨_, B.sin, rfl⟩
        · rcases B.front hr with ⟨u, hu, e1⟩ | ⟨u, hu, q', g1, g2, g3⟩
          · exfalso
            have e1 : hd u = a := e1
            exact h2 ((B.don u hu).2 b (by rw [e1]; exact ea))
          · have k1 : sle w q' := sle_trans (B.first u hu) (B.lst u (List.mem_append_right _ hu) q' g2 g3)
            obtain ⟨t, ht⟩ := g1
            cases t with
            | nil =>
              have ht : q' = a :: r := ht
              rw [ht] at k1
              exact sle_cons b k1
            | cons x t =>
              refine .inl (.inl ?_)
              have := sle_len k1
              have l := congrArg List.length ht
              simp only [List.length_append, List.length_cons] at l ⊢
              omega
  · rcases List.mem_append.mp hz with hz | hz
    · rcases B.prv z (List.mem_cons_of_mem _ hz) with h | ⟨a, d, h1, h2⟩
      · exact .inl h
      · exact .inr ⟨a, d, h1, List.mem_append_left _ h2⟩
    · obtain ⟨v, rfl, _⟩ := T.new z hz
      exact .inr ⟨v, w, rfl, List.mem_append_right _ (List.mem_singleton.mpr rfl)⟩
end G11
/-! ## k11: turns of the line; rings -/
namespace G11
theorem Tn.start (us : Nat → List Nat) (s : Nat) (D L : List (List Nat)) (w vs : List Nat) : Tn us s D L w [] vs := ⟨(fun _ h => nomatch h), .nil, by simp⟩
theorem Tn.skip {us : Nat → List Nat} {s v : Nat} {D L N : List (List Nat)} {w vs : List Nat} (T : Tn us s D L w N (v :: vs)) : Tn us s D L w N vs :=
  ⟨fun z hz => by
    obtain ⟨u, a, b, c, d⟩ := T.new z hz
    exact ⟨u, a, b, c, fun x hx => d x (List.mem_cons_of_mem _ hx)⟩, T.asc, T.one⟩
theorem Tn.put {us : Nat → List Nat} {s v : Nat} {D L N : List (List Nat)} {w vs : List Nat} (T : Tn us s D L w N (v :: vs)) (hv : v ∈ us (hd w)) (hn : v ∉ (D ++ w :: L ++ N).map hd) (ha : ∀ u ∈ vs, v ≤ u) : Tn us s D L w (N ++ [v :: w]) vs := by
  have h1 : v ∉ (D ++ w :: L).map hd := fun h => hn (by rw [List.map_append]; exact List.mem_append_left _ h)
  have h2 : v ∉ N.map hd := fun h => hn (by rw [List.map_append]; exact List.mem_append_right _ h)
  refine ⟨fun z hz => ?_, List.pairwise_append.mpr ⟨T.asc, by simp, fun z hz y hy => ?_⟩, ?_⟩
  · rcases List.mem_append.mp hz with hz | hz
    · obtain ⟨u, a, b, c, d⟩ := T.new z hz
      exact ⟨u, a, b, c, fun x hx => d x (List.mem_cons_of_mem _ hx)⟩
    · rw [List.mem_singleton.mp hz]
      exact ⟨v, rfl, hv, h1, ha⟩
  · rw [List.mem_singleton.mp hy]
    obtain ⟨u, rfl, b, c, d⟩ := T.new z hz
    have le := d v (List.mem_cons_self ..)
    have ne : u ≠ v := fun e => h2 (by rw [← e]; exact List.mem_map.mpr ⟨_, hz, rfl⟩)
    exact slt_last (by omega)
  · rw [List.map_append]
    refine List.nodup_append.mpr ⟨T.one, by simp, fun x hx y hy q => ?_⟩
    have : y = v := List.mem_singleton.mp hy
    subst q
    rw [this] at hx
    exact h2 hx
/-- what the search from a name finds -/
def Near (us : Nat → List Nat) (s : Nat) : Option (List Nat) → Prop
  | none => ∀ q, Way us s q → s ∉ us (hd q)
  | some w => Way us s w ∧ w.Nodup ∧ s ∈ us (hd w) ∧ ∀ q, Way us s q → s ∈ us (hd q) → sle w q
/-- a ring that begins with its least name -/
structure Ring (us : Nat → List Nat) (s : Nat) (r : List Nat) : Prop where
  way : Way us s r
  one : r.Nodup
  clo : s ∈ us (hd r)
  min : ∀ x ∈ r, s ≤ x
theorem way_lower {us : Nat → List Nat} {s : Nat} : ∀ {A B : List Nat}, B ≠ [] → Way us s (A ++ B) → Way us s B
  | [], _, _, h => h
  | a :: A, B, hB, h => by
    rcases Way.cons (show Way us s (a :: (A ++ B)) from h) with ⟨e, _⟩ | ⟨c, r, e, h2, _⟩
    · exact absurd (List.append_eq_nil_iff.mp e).2 hB
    · rw [← e] at h2
      exact way_lower hB h2
theorem way_upper {us : Nat → List Nat} {s m : Nat} : ∀ {A B : List Nat}, Way us s (A ++ m :: B) → Way us m (A ++ [m])
  | [], _, _ => .one
  | a :: A, B, h => by
    rcases Way.cons (show Way us s (a :: (A ++ m :: B)) from h) with ⟨e, _⟩ | ⟨c, r, e, h2, h3⟩
    · exact absurd (List.append_eq_nil_iff.mp e).2 (by simp)
    · have ih : Way us m (A ++ [m]) := way_upper (by rw [e]; exact h2)
      cases A with
      | nil =>
        have : m = c := by
          have := congrArg (fun z => z.headD 0) e
          exact this
        subst this
        exact .step ih h3
      | cons x A =>
        have : x = c := by
          have := congrArg (fun z => z.headD 0) e
          exact this
        subst this
        exact .step ih h3
theorem way_join {us : Nat → List Nat} {m s : Nat} {Z : List Nat} (hZ : Way us m Z) (e : s ∈ us (hd Z)) : ∀ {B : List Nat}, Way us s B → Way us m (B ++ Z) := by
  intro B h
  induction h with
  | one =>
    cases Z with
    | nil => exact absurd rfl hZ.ne
    | cons a r => exact .step hZ e
  | step h e2 ih => exact .step ih e2
/-- a closed way without repetition, turned so that its least name stands first -/
theorem turn_ring {us : Nat → List Nat} {s m : Nat} {w : List Nat} (h : Way us s w) (hn : w.Nodup) (hc : s ∈ us (hd w)) (hm : m ∈ w) (hmin : ∀ x ∈ w, m ≤ x) : ∃ r, Ring us m r ∧ r.length = w.length ∧ ∀ x, x ∈ r ↔ x ∈ w := by
  obtain ⟨A, B, rfl⟩ := List.append_of_mem hm
  have up := way_upper h
  have hdA : hd (A ++ [m]) = hd (A ++ m :: B) := by cases A <;> rfl
  cases B with
  | nil =>
    have hs : s = m := by
      clear hc hn hmin hm up hdA
      induction A with
      | nil =>
        rcases Way.cons h with ⟨_, e⟩ | ⟨a, r, e, _⟩
        · exact e.symm
        · cases e
      | cons a A ih =>
        rcases Way.cons (show Way us s (a :: (A ++ [m])) from h) with ⟨e, _⟩ | ⟨c, r, e, h2, _⟩
        · simp at e
        · rw [← e] at h2
          exact ih h2
    subst hs
    exact ⟨_, ⟨h, hn, hc, hmin⟩, rfl, fun x => Iff.rfl⟩
  | cons b B =>
    have low : Way us s (b :: B) := way_lower (A := A ++ [m]) (by simp) (by simpa using h)
    have edge : m ∈ us b := by
      have := way_lower (A := A) (B := m :: b :: B) (by simp) h
      rcases this.cons with ⟨e, _⟩ | ⟨c, r, e, _, h3⟩
      · cases e
      · cases e
        exact h3
    have W : Way us m ((b :: B) ++ (A ++ [m])) := way_join up (by rw [hdA]; exact hc) low
    have P : ((b :: B) ++ (A ++ [m])).Perm (A ++ m :: b :: B) := by
      refine (List.perm_append_comm).trans ?_
      simp
    refine ⟨_, ⟨W, P.nodup_iff.mpr hn, edge, fun x hx => hmin x (P.mem_iff.mp hx)⟩, P.length_eq, fun x => P.mem_iff⟩
theorem has_min : ∀ {w : List Nat}, w ≠ [] → ∃ m ∈ w, ∀ x ∈ w, m ≤ x
  | [], h => absurd rfl h
  | [a], _ => ⟨a, by simp, by simp⟩
  | a :: b :: w, _ => by
    obtain ⟨m, hm, h⟩ := has_min (w := b :: w) (by simp)
    by_cases c : a ≤ m
    · refine ⟨a, by simp, fun x hx => ?_⟩
      rcases List.mem_cons.mp hx with rfl | hx
      · exact Nat.le_refl _
      · exact Nat.le_trans c (h x hx)
    · refine ⟨m, List.mem_cons_of_mem _ hm, fun x hx => ?_⟩
      rcases List.mem_cons.mp hx with rfl | hx
      · omega
      · exact h x hx
theorem not_nodup : ∀ {q : List Nat}, ¬ q.Nodup → ∃ A x B C, q = A ++ x :: (B ++ x :: C)
  | [], h => absurd (by simp) h
  | a :: q, h => by
    by_cases c : a ∈ q
    · obtain ⟨B, C, rfl⟩ := List.append_of_mem c
      exact ⟨[], a, B, C, rfl⟩
    · have : ¬ q.Nodup := fun n => h (List.nodup_cons.mpr ⟨c, n⟩)
      obtain ⟨A, x, B, C, rfl⟩ := not_nodup this
      exact ⟨a :: A, x, B, C, rfl⟩
/-- where a way closes there is a ring -/
theorem closed_ring {us : Nat → List Nat} : ∀ (n s : Nat) (q : List Nat), q.length ≤ n → Way us s q → s ∈ us (hd q) → ∃ m r, Ring us m r ∧ ∀ x ∈ r, x ∈ q
  | 0, s, q, hl, h, _ => absurd (List.length_eq_zero_iff.mp (Nat.le_zero.mp hl)) h.ne
  | n + 1, s, q, hl, h, hc => by
    by_cases c : q.Nodup
    · obtain ⟨m, hm, hmin⟩ := has_min h.ne
      obtain ⟨r, hr, _, hx⟩ := turn_ring h c hc hm hmin
      exact ⟨m, r, hr, fun x hx2 => (hx x).mp hx2⟩
    · obtain ⟨A, x, B, C, rfl⟩ := not_nodup c
      have h1 : Way us s (x :: (B ++ x :: C)) := way_lower (by simp) h
      have h2 : Way us x (B ++ [x]) := by
        rcases h1.cons with ⟨e, _⟩ | ⟨a, r, e, h2, _⟩
        · simp at e
        · exact way_upper (by rw [e]; exact h2)
      have h3 : x ∈ us (hd (B ++ [x])) := by
        rcases h1.cons with ⟨e, _⟩ | ⟨a, r, e, _, h3⟩
        · simp at e
        · have : hd (B ++ [x]) = a := by
            have := congrArg (fun z => z.headD 0) e
            cases B <;> exact this
          rw [this]
          exact h3
      obtain ⟨m, r, hr, hx⟩ := closed_ring n x (B ++ [x]) (by simp at hl ⊢; omega) h2 h3
      refine ⟨m, r, hr, fun y hy => ?_⟩
      have := hx y hy
      simp at this ⊢
      rcases this with h | h
      · exact .inr (.inr (.inl h))
      · exact .inr (.inl h)
end G11
/-! ## k11: the least ring of all; order; all rings told; who comes to a name -/
namespace G11
theorem lexR_start {us : Nat → List Nat} {s t : Nat} (hst : s < t) : ∀ {w r : List Nat}, Way us s w → Way us t r → w.length = r.length → lexR w r
  | [], _, h, _, _ => absurd rfl h.ne
  | _ :: _, [], _, h, _ => absurd rfl h.ne
  | a :: w, b :: r, h1, h2, hl => by
    rcases h1.cons with ⟨rfl, rfl⟩ | ⟨c, w', rfl, g1, _⟩
    · rcases h2.cons with ⟨rfl, rfl⟩ | ⟨d, r', rfl, g2, _⟩
      · exact .inr ⟨rfl, hst⟩
      · simp at hl
    · rcases h2.cons with ⟨rfl, rfl⟩ | ⟨d, r', rfl, g2, _⟩
      · simp at hl
      · exact .inl (lexR_start hst g1 g2 (by simpa using hl))
/-- the best ring of the names P, all less than the next one -/
structure Bst (us : Nat → List Nat) (P : List Nat) (best : Option (List Nat)) : Prop where
  is : ∀ b, best = some b → ∃ s ∈ P, Ring us s b
  le : ∀ s ∈ P, ∀ r, Ring us s r → ∃ b, best = some b ∧ sle b r
theorem Bst.start (us : Nat → List Nat) : Bst us [] none := ⟨fun b h => by (cases h), fun s h => nomatch h⟩
theorem Bst.skip {us : Nat → List Nat} {P : List Nat} {best : Option (List Nat)} {n : Nat} (B : Bst us P best) (h : ∀ r, Ring us n r → ∃ b, best = some b ∧ sle b r) : Bst us (P ++ [n]) best := by
  refine ⟨fun b e => ?_, fun s hs r hr => ?_⟩
  · obtain ⟨s, hs, h⟩ := B.is b e
    exact ⟨s, List.mem_append_left _ hs, h⟩
  · rcases List.mem_append.mp hs with hs | hs
    · exact B.le s hs r hr
    · rw [List.mem_singleton.mp hs] at hr
      exact h r hr
theorem Bst.below {us : Nat → List Nat} {P : List Nat} {best : Option (List Nat)} {n : Nat} {b r : List Nat} (B : Bst us P best) (hP : ∀ s ∈ P, s < n) (e : best = some b) (hl : b.length ≤ r.length) (hr : Ring us n r) : sle b r := by
  obtain ⟨s, hs, h⟩ := B.is b e
  rcases Nat.lt_or_ge b.length r.length with c | c
  · exact .inl (.inl c)
  · exact .inl (.inr ⟨by omega, lexR_start (hP s hs) h.way hr.way (by omega)⟩)
/-- no way closes from the next name -/
theorem Bst.none {us : Nat → List Nat} {P : List Nat} {best : Option (List Nat)} {n : Nat} (B : Bst us P best) (h : Near us n none) : Bst us (P ++ [n]) best :=
  B.skip fun r hr => absurd hr.clo (h r hr.way)
/-- the nearest ring has a lesser name -/
theorem Bst.lesser {us : Nat → List Nat} {P N : List Nat} {best : Option (List Nat)} {n : Nat} {w : List Nat} (B : Bst us P best) (hP : ∀ s ∈ P, s < n) (hN : ∀ x ∈ N, x < n → x ∈ P) (hw : ∀ x ∈ w, x ∈ N) (h : Near us n (some w)) (hm : ∃ x ∈ w, x < n) : Bst us (P ++ [n]) best := by
  refine B.skip fun r hr => ?_
  obtain ⟨h1, h2, h3, h4⟩ := h
  obtain ⟨m, hm1, hm2⟩ := has_min h1.ne
  obtain ⟨x, hx, hxn⟩ := hm
  have hmn : m < n := Nat.lt_of_le_of_lt (hm2 x hx) hxn
  obtain ⟨r', hr', hl, _⟩ := turn_ring h1 h2 h3 hm1 hm2
  obtain ⟨b, e, le⟩ := B.le m (hN m (hw m hm1) hmn) r' hr'
  have a1 := sle_len le
  have a2 := sle_len (h4 r hr.way hr.clo)
  exact ⟨b, e, B.below hP e (by omega) hr⟩
/-- the nearest ring begins with the name, and is no shorter than the best -/
theorem Bst.longer {us : Nat → List Nat} {P : List Nat} {best : Option (List Nat)} {n : Nat} {w b : List Nat} (B : Bst us P best) (hP : ∀ s ∈ P, s < n) (h : Near us n (some w)) (e : best = some b) (hl : b.length ≤ w.length) : Bst us (P ++ [n]) best :=
  B.skip fun r hr => ⟨b, e, B.below hP e (Nat.le_trans hl (sle_len (h.2.2.2 r hr.way hr.clo))) hr⟩
/-- .. and is shorter -/
theorem Bst.better {us : Nat → List Nat} {P : List Nat} {best : Option (List Nat)} {n : Nat} {w : List Nat} (B : Bst us P best) (h : Near us n (some w)) (hm : ∀ x ∈ w, n ≤ x) (hl : ∀ b, best = some b → w.length < b.length) : Bst us (P ++ [n]) (some w) := by
  refine ⟨fun b e => ?_, fun s hs r hr => ⟨w, rfl, ?_⟩⟩
  · cases e
    exact ⟨n, List.mem_append_right _ (List.mem_singleton.mpr rfl), ⟨h.1, h.2.1, h.2.2.1, hm⟩⟩
  · rcases List.mem_append.mp hs with hs | hs
    · obtain ⟨b, e, le⟩ := B.le s hs r hr
      have := hl b e
      have := sle_len le
      exact .inl (.inl (by omega))
    · rw [List.mem_singleton.mp hs] at hr
      exact h.2.2.2 r hr.way hr.clo
/-! ### the order -/
def freeL (N : List Nat) (us : Nat → List Nat) (F : List Nat) : List Nat := N.filter fun n => !decide (n ∈ F) && (us n).all fun m => decide (m ∈ F)
theorem freeL_mem {N : List Nat} {us : Nat → List Nat} {F : List Nat} {n : Nat} : n ∈ freeL N us F ↔ n ∈ N ∧ n ∉ F ∧ ∀ m ∈ us n, m ∈ F := by
  unfold freeL
  rw [List.mem_filter, Bool.and_eq_true, List.all_eq_true]
  simp
theorem sub_len : ∀ {l : List Nat} {N : List Nat}, l.Nodup → (∀ x ∈ l, x ∈ N) → l.length ≤ N.length
  | [], _, _, _ => Nat.zero_le _
  | a :: l, N, hn, h => by
    rw [List.nodup_cons] at hn
    have ha := h a (List.mem_cons_self ..)
    have e := List.length_erase_of_mem ha
    have pos : 0 < N.length := List.length_pos_iff.mpr fun z => by rw [z] at ha; exact nomatch ha
    have := sub_len (l := l) (N := N.erase a) hn.2 fun x hx => (List.mem_erase_of_ne fun z => hn.1 (by rw [← z]; exact hx)).mpr (h x (List.mem_cons_of_mem _ hx))
    rw [List.length_cons]
    omega
/-- while some are left and none is free, there is a ring -/
theorem stuck {N : List Nat} {us : Nat → List Nat} {F : List Nat} (hc : ∀ n ∈ N, ∀ m ∈ us n, m ∈ N) {x0 : Nat} (h0 : x0 ∈ N) (hF : x0 ∉ F) (he : freeL N us F = []) : ∃ m r, Ring us m r ∧ m ∈ N := by
  have nxt : ∀ n ∈ N, n ∉ F → ∃ m ∈ us n, m ∈ N ∧ m ∉ F := fun n hn hf => by
    by_cases c : ∀ m ∈ us n, m ∈ F
    · have := freeL_mem.mpr ⟨hn, hf, c⟩
      rw [he] at this
      exact nomatch this
    · simp only [Classical.not_forall] at c
      obtain ⟨m, hm, h⟩ := c
      exact ⟨m, hm, hc n hn m hm, h⟩
  have long : ∀ k, ∃ q, Way us x0 q ∧ q.length = k + 1 ∧ ∀ x ∈ q, x ∈ N ∧ x ∉ F := by
    intro k
    induction k with
    | zero => exact ⟨[x0], .one, rfl, fun x hx => by rw [List.mem_singleton.mp hx]; exact ⟨h0, hF⟩⟩
    | succ k ih =>
      obtain ⟨q, h1, h2, h3⟩ := ih
      cases q with
      | nil => exact absurd rfl h1.ne
      | cons a r =>
        obtain ⟨b, hb, g1, g2⟩ := nxt a (h3 a (List.mem_cons_self ..)).1 (h3 a (List.mem_cons_self ..)).2
        refine ⟨b :: a :: r, .step h1 hb, by simpa using h2, fun x hx => ?_⟩
        rcases List.mem_cons.mp hx with rfl | hx
        · exact ⟨g1, g2⟩
        · exact h3 x hx
  obtain ⟨q, h1, h2, h3⟩ := long N.length
  have nd : ¬ q.Nodup := fun n => by
    have := sub_len n fun x hx => (h3 x hx).1
    omega
  obtain ⟨A, x, B, C, rfl⟩ := not_nodup nd
  have w1 : Way us x0 (x :: (B ++ x :: C)) := way_lower (by simp) h1
  rcases w1.cons with ⟨e, _⟩ | ⟨a, r, e, w2, e3⟩
  · simp at e
  · have w3 : Way us x (B ++ [x]) := way_upper (by rw [e]; exact w2)
    have ea : hd (B ++ [x]) = a := by
      have := congrArg (fun z => z.headD 0) e
      cases B <;> exact this
    obtain ⟨m, r', hr, hx⟩ := closed_ring _ x (B ++ [x]) (Nat.le_refl _) w3 (by rw [ea]; exact e3)
    refine ⟨m, r', hr, (h3 m ?_).1⟩
    have := hx m hr.way.start
    simp at this ⊢
    rcases this with h | h
    · exact .inr (.inr (.inl h))
    · exact .inr (.inl h)
/-- what a ring has is never told -/
theorem ring_out {us : Nat → List Nat} {s : Nat} {r F : List Nat} (hr : Ring us s r) (hF : ∀ x ∈ r, x ∉ F) {N : List Nat} {n : Nat} (hn : n ∈ freeL N us F) : ∀ x ∈ r, x ∉ F ++ [n] := by
  have each : ∀ (q : List Nat), Way us s q → ∀ x ∈ q, x = hd q ∨ ∃ y ∈ q, y ∈ us x := by
    intro q hq
    induction hq with
    | one => intro x hx; exact .inl (List.mem_singleton.mp hx)
    | @step a b r h e ih =>
      intro x hx
      rcases List.mem_cons.mp hx with rfl | hx
      · exact .inl rfl
      · rcases ih x hx with rfl | ⟨y, hy, e2⟩
        · exact .inr ⟨b, List.mem_cons_self .., e⟩
        · exact .inr ⟨y, List.mem_cons_of_mem _ hy, e2⟩
  obtain ⟨_, _, hall⟩ := freeL_mem.mp hn
  intro x hx hm
  rcases List.mem_append.mp hm with h | h
  · exact hF x hx h
  · rw [List.mem_singleton.mp h] at hx
    rcases each r hr.way n hx with e | ⟨y, hy, e⟩
    · have := hall s (by rw [e]; exact hr.clo)
      exact hF s hr.way.start this
    · exact hF y hy (hall y e)
end G11
/-! ## k11: all rings told by the law; who comes to a name -/
namespace G11
/-- the law's search: L the line, F the rings that were told -/
structure Rg (us : Nat → List Nat) (N : List Nat) (L F : List (List Nat)) : Prop where
  way : ∀ w ∈ L, ∃ s ∈ N, Way us s w ∧ w.Nodup ∧ ∀ x ∈ w, s ≤ x
  is : ∀ r ∈ F, ∃ s ∈ N, Ring us s r
  all : ∀ s ∈ N, ∀ r, Ring us s r → r ∈ F ∨ ∃ z ∈ L, z <:+ r
theorem Rg.start (us : Nat → List Nat) (N A : List Nat) (h : ∀ x, x ∈ A ↔ x ∈ N) : Rg us N (A.map fun n => [n]) [] := by
  refine ⟨fun w hw => ?_, (fun _ h => nomatch h), fun s hs r hr => .inr ?_⟩
  · obtain ⟨n, hn, rfl⟩ := List.mem_map.mp hw
    exact ⟨n, (h n).mp hn, .one, by simp, fun x hx => by rw [List.mem_singleton.mp hx]; exact Nat.le_refl _⟩
  · refine ⟨[s], List.mem_map.mpr ⟨s, (h s).mpr hs, rfl⟩, ?_⟩
    have : ∀ q, Way us s q → [s] <:+ q := fun q hq => by
      induction hq with
      | one => exact List.suffix_refl _
      | step _ _ ih => exact ih.trans (List.suffix_cons _ _)
    exact this r hr.way
/-- what one goal of the way w (from s) brings -/
def goLine (s : Nat) (w : List Nat) (g : Nat) : List (List Nat) := if g = s then [] else if g ∉ w ∧ s < g then [g :: w] else []
def goFound (s : Nat) (w : List Nat) (g : Nat) : List (List Nat) := if g = s then [w] else []
theorem Rg.turn {us : Nat → List Nat} {N : List Nat} {w : List Nat} {L F : List (List Nat)} {s : Nat} (R : Rg us N (w :: L) F) (hs : s ∈ N) (hw : Way us s w) (hm : ∀ x ∈ w, s ≤ x) : Rg us N (L ++ (us (hd w)).flatMap (goLine s w)) (F ++ (us (hd w)).flatMap (goFound s w)) := by
  obtain ⟨s', hs', h1, h2, h3⟩ := R.way w (List.mem_cons_self ..)
  have uniq : ∀ {a b : Nat} {q : List Nat}, Way us a q → (∀ x ∈ q, a ≤ x) → Way us b q → (∀ x ∈ q, b ≤ x) → a = b := fun wa ma wb mb => by
    have := ma _ wb.start
    have := mb _ wa.start
    omega
  have es : s' = s := uniq h1 h3 hw hm
  subst es
  refine ⟨fun z hz => ?_, fun r hr => ?_, fun t ht r hr => ?_⟩
  · rcases List.mem_append.mp hz with hz | hz
    · exact R.way z (List.mem_cons_of_mem _ hz)
    · obtain ⟨g, hg, e⟩ := List.mem_flatMap.mp hz
      unfold goLine at e
      split at e
      · exact nomatch e
      · split at e
        · rename_i c1 c2
          rw [List.mem_singleton.mp e]
          refine ⟨s', hs, ?_, List.nodup_cons.mpr ⟨c2.1, h2⟩, fun x hx => ?_⟩
          · cases w with
            | nil => exact absurd rfl hw.ne
            | cons a r => exact .step hw hg
          · rcases List.mem_cons.mp hx with rfl | hx
            · omega
            · exact hm x hx
        · exact nomatch e
  · rcases List.mem_append.mp hr with hr | hr
    · exact R.is r hr
    · obtain ⟨g, hg, e⟩ := List.mem_flatMap.mp hr
      unfold goFound at e
      split at e
      · rename_i c
        rw [List.mem_singleton.mp e]
        exact ⟨s', hs, ⟨hw, h2, by rw [← c]; exact hg, hm⟩⟩
      · exact nomatch e
  · rcases R.all t ht r hr with h | ⟨z, hz, hsuf⟩
    · exact .inl (List.mem_append_left _ h)
    · rcases List.mem_cons.mp hz with rfl | hz
      · obtain ⟨A, hA⟩ := hsuf
        have wt : Way us t z := way_lower hw.ne (by rw [hA]; exact hr.way)
        have et : t = s' := uniq wt (fun x hx => hr.min x (by rw [← hA]; exact List.mem_append_right _ hx)) hw hm
        subst et
        rcases List.eq_nil_or_concat A with rfl | ⟨A', b, rfl⟩
        · have e : z = r := hA
          subst e
          refine .inl (List.mem_append_right _ (List.mem_flatMap.mpr ⟨t, hr.clo, ?_⟩))
          unfold goFound
          rw [if_pos rfl]
          exact List.mem_singleton.mpr rfl
        · rw [List.concat_eq_append, List.append_assoc] at hA
          have hA : A' ++ (b :: z) = r := hA
          have wb : Way us t (b :: z) := way_lower (by simp) (by rw [hA]; exact hr.way)
          have hb : b ∈ us (hd z) := by
            rcases wb.cons with ⟨e, _⟩ | ⟨a, q, e, _, h⟩
            · exact absurd e hw.ne
            · rw [e]; exact h
          have nb : b ∉ z := by
            have := hr.one
            rw [← hA] at this
            exact (List.nodup_cons.mp (List.nodup_append.mp this).2.1).1
          have lb : t < b := by
            have h1 := hr.min b (by rw [← hA]; simp)
            have h2 : t ≠ b := fun e => nb (by rw [← e]; exact hw.start)
            omega
          refine .inr ⟨b :: z, List.mem_append_right _ (List.mem_flatMap.mpr ⟨b, hb, ?_⟩), ⟨A', hA⟩⟩
          unfold goLine
          rw [if_neg (by omega), if_pos ⟨nb, lb⟩]
          exact List.mem_singleton.mpr rfl
      · exact .inr ⟨z, List.mem_append_left _ hz, hsuf⟩
/-- the measure of the line -/
def wgt (z : List Nat) : Nat := 8 ^ (8 - z.length)
def wgtL (L : List (List Nat)) : Nat := (L.map wgt).sum
theorem wgt_turn {us : Nat → List Nat} {s : Nat} {w : List Nat} {L : List (List Nat)} (hu : (us (hd w)).length ≤ 7) (hl : w.length ≤ 7) : wgtL (L ++ (us (hd w)).flatMap (goLine s w)) < wgtL (w :: L) := by
  have each : ∀ l : List Nat, wgtL (l.flatMap (goLine s w)) ≤ l.length * 8 ^ (7 - w.length) := by
    intro l
    induction l with
    | nil =>
      show (([] : List (List Nat)).map wgt).sum ≤ _
      exact Nat.zero_le _
    | cons g l ih =>
      have e : wgtL ((g :: l).flatMap (goLine s w)) = wgtL (goLine s w g) + wgtL (l.flatMap (goLine s w)) := by
        unfold wgtL
        rw [List.flatMap_cons, List.map_append, List.sum_append]
      have h1 : wgtL (goLine s w g) ≤ 8 ^ (7 - w.length) := by
        unfold goLine
        split
        · exact Nat.zero_le _
        · split
          · show 8 ^ (8 - (w.length + 1)) + 0 ≤ _
            rw [show 8 - (w.length + 1) = 7 - w.length by omega]
            exact Nat.le_refl _
          · exact Nat.zero_le _
      rw [e, List.length_cons, Nat.add_mul, Nat.one_mul]
      omega
  have h1 := each (us (hd w))
  have e1 : wgtL (L ++ (us (hd w)).flatMap (goLine s w)) = wgtL L + wgtL ((us (hd w)).flatMap (goLine s w)) := by
    unfold wgtL
    rw [List.map_append, List.sum_append]
  have e2 : wgtL (w :: L) = wgt w + wgtL L := by
    unfold wgtL
    rw [List.map_cons, List.sum_cons]
  have e3 : wgt w = 8 * 8 ^ (7 - w.length) := by
    unfold wgt
    rw [show 8 - w.length = (7 - w.length) + 1 by omega, Nat.pow_succ, Nat.mul_comm]
  have pos : 0 < 8 ^ (7 - w.length) := Nat.pos_of_ne_zero (by simp)
  have h2 : (us (hd w)).length * 8 ^ (7 - w.length) ≤ 7 * 8 ^ (7 - w.length) := Nat.mul_le_mul_right _ hu
  rw [e1, e2, e3]
  omega
/-! ### who comes to a name -/
inductive Rch (us : Nat → List Nat) (N : List Nat) (a : Nat) : Nat → Prop
  | base : Rch us N a a
  | step {x g : Nat} : x ∈ N → g ∈ us x → Rch us N a g → Rch us N a x
/-- a set that is closed has all of them -/
theorem Rch.closed {us : Nat → List Nat} {N M : List Nat} {a : Nat} (ha : a ∈ M) (h : ∀ x ∈ N, ∀ g ∈ us x, g ∈ M → x ∈ M) {x : Nat} (r : Rch us N a x) : x ∈ M := by
  induction r with
  | base => exact ha
  | step hx hg _ ih => exact h _ hx _ hg ih
/-- the law's rounds -/
def more (us : Nat → List Nat) (N M : List Nat) : List Nat := N.filter fun x => !decide (x ∈ M) && (us x).any fun g => decide (g ∈ M)
theorem more_mem {us : Nat → List Nat} {N M : List Nat} {x : Nat} : x ∈ more us N M ↔ x ∈ N ∧ x ∉ M ∧ ∃ g ∈ us x, g ∈ M := by
  unfold more
  rw [List.mem_filter, Bool.and_eq_true, List.any_eq_true]
  simp
def rounds (us : Nat → List Nat) (N : List Nat) (a : Nat) : Nat → List Nat
  | 0 => [a]
  | k + 1 => rounds us N a k ++ more us N (rounds us N a k)
theorem rounds_ok {us : Nat → List Nat} {N : List Nat} {a : Nat} (hN : N.Nodup) (ha : a ∈ N) : ∀ k, (rounds us N a k).Nodup ∧ (∀ x ∈ rounds us N a k, x ∈ N ∧ Rch us N a x) ∧ (∃ t, rounds us N a k = a :: t)
  | 0 => ⟨by simp [rounds], fun x hx => by rw [List.mem_singleton.mp hx]; exact ⟨ha, .base⟩, [], rfl⟩
  | k + 1 => by
    obtain ⟨h1, h2, t, h3⟩ := rounds_ok (us := us) hN ha k
    refine ⟨List.nodup_append.mpr ⟨h1, hN.sublist List.filter_sublist, fun x hx y hy e => ?_⟩, fun x hx => ?_, t ++ more us N (rounds us N a k), by show rounds us N a k ++ _ = _; rw [h3]; rfl⟩
    · subst e
      exact (more_mem.mp hy).2.1 hx
    · rcases List.mem_append.mp hx with hx | hx
      · exact h2 x hx
      · obtain ⟨g1, _, g, g2, g3⟩ := more_mem.mp hx
        exact ⟨g1, .step g1 g2 (h2 g g3).2⟩
theorem rounds_closed {us : Nat → List Nat} {N : List Nat} {a : Nat} (hN : N.Nodup) (ha : a ∈ N) : ∀ k, more us N (rounds us N a k) = [] ∨ k + 1 ≤ (rounds us N a k).length
  | 0 => .inr (by simp [rounds])
  | k + 1 => by
    rcases rounds_closed (us := us) hN ha k with h | h
    · refine .inl ?_
      have e : rounds us N a (k + 1) = rounds us N a k := by show _ ++ _ = _; rw [h, List.append_nil]
      rw [e]
      exact h
    · by_cases c : more us N (rounds us N a k) = []
      · refine .inl ?_
        have e : rounds us N a (k + 1) = rounds us N a k := by show _ ++ _ = _; rw [c, List.append_nil]
        rw [e]
        exact c
      · refine .inr ?_
        show k + 1 + 1 ≤ (rounds us N a k ++ more us N (rounds us N a k)).length
        rw [List.length_append]
        have := List.length_pos_iff.mpr c
        omega
/-- behind as many rounds as names the law has met all that come to the name -/
theorem rounds_all {us : Nat → List Nat} {N : List Nat} {a : Nat} (hN : N.Nodup) (ha : a ∈ N) (x : Nat) : x ∈ rounds us N a N.length ↔ x ∈ N ∧ Rch us N a x := by
  obtain ⟨h1, h2, t, h3⟩ := rounds_ok (us := us) hN ha N.length
  refine ⟨h2 x, fun ⟨_, hr⟩ => ?_⟩
  have hm : more us N (rounds us N a N.length) = [] := by
    rcases rounds_closed (us := us) hN ha N.length with h | h
    · exact h
    · have := sub_len h1 fun x hx => (h2 x hx).1
      omega
  refine hr.closed (by rw [h3]; exact List.mem_cons_self ..) fun y hy g hg hgm => ?_
  by_cases c : y ∈ rounds us N a N.length
  · exact c
  · have := more_mem.mpr ⟨hy, c, g, hg, hgm⟩
    rw [hm] at this
    exact nomatch this
/-- the program's search: F those found, S the stack -/
structure Us (us : Nat → List Nat) (N : List Nat) (a : Nat) (F S : List Nat) : Prop where
  one : F.Nodup
  sub : ∀ x ∈ F, x ∈ N ∧ ∃ g ∈ us x, Rch us N a g
  stk : ∀ x ∈ S, x = a ∨ x ∈ F
  clo : ∀ h, (h = a ∨ h ∈ F) → h ∈ S ∨ ∀ x ∈ N, h ∈ us x → x ∈ F
theorem Us.start (us : Nat → List Nat) (N : List Nat) (a : Nat) : Us us N a [] [a] := ⟨by simp, (fun _ h => nomatch h), fun x hx => .inl (List.mem_singleton.mp hx), fun h e => .inl (by rcases e with rfl | e; exact List.mem_singleton.mpr rfl; exact nomatch e)⟩
theorem Us.done {us : Nat → List Nat} {N : List Nat} {a : Nat} {F : List Nat} (U : Us us N a F []) (x : Nat) (hx : x ≠ a) : x ∈ F ↔ x ∈ N ∧ Rch us N a x := by
  refine ⟨fun h => ?_, fun ⟨_, hr⟩ => ?_⟩
  · obtain ⟨h1, g, h2, h3⟩ := U.sub x h
    exact ⟨h1, .step h1 h2 h3⟩
  · have : x ∈ a :: F := hr.closed (M := a :: F) (List.mem_cons_self ..) fun y hy g hg hm => List.mem_cons_of_mem _ ((U.clo g (List.mem_cons.mp hm)).resolve_left (fun z => nomatch z) y hy hg)
    rcases List.mem_cons.mp this with h | h
    · exact absurd h hx
    · exact h
end G11
abbrev FnP (K : PySem.W.Frag) (x : Str) (st : Stmt) (f : Addr) (fd : FuncData) : Prop := FunD K x x (defArgs st) (defBody st) (defScope st) [] [] f fd
section
variable {P : Program} {w : World} {K : PySem.W.Frag} {mg : Str → Option Value} {base : Heap}
theorem getI {ns : List Int} {i : Nat} {y : V} (h : (ns.map V.int)[i]? = some y) : ∃ z, ns[i]? = some z ∧ y = .int z := by
  rw [List.getElem?_map] at h
  cases e : ns[i]? with
  | none => rw [e] at h; cases h
  | some z => rw [e] at h; exact ⟨z, rfl, (Option.some.inj h).symm⟩
theorem sl_of {n : Nat} (h : n ≤ 100000) : n ≤ sizeLine := Nat.le_trans h (by decide)
theorem sc_mixed : FnScope ["_law_draw", "_law_turn", "_law_found", "_law_prime", "_law_blend", "_law_cell"] ["_law_draw"] (defScope s_law_mixed) := ⟨rfl, rfl, rfl, by decide +kernel, rfl, by decide +kernel, by decide +kernel⟩
theorem primes_ok {i : Nat} {y : V} (h : ([V.int 2147483629, V.int 2147483587, V.int 2147483579, V.int 2147483563] : List V)[i]? = some y) : ∃ z : Int, y = .int z ∧ 2147483563 ≤ z ∧ z ≤ 2147483629 := by
  match i, h with
  | 0, h => cases h; exact ⟨_, rfl, by decide, by decide⟩
  | 1, h => cases h; exact ⟨_, rfl, by decide, by decide⟩
  | 2, h => cases h; exact ⟨_, rfl, by decide, by decide⟩
  | 3, h => cases h; exact ⟨_, rfl, by decide, by decide⟩
  | n + 4, h => cases h
theorem ok_mixed {f : Addr} {fd : FuncData} (F : FnP K "_law_mixed" s_law_mixed f fd) (gI : mg "int" = none) : FnOk P w K mg base CX0 1 f fd ["_law_draw"] spMixed := by
  refine F.ok sc_mixed (fun vs H Q E h => ?_) (fun cdv A outer s H vs Q E hr h => ?_)
  · obtain ⟨d, w, c, ws, cs, rest, turn, rfl, _⟩ := h
    rfl
  · obtain ⟨d, w, c, ws, cs, rest, turn, rfl, hT, D, k⟩ := h
    have hu := hu_of hr
    have nd := sc_mixed.nd
    refine ⟨_, PSs.nox (pss_cons (ps_par (i := 1) (j := 2) rfl nd rfl rfl (by decide) rfl rfl (pa_cons (pe_op op_add (pe_dget hu (pv 0) pe_str (fun _ _ => rfl)) pe_int) (pa_cons pe_int pa_nil)) (by rfl))
      (pss_cons (ps_dput hu (pv 0) pe_str (pv 1) rfl)
      (pss_cons (ps_for PassesOwn.never rfl (pi_list (pe_lst (pa_cons pe_int (pa_cons pe_int (pa_cons pe_int (pa_cons pe_int pa_nil)))))) (pg_name (i := 3) nd rfl (Or.inl rfl))
        (pss_cons (ps_set (i := 4) nd rfl (Or.inl rfl) (pe_op op_add (pe_op op_mul pe_int (pv 1)) (pe_op op_fdivN (pv 3) pe_int)))
        (pss_cons (ps_for PassesOwn.never rfl (pi_list (pe_dget hu (pv 0) pe_str (fun _ _ => rfl))) (pg_name (i := 5) nd rfl (Or.inl rfl))
          (pss_one (ps_set (i := 4) nd rfl (Or.inl rfl) (pe_op op_modN (pe_callTy call_int1 (by rfl) gI (by decide +kernel) (pa_cons (pe_op op_add (pe_op op_add (pe_op op_mul (pv 4) pe_int) (pv 5)) (pv 1)) pa_nil)) (pv 3)))))
        (pss_one (ps_set (i := 2) nd rfl (Or.inl rfl) (pe_op op_add (pe_op op_mul (pv 2) pe_int) (pe_op op_modN (pe_callTy call_int1 (by rfl) gI (by decide +kernel) (pa_cons (pe_op op_pow (pv 4) pe_int) pa_nil)) (pv 3))))))))
      (pss_one (ps_ret (pv 2)))))), ?_⟩
    have T0 := D.tn
    refine ⟨_, rfl, d, _, rfl, dget_turn D.hd, _, _, rfl, rfl, _, _, rfl, ?_⟩
    refine ⟨_, rfl, _, rfl, d, _, rfl, dput_turn _ D.hd, ?_⟩
    have D1 := D.setD (t2 := turn + 1) D.rn (by omega)
    have K1 : ∀ b o, H b = some o → b ≠ d → (upd H d (.dK (drK w c rest (turn + 1)))) b = some o := fun b o e n => by rw [upd_ne n]; exact e
    generalize upd H d (.dK (drK w c rest (turn + 1))) = H1 at D1 K1
    refine ⟨sl_of (by decide), fun p hp => ⟨p, rfl, ⟨_, SqL.of upd_same⟩, ?_⟩⟩
    have ndp : d ≠ p := ne_of_none D1.hd hp
    have nwp : w ≠ p := ne_of_none D1.hw hp
    have ncp : c ≠ p := ne_of_none D1.hc hp
    refine for_list (K := K) (a := p) (xs := [V.int 2147483629, V.int 2147483587, V.int 2147483579, V.int 2147483563]) (fun i σ H' => ∃ (fnd : Int) (v3 v4 v5 : Option V), σ = [some (.ref d), some (.int (turn + 1)), some (.int fnd), v3, v4, v5] ∧ 0 ≤ fnd ∧ H' = upd H1 p (.lst [V.int 2147483629, V.int 2147483587, V.int 2147483579, V.int 2147483563]))
      ⟨0, none, none, none, rfl, by decide, rfl⟩ (fun i σ H' _ ⟨_, _, _, _, _, _, e⟩ => by rw [e]; exact SqL.of upd_same) ?_ ?_
    · rintro i y σ H' hi ⟨fnd, v3, v4, v5, rfl, hf, rfl⟩
      obtain ⟨z, rfl, z1, z2⟩ := primes_ok hi
      have z0 : z ≠ 0 := by omega
      have D2 := D1.updo (o := .lst [V.int 2147483629, V.int 2147483587, V.int 2147483579, V.int 2147483563]) ndp.symm nwp.symm ncp.symm
      refine ⟨_, rfl, _, _, rfl, rfl, .inl ⟨by decide, by decide⟩, _, rfl, _, _, rfl, rfl, ⟨by decide, by decide⟩, _, _, rfl, rfl, ?_⟩
      refine ⟨_, rfl, d, _, rfl, dget_cells D2.hd, c, rfl, ⟨_, SqL.of D2.hc⟩, ?_⟩
      have b0 : 0 ≤ 61441 * (turn + 1) + z.fdiv 19 := by
        rw [Int.fdiv_eq_ediv_of_nonneg _ (by decide)]
        omega
      have b1 : 61441 * (turn + 1) + z.fdiv 19 < 2 ^ 63 := by
        rw [Int.fdiv_eq_ediv_of_nonneg _ (by decide)]
        have : turn < 1099511627776 := hT
        omega
      refine for_list (K := K) (a := c) (xs := cs.map V.int) (fun j σ H' => ∃ (bl : Int) (v5 : Option V), σ = [some (.ref d), some (.int (turn + 1)), some (.int fnd), some (.int z), some (.int bl), v5] ∧ 0 ≤ bl ∧ bl < 2 ^ 63 ∧ H' = upd H1 p (.lst [V.int 2147483629, V.int 2147483587, V.int 2147483579, V.int 2147483563]))
        ⟨_, v5, rfl, b0, b1, rfl⟩ (fun j σ H' _ ⟨_, _, _, _, _, e⟩ => by rw [e]; exact SqL.of D2.hc) ?_ ?_
      · rintro j y σ H' hj ⟨bl, v6, rfl, h0, h1, rfl⟩
        obtain ⟨q, _, rfl⟩ := getI hj
        refine ⟨_, rfl, _, _, rfl, rfl, .inr ⟨by decide, by decide⟩, _, rfl, _, _, rfl, rfl, _, rfl, _, _, rfl, rfl, .inl ⟨_, rfl, ?_⟩⟩
        refine ⟨_, rfl, _, _, rfl, rfl, z0, ?_⟩
        have m0 := Int.fmod_nonneg_of_pos (bl * 48271 + q + (turn + 1)) (b := z) (by omega)
        have m1 := Int.fmod_lt_of_pos (bl * 48271 + q + (turn + 1)) (b := z) (by omega)
        exact ⟨_, _, rfl, m0, by omega, rfl⟩
      · rintro σ H' ⟨bl, v6, rfl, h0, h1, rfl⟩
        refine ⟨_, rfl, _, _, rfl, rfl, .inr ⟨by decide, by decide⟩, _, rfl, _, _, rfl, rfl, ⟨by decide, by decide, by omega⟩, .inl ⟨_, rfl, ?_⟩⟩
        refine ⟨_, rfl, _, _, rfl, rfl, z0, _, _, rfl, rfl, ?_⟩
        have m0 := Int.fmod_nonneg_of_pos (bl ^ Int.toNat 5) (b := z) (by omega)
        exact ⟨_, _, _, _, rfl, by omega, rfl⟩
    · rintro σ H' ⟨fnd, v3, v4, v5, rfl, hf, rfl⟩
      refine ⟨_, rfl, ?_⟩
      refine k _ _ hf (D1.updo ndp.symm nwp.symm ncp.symm) fun b o e n => ?_
      have e1 := K1 b o e n
      rw [upd_ne (ne_of_none e1 hp)]
      exact e1
end
section
variable {P : Program} {w : World} {K : PySem.W.Frag} {mg : Str → Option Value} {base : Heap}
theorem sc_take : FnScope ["_law_draw", "_law_many", "_law_found"] ["_law_draw", "_law_many"] (defScope s_law_take) := ⟨rfl, rfl, rfl, by decide +kernel, rfl, by decide +kernel, by decide +kernel⟩
theorem dpAll_ints {K : PySem.W.Frag} {H : Hp} : ∀ ns : List Int, DpAll K H (ns.map V.int) (ns.map PyData.int)
  | [] => .nil
  | n :: ns => .cons (.int n) (dpAll_ints ns)
theorem shaped_lst (ns : List Int) : SeqAt.shaped (.list (ns.map PyData.int)) = true := PySem.W.ke_shaped_ints ns
theorem eqv_nil (ns : List Int) : PyData.eqv (.list (ns.map PyData.int)) (.list []) = ns.isEmpty := by
  cases ns <;> simp [PyData.eqv, PyData.eqvAll]
theorem ok_take {f fM : Addr} {fd fdM : FuncData} (F : FnP K "_law_take" s_law_take f fd) (FM : FnP K "_law_mixed" s_law_mixed fM fdM) (gM : mg "_law_mixed" = some (.ref fM)) (gI : mg "int" = none) : FnOk P w K mg base CX0 2 f fd ["_law_draw", "_law_many"] spTake := by
  have GM : FnOk P w K mg base CX0 1 fM fdM ["_law_draw"] spMixed := ok_mixed FM gI
  have bM : Binds K fdM ["_law_draw"] [] := FM.bindsN fun _ _ _ _ _ _ us hl => match us, hl with | [_], _ => rfl
  refine F.ok sc_take (fun vs H Q E h => ?_) (fun cdv A outer s H vs Q E hr h => ?_)
  · obtain ⟨t, H0, d, n, rfl, _⟩ := h
    rfl
  · obtain ⟨t, H0, d, n, rfl, hD, ht, n0, n1, k⟩ := h
    have hu := hu_of hr
    have nd := sc_take.nd
    obtain ⟨sm, w, c, ws, cs, rest, turn, h1, h2, h3, htu, D⟩ := hD
    refine ⟨_, PSs.nox (pss_cons (ps_if (pt_cmpR op_eq (pe_dget hu (pv 0) pe_str (fun _ _ => rfl)) pe_int (nomark _))
       (pss_one (ps_dput hu (pv 0) pe_str (pe_ifExp (pt_cmpR (op_neD hr.units) (pe_dget hu (pv 0) pe_str (fun _ _ => rfl)) (pe_lst pa_nil) (nomark _))
          (pe_bm PySem.F.plainAttrs_list PySem.F.slot_list_pop PySem.F.type_list_pop mt_popAt (pe_dget hu (pv 0) pe_str (fun _ _ => rfl)) (pa_cons pe_int pa_nil))
          (pe_call GM hr rfl gM FM.kp bM .nil pass0 (pa_cons (pv 0) pa_nil))) rfl)) pss_nil)
      (pss_cons (ps_set (i := 2) nd rfl (.inl rfl) (pe_op op_modN (pe_callTy call_int1 (by rfl) gI (by decide +kernel) (pa_cons (pe_dget hu (pv 0) pe_str (fun _ _ => rfl)) pa_nil)) (pv 1)))
      (pss_cons (ps_dput hu (pv 0) pe_str (pe_op op_fdivW (pe_dget hu (pv 0) pe_str (fun _ _ => rfl)) (pv 1)) rfl)
      (pss_one (ps_ret (pv 2)))))), ?_⟩
    -- what follows the if
    have fin : ∀ (ws : List Int) (rest turn : Int) (H1 : Hp), turn ≤ (t + 1 : Nat) → Same H0 H1 → DrD H1 d w c ws cs rest turn →
        tSeq (tAsg (tOp (rI (fun _ j => j ≠ 0) fun i j => .int (i.fmod j)) (tCB (fun xs H Q => (∃ i, xs = [.int i] ∧ Q (.int i) H) ∨ ∃ k, xs = [.bl k] ∧ Q (.int (if k then 1 else 0)) H) (tCons (tDGet (tVar 0) (tC (.str "rest"))) tNil)) (tVar 1)) (gName 2))
          (tSeq (sDPut (tVar 0) (tC (.str "rest")) (tOp (rI CDivW fun i j => .int (i / j)) (tDGet (tVar 0) (tC (.str "rest"))) (tVar 1))) (tRet (tVar 2))) { nx := fun _ H' => Q .non H', rt := Q } [some (.ref d), some (.int n), none] H1 := by
      intro ws rest turn H1 hle sm1 D1
      refine ⟨_, rfl, d, _, rfl, dget_rest D1.hd, .inl ⟨_, rfl, _, rfl, _, _, rfl, rfl, by omega, ?_⟩⟩
      have r0 := D1.rn
      have q0 : 0 ≤ rest / n := Int.ediv_nonneg r0 (by omega)
      refine ⟨_, rfl, d, _, rfl, dget_rest D1.hd, _, rfl, _, _, rfl, rfl, wide_div n0 (b := 60) (by omega) (by decide) (by decide), _, rfl, d, _, rfl, dput_rest _ D1.hd, _, rfl, ?_⟩
      refine k _ _ (Int.fmod_nonneg_of_pos _ n0) (Int.fmod_lt_of_pos _ n0) ⟨same_sub sm1 h1, w, c, ws, cs, _, turn, h1, h2, h3, hle, D1.setD q0 D1.tn⟩
    refine ⟨_, rfl, d, _, rfl, dget_rest D.hd, rfl, _, rfl, ?_⟩
    by_cases e : rest = 0
    · subst e
      refine iteT ?_
      refine ⟨_, rfl, d, _, rfl, dget_wide D.hd, Nat.zero_le _, fun p hp => ?_⟩
      have ndp : d ≠ p := ne_of_none D.hd hp
      have nwp : w ≠ p := ne_of_none D.hw hp
      have ncp : c ≠ p := ne_of_none D.hc hp
      have D2 := D.updo (o := .lst []) ndp.symm nwp.symm ncp.symm
      refine ⟨_, _, .lst (SqL.of D2.hw) (dpAll_ints ws), .lst (SqL.of upd_same) .nil, shaped_lst ws, shaped_lst [], _, rfl, ?_⟩
      rw [eqv_nil]
      have sm2 : Same H0 (upd H p (.lst [])) := same_sub sm (sm.free hp)
      generalize upd H p (.lst []) = H2 at D2 sm2
      cases ws with
      | nil =>
        refine iteF ?_
        refine ⟨_, rfl, ?_⟩
        refine ⟨d, w, c, [], cs, 0, turn, rfl, by have : t < 1099511627776 := ht; show turn < 1099511627776; omega, D2, fun m H3 m0 D3 k3 => ?_⟩
        refine ⟨_, rfl, d, _, rfl, dput_rest _ D3.hd, ?_⟩
        have sm3 : Same H0 H3 := fun b o e => k3 b o (sm2 b o e) (ne_of_none e h1)
        exact fin _ _ _ _ (by omega) (same_sub sm3 h1) (D3.setD m0 D3.tn)
      | cons m ws =>
        refine iteT ?_
        refine ⟨_, rfl, d, _, rfl, dget_wide D2.hd, .inl ⟨rfl, _, SqL.of D2.hw⟩, w, _, 0, 0, .int m, rfl, rfl, D2.hw, by decide, by decide, ?_, rfl, ?_⟩
        · simp [seqIndex?]
        · have nwd := D2.ne_dw
          refine ⟨_, rfl, d, _, rfl, dput_rest _ (by rw [upd_ne nwd]; exact D2.hd), ?_⟩
          have m0 := D2.wn m (List.mem_cons_self ..)
          have l0 := D2.wl
          rw [List.length_cons] at l0
          have D3 : DrD (upd H2 w (.lst (ws.map V.int))) d w c ws cs 0 turn := ⟨by rw [upd_ne nwd]; exact D2.hd, upd_same, by rw [upd_ne D2.wc.symm]; exact D2.hc, D2.wc, by omega, fun x hx => D2.wn x (List.mem_cons_of_mem _ hx), D2.cl, by decide, D2.tn⟩
          exact fin _ _ _ _ (by omega) (same_sub (same_sub sm2 h2) h1) (D3.setD m0 D3.tn)
    · have e2 : decide (V.int rest = V.int 0) = false := decide_eq_false fun z => e (by injection z)
      rw [e2]
      refine iteF ?_
      exact fin _ _ _ _ (by omega) sm D
end
theorem Same.seqT {K : PySem.W.Frag} {H H' : Hp} {a : Addr} {xs : List V} (e : Same H H') (h : SqT K H a xs) : SqT K H' a xs := by
  rcases h with (h | ⟨o, h⟩) | h
  · exact .inl (.inl (e _ _ h))
  · exact .inl (.inr ⟨o, e _ _ h⟩)
  · exact .inr h
theorem yesIf {σ : L2.St} {H : Hp} {A B : Hp → Prop} (h : A H) : tYes σ H (fun b H3 => if b = true then A H3 else B H3) := by
  show if true = true then A H else B H
  exact iteT h
section
variable {P : Program} {w : World} {K : PySem.W.Frag} {mg : Str → Option Value} {base : Heap}
theorem sc_pick : FnScope ["_law_draw", "_law_some"] ["_law_draw", "_law_some"] (defScope s_law_pick) := ⟨rfl, rfl, rfl, by decide +kernel, rfl, by decide +kernel, by decide +kernel⟩
theorem toNat_get {xs : List V} {k : Int} (h0 : 0 ≤ k) (h1 : k < (xs.length : Int)) : ∃ v, v ∈ xs ∧ xs[k.toNat]? = some v := by
  have h : k.toNat < xs.length := by omega
  exact ⟨xs[k.toNat], List.getElem_mem h, List.getElem?_eq_getElem h⟩
theorem atI_int {α : Type} {xs : List α} {k : Int} {v : α} (h0 : 0 ≤ k) (h : xs[k.toNat]? = some v) : atI xs k = some v := by
  have e : ((k.toNat : Nat) : Int) = k := by omega
  rw [← e]
  exact atI_nat h
theorem ok_pick {f fT : Addr} {fd fdT : FuncData} (F : FnP K "_law_pick" s_law_pick f fd) (gT : mg "_law_take" = some (.ref fT)) (kT : PySem.W.keepIn K (.ref fT) = true) (bT : Binds K fdT ["_law_draw", "_law_many"] []) (GT : FnOk P w K mg base CX0 2 fT fdT ["_law_draw", "_law_many"] spTake) (gL : mg "len" = none) :
    FnOk P w K mg base CX0 3 f fd ["_law_draw", "_law_some"] (spPick K) := by
  refine F.ok sc_pick (fun vs H Q E h => ?_) (fun cdv A outer s H vs Q E hr h => ?_)
  · obtain ⟨t, H0, d, x, xs, rfl, _⟩ := h
    rfl
  · obtain ⟨t, H0, d, x, xs, rfl, hD, ht, hx, l0, l1, k⟩ := h
    refine ⟨_, PSs.nox (pss_one (ps_ret (pe_ix ix_seq (pv 1) (pe_call GT hr rfl gT kT bT .nil pass0 (pa_cons (pv 0) (pa_cons (pe_callB call_len (by rfl) gL PySem.boot_len (pa_cons (pv 1) pa_nil)) pa_nil))) (fun _ _ => rfl)))), ?_⟩
    have hl : LenV K x H xs.length := by
      cases hx with
      | lst h => exact .inl ⟨_, hD.same.seq h, rfl⟩
      | tup h => exact .inr ⟨_, Same.seqT hD.same h, rfl⟩
      | str h =>
        rw [List.length_map]
        exact ⟨sl_of h, rfl⟩
    refine ⟨_, rfl, _, rfl, _, rfl, _, _, rfl, hl, ?_⟩
    refine ⟨t, H0, d, xs.length, rfl, hD, ht, by omega, by omega, fun i H' i0 i1 hD' => ?_⟩
    obtain ⟨v, hv, hg⟩ := toNat_get i0 i1
    have q := k v H' hv hD'
    cases hx with
    | lst h => exact .inl ⟨_, _, _, _, rfl, rfl, hD'.same.seq h, atI_int i0 hg, q⟩
    | tup h => exact .inr (.inl ⟨_, _, _, _, rfl, rfl, Same.seqT hD'.same h, atI_int i0 hg, q⟩)
    | @str z h =>
      rw [List.getElem?_map] at hg
      cases e : z.cps.toList[i.toNat]? with
      | none => rw [e] at hg; cases hg
      | some c =>
        rw [e] at hg
        cases (Option.some.inj hg)
        exact .inr (.inr ⟨_, _, _, rfl, rfl, sl_of h, atI_int i0 e, q⟩)
theorem sc_begun : FnScope ["_law_script", "_law_wide", "_law_cell"] ["_law_script"] (defScope s_law_begun) := ⟨rfl, rfl, rfl, by decide +kernel, rfl, by decide +kernel, by decide +kernel⟩
theorem ok_begun {f : Addr} {fd : FuncData} (F : FnP K "_law_begun" s_law_begun f fd) (gI : mg "int" = none) (gA : mg "abs" = none) : FnOk P w K mg base CX0 1 f fd ["_law_script"] (spBegun K) := by
  refine F.ok sc_begun (fun vs H Q E h => ?_) (fun cdv A outer s H vs Q E hr h => ?_)
  · obtain ⟨a, ns, rfl, _⟩ := h
    rfl
  · obtain ⟨a, ns, rfl, hS, hl, k⟩ := h
    have hu := hu_of hr
    have nd := sc_begun.nd
    refine ⟨_, PSs.nox (pss_cons (ps_setLc (i := 1) (own := [("_law_cell", 2)]) (g := gName 2) rfl nd rfl rfl (sw_true rfl rfl rfl (by decide +kernel)) (pi_list (pv 0)) (blkOk_by (own := [("_law_cell", 2)]) (N := ["_law_script", "_law_wide", "_law_cell"]) (sc := defScope s_law_begun) (by decide +kernel))
        (fun _ _ _ _ _ => pg_name (i := 2) nd rfl (Or.inl rfl))
        (fun _ _ _ _ _ => pts_one (pt_cmpR op_ge (pe_callB call_abs (by rfl) gA (by decide +kernel) (pa_cons (pv 2) pa_nil)) (pe_op op_pow pe_int pe_int) (nomark _)))
        (fun _ _ _ _ _ => pe_op op_sub (pe_callB call_abs (by rfl) gA (by decide +kernel) (pa_cons (pv 2) pa_nil)) (pe_op op_pow pe_int pe_int)))
      (pss_one (ps_ret (pe_disp (pps_cons pe_str (pv 1) (pps_cons pe_str
        (pe_lc (own := [("_law_cell", 2)]) (g := gName 2) rfl nd (pi_list (pv 0)) (blkOk_by (own := [("_law_cell", 2)]) (N := ["_law_script", "_law_wide", "_law_cell"]) (sc := defScope s_law_begun) (by decide +kernel))
          (fun _ _ _ _ _ => pg_name (i := 2) nd rfl (Or.inl rfl)) (fun _ _ _ _ _ => pts_nil)
          (fun _ _ _ _ _ => pe_op op_modN (pe_callTy call_int1 (by rfl) gI (by decide +kernel) (pa_cons (pe_callB call_abs (by rfl) gA (by decide +kernel) (pa_cons (pv 2) pa_nil)) pa_nil)) pe_int))
        (pps_cons pe_str pe_int (pps_cons pe_str pe_int pps_nil)))) (by rfl) (by rfl) (fun z => by cases z) (by decide))))), ?_⟩
    refine ⟨_, rfl, a, rfl, ⟨_, hS⟩, fun D hD => ?_⟩
    have sD : ∀ o, Same H (upd H D o) := fun o => same_new hD
    refine lc_list (K := K) (a := a) (xs := ns.map V.int) (fun i H' => ∃ acc : List Int, H' = upd H D (.lst (acc.map V.int)) ∧ acc.length ≤ i ∧ ∀ x ∈ acc, 0 ≤ x) ⟨[], rfl, Nat.le_refl _, by simp⟩ (fun i H' _ ⟨acc, e, _⟩ => by rw [e]; exact (sD _).seq hS) ?_ ?_
    · rintro i x H' hi ⟨acc, rfl, hal, ha⟩
      obtain ⟨z, hz, rfl⟩ := getI hi
      have hil : i < ns.length := (List.getElem?_eq_some_iff.mp hz).1
      refine ⟨rfl, ?_⟩
      refine ⟨_, rfl, _, rfl, _, _, rfl, rfl, ⟨by decide, by decide, by decide⟩, _, _, rfl, rfl, _, rfl, ?_⟩
      refine ite2 (fun c => ?_) (fun c => ?_)
      · have c1 := of_decide_eq_true c
        refine ⟨_, rfl, _, rfl, _, _, rfl, rfl, ⟨by decide, by decide, by decide⟩, _, _, rfl, rfl, _, upd_same, ?_, acc ++ [(if z < 0 then -z else z) - 10 ^ Int.toNat 18], ?_, ?_, ?_⟩
        · rw [List.length_map]
          exact Nat.lt_of_lt_of_le (show acc.length < 64 by omega) (by decide)
        · rw [upd_upd, List.map_append]
          rfl
        · rw [List.length_append]
          exact Nat.succ_le_succ hal
        · intro x hx
          rcases List.mem_append.mp hx with h | h
          · exact ha x h
          · rw [List.mem_singleton.mp h]
            omega
      · exact ⟨acc, rfl, by omega, ha⟩
    · rintro H' ⟨ws, rfl, hwl, hw⟩
      rw [List.length_map] at hwl
      intro p hp
      have npD : p ≠ D := fun z => by rw [z, upd_same] at hp; cases hp
      have s1 : Same H (upd (upd H D (.lst (ws.map V.int))) p (.dK [])) := (sD _).trans (same_new hp)
      refine ⟨_, rfl, ?_⟩
      refine ⟨_, rfl, a, rfl, ⟨_, s1.seq hS⟩, fun D2 hD2 => ?_⟩
      have nDD : D ≠ D2 := fun z => by rw [← z, upd_ne npD.symm, upd_same] at hD2; cases hD2
      have npD2 : p ≠ D2 := fun z => by rw [← z, upd_same] at hD2; cases hD2
      refine lc_list (K := K) (a := a) (xs := ns.map V.int) (fun i H' => ∃ acc : List Int, H' = upd (upd (upd H D (.lst (ws.map V.int))) p (.dK [])) D2 (.lst (acc.map V.int)) ∧ acc.length ≤ i) ⟨[], rfl, Nat.le_refl _⟩ (fun i H' _ ⟨acc, e, _⟩ => by rw [e]; exact (s1.trans (same_new hD2)).seq hS) ?_ ?_
      · rintro i x H' hi ⟨acc, rfl, hal⟩
        obtain ⟨z, hz, rfl⟩ := getI hi
        have hil : i < ns.length := (List.getElem?_eq_some_iff.mp hz).1
        refine ⟨rfl, yesIf ?_⟩
        refine ⟨_, rfl, _, rfl, .inl ⟨_, rfl, _, _, rfl, rfl, (show (2147483629 : Int) ≠ 0 by decide), ?_⟩⟩
        refine ⟨_, upd_same, ?_, acc ++ [(if z < 0 then -z else z).fmod 2147483629], ?_, ?_⟩
        · rw [List.length_map]
          exact Nat.lt_of_lt_of_le (show acc.length < 64 by omega) (by decide)
        · rw [upd_upd, List.map_append]
          rfl
        · rw [List.length_append]
          exact Nat.succ_le_succ hal
      · rintro H' ⟨cs, rfl, hcl⟩
        rw [List.length_map] at hcl
        refine ⟨by rw [upd_ne npD2, upd_same], drK D D2 0 0, rfl, (show 4 ≤ 15 by decide), ?_⟩
        rw [dr_made]
        have hpn : H p = none := (sD _).free hp
        have hD2n : H D2 = none := s1.free hD2
        refine k _ p ⟨fun b o e => ?_, D, D2, ws, cs, 0, 0, hpn, hD, hD2n, Int.le_refl _, ⟨upd_same, ?_, ?_, nDD, by omega, hw, by omega, Int.le_refl _, Int.le_refl _⟩⟩ hpn
        · rw [upd_ne (ne_of_none e hpn), upd_ne (ne_of_none e hD2n), upd_ne (ne_of_none e hpn), upd_ne (ne_of_none e hD)]
          exact e
        · rw [upd_ne npD.symm, upd_ne nDD, upd_ne npD.symm, upd_same]
        · rw [upd_ne npD2.symm, upd_same]
end
/-! ## what k57 shares with k83 -/
/-- values that are no numbers -/
inductive OtV (H : Hp) : V → Prop where
  | non : OtV H .non
  | bl (b : Bool) : OtV H (.bl b)
  | str (z : Str) : OtV H (.str z)
  | lst {a : Addr} {xs : List V} (e : H a = some (.lst xs)) : OtV H (.ref a)
  | tup {a : Addr} {xs : List V} (e : H a = some (.tup xs)) : OtV H (.ref a)
  | dic {a : Addr} {kvs : List (Key × V)} (e : H a = some (.dK kvs)) : OtV H (.ref a)
theorem OtV.same {H H' : Hp} {v : V} (s : Same H H') (h : OtV H v) : OtV H' v := by
  cases h with
  | non => exact .non
  | bl b => exact .bl b
  | str z => exact .str z
  | lst e => exact .lst (s _ _ e)
  | tup e => exact .tup (s _ _ e)
  | dic e => exact .dic (s _ _ e)
structure NkF (K : PySem.W.Frag) (mg : Str → Option Value) : Prop where
  isi : mg "isinstance" = none
  int : mg "int" = none
  str : mg "str" = none
  len : mg "len" = none
  bool : mg "bool" = none
mutual
inductive Dt (G : Addr → Prop) (H : Hp) : V → PyData → Prop
  | non : Dt G H .non .none
  | bl (b : Bool) : Dt G H (.bl b) (.bool b)
  | int (i : Int) : Dt G H (.int i) (.int i)
  | str (x : Str) : Dt G H (.str x) (.str x)
  | lst {a : Addr} {xs : List V} {ds : List PyData} : G a → H a = some (.lst xs) → DtA G H xs ds → Dt G H (.ref a) (.list ds)
  | tup {a : Addr} {xs : List V} {ds : List PyData} : G a → H a = some (.tup xs) → DtA G H xs ds → Dt G H (.ref a) (.tuple ds)
  | dic {a : Addr} : G a → H a = some (.dK []) → Dt G H (.ref a) (.dict [])
inductive DtA (G : Addr → Prop) (H : Hp) : List V → List PyData → Prop
  | nil : DtA G H [] []
  | cons {v : V} {vs : List V} {d : PyData} {ds : List PyData} : Dt G H v d → DtA G H vs ds → DtA G H (v :: vs) (d :: ds)
end
mutual
theorem Dt.to {G G' : Addr → Prop} {H H' : Hp} (t : ∀ b o, G b → H b = some o → H' b = some o ∧ G' b) : ∀ {d : PyData} {v : V}, Dt G H v d → Dt G' H' v d
  | _, _, .non => .non
  | _, _, .bl b => .bl b
  | _, _, .int i => .int i
  | _, _, .str x => .str x
  | _, _, .lst g e h => .lst (t _ _ g e).2 (t _ _ g e).1 (DtA.to t h)
  | _, _, .tup g e h => .tup (t _ _ g e).2 (t _ _ g e).1 (DtA.to t h)
  | _, _, .dic g e => .dic (t _ _ g e).2 (t _ _ g e).1
theorem DtA.to {G G' : Addr → Prop} {H H' : Hp} (t : ∀ b o, G b → H b = some o → H' b = some o ∧ G' b) : ∀ {ds : List PyData} {vs : List V}, DtA G H vs ds → DtA G' H' vs ds
  | _, _, .nil => .nil
  | _, _, .cons h1 h2 => .cons (Dt.to t h1) (DtA.to t h2)
end
theorem Dt.same {G : Addr → Prop} {H H' : Hp} {d : PyData} {v : V} (h : Dt G H v d) (s : Same H H') : Dt G H' v d := h.to fun b o g e => ⟨s b o e, g⟩
theorem DtA.same {G : Addr → Prop} {H H' : Hp} {ds : List PyData} {vs : List V} (h : DtA G H vs ds) (s : Same H H') : DtA G H' vs ds := h.to fun b o g e => ⟨s b o e, g⟩
theorem DtA.app {G : Addr → Prop} {H : Hp} : ∀ {as bs : List V} {ds es : List PyData}, DtA G H as ds → DtA G H bs es → DtA G H (as ++ bs) (ds ++ es)
  | [], _, _, _, .nil, h => h
  | _ :: _, _, _, _, .cons h1 h2, h => .cons h1 (h2.app h)
theorem DtA.length {G : Addr → Prop} {H : Hp} : ∀ {vs : List V} {ds : List PyData}, DtA G H vs ds → vs.length = ds.length
  | _, _, .nil => rfl
  | _, _, .cons _ h => congrArg Nat.succ h.length
theorem Room.u101 {k : Nat} {A : Around} (r : Room k A) : A.units + 101 < cLine := by have := r.un; omega
theorem iteNe {a b : V} {A B : Prop} (e : a = b) (h : B) : if (!decide (a = b)) = true then A else B := by
  rw [decide_eq_true e]
  exact iteF h
theorem iteNt {a b : V} {A B : Prop} (e : a ≠ b) (h : A) : if (!decide (a = b)) = true then A else B := by
  rw [decide_eq_false e]
  exact iteT h
theorem iteN0 {A B : Prop} (h : A) : if (!false) = true then A else B := iteT h
abbrev anyA : Addr → Prop := fun _ => True
def numD : PyData → Bool
  | .int _ => true
  | _ => false
section
variable {K : PySem.W.Frag} {G : Addr → Prop} {H : Hp}
theorem dt_tup {d : PyData} {v : V} (h : Dt G H v d) : (∃ a xs ds, v = .ref a ∧ d = .tuple ds ∧ H a = some (.tup xs) ∧ DtA G H xs ds) ∨ ((∃ t, TyX K H v t ∧ PySem.W.kitOne K t (.type "tuple") = some false) ∧ ∀ ds, d ≠ .tuple ds) := by
  cases h with
  | non => exact .inr ⟨⟨_, .base .non, kit_ty (by decide +kernel)⟩, fun _ z => by cases z⟩
  | bl b => exact .inr ⟨⟨_, .base (.bl b), kit_ty (by decide +kernel)⟩, fun _ z => by cases z⟩
  | int i => exact .inr ⟨⟨_, .base (.int i), kit_ty (by decide +kernel)⟩, fun _ z => by cases z⟩
  | str z => exact .inr ⟨⟨_, .base (.str z), kit_ty (by decide +kernel)⟩, fun _ z => by cases z⟩
  | lst g e _ => exact .inr ⟨⟨_, .base (.lst e), kit_ty (by decide +kernel)⟩, fun _ z => by cases z⟩
  | tup g e t => exact .inl ⟨_, _, _, rfl, rfl, e, t⟩
  | dic g e => exact .inr ⟨⟨_, .base (.dK e), kit_ty (by decide +kernel)⟩, fun _ z => by cases z⟩
theorem dt_num {d : PyData} {v : V} (h : Dt G H v d) : (∃ i, v = .int i ∧ d = .int i) ∨ (OtV H v ∧ numD d = false) := by
  cases h with
  | non => exact .inr ⟨.non, rfl⟩
  | bl b => exact .inr ⟨.bl b, rfl⟩
  | int i => exact .inl ⟨i, rfl, rfl⟩
  | str z => exact .inr ⟨.str z, rfl⟩
  | lst g e _ => exact .inr ⟨.lst e, rfl⟩
  | tup g e t => exact .inr ⟨.tup e, rfl⟩
  | dic g e => exact .inr ⟨.dic e, rfl⟩
end
def spDa (g : PyData → Bool) : Sp := fun vs H Q _ => ∃ (x : V) (d : PyData), vs = [x] ∧ Dt anyA H x d ∧ ∀ H', Same H H' → Q (.bl (g d)) H'
def Cal (P : Program) (w : World) (K : PySem.W.Frag) (mg : Str → Option Value) (base : Heap) (k : Nat) (x : Str) (ps : List Str) (sp : Sp) : Prop :=
  ∃ (f : Addr) (fd : FuncData), mg x = some (.ref f) ∧ PySem.W.keepIn K (.ref f) = true ∧ Binds K fd ps [] ∧ FnOk P w K mg base CX0 k f fd ps sp
theorem take_snoc2 {α : Type} {l : List α} {i : Nat} {a : α} (h : l[i]? = some a) : l.take (i + 1) = l.take i ++ [a] := by
  rw [List.take_succ, h]
  rfl
theorem DtA.at {G : Addr → Prop} {H : Hp} : ∀ {vs : List V} {ds : List PyData} {i : Nat} {x : V}, DtA G H vs ds → vs[i]? = some x → ∃ d, ds[i]? = some d ∧ Dt G H x d
  | _, _, _, _, .nil, e => by simp at e
  | _, _, 0, _, .cons h _, e => by
    simp at e
    subst e
    exact ⟨_, rfl, h⟩
  | _, _, i + 1, _, .cons _ t, e => t.at (i := i) (by simpa using e)
/-! ## enumerate of a tuple -/
section
open PySem.Spec PyProof.Rows
theorem meets_enumerate_newB1 {v : Value} {o : Obj} {H : Heap → Prop} (B : Begins v o H) :
    Meets (Builtin.«enumerate.__new__» ⟨[.type "enumerate", v], []⟩) (fun _ R s => H s.heap ∧
      R (.ok (.ret (.ref (s.heap.push o).objs.size))) { s with heap := (s.heap.push o).push { cls := .type "enumerate", data := .fields #[.none, .bool false, .ref s.heap.objs.size, rawInt 0, .none, .none] } }) :=
  .of_wp fun prog w A R s h => by
    obtain ⟨hp, g, d, tk, os⟩ := s; obtain ⟨h1, h⟩ := h
    have hsub := sub_enumerate
    have q1 : ∀ {A' : Around} {E : Value → Shared → Prop} {Q : Value → Shared → Prop}, Q (.ref hp.objs.size) ⟨hp.push o, g, d, tk, os⟩ → wpAny (model prog w) A' (pyIter v) Q E ⟨hp, g, d, tk, os⟩ :=
      fun q => B.iter prog w _ _ ⟨hp, g, d, tk, os⟩ _ h1 q
    wp_walk using q1
    refine wpAny_stack_any fun st => wpAny_pure ?_
    split
    · rename_i c _ _ _ _ _
      cases (c == Value.type "enumerate")
      · wp_walk using q1
        exact ⟨_, rfl, h⟩
      · wp_walk using q1
        exact ⟨_, rfl, h⟩
    · wp_walk using q1
      exact ⟨_, rfl, h⟩
theorem enum_begins1 {prog : Program} {w : World} {A : Around} {E : Value → Shared → Prop} {s : Shared} {v : Value} {o : Obj} {H : Heap → Prop} {Q : Value → Shared → Prop} (B : Begins v o H) (h1 : H s.heap)
    (h : ∀ h', IsEnum h' (s.heap.objs.size + 1) s.heap.objs.size 0 .none → h'.get? s.heap.objs.size = some o → h'.objs.size = s.heap.objs.size + 2 →
      (∀ b o, s.heap.get? b = some o → h'.get? b = some o) → Q (.ref (s.heap.objs.size + 1)) { s with heap := h' }) :
    wpAny (model prog w) A (call (.type "enumerate") [v]) Q E s := by
  refine callType_new F.called_enumerate (by decide) (F.typeCall_enumerate_1 _) (F.newCall_enumerate_1 _) (fun obj => F.args_object_init_2 obj _) F.entry_enumerate_new
    (meets_enumerate_newB1 B) ⟨h1, ?_⟩
  have hz : (s.heap.push o).objs.size = s.heap.objs.size + 1 := Heap.size_push ..
  show _ ∧ _
  rw [hz]
  have he : IsEnum ((s.heap.push o).push { cls := .type "enumerate", data := .fields #[.none, .bool false, .ref s.heap.objs.size, rawInt 0, .none, .none] }) (s.heap.objs.size + 1) s.heap.objs.size 0 .none := by
    have := Heap.get?_push_size (s.heap.push o) (o := { cls := .type "enumerate", data := .fields #[.none, .bool false, .ref s.heap.objs.size, rawInt 0, .none, .none] }) rfl
    rw [hz] at this; exact this
  refine ⟨⟨_, he, rfl⟩, h _ he (Heap.get?_push_of_some _ (Heap.get?_push_size _ B.free)) (by rw [Heap.size_push, hz]) fun b o x => Heap.get?_push_of_some _ (Heap.get?_push_of_some _ x)⟩
def IteT (K : PySem.W.Frag) (a : Addr) : It :=
  ⟨fun i H => ∃ (xs : List V) (x : V), SqT K H a xs ∧ xs[i]? = some x, fun i H v H' => ∃ T x, v = .ref T ∧ H T = none ∧ H' = upd H T (.tup [.int (i : Nat), x]) ∧ ∀ xs, SqT K H a xs → xs[i]? = some x, fun i H => ∃ xs : List V, SqT K H a xs ∧ i = xs.length⟩
theorem turn_enumT {P : Program} {w : World} {K : PySem.W.Frag} {elts : List Expr} {kk : Nat} {tpos : Pos} (a e it : Addr) :
    Turn P w K (.Tuple elts kk tpos) (IteT K a) [e, it] e (fun i h => (∃ old, IsEnum h e it ((i : Nat) : Int) old) ∧ h.IsTupleIter it a i ∧ e ≠ it ∧ e ≠ a ∧ it ≠ a) where
  mem := by simp
  obj := fun i h st b hb => by
    obtain ⟨⟨old, he⟩, ⟨o, ho, hc, hd⟩, _⟩ := st
    have e' : b = e ∨ b = it := by simpa using hb
    rcases e' with z | z
    · rw [z]; exact ⟨_, he, fun v q => nomatch q⟩
    · rw [z]; exact ⟨o, ho, fun v q => by rw [hd] at q; cases q⟩
  keep := fun i h h' st k => let ⟨⟨old, he⟩, hi, hne⟩ := st; ⟨⟨old, k e (by simp) _ he⟩, hi.at fun o q => k it (by simp) o q, hne⟩
  item := by
    intro X hP hw hK hc i pins s σ H E I hf st hg
    subst hP hw hK
    obtain ⟨⟨old, he⟩, hit, hne, hea, hia⟩ := st
    obtain ⟨xs, x, hq, hx⟩ := hg
    obtain ⟨its, rv, p, hz⟩ := I.tuple hq
    obtain ⟨u, hu, ru⟩ := rv.get hx
    have hel : e < s.heap.objs.size := Heap.lt_size he
    have hil : it < s.heap.objs.size := by obtain ⟨_, q, _⟩ := hit; exact Heap.lt_size q
    have hlt : i < its.toArray.size := by
      have := (List.getElem?_eq_some_iff.mp hu).1
      simpa using this
    refine wpAny_pyNext_enum_itemD (Draws.tuple (by exact I.ok.hd hc) it a (Ne.symm hia) its.toArray) he ⟨hit, p⟩ hlt hne (by simp; exact ⟨hne, hea⟩) fun x2 h' tk y2 ho hit' hT hsz hk => ?_
    have e2 : x2 = u := by
      have : its.toArray[i]? = some u := by simpa using hu
      rw [this] at y2
      exact (Option.some.inj y2).symm
    subst e2
    refine ⟨_, rfl, wpAny_letOwnedTupleGo_enum (s := { s with heap := h', toks := tk + 1 }) ho fun h'' he' sb => ?_⟩
    have hT2 : h''.get? s.heap.objs.size = some { cls := .type "tuple", data := .seq #[.int i tk, x2] } := (sb.2 _ (Nat.ne_of_gt hel)).trans hT
    have new : ObjOk X.prog X.w (upd H s.heap.objs.size (.tup [.int (i : Nat), x])) h'' s.heap.objs.size (.tup [.int (i : Nat), x]) :=
      ⟨by show 2 ≤ sizeLine; decide, [.int i tk, x2], .cons ⟨_, rfl⟩ (.cons ru .nil), ⟨_, hT2, rfl, _, rfl⟩⟩
    have I1 : Inv X pins σ (upd H s.heap.objs.size (.tup [.int (i : Nat), x])) { s with heap := h'', toks := tk + 1 } :=
      I.turnedNew (ch := [e, it]) (fun b ob hb q => (sb.2 b (fun z => hb (by simp [z]))).trans (hk b ob (fun z => hb (by simp [z])) (fun z => hb (by simp [z])) q)) hf (Nat.le_refl _) new
    refine ⟨.ref s.heap.objs.size, _, I1, rfl, ⟨_, x, rfl, I.hok.fresh (Nat.le_refl _), rfl, fun ys hy => by rw [I.tuple_inj hy hq]; exact hx⟩, ⟨⟨x2, ?_⟩, hit'.1.at fun o q => (sb.2 it (Ne.symm hne)).trans q, hne, hea, hia⟩, fun b hb => ?_⟩
    · have e1 : ((i + 1 : Nat) : Int) = (i : Int) + 1 := by omega
      rw [e1]; exact he'
    · have hb' : b < s.heap.objs.size := by
        have e' : b = e ∨ b = it := by simpa using hb
        rcases e' with z | z
        · rw [z]; exact hel
        · rw [z]; exact hil
      rw [upd_ne (Nat.ne_of_lt hb')]
      exact (hf b hb).1
  done := by
    intro X hP hw hK hc i pins s σ H E I hf st hg
    subst hP hw hK
    obtain ⟨⟨old, he⟩, hit, hne, hea, hia⟩ := st
    obtain ⟨xs, hq, hx⟩ := hg
    obtain ⟨its, rv, p, hz⟩ := I.tuple hq
    obtain ⟨f0, f1, f2, f3, f4, f5⟩ := hf it (by simp)
    have hl := rv.length
    have e1 : i = its.toArray.size := by rw [List.size_toArray]; omega
    subst e1
    exact wpAny_pyNext_enum_endD (Draws.tuple (by exact I.ok.hd hc) it a (Ne.symm hia) its.toArray) he ⟨hit, p⟩ fun h' eb => ⟨rfl, I.turned (t' := s.toks) (fun b o hb q => eb b o hb q) f0 f1 f3 f4 f5⟩
  self := fun A i s Q E st h => let ⟨⟨_, he⟩, _⟩ := st; wpAny_pyIter_enum he h
def iEnumT (K : PySem.W.Frag) (ta : TA) : TI := fun σ H R => ta σ H fun vs H1 => ∃ a xs, vs = [.ref a] ∧ SqT K H1 a xs ∧ R (IteT K a) H1
theorem pi_enumT {X : Cx} {e : Expr} {ta : TA} {p pos tpos : Pos} {elts : List Expr} {kk : Nat} (hg : Gl X "enumerate") (hm : X.mg "enumerate" = none) (ha : PA X [e] ta) (hs : starEach [e] X.env = [(false, eval e X.env)] := by rfl) :
    PI X (.Tuple elts kk tpos) (.Call (.Name "enumerate" p) [e] [] pos) (iEnumT X.K ta) := by
  refine ⟨fun pins s σ H R I h => ?_⟩
  refine Call_ (ld_blt I hg hm boot_enumerate (PyProof.Rows.callWith_type1 (thn (ha.run pos pins s σ H _ I h) fun us s1 ⟨vs, H1, I1, r1, q1⟩ => ?_) hs rfl))
  obtain ⟨a, xs, ex, hq, q⟩ := q1
  subst ex
  cases r1 with
  | cons r rr =>
    cases rr
    cases r
    obtain ⟨its, rv, p', hz⟩ := I1.tuple hq
    obtain ⟨o2, ho2, _⟩ := id p'
    have la : a < s1.heap.objs.size := Heap.lt_size ho2
    refine enum_begins1 (begins_tuple a its.toArray) p' fun h' he hit hsz hk => wpAny_pyIter_enum he ?_
    have I2 : Inv X pins σ H1 { s1 with heap := h' } := I1.kept (t' := s1.toks) hk
    refine ⟨s1.heap.objs.size + 1, [s1.heap.objs.size + 1, s1.heap.objs.size], _, _, H1, rfl, I2, turn_enumT a (s1.heap.objs.size + 1) s1.heap.objs.size, ⟨⟨.none, he⟩, ⟨_, hit, rfl, rfl⟩, Nat.succ_ne_self _, Nat.ne_of_gt (Nat.lt_succ_of_lt la), Nat.ne_of_gt la⟩, fun b hb => ?_, q⟩
    have e' : b = s1.heap.objs.size + 1 ∨ b = s1.heap.objs.size := by simpa using hb
    have hle : s1.heap.objs.size ≤ b := by
      rcases e' with z | z
      · rw [z]; exact Nat.le_add_right _ _
      · rw [z]; exact Nat.le_refl _
    exact I1.fpOk hle (I1.hok.fresh hle)
theorem walk_enumT {K : PySem.W.Frag} {a : Addr} {xs : List V} : Walk (IteT K a) xs.length (fun H => SqT K H a xs) (YPair (fun i => some (.int (i : Nat))) (fun i => xs[i]?)) := by
  refine ⟨fun i _ hi q => ⟨xs, xs[i], q, by simp [hi]⟩, fun _ q => ⟨xs, q, rfl⟩, fun i H v H' _ q y => ?_⟩
  obtain ⟨T, x, h1, h2, h3, h4⟩ := y
  exact ⟨T, .int (i : Nat), x, h1, h2, h3, rfl, h4 xs q⟩
/-! ## two readings of one text -/
def iOr (a b : TI) : TI := fun σ H R => a σ H R ∨ b σ H R
theorem pi_or {X : Cx} {tg it : Expr} {a b : TI} (h1 : PI X tg it a) (h2 : PI X tg it b) : PI X tg it (iOr a b) :=
  ⟨fun pins s σ H R I h => h.elim (fun h => h1.run pins s σ H R I h) (fun h => h2.run pins s σ H R I h)⟩
end
def SeqH (H : Hp) (a : Addr) (xs : List V) : Prop := H a = some (.lst xs) ∨ H a = some (.tup xs)
theorem SeqH.same {H H' : Hp} {a : Addr} {xs : List V} (s : Same H H') : SeqH H a xs → SeqH H' a xs := Or.imp (s _ _) (s _ _)
section
variable {K : PySem.W.Frag} {σ : L2.St} {H : Hp} {a : Addr} {xs : List V} {R : It → Hp → Prop} {i : Nat}
theorem ior_enum (hσ : σ[i]? = some (some (.ref a))) (h : SeqH H a xs) (k : ∀ (J : It) (G : Hp → Prop), Walk J xs.length G (YPair (fun i => some (.int (i : Nat))) (fun i => xs[i]?)) → (∀ H', Same H H' → G H') → R J H) : iOr (iEnum K (tCons (tVar i) tNil)) (iEnumT K (tCons (tVar i) tNil)) σ H R := by
  rcases h with h | h
  · exact .inl ⟨_, hσ, a, xs, rfl, SqL.of h, k _ _ walk_enum fun H' s => SqL.of (s _ _ h)⟩
  · exact .inr ⟨_, hσ, a, xs, rfl, SqT.of h, k _ _ walk_enumT fun H' s => SqT.of (s _ _ h)⟩
theorem ior_seq (hσ : σ[i]? = some (some (.ref a))) (h : SeqH H a xs) (k : ∀ (J : It) (G : Hp → Prop), Walk J xs.length G (YAt xs) → (∀ H', Same H H' → G H') → R J H) : iOr (iList K (tVar i)) (iTup K (tVar i)) σ H R := by
  rcases h with h | h
  · exact .inl ⟨_, hσ, a, rfl, ⟨xs, SqL.of h⟩, k _ _ walk_list fun H' s => SqL.of (s _ _ h)⟩
  · exact .inr ⟨_, hσ, a, rfl, ⟨xs, SqT.of h⟩, k _ _ walk_tup fun H' s => SqT.of (s _ _ h)⟩
end
/-- no list and no tuple -/
inductive NsV (H : Hp) : V → Prop where
  | non : NsV H .non
  | bl (b : Bool) : NsV H (.bl b)
  | int (i : Int) : NsV H (.int i)
  | str (z : Str) : NsV H (.str z)
  | dic {a : Addr} {kvs : List (Key × V)} (e : H a = some (.dK kvs)) : NsV H (.ref a)
theorem NsV.ty {K : PySem.W.Frag} {H : Hp} {v : V} (h : NsV H v) : ∃ t, TyX K H v t ∧ PySem.W.kitOne K t (.type "list") = some false ∧ PySem.W.kitOne K t (.type "tuple") = some false := by
  cases h with
  | non => exact ⟨_, .base .non, kit_ty (by decide +kernel), kit_ty (by decide +kernel)⟩
  | bl b => exact ⟨_, .base (.bl b), kit_ty (by decide +kernel), kit_ty (by decide +kernel)⟩
  | int i => exact ⟨_, .base (.int i), kit_ty (by decide +kernel), kit_ty (by decide +kernel)⟩
  | str z => exact ⟨_, .base (.str z), kit_ty (by decide +kernel), kit_ty (by decide +kernel)⟩
  | dic e => exact ⟨_, .base (.dK e), kit_ty (by decide +kernel), kit_ty (by decide +kernel)⟩
theorem NsV.same {H H' : Hp} {v : V} (s : Same H H') (h : NsV H v) : NsV H' v := by
  cases h with
  | non => exact .non
  | bl b => exact .bl b
  | int i => exact .int i
  | str z => exact .str z
  | dic e => exact .dic (s _ _ e)
def atE (CI : Addr) (v : V) (H : Hp) (E : XK) : Prop := ∀ H' d, Same H H' → H' d = some (.xd [("at", v)]) → H d = none → E (.ref CI) (some d) H'
theorem atE.same {CI : Addr} {v : V} {H H1 : Hp} {E : XK} (s : Same H H1) (k : atE CI v H E) : atE CI v H1 E := fun H' d s' e n => k H' d (s.trans s') e (s.free n)
def CalX (P : Program) (w : World) (K : PySem.W.Frag) (mg : Str → Option Value) (base : Heap) (k : Nat) (x : Str) (ps : List Str) (sp : Sp) : Prop :=
  ∃ (f : Addr) (fd : FuncData), mg x = some (.ref f) ∧ PySem.W.keepIn K (.ref f) = true ∧ Binds K fd ps [] ∧ FnOk P w K mg base (L2.CX P w) k f fd ps sp
section
variable {P : Program} {w : World} {K : PySem.W.Frag} {mg : Str → Option Value} {base : Heap}
structure PlnX (K : PySem.W.Frag) (mg : Str → Option Value) (x : Str) (C : Addr) : Prop where
  g : mg x = some (.ref C)
  x : PySem.W.excIn K C He.veBase "ValueError.__new__" = true
  o : OexC K C
/-- an own __init__ of one parameter -/
def spI1 (C : Addr) (a : Str) : Sp := fun vs H Q _ => ∃ (e : Addr) (l : V), vs = [.ref e, l] ∧ H e = some (exo e C none) ∧ ∀ dx, H dx = none → Q .non (upd (upd H dx (exd dx [(a, l)])) e (exo e C (some dx)))
theorem raise_i1 {C : Addr} {a : Str} {H : Hp} {l : V} {Q : XK} (k : ∀ H' d, Same H H' → H' d = some (.xd [(a, l)]) → H d = none → Q (.ref C) (some d) H') :
    ([l] : List V).length ≤ 1000 ∧ ∀ e, H e = none → spI1 C a (.ref e :: ([l] ++ [])) (upd H e (exo e C none)) (fun v H2 => v = .non ∧ ∃ (d : Addr) (fs : List (Str × V)), H2 e = some (exo e C (some d)) ∧ H2 d = some (exd d fs) ∧ H d = none ∧ Q (.ref C) (some d) (upd (del H2 e) d (.xd fs))) (fun _ _ _ => False) := by
  refine ⟨by show 1 ≤ 1000; decide, fun e he => ⟨e, l, rfl, upd_same, fun dx hd => ?_⟩⟩
  have hne : dx ≠ e := fun z => by rw [z, upd_same] at hd; cases hd
  have hd0 : H dx = none := by rw [upd_ne hne] at hd; exact hd
  refine ⟨rfl, dx, _, upd_same, by rw [upd_ne hne, upd_same], hd0, k _ _ (fun b o q => ?_) upd_same hd0⟩
  have n1 : b ≠ dx := ne_of_none q hd0
  have n2 : b ≠ e := ne_of_none q he
  rw [upd_ne n1, del_ne n2, upd_ne n2, upd_ne n1, upd_ne n2]
  exact q
structure Ix1 (P : Program) (w : World) (K : PySem.W.Frag) (mg : Str → Option Value) (base : Heap) (x : Str) (C : Addr) (a : Str) : Prop where
  g : mg x = some (.ref C)
  o : OexC K C
  i : ∃ (f : Addr) (fd : FuncData), PySem.W.findIn K (.ref C) "__init__" = some (some (.ref f)) ∧ PySem.W.typeIn K (.ref f) = some (.type "function") ∧ FnOk P w K mg base CX0 1 f fd ["self", a] (spI1 C a) ∧ Binds K fd ["self", a] []
theorem sc_BadUnits : ScopeS ["self", "at"] (defScope s_BadUnits___init__) := ⟨rfl, rfl, rfl, by decide +kernel, by decide +kernel, by decide +kernel, rfl, rfl⟩
theorem ok_BadUnits {f cc cda C : Addr} {fd : FuncData} (F : SupF P K mg C f cc cda "BadUnits.__init__" (defArgs s_BadUnits___init__) (defBody s_BadUnits___init__) (defScope s_BadUnits___init__) fd) (T : OexC K C) (n1 : PySem.W.findIn K (.ref C) "at" = some none) :
    FnOk P w K mg base CX0 1 f fd ["self", "at"] (spI1 C "at") := by
  refine fn_super F T sc_BadUnits ⟨fun _ _ _ _ => rfl, fun _ _ _ _ => rfl, ⟨_, fun _ _ _ _ => rfl⟩⟩ rfl rfl (fun vs H Q E h => ?_) (fun vs H Q E h => ?_) (fun A outer s H vs Q E h => ?_)
  · obtain ⟨e, l, rfl, _⟩ := h
    rfl
  · obtain ⟨e, l, rfl, he, _⟩ := h
    exact ⟨e, _, rfl, he⟩
  · obtain ⟨e, l, rfl, he, k⟩ := h
    refine ⟨_, PSs.nox (pss_one (ps_ost (pv 0) (pv 1))), ?_⟩
    exact ⟨_, rfl, _, rfl, e, C, rfl, T, n1, .inl ⟨he, fun dx hd _ => k dx hd⟩⟩
theorem sc_NoUnit : ScopeS ["self", "name"] (defScope s_NoUnit___init__) := ⟨rfl, rfl, rfl, by decide +kernel, by decide +kernel, by decide +kernel, rfl, rfl⟩
theorem ok_NoUnit {f cc cda C : Addr} {fd : FuncData} (F : SupF P K mg C f cc cda "NoUnit.__init__" (defArgs s_NoUnit___init__) (defBody s_NoUnit___init__) (defScope s_NoUnit___init__) fd) (T : OexC K C) (n1 : PySem.W.findIn K (.ref C) "name" = some none) :
    FnOk P w K mg base CX0 1 f fd ["self", "name"] (spI1 C "name") := by
  refine fn_super F T sc_NoUnit ⟨fun _ _ _ _ => rfl, fun _ _ _ _ => rfl, ⟨_, fun _ _ _ _ => rfl⟩⟩ rfl rfl (fun vs H Q E h => ?_) (fun vs H Q E h => ?_) (fun A outer s H vs Q E h => ?_)
  · obtain ⟨e, l, rfl, _⟩ := h
    rfl
  · obtain ⟨e, l, rfl, he, _⟩ := h
    exact ⟨e, _, rfl, he⟩
  · obtain ⟨e, l, rfl, he, k⟩ := h
    refine ⟨_, PSs.nox (pss_one (ps_ost (pv 0) (pv 1))), ?_⟩
    exact ⟨_, rfl, _, rfl, e, C, rfl, T, n1, .inl ⟨he, fun dx hd _ => k dx hd⟩⟩
theorem sc_UsesRing : ScopeS ["self", "ring"] (defScope s_UsesRing___init__) := ⟨rfl, rfl, rfl, by decide +kernel, by decide +kernel, by decide +kernel, rfl, rfl⟩
theorem ok_UsesRing {f cc cda C : Addr} {fd : FuncData} (F : SupF P K mg C f cc cda "UsesRing.__init__" (defArgs s_UsesRing___init__) (defBody s_UsesRing___init__) (defScope s_UsesRing___init__) fd) (T : OexC K C) (n1 : PySem.W.findIn K (.ref C) "ring" = some none) :
    FnOk P w K mg base CX0 1 f fd ["self", "ring"] (spI1 C "ring") := by
  refine fn_super F T sc_UsesRing ⟨fun _ _ _ _ => rfl, fun _ _ _ _ => rfl, ⟨_, fun _ _ _ _ => rfl⟩⟩ rfl rfl (fun vs H Q E h => ?_) (fun vs H Q E h => ?_) (fun A outer s H vs Q E h => ?_)
  · obtain ⟨e, l, rfl, _⟩ := h
    rfl
  · obtain ⟨e, l, rfl, he, _⟩ := h
    exact ⟨e, _, rfl, he⟩
  · obtain ⟨e, l, rfl, he, k⟩ := h
    refine ⟨_, PSs.nox (pss_one (ps_ost (pv 0) (pv 1))), ?_⟩
    exact ⟨_, rfl, _, rfl, e, C, rfl, T, n1, .inl ⟨he, fun dx hd _ => k dx hd⟩⟩
end
/-! ## xs[::-1] -/
section
open PySem.Spec PyProof.Rows PySem.W
def tRev (K : PySem.W.Frag) (te : TE) (tk : TO) : TE := fun σ H Q => te σ H fun x H1 => tk σ H1 fun o H2 => ∃ a xs, o = some (-1) ∧ x = .ref a ∧ SqL K H2 a xs ∧ ∀ p, H2 p = none → Q (.ref p) (upd H2 p (.lst xs.reverse))
theorem pe_rev {X : Cx} {e ek : Expr} {te : TE} {tk : TO} {pos p2 : Pos} (he : PE X e te) (hk : PO X (some ek) tk) : PE X (.Subscript e (.Slice none none (some ek) p2) pos) (tRev X.K te tk) := by
  refine ⟨fun pins s σ H Q I h => ?_⟩
  refine Subscript_ (thn (he.run pins s σ H _ I h) fun v s1 ⟨x, H1, I1, r1, q1⟩ => ?_)
  have part := hk.run pins s1 σ H1 _ I1 q1
  refine wpAny_Slice ?_
  rw [evalPart_none]
  refine wpAny_pure (wpAny_pure ?_)
  refine thn part fun vk s2 ⟨o, H2, I2, pk, q2⟩ => ?_
  obtain ⟨a, xs, rfl, rfl, hx, q⟩ := q2
  cases r1
  obtain ⟨its, r, ht, hz⟩ := I2.list hx
  have I3 : Inv X pins σ H2 { s2 with heap := s2.heap.push { cls := .type "slice", data := .fields #[.none, .none, vk] } } := I2.kept (t' := s2.toks) fun b ob q => Heap.get?_push_of_some _ q
  obtain ⟨its2, r2, ht2, hz2⟩ := I3.list hx
  show wpAny (model X.prog X.w) X.A (subscriptTail e (.Slice none none (some ek) p2) (.ref a) (.ref s2.heap.objs.size)) (EP X pins σ Q) X.xe { s2 with heap := s2.heap.push { cls := .type "slice", data := .fields #[.none, .none, vk] } }
  refine tail_any (ops := [.ref a, .ref s2.heap.objs.size]) ht2.isList.typeIs slot_list_getitem.lookup ?_ (by with_unfolding_all rfl)
  refine wpAny_getItem_list_slice ht2.isList (Heap.IsSliceOf.new ..) .none .none pk (by decide) ?_ (by rw [List.size_toArray, ← r2.length]; exact hz2)
  rw [krv_pick]
  refine ⟨.ref _, _, I3.laid (t' := s2.toks) (o := .lst xs.reverse) (fun b ob q => Heap.get?_push_of_some _ q) (Nat.le_refl _) ?_, rfl, q _ (I3.hok.fresh (Nat.le_refl _))⟩
  exact ⟨by rw [List.length_reverse]; exact hz2, _, 0, r2.reverse, Heap.get?_push_size _ rfl⟩
end
/-! ## the names by their rank; min of names -/
def nmL : List Str := ["ab", "abc", "b", "bay", "c", "notthere", "y", "zz"]
def nm (i : Nat) : Str := nmL.getD i ""
abbrev nmV (i : Nat) : V := V.str (nm i)
theorem nm_lt : ∀ i < 8, ∀ j < 8, decide ((nm i).cps.toList < (nm j).cps.toList) = decide (i < j) := by decide +kernel
theorem nm_eq : ∀ i < 8, ∀ j < 8, decide (nm i = nm j) = decide (i = j) := by decide +kernel
theorem nm_inj {i j : Nat} (hi : i < 8) (hj : j < 8) (h : nm i = nm j) : i = j := by
  have := nm_eq i hi j hj
  rw [decide_eq_true h] at this
  exact of_decide_eq_true this.symm
namespace MnT
open PySem PyProof.Rows
theorem cmp_nm {prog : Program} {w : World} {A : Around} {P : Nat → Value → Prop} (ks : Nat → Nat) (hk : ∀ i v, P i v → ks i < 8 ∧ ∃ t, v = .str (nm (ks i)) t) : CmpOf prog w A .Lt P (fun i j => decide ((ks i : Int) < (ks j : Int))) := fun i j vi vj s Q E hi hj h => by
  obtain ⟨l1, t, rfl⟩ := hk i vi hi
  obtain ⟨l2, u, rfl⟩ := hk j vj hj
  refine richCompare_gives (op := .Lt) (typeIs_str s _ t) (typeIs_str s _ u) PySem.F.slot_str_lt PySem.F.entry_str_lt (PySem.F.args_str_lt_2 _ _) (gives_str_lt _ _ t u) (fun x => nomatch x) ?_
  rw [nm_lt _ l1 _ l2]
  have e : decide ((ks i : Int) < (ks j : Int)) = decide (ks i < ks j) := decide_eq_decide.mpr (by omega)
  rw [← e]
  exact h
section
variable {prog : Program} {w : World} {A : Around} {E : Value → Shared → Prop} {s : Shared} {l : Addr} {its : List Value} {ks : List Nat} {Q : Value → Shared → Prop}
theorem val_at (r : Vals (ks.map nmV) its) (h8 : ∀ k ∈ ks, k < 8) (i : Nat) (v : Value) (h : its.toArray[i]? = some v) : ks.getD i 0 < 8 ∧ ∃ t, v = .str (nm (ks.getD i 0)) t := by
  have hi : i < its.length := by
    have := (Array.getElem?_eq_some_iff.mp h).1
    simpa using this
  have hl := r.length
  rw [List.length_map] at hl
  have e : ks[i]? = some ks[i] := List.getElem?_eq_getElem (by omega)
  obtain ⟨u, eu, ru⟩ := r.get (show (ks.map nmV)[i]? = some (nmV ks[i]) by rw [List.getElem?_map, e]; rfl)
  have : u = v := by
    have h2 : its[i]? = some v := by simpa using h
    rw [h2] at eu
    exact (Option.some.inj eu).symm
  subst this
  obtain ⟨t, rfl⟩ := ru
  rw [List.getD_eq_getElem?_getD, e]
  exact ⟨h8 _ (List.getElem_mem _), t, rfl⟩
theorem best_in (hne : ks ≠ []) : ks.getD (argBest (fun i j => decide (((ks.getD i 0 : Nat) : Int) < ((ks.getD j 0 : Nat) : Int))) (ks.length - 1)) 0 ∈ ks ∧ ∀ k ∈ ks, ks.getD (argBest (fun i j => decide (((ks.getD i 0 : Nat) : Int) < ((ks.getD j 0 : Nat) : Int))) (ks.length - 1)) 0 ≤ k := by
  have pos := List.length_pos_iff.mpr hne
  obtain ⟨h1, h2⟩ := argBest_lt (fun i => ((ks.getD i 0 : Nat) : Int)) (ks.length - 1)
  generalize argBest (fun i j => decide (((ks.getD i 0 : Nat) : Int) < ((ks.getD j 0 : Nat) : Int))) (ks.length - 1) = b at h1 h2 ⊢
  refine ⟨by rw [List.getD_eq_getElem?_getD, List.getElem?_eq_getElem (show b < ks.length by omega)]; exact List.getElem_mem _, fun k hk => ?_⟩
  obtain ⟨j, hj, e⟩ := List.mem_iff_getElem.mp hk
  have := h2 j (by omega)
  have e2 : ks.getD j 0 = k := by rw [List.getD_eq_getElem?_getD, List.getElem?_eq_getElem hj, e]; rfl
  rw [e2] at this
  omega
theorem min_list (hh : A.handled = none) (hl : s.heap.IsList l its.toArray) (r : Vals (ks.map nmV) its) (h8 : ∀ k ∈ ks, k < 8) (hne : ks ≠ []) (h : ∀ m t h' tk, m ∈ ks → (∀ k ∈ ks, m ≤ k) → (∀ b o, s.heap.get? b = some o → h'.get? b = some o) → Q (.str (nm m) t) { s with heap := h', toks := tk }) : wpAny (model prog w) A (call (.builtin "min") [.ref l]) Q E s := by
  have hlt : l < s.heap.objs.size := by obtain ⟨_, e, _⟩ := hl; exact Heap.lt_size e
  have ln := r.length
  rw [List.length_map] at ln
  refine call_min_walk (wpAny_pyIter_list hl ?_)
  refine ⟨_, _, _, _, _, _, _, rfl, Walks.list (A := A.in1) hh _ l (Nat.ne_of_lt hlt) its.toArray, ⟨⟨_, Heap.get?_push_size _ rfl, rfl, rfl⟩, hl.push _⟩, fun b hb => ?_, by rw [List.size_toArray, ← ln]; exact List.length_pos_iff.mpr hne, cmp_nm (fun i => ks.getD i 0) (val_at r h8), fun v h' tk hP hk => ?_⟩
  · show b < (s.heap.push _).objs.size
    rw [Heap.size_push]
    simp only [List.mem_cons, List.not_mem_nil, or_false] at hb
    rcases hb with rfl | rfl
    · exact Nat.lt_succ_self _
    · exact Nat.lt_succ_of_lt hlt
  · obtain ⟨_, t, rfl⟩ := val_at r h8 _ v hP
    rw [List.size_toArray, ← ln]
    obtain ⟨b1, b2⟩ := best_in hne
    exact h _ t h' tk b1 b2 (old_kept hk)
theorem min_tup (hh : A.handled = none) (hl : s.heap.IsTuple l its.toArray) (r : Vals (ks.map nmV) its) (h8 : ∀ k ∈ ks, k < 8) (hne : ks ≠ []) (h : ∀ m t h' tk, m ∈ ks → (∀ k ∈ ks, m ≤ k) → (∀ b o, s.heap.get? b = some o → h'.get? b = some o) → Q (.str (nm m) t) { s with heap := h', toks := tk }) : wpAny (model prog w) A (call (.builtin "min") [.ref l]) Q E s := by
  obtain ⟨ol, hol, hc, n, hd⟩ := id hl
  have hlt : l < s.heap.objs.size := Heap.lt_size hol
  have ln := r.length
  rw [List.length_map] at ln
  refine call_min_walk (wpAny_pyIter_tuple hl ?_)
  refine ⟨_, _, _, _, _, _, _, rfl, Walks.tuple (A := A.in1) hh _ l (Nat.ne_of_lt hlt) its.toArray, ⟨⟨_, Heap.get?_push_size _ rfl, rfl, rfl⟩, ⟨ol, Heap.get?_push_of_some _ hol, hc, n, hd⟩⟩, fun b hb => ?_, by rw [List.size_toArray, ← ln]; exact List.length_pos_iff.mpr hne, cmp_nm (fun i => ks.getD i 0) (val_at r h8), fun v h' tk hP hk => ?_⟩
  · show b < (s.heap.push _).objs.size
    rw [Heap.size_push]
    simp only [List.mem_cons, List.not_mem_nil, or_false] at hb
    rcases hb with rfl | rfl
    · exact Nat.lt_succ_self _
    · exact Nat.lt_succ_of_lt hlt
  · obtain ⟨_, t, rfl⟩ := val_at r h8 _ v hP
    rw [List.size_toArray, ← ln]
    obtain ⟨b1, b2⟩ := best_in hne
    refine h _ t h' tk b1 b2 fun b o e => hk b o (fun hm => ?_) (Heap.get?_push_of_some _ e)
    rw [List.mem_singleton] at hm
    exact absurd (hm ▸ Heap.lt_size e) (Nat.lt_irrefl _)
end
end MnT
section
variable {X : Cx}
def rMinN (K : PySem.W.Frag) : List V → Hp → VK → Prop := fun vs H Q => ∃ (a : Addr) (ks : List Nat), vs = [V.ref a] ∧ (SqL K H a (ks.map nmV) ∨ SqT K H a (ks.map nmV)) ∧ ks ≠ [] ∧ (∀ k ∈ ks, k < 8) ∧ ∀ m, m ∈ ks → (∀ k ∈ ks, m ≤ k) → Q (nmV m) H
theorem cr_minN (hc : X.calm = true) : CallR X (.builtin "min") (rMinN X.K) := by
  intro pins s σ H vs us Q I r h
  obtain ⟨a, ks, rfl, hs, hne, h8, q⟩ := h
  rw [Vals.ref1 r]
  rcases hs with hs | hs
  · obtain ⟨its, rv, hl, _⟩ := I.list hs
    exact MnT.min_list (I.ok.hd hc) hl.isList rv h8 hne fun m t h' tk h1 h2 hk => ⟨nmV m, H, I.kept hk, ⟨t, rfl⟩, q m h1 h2⟩
  · obtain ⟨its, rv, hl, _⟩ := I.tuple hs
    exact MnT.min_tup (I.ok.hd hc) hl rv h8 hne fun m t h' tk h1 h2 hk => ⟨nmV m, H, I.kept hk, ⟨t, rfl⟩, q m h1 h2⟩
end
/-! ## texts as lists of codes -/
def sT (t : List Nat) : Str := ⟨t.toArray⟩
theorem sT_len (t : List Nat) : (sT t).length = t.length := by show t.toArray.size = t.length; simp
theorem sT_cps (t : List Nat) : (sT t).cps.toList = t := by show t.toArray.toList = t; simp
theorem sT_of (z : Str) : sT z.cps.toList = z := by cases z; simp [sT]
theorem sT_inj {a b : List Nat} (h : sT a = sT b) : a = b := by rw [← sT_cps a, ← sT_cps b, h]
def chV (c : Nat) : V := .str ⟨#[c]⟩
theorem chV_sT (c : Nat) : chV c = .str (sT [c]) := rfl
theorem cut_nat (t : List Nat) (a b : Nat) : cutS (sT t) (some (a : Int)) (some (b : Int)) = sT ((t.drop a).take (b - a)) := by
  unfold cutS
  rw [sT_len, sT_cps, HT.sIx_nat, HT.sIx_nat]
  unfold sT
  congr 2
  apply List.ext_getElem?
  intro i
  simp only [List.getElem?_take, List.getElem?_drop]
  by_cases h : a ≤ t.length
  · rw [Nat.min_eq_left h]
    by_cases h2 : b ≤ t.length
    · rw [Nat.min_eq_left h2]
    · rw [Nat.min_eq_right (by omega)]
      by_cases h3 : i < t.length - a
      · rw [if_pos h3, if_pos (by omega)]
      · rw [if_neg h3]
        by_cases h4 : i < b - a
        · rw [if_pos h4, List.getElem?_eq_none (by omega)]
        · rw [if_neg h4]
  · rw [Nat.min_eq_right (show t.length ≤ a by omega), if_neg (by omega)]
    by_cases h4 : i < b - a
    · rw [if_pos h4, List.getElem?_eq_none (by omega)]
    · rw [if_neg h4]
theorem cut_from (t : List Nat) (a : Nat) : cutS (sT t) (some (a : Int)) none = sT (t.drop a) := by
  unfold cutS
  rw [sT_len, sT_cps, HT.sIx_nat, HT.sIx_none]
  unfold sT
  congr 2
  apply List.ext_getElem?
  intro i
  simp only [List.getElem?_take, List.getElem?_drop]
  by_cases h : a ≤ t.length
  · rw [Nat.min_eq_left h]
    by_cases h3 : i < t.length - a
    · rw [if_pos h3]
    · rw [if_neg h3, List.getElem?_eq_none (by omega)]
  · rw [Nat.min_eq_right (by omega), if_neg (by omega), List.getElem?_eq_none (by omega)]
theorem cut_to (t : List Nat) (b : Nat) : cutS (sT t) none (some (b : Int)) = sT (t.take b) := by
  have h := cut_nat t 0 b
  rw [List.drop_zero, Nat.sub_zero] at h
  rw [← h]
  unfold cutS
  rw [HT.sIx_none]
  rfl
def isSmall (c : Nat) : Bool := decide (97 ≤ c) && decide (c ≤ 122)
def isBig (c : Nat) : Bool := decide (65 ≤ c) && decide (c ≤ 90)
def isFig (c : Nat) : Bool := decide (48 ≤ c) && decide (c ≤ 57)
def isInner (c : Nat) : Bool := isSmall c || isBig c || isFig c || decide (c = 95)
def isGood (c : Nat) : Bool := decide (c = 10) || (decide (32 ≤ c) && decide (c ≤ 126) && !decide (c = 37))
theorem cps_small : ("abcdefghijklmnopqrstuvwxyz" : Str).cps.toList = [97, 98, 99, 100, 101, 102, 103, 104, 105, 106, 107, 108, 109, 110, 111, 112, 113, 114, 115, 116, 117, 118, 119, 120, 121, 122] := by decide +kernel
theorem cps_fig : ("0123456789" : Str).cps.toList = [48, 49, 50, 51, 52, 53, 54, 55, 56, 57] := by decide +kernel
theorem cps_inner : ("abcdefghijklmnopqrstuvwxyzABCDEFGHIJKLMNOPQRSTUVWXYZ0123456789_" : Str).cps.toList = [97, 98, 99, 100, 101, 102, 103, 104, 105, 106, 107, 108, 109, 110, 111, 112, 113, 114, 115, 116, 117, 118, 119, 120, 121, 122, 65, 66, 67, 68, 69, 70, 71, 72, 73, 74, 75, 76, 77, 78, 79, 80, 81, 82, 83, 84, 85, 86, 87, 88, 89, 90, 48, 49, 50, 51, 52, 53, 54, 55, 56, 57, 95] := by decide +kernel
theorem cps_blank : (" \n" : Str).cps.toList = [32, 10] := by decide +kernel
theorem mem_small (c : Nat) : decide (c ∈ ("abcdefghijklmnopqrstuvwxyz" : Str).cps.toList) = isSmall c := by
  rw [cps_small]
  unfold isSmall
  rw [← Bool.decide_and]
  apply decide_eq_decide.mpr
  simp only [List.mem_cons, List.not_mem_nil, or_false]
  omega
theorem mem_fig (c : Nat) : decide (c ∈ ("0123456789" : Str).cps.toList) = isFig c := by
  rw [cps_fig]
  unfold isFig
  rw [← Bool.decide_and]
  apply decide_eq_decide.mpr
  simp only [List.mem_cons, List.not_mem_nil, or_false]
  omega
theorem mem_inner (c : Nat) : decide (c ∈ ("abcdefghijklmnopqrstuvwxyzABCDEFGHIJKLMNOPQRSTUVWXYZ0123456789_" : Str).cps.toList) = isInner c := by
  rw [cps_inner]
  unfold isInner isSmall isBig isFig
  rw [← Bool.decide_and, ← Bool.decide_and, ← Bool.decide_and, ← Bool.decide_or, ← Bool.decide_or, ← Bool.decide_or]
  apply decide_eq_decide.mpr
  simp only [List.mem_cons, List.not_mem_nil, or_false]
  omega
theorem mem_blank (c : Nat) : decide (c ∈ (" \n" : Str).cps.toList) = (decide (c = 32) || decide (c = 10)) := by
  rw [cps_blank, ← Bool.decide_or]
  apply decide_eq_decide.mpr
  simp only [List.mem_cons, List.not_mem_nil, or_false]
/-- c between two signs, as the law says it -/
theorem le_sign (a c : Nat) : (!decide ([c] < [a])) = decide (a ≤ c) := by
  rw [← decide_not]
  apply decide_eq_decide.mpr
  rw [List.cons_lt_cons_iff]
  simp
/-! the longest word that begins a rest -/
def isLong : List Nat → Bool
  | [] => false
  | c :: r => isInner c || (decide (c = 45) && (match r with | [] => false | d :: _ => isFig d))
theorem isLong_cons (c : Nat) (r : List Nat) : isLong (c :: r) = (isInner c || (decide (c = 45) && (match r with | [] => false | d :: _ => isFig d))) := rfl
def wl (t : List Nat) : Nat := if isLong t = true then 1 + ((t.drop 1).takeWhile isInner).length else if t.take 2 = [60, 61] ∨ t.take 2 = [61, 61] then 2 else 1
theorem take_prefix_tw (p : Nat → Bool) : ∀ t : List Nat, (t.takeWhile p).length ≤ t.length
  | [] => Nat.le_refl _
  | c :: r => by
    unfold List.takeWhile
    split
    · exact Nat.succ_le_succ (take_prefix_tw p r)
    · exact Nat.zero_le _
theorem wl_pos (t : List Nat) : 1 ≤ wl t := by unfold wl; split <;> try split <;> omega
                                               all_goals omega
theorem wl_le {t : List Nat} (h : t ≠ []) : wl t ≤ t.length := by
  obtain ⟨c, r, rfl⟩ := List.exists_cons_of_ne_nil h
  unfold wl
  split
  · have := take_prefix_tw isInner r
    simp only [List.drop_one, List.tail_cons, List.length_cons]
    omega
  · split
    · rename_i q
      have : ((c :: r).take 2).length = 2 := by rcases q with q | q <;> rw [q] <;> rfl
      rw [List.length_take] at this
      omega
    · simp
theorem tw_take (p : Nat → Bool) : ∀ t : List Nat, (t.take (t.takeWhile p).length).takeWhile p = t.takeWhile p
  | [] => rfl
  | c :: r => by
    by_cases h : p c = true
    · have e : (c :: r).takeWhile p = c :: r.takeWhile p := by simp [List.takeWhile, h]
      rw [e, List.length_cons, List.take_succ_cons]
      simp only [List.takeWhile, h]
      rw [tw_take p r]
    · have e : (c :: r).takeWhile p = [] := by simp [List.takeWhile, h]
      rw [e]
      rfl
theorem wl_take {t : List Nat} (h : t ≠ []) : wl (t.take (wl t)) = wl t := by
  obtain ⟨c, r, rfl⟩ := List.exists_cons_of_ne_nil h
  by_cases hl : isLong (c :: r) = true
  · have e : wl (c :: r) = 1 + (r.takeWhile isInner).length := by unfold wl; rw [if_pos hl]; rfl
    rw [e, Nat.add_comm, List.take_succ_cons]
    have hl2 : isLong (c :: r.take (r.takeWhile isInner).length) = true := by
      rw [isLong_cons] at hl ⊢
      cases hi : isInner c with
      | true => rfl
      | false =>
        rw [hi, Bool.false_or] at hl
        rw [Bool.false_or]
        cases r with
        | nil => simpa using hl
        | cons d q =>
          simp only [Bool.and_eq_true] at hl
          have hd : isInner d = true := by unfold isInner; rw [hl.2]; simp
          simp only [List.takeWhile, hd, List.length_cons, List.take_succ_cons, Bool.and_eq_true]
          exact hl
    unfold wl
    rw [if_pos hl2]
    simp only [List.drop_one, List.tail_cons]
    rw [tw_take, Nat.add_comm]
  · have hlf : isLong (c :: r) = false := by simpa using hl
    by_cases q : (c :: r).take 2 = [60, 61] ∨ (c :: r).take 2 = [61, 61]
    · have e : wl (c :: r) = 2 := by unfold wl; rw [if_neg hl, if_pos q]
      rw [e]
      rcases q with q | q <;> rw [q] <;> rfl
    · have e : wl (c :: r) = 1 := by unfold wl; rw [if_neg hl, if_neg q]
      rw [e]
      have h1 : ([c] : List Nat).take 2 ≠ [60, 61] ∧ ([c] : List Nat).take 2 ≠ [61, 61] := ⟨by simp, by simp⟩
      show wl [c] = 1
      unfold wl
      split
      · rfl
      · rw [if_neg (by simp)]
/-- a text's words with their places -/
def cutF : Nat → List Nat → Nat → Nat → List (List Nat × Nat × Nat)
  | 0, _, _, _ => []
  | _ + 1, [], _, _ => []
  | n + 1, c :: r, l, k => if c = 10 then cutF n r (l + 1) 1 else if c = 32 then cutF n r l (k + 1) else ((c :: r).take (wl (c :: r)), l, k) :: cutF n ((c :: r).drop (wl (c :: r))) l (k + wl (c :: r))
abbrev cutT (t : List Nat) : List (List Nat × Nat × Nat) := cutF t.length t 1 1
theorem cutF_nil (n l k : Nat) : cutF n [] l k = [] := by cases n <;> rfl
theorem cutF_mem {n : Nat} : ∀ {t : List Nat} {l k : Nat} {x : List Nat × Nat × Nat}, x ∈ cutF n t l k → (∀ c ∈ x.1, c ∈ t) ∧ x.1 ≠ [] ∧ x.1.length ≤ t.length ∧ cutT x.1 = [(x.1, 1, 1)] := by
  induction n with
  | zero => intro t l k x h; cases h
  | succ n ih =>
    intro t l k x h
    cases t with
    | nil => cases h
    | cons c r =>
      unfold cutF at h
      split at h
      · obtain ⟨h1, h2, h3, h4⟩ := ih h
        exact ⟨fun d hd => List.mem_cons_of_mem _ (h1 d hd), h2, by simp only [List.length_cons]; omega, h4⟩
      · split at h
        · obtain ⟨h1, h2, h3, h4⟩ := ih h
          exact ⟨fun d hd => List.mem_cons_of_mem _ (h1 d hd), h2, by simp only [List.length_cons]; omega, h4⟩
        · rename_i n1 n2
          rcases List.mem_cons.mp h with h | h
          · subst h
            have p1 := wl_pos (c :: r)
            have p2 := wl_le (t := c :: r) (by simp)
            have ht := wl_take (t := c :: r) (by simp)
            have e : (c :: r).take (wl (c :: r)) = c :: r.take (wl (c :: r) - 1) := by
              obtain ⟨m, hm⟩ : ∃ m, wl (c :: r) = m + 1 := ⟨wl (c :: r) - 1, by omega⟩
              rw [hm, List.take_succ_cons]; rfl
            refine ⟨fun d hd => List.mem_of_mem_take hd, by simp only [e]; simp, by simp only [List.length_take]; omega, ?_⟩
            have hlen : ((c :: r).take (wl (c :: r))).length = wl (c :: r) := by rw [List.length_take]; omega
            show cutF ((c :: r).take (wl (c :: r))).length _ 1 1 = _
            obtain ⟨m, hm⟩ : ∃ m, ((c :: r).take (wl (c :: r))).length = m + 1 := ⟨wl (c :: r) - 1, by omega⟩
            rw [hm]
            generalize hw : (c :: r).take (wl (c :: r)) = w at *
            rw [e]
            unfold cutF
            rw [if_neg n1, if_neg n2, ← e, ht, List.take_of_length_le (by omega), List.drop_of_length_le (by omega), cutF_nil]
          · obtain ⟨h1, h2, h3, h4⟩ := ih h
            refine ⟨fun d hd => List.mem_of_mem_drop (h1 d hd), h2, ?_, h4⟩
            rw [List.length_drop] at h3
            omega
theorem cutF_len {n : Nat} : ∀ {t : List Nat} {l k : Nat}, (cutF n t l k).length ≤ t.length := by
  induction n with
  | zero => intro t l k; exact Nat.zero_le _
  | succ n ih =>
    intro t l k
    cases t with
    | nil => exact Nat.zero_le _
    | cons c r =>
      unfold cutF
      split
      · exact Nat.le_succ_of_le ih
      · split
        · exact Nat.le_succ_of_le ih
        · have h := ih (t := (c :: r).drop (wl (c :: r))) (l := l) (k := k + wl (c :: r))
          rw [List.length_drop] at h
          have := wl_pos (c :: r)
          have := wl_le (t := c :: r) (by simp)
          simp only [List.length_cons] at *
          omega
/-! sorts -/
def keptV : List V := [V.str "and", V.str "at", V.str "choice", V.str "else", V.str "fail", V.str "false", V.str "function", V.str "if", V.str "let", V.str "long", V.str "make", V.str "match", V.str "new", V.str "not", V.str "number", V.str "of", V.str "or", V.str "over", V.str "put", V.str "rest", V.str "return", V.str "row", V.str "set", V.str "show", V.str "true", V.str "truth", V.str "try", V.str "unit", V.str "uses", V.str "while"]
def signsV : List V := [V.str "(", V.str ")", V.str "{", V.str "}", V.str ",", V.str ":", V.str "=", V.str "|", V.str "+", V.str "-", V.str "*", V.str "<", V.str "<=", V.str "=="]
def keptB (t : List Nat) : Bool := inV (.str (sT t)) keptV
def signB (t : List Nat) : Bool := inV (.str (sT t)) signsV
def nameB (t : List Nat) : Bool := decide (1 ≤ t.length) && decide (t.length ≤ 8) && !keptB t && t.all isSmall
def figsOf (t : List Nat) : List Nat := if t.take 1 = [45] then t.drop 1 else t
def numB (t : List Nat) : Bool := !decide (figsOf t = []) && (figsOf t).all isFig && (decide (t = [48]) || !decide ((figsOf t).take 1 = [48]))
def goodB (t : List Nat) : Bool := t.all isGood
def sortF (t : List Nat) : Str := if keptB t = true ∨ signB t = true then sT t else if numB t = true then "figures" else if nameB t = true then "name" else "strange"
theorem name_num {t : List Nat} (h : nameB t = true) : numB t = false := by
  unfold nameB at h
  simp only [Bool.and_eq_true, decide_eq_true_eq, List.all_eq_true] at h
  obtain ⟨⟨⟨h1, _⟩, _⟩, h2⟩ := h
  cases t with
  | nil => simp at h1
  | cons c r =>
    have hc := h2 c (List.mem_cons_self ..)
    unfold isSmall at hc
    simp only [Bool.and_eq_true, decide_eq_true_eq] at hc
    unfold numB figsOf
    rw [if_neg (by simp; omega)]
    have : isFig c = false := by unfold isFig; simp; omega
    simp [this]
/-! ## the program's functions of words -/
/-- a comprehension over a text's signs that keeps those of p -/
theorem lc_chars {t : List Nat} {g : TG} {tt : TT} {te : TE} {vs : List Nat} {σ : L2.St} {H1 : Hp} {D : Addr} {Qd : Hp → Prop} (p : Nat → Bool) (hl : t.length ≤ 100000) (hD : H1 D = none)
    (hs : ∀ (c : Nat) (H' : Hp) (A : VK) (B : Hp → Prop), c ∈ t → Same H1 H' → (p c = true → A (chV c) H') → (p c = false → B H') → g (chV c) (wipe σ vs) H' fun σ2 H2 => wipe σ2 vs = wipe σ vs ∧ tt σ2 H2 fun b H3 => if b = true then te σ2 H3 A else B H3)
    (hd : Qd (upd H1 D (.lst ((t.filter p).map chV)))) :
    ∃ W : Nat → Nat → Hp → Prop, (∃ m, W 0 m (upd H1 D (.lst []))) ∧ ∀ i m H, W i m H →
      ((Its (sT t)).stop i H ∧ Qd H) ∨ ((Its (sT t)).go i H ∧ ∃ Nx : Hp → Prop, (∀ H', Nx H' → ∃ m', m' < m ∧ W (i + 1) m' H') ∧ ∀ x H', (Its (sT t)).yld i H x H' → g x (wipe σ vs) H' fun σ2 H2 => wipe σ2 vs = wipe σ vs ∧ tt σ2 H2 fun b H3 =>
        if b = true then te σ2 H3 fun y H4 => ∃ acc, H4 D = some (.lst acc) ∧ acc.length < sizeLine ∧ Nx (upd H4 D (.lst (acc ++ [y]))) else Nx H3) := by
  refine lc_it walk_str (fun i H => H = upd H1 D (.lst (((t.take i).filter p).map chV))) rfl (fun _ _ _ _ => trivial) ?_ ?_
  · rintro i x H H' hi rfl ⟨rfl, c, hc, rfl⟩
    have hc2 : t[i]? = some c := by
      rw [← sT_cps t, Array.getElem?_toList]; exact hc
    have e : t.take (i + 1) = t.take i ++ [c] := by
      have hlt := (List.getElem?_eq_some_iff.mp hc2).1
      rw [List.take_succ, hc2]; rfl
    refine hs c _ _ _ (List.mem_of_getElem? hc2) (same_new hD) (fun h => ⟨_, upd_same, ?_, ?_⟩) (fun h => ?_)
    · rw [List.length_map]
      refine Nat.lt_of_lt_of_le (Nat.lt_succ_of_le (Nat.le_trans (List.length_filter_le _ _) (Nat.le_trans (List.length_take_le' _ _) hl))) (by decide)
    · rw [upd_upd, e, List.filter_append, List.map_append]
      simp [h]
    · rw [e, List.filter_append]
      simp [h]
  · rintro H rfl
    have e : t.take (sT t).cps.size = t := by
      have : (sT t).cps.size = t.length := sT_len t
      rw [this, List.take_length]
    rw [e]
    exact hd
theorem dpAll_strs {K : PySem.W.Frag} {H : Hp} : ∀ l : List Nat, DpAll K H (l.map chV) (l.map fun c => PyData.str ⟨#[c]⟩)
  | [] => .nil
  | c :: l => .cons (.str ⟨#[c]⟩) (dpAll_strs l)
/-- texts of plain signs, of any length that is in reach -/
def tx (t : List Nat) : Prop := t.length ≤ 100000 ∧ ∀ c ∈ t, c < 128
theorem tx_sub {t u : List Nat} (h : tx t) (hl : u.length ≤ t.length) (hm : ∀ c ∈ u, c ∈ t) : tx u := ⟨Nat.le_trans hl h.1, fun c hc => h.2 c (hm c hc)⟩
theorem tx_take {t : List Nat} (h : tx t) (n : Nat) : tx (t.take n) := tx_sub h (List.length_take_le' _ _) fun c hc => List.mem_of_mem_take hc
theorem tx_drop {t : List Nat} (h : tx t) (n : Nat) : tx (t.drop n) := tx_sub h (by rw [List.length_drop]; omega) fun c hc => List.mem_of_mem_drop hc
theorem strOk_tx {t : List Nat} (h : ∀ c ∈ t, c < 128) : PyData.strOk (sT t) = true := by
  unfold PyData.strOk
  show (t.toArray).all _ = true
  rw [List.all_toArray, List.all_eq_true]
  intro c hc
  have := h c hc
  exact decide_eq_true (by omega)
theorem shaped_strs (l : List Nat) (h : ∀ c ∈ l, c < 128) : SeqAt.shaped (.list (l.map fun c => PyData.str ⟨#[c]⟩)) = true := by
  have h1 : PyData.canLayAll0 (l.map fun c => PyData.str ⟨#[c]⟩) = true := by
    induction l with
    | nil => rfl
    | cons c l ih =>
      show (PyData.strOk (sT [c]) && PyData.canLayAll0 (l.map fun c => PyData.str ⟨#[c]⟩)) = true
      rw [ih fun d hd => h d (List.mem_cons_of_mem _ hd), strOk_tx fun d hd => by rw [List.mem_singleton.mp hd]; exact h c (List.mem_cons_self ..)]
      rfl
  have h2 : PyData.depthAll (l.map fun c => PyData.str ⟨#[c]⟩) = 0 := by
    clear h h1
    induction l with
    | nil => rfl
    | cons c l ih => simp [PyData.depthAll, PyData.depth, ih]
  simp [SeqAt.shaped, PyData.canLay0, PyData.depth, h1, h2]
theorem eqv_nilS (l : List Nat) : PyData.eqv (.list (l.map fun c => PyData.str ⟨#[c]⟩)) (.list []) = l.isEmpty := by
  cases l <;> simp [PyData.eqv, PyData.eqvAll]
abbrev Wd := List Nat × Nat × Nat
def wordD (x : Wd) : PyData := .tuple [.str (sT x.1), .int (x.2.1 : Int), .int (x.2.2 : Int)]
def wordV (x : Wd) : List V := [.str (sT x.1), .int (x.2.1 : Int), .int (x.2.2 : Int)]
theorem eqv_word (x y : Wd) : PyData.eqv (wordD x) (wordD y) = decide (x = y) := by
  obtain ⟨a, l, k⟩ := x
  obtain ⟨b, m, n⟩ := y
  simp only [wordD, PyData.eqv, PyData.eqvAll, Bool.and_true]
  rw [Bool.eq_iff_iff]
  simp only [Bool.and_eq_true, beq_iff_eq, decide_eq_true_eq, Prod.mk.injEq]
  constructor
  · rintro ⟨h1, h2, h3⟩
    exact ⟨sT_inj h1, by omega, by omega⟩
  · rintro ⟨h1, h2, h3⟩
    exact ⟨by rw [h1], by omega, by omega⟩
theorem eqv_words : ∀ xs ys : List Wd, PyData.eqvAll (xs.map wordD) (ys.map wordD) = decide (xs = ys)
  | [], [] => by simp [PyData.eqvAll]
  | [], _ :: _ => by simp [PyData.eqvAll]
  | _ :: _, [] => by simp [PyData.eqvAll]
  | x :: xs, y :: ys => by
    simp only [List.map_cons, PyData.eqvAll, eqv_words xs ys, eqv_word]
    by_cases h : x = y <;> by_cases h' : xs = ys <;> simp [h, h']
def txw (xs : List Wd) : Prop := ∀ x ∈ xs, tx x.1
theorem shaped_words (xs : List Wd) (h : txw xs) : SeqAt.shaped (.list (xs.map wordD)) = true := by
  have h1 : PyData.canLayAll0 (xs.map wordD) = true := by
    induction xs with
    | nil => rfl
    | cons x l ih =>
      show ((PyData.strOk (sT x.1) && true) && PyData.canLayAll0 (l.map wordD)) = true
      rw [ih fun d hd => h d (List.mem_cons_of_mem _ hd), strOk_tx (h x (List.mem_cons_self ..)).2]
      rfl
  have h2 : PyData.depthAll (xs.map wordD) ≤ 1 := by
    clear h h1
    induction xs with
    | nil => exact Nat.zero_le _
    | cons x l ih => simp [PyData.depthAll, PyData.depth, wordD, ih]
  simp [SeqAt.shaped, PyData.canLay0, PyData.depth, h1]
  omega
/-- the words' list at a -/
def WordsAt (H : Hp) (a : Addr) (xs : List Wd) : Prop := ∃ ps : List Addr, H a = some (.lst (ps.map V.ref)) ∧ ps.length = xs.length ∧ ∀ (i : Nat) (p : Addr) (x : Wd), ps[i]? = some p → xs[i]? = some x → H p = some (.tup (wordV x))
theorem WordsAt.same {H H' : Hp} {a : Addr} {xs : List Wd} (s : Same H H') (h : WordsAt H a xs) : WordsAt H' a xs := by
  obtain ⟨ps, h1, h2, h3⟩ := h
  exact ⟨ps, s _ _ h1, h2, fun i p x e1 e2 => s _ _ (h3 i p x e1 e2)⟩
theorem dp_word {K : PySem.W.Frag} {H : Hp} {p : Addr} {x : Wd} (h : H p = some (.tup (wordV x))) : Dp K H (.ref p) (wordD x) :=
  .tup (SqT.of h) (.cons (.str _) (.cons (.int _) (.cons (.int _) .nil)))
theorem dp_wordsAll {K : PySem.W.Frag} {H : Hp} : ∀ {ps : List Addr} {xs : List Wd}, ps.length = xs.length → (∀ (i : Nat) (p : Addr) (x : Wd), ps[i]? = some p → xs[i]? = some x → H p = some (.tup (wordV x))) → DpAll K H (ps.map V.ref) (xs.map wordD)
  | [], [], _, _ => .nil
  | [], _ :: _, e, _ => by simp at e
  | _ :: _, [], e, _ => by simp at e
  | p :: ps, x :: xs, e, h => .cons (dp_word (h 0 p x rfl rfl)) (dp_wordsAll (Nat.succ.inj e) fun i p x e1 e2 => h (i + 1) p x e1 e2)
theorem WordsAt.dp {K : PySem.W.Frag} {H : Hp} {a : Addr} {xs : List Wd} (h : WordsAt H a xs) : Dp K H (.ref a) (.list (xs.map wordD)) := by
  obtain ⟨ps, h1, h2, h3⟩ := h
  exact .lst (SqL.of h1) (dp_wordsAll h2 h3)
/-- .. all of it new -/
def WordsNew (H H' : Hp) (a : Addr) (xs : List Wd) : Prop := ∃ ps : List Addr, (H' a = some (.lst (ps.map V.ref)) ∧ H a = none) ∧ ps.length = xs.length ∧ ∀ (i : Nat) (p : Addr) (x : Wd), ps[i]? = some p → xs[i]? = some x → H' p = some (.tup (wordV x)) ∧ H p = none
theorem WordsNew.at {H H' : Hp} {a : Addr} {xs : List Wd} (h : WordsNew H H' a xs) : WordsAt H' a xs := by
  obtain ⟨ps, h1, h2, h3⟩ := h
  exact ⟨ps, h1.1, h2, fun i p x e1 e2 => (h3 i p x e1 e2).1⟩
/-- what is seen, with all that is new -/
def seen (H0 H H' : Hp) : Hp := fun b => match H b with | none => H' b | some _ => H0 b
theorem seen_vs {H0 H H' : Hp} (s : Same H0 H) (s2 : Same H H') : Vs H0 H (seen H0 H H') H' := by
  refine ⟨fun b o e => ?_, fun b o e => ?_, fun b o e => ?_⟩
  · unfold seen; rw [s _ _ e]; exact e
  · unfold seen at e
    cases h : H b with
    | none => rw [h] at e; exact e
    | some u => rw [h] at e; exact s2 _ _ (s _ _ e)
  · unfold seen at e
    cases h : H b with
    | none => exact .inr rfl
    | some u => rw [h] at e; exact .inl e
theorem seen_new {H0 H H' : Hp} {b : Addr} (h : H b = none) : seen H0 H H' b = H' b := by unfold seen; rw [h]
theorem WordsNew.seen {H0 H H' : Hp} {a : Addr} {xs : List Wd} (h : WordsNew H H' a xs) : WordsAt (seen H0 H H') a xs := by
  obtain ⟨ps, h1, h2, h3⟩ := h
  exact ⟨ps, by rw [seen_new h1.2]; exact h1.1, h2, fun i p x e1 e2 => by rw [seen_new (h3 i p x e1 e2).2]; exact (h3 i p x e1 e2).1⟩
theorem WordsNew.same {H H' H'' : Hp} {a : Addr} {xs : List Wd} (h : WordsNew H H' a xs) (s : Same H' H'') : WordsNew H H'' a xs := by
  obtain ⟨ps, h1, h2, h3⟩ := h
  exact ⟨ps, ⟨s _ _ h1.1, h1.2⟩, h2, fun i p x e1 e2 => ⟨s _ _ (h3 i p x e1 e2).1, (h3 i p x e1 e2).2⟩⟩
/-! promises -/
def NotStr (K : PySem.W.Frag) (H : Hp) (x : V) : Prop := ∃ t, TyX K H x t ∧ PySem.W.kitOne K t (.type "str") = some false
def spTx (g : List Nat → V) : Sp := fun vs H Q _ => ∃ t, vs = [.str (sT t)] ∧ tx t ∧ ∀ H', Same H H' → Q (g t) H'
def spTxO (K : PySem.W.Frag) (g : List Nat → Bool) : Sp := fun vs H Q _ => ∃ x, vs = [x] ∧ ((∃ t, x = .str (sT t) ∧ tx t ∧ ∀ H', Same H H' → Q (.bl (g t)) H') ∨ (NotStr K H x ∧ ∀ H', Same H H' → Q (.bl false) H'))
def spSize : Sp := fun vs H Q _ => ∃ (t : List Nat) (i : Nat), vs = [.str (sT t), .int (i : Int)] ∧ tx t ∧ i < t.length ∧ ∀ H', Same H H' → Q (.int (wl (t.drop i) : Nat)) H'
def spCut : Sp := fun vs H Q _ => ∃ t, vs = [.str (sT t)] ∧ tx t ∧ ∀ H' a, Same H H' → WordsNew H H' a (cutT t) → Q (.ref a) H'
abbrev sSmall : Str := "abcdefghijklmnopqrstuvwxyz"
abbrev sFigs : Str := "0123456789"
abbrev sInner : Str := "abcdefghijklmnopqrstuvwxyzABCDEFGHIJKLMNOPQRSTUVWXYZ0123456789_"
/-- the module's constants -/
structure GkF (K : PySem.W.Frag) (mg : Str → Option Value) : Prop where
  kept : ∃ a, mg "KEPT" = some (.ref a) ∧ ∀ H, SqT K H a keptV
  small : ∃ t, mg "SMALL" = some (.str "abcdefghijklmnopqrstuvwxyz" t)
  isi : mg "isinstance" = none
  str : mg "str" = none
  len : mg "len" = none
section
variable {P : Program} {w : World} {K : PySem.W.Frag} {mg : Str → Option Value} {base : Heap}
theorem flat_kept : keptV.all flatV = true := rfl
theorem flat_signs : signsV.all flatV = true := rfl
theorem sc_is_name : FnScope ["thing", "letter"] ["thing"] (defScope s_is_name) := ⟨rfl, rfl, rfl, by decide +kernel, rfl, by decide +kernel, by decide +kernel⟩
theorem kit_str_str : PySem.W.kitOne K (.type "str") (.type "str") = some true := kit_ty (by decide +kernel)
theorem isEmpty_filter_not (p : Nat → Bool) (t : List Nat) : (t.filter fun c => !p c).isEmpty = t.all p := by
  induction t with
  | nil => rfl
  | cons c t ih => cases h : p c <;> simp [h, List.filter_cons, ih]
theorem ok_is_name {CX : CXT} {f : Addr} {fd : FuncData} (F : FnP K "is_name" s_is_name f fd) (G : GkF K mg) : FnOk P w K mg base CX 1 f fd ["thing"] (spTxO K nameB) := by
  refine F.ok sc_is_name (fun vs H Q E h => ?_) (fun cdv A outer s H vs Q E hr h => ?_)
  · obtain ⟨x, rfl, _⟩ := h
    rfl
  · obtain ⟨x, rfl, h⟩ := h
    have hu := hu_of hr
    have nd := sc_is_name.nd
    obtain ⟨kA, gK, sK⟩ := G.kept
    obtain ⟨tS, gS⟩ := G.small
    refine ⟨_, PSs.nox (pss_cons (ps_if (PW.pt (pw_or (pt_not (pt_val (pe_callB call_isi (by rfl) G.isi (by decide +kernel) (pa_cons (pv 0) (pa_cons (pe_bltn (v := .ty "str") (by rfl) G.str (by decide +kernel) rfl) pa_nil)))))
        (pw_or (pt_not (pt_chain op_le op_le pe_int (pe_callB call_len (by rfl) G.len PySem.boot_len (pa_cons (pv 0) pa_nil)) pe_int)) (pw_or1 (pt_cmpR op_in_seq (pv 0) (pe_glob (v := .ref kA) (by rfl) gK rfl) (by rfl)))))) (pss_one (ps_ret pe_bl)) pss_nil)
      (pss_one (ps_ret (pe_cmpR (op_eqD hr.units) (pe_lc (own := [("letter", 1)]) (g := gName 1) rfl nd (pi_str (pv 0)) (blkOk_by (own := [("letter", 1)]) (N := ["thing", "letter"]) (sc := defScope s_is_name) (by decide +kernel))
          (fun _ _ _ _ _ => pg_name (i := 1) nd rfl (Or.inl rfl)) (fun _ _ _ _ _ => pts_one (pt_cmpR op_notIn_sign (pv 1) (pe_glob (v := .str sSmall) (by rfl) gS ⟨_, rfl⟩) (by rfl))) (fun _ _ _ _ _ => pv 1)) (pe_lst pa_nil) (nomark _))))), ?_⟩
    rcases h with ⟨t, rfl, ht, k⟩ | ⟨⟨ty, h1, h2⟩, k⟩
    · refine ⟨_, rfl, _, _, _, _, true, rfl, .ty "str", .base (.str _), kit_str_str, true, rfl, iteF ?_⟩
      refine ⟨_, rfl, _, _, rfl, ⟨sl_of ht.1, rfl⟩, _, _, rfl, rfl, _, rfl, ?_⟩
      rw [sT_len]
      have out : nameB t = false → Q (.bl false) H := fun e => by
        have q := k H (Same.refl _)
        rw [e] at q
        exact q
      refine ite2 (fun c1 => ?_) (fun c1 => ?_)
      · have c1 := of_decide_eq_true c1
        refine ⟨_, _, rfl, rfl, _, rfl, ?_⟩
        by_cases c2 : t.length ≤ 8
        · rw [show decide ((t.length : Int) ≤ 8) = true from decide_eq_true (by omega)]
          refine iteF ⟨_, rfl, kA, keptV, rfl, .inr (sK H), rfl, flat_kept, _, rfl, ?_⟩
          refine ite2 (fun c3 => ?_) (fun c3 => ?_)
          · have c3 : keptB t = true := c3
            exact out (by unfold nameB; rw [c3]; simp)
          · have c3 : keptB t = false := by
              cases e : keptB t with
              | true => exact absurd e c3
              | false => rfl
            refine ⟨_, rfl, _, rfl, fun D hD => lc_chars (fun c => !isSmall c) ht.1 hD (fun c H' A B hc s h1 h2 => ⟨rfl, _, rfl, _, _, rfl, rfl, _, rfl, ?_⟩) ?_⟩
            · rw [mem_small]
              exact ite2 (fun e => ⟨_, rfl, h1 e⟩) (fun e => h2 (by simpa using e))
            · refine ⟨sl_of (by decide), fun p hp => ⟨_, _, .lst (SqL.of ((same_new hp) _ _ upd_same)) (dpAll_strs _), .lst (SqL.of upd_same) .nil, shaped_strs _ (fun c hc => ht.2 c (List.mem_filter.mp hc).1), rfl, ?_⟩⟩
              rw [eqv_nilS, isEmpty_filter_not, ← show nameB t = t.all isSmall by unfold nameB; rw [c3]; simp; omega]
              exact k _ ((same_new hD).trans (same_new hp))
        · rw [show decide ((t.length : Int) ≤ 8) = false from decide_eq_false (by omega)]
          refine iteT (iteT ?_)
          exact out (by unfold nameB; simp; omega)
      · have c1 : ¬ (1 : Int) ≤ t.length := fun z => c1 (decide_eq_true z)
        refine ⟨_, rfl, iteT (iteT ?_)⟩
        exact out (by unfold nameB; simp; omega)
    · refine ⟨_, rfl, _, _, _, _, false, rfl, .ty "str", h1, h2, false, rfl, iteT (iteT ?_)⟩
      exact k _ (Same.refl _)
end
/-! ## any list == [] -/
def rEqEL (K : PySem.W.Frag) : R2 := fun x y H Q => ∃ a b xs, x = .ref a ∧ y = .ref b ∧ SqL K H a xs ∧ SqL K H b [] ∧ Q (.bl xs.isEmpty) H
theorem op_eqEL {X : Cx} (hu : X.A.units < cLine) : OpR X (compareOp .Eq) (rEqEL X.K) := by
  intro pins s σ H x y v u Q I rx ry h
  obtain ⟨a, b, xs, rfl, rfl, h1, h2, q⟩ := h
  cases rx
  cases ry
  obtain ⟨its, rv, p1, _⟩ := I.list h1
  obtain ⟨its2, rv2, p2, _⟩ := I.list h2
  cases rv2
  cases rv with
  | nil =>
    have r := SeqAt.RcAt.lists (e := fun _ => true) (A := X.A) p1.isList p2.isList rfl hu (fun j _ h2 => absurd h2 (Nat.not_lt_zero _))
    exact r _ _ _ _ ⟨.bl true, H, I, rfl, q⟩
  | cons g r0 =>
    have r := SeqAt.RcAt.lists_lengths (A := X.A) p1.isList p2.isList (by simp) hu
    exact r _ _ _ _ ⟨.bl false, H, I, rfl, q⟩
/-! ## k11: rows, tags, units -/
theorem iteN1 {A B : Prop} (h : B) : if (!true) = true then A else B := iteF h
/-- texts that is_name judges -/
def txS (z : Str) : Prop := tx z.cps.toList
def nmB (z : Str) : Bool := nameB z.cps.toList
theorem str_sT (z : Str) : z = sT z.cps.toList := (sT_of z).symm
def NoTup (K : PySem.W.Frag) (H : Hp) (x : V) : Prop := ∃ t, TyX K H x t ∧ PySem.W.kitOne K t (.type "tuple") = some false
/-- a row of names, judged by is_name at fj; or an empty one, or no tuple -/
def spRow (K : PySem.W.Frag) (fj : Addr) : Sp := fun vs H Q _ => ∃ (x : V) (j : Addr) (lo hi : Int), vs = [x, .ref j, .int lo, .int hi] ∧
  ((NoTup K H x ∧ ∀ H', Same H H' → Q (.bl false) H') ∨ (∃ a, x = .ref a ∧ H a = some (.tup []) ∧ lo = 0 ∧ 0 ≤ hi ∧ ∀ H', Same H H' → Q (.bl true) H') ∨
    ∃ (a : Addr) (zs : List Str), x = .ref a ∧ j = fj ∧ H a = some (.tup (zs.map V.str)) ∧ zs.length ≤ 60 ∧ (∀ z ∈ zs, txS z) ∧ ∀ H', Same H H' → Q (.bl (decide (lo ≤ (zs.length : Int)) && (decide ((zs.length : Int) ≤ hi) && zs.all nmB))) H')
abbrev unitK : List (Key × V) := [(Sum.inr "unit", .int 5)]
/-- is it a tuple with the tag of a unit and as many parts -/
def spTag (K : PySem.W.Frag) : Sp := fun vs H Q _ => ∃ (x : V) (sa : Addr), vs = [x, .ref sa] ∧ H sa = some (.dK unitK) ∧ ((NoTup K H x ∧ ∀ H', Same H H' → Q (.bl false) H') ∨ (∃ a, x = .ref a ∧ H a = some (.tup []) ∧ ∀ H', Same H H' → Q (.bl false) H') ∨
  ∃ a z r, x = .ref a ∧ H a = some (.tup (.str z :: r)) ∧ ∀ H', Same H H' → Q (.bl (decide (z = "unit") && decide (r.length = 4))) H')
section
variable {P : Program} {w : World} {K : PySem.W.Frag} {mg : Str → Option Value} {base : Heap}
theorem sc_is_row_of : FnScope ["thing", "judge", "least", "most", "part"] ["thing", "judge", "least", "most"] (defScope s_is_row_of) := ⟨rfl, rfl, rfl, by decide +kernel, rfl, by decide +kernel, by decide +kernel⟩
theorem ok_row {f fj : Addr} {fd fdj : FuncData} (F : FnP K "is_row_of" s_is_row_of f fd) (Gj : FnOk P w K mg base CX0 1 fj fdj ["thing"] (spTxO K nameB)) (kj : PySem.W.keepIn K (.ref fj) = true) (bj : Binds K fdj ["thing"] []) (G : NkF K mg) (tup : mg "tuple" = none) : FnOk P w K mg base CX0 2 f fd ["thing", "judge", "least", "most"] (spRow K fj) := by
  refine F.ok sc_is_row_of (fun vs H Q E h => ?_) (fun cdv A outer s H vs Q E hr h => ?_)
  · obtain ⟨x, j, lo, hi, rfl, _⟩ := h
    rfl
  · obtain ⟨x, j, lo, hi, rfl, h⟩ := h
    have nd := sc_is_row_of.nd
    apply Exists.intro
    apply And.intro
    case left =>
     apply PSs.nox
     apply pss_cons
     · exact (ps_if (PW.pt (pw_or (pt_not (pt_val (pe_callB call_isi (by rfl) G.isi (by decide +kernel) (pa_cons (pv 0) (pa_cons (pe_bltn (v := .ty "tuple") (by rfl) tup (by decide +kernel) rfl) pa_nil))))) (pw_or1 (pt_not (pt_chain op_le op_le (pv 2) (pe_callB call_len (by rfl) G.len PySem.boot_len (pa_cons (pv 0) pa_nil)) (pv 3)))))) (pss_one (ps_ret pe_bl)) pss_nil)
     apply pss_one
     exact (ps_ret (pe_cmpR (op_eqEL (Nat.lt_of_le_of_lt (Nat.le_add_right _ 64) hr.units)) (pe_lc (own := [("part", 4)]) (g := gName 4) rfl nd (pi_tup (pv 0)) (blkOk_by (own := [("part", 4)]) (N := ["thing", "judge", "least", "most", "part"]) (sc := defScope s_is_row_of) (by decide +kernel)) (fun _ _ _ _ _ => (pg_name (i := 4) nd rfl (Or.inl rfl))) (fun _ _ _ _ _ => pts_one (pt_not (pt_val (pe_callL (i := 1) Gj (hr.mono (by decide)) rfl (by first | exact .inl rfl | exact .inr (.inl rfl) | exact .inr (.inr rfl)) kj bj .nil pass0 (pa_cons (pv 4) pa_nil))))) (fun _ _ _ _ _ => (pv 4))) (pe_lst pa_nil) (nomark _)))
    case right =>
      rcases h with ⟨⟨ty, h1, h2⟩, k⟩ | ⟨a, rfl, ea, rfl, h0, k⟩ | ⟨a, zs, rfl, rfl, ea, hl, hz2, k⟩
      · exact ⟨_, rfl, _, _, _, _, false, rfl, .ty "tuple", h1, h2, _, rfl, iteN0 (k _ (Same.refl _))⟩
      · refine ⟨_, rfl, _, _, _, _, true, rfl, .ty "tuple", .base (.tup ea), kit_ty (by decide +kernel), _, rfl, iteN1 ?_⟩
        refine ⟨_, rfl, _, rfl, _, _, rfl, .inr ⟨_, SqT.of ea, rfl⟩, _, _, rfl, rfl, _, rfl, ?_⟩
        rw [decide_eq_true (show (0 : Int) ≤ (([] : List V).length : Int) by decide)]
        refine iteT ⟨_, rfl, _, _, rfl, rfl, _, rfl, ?_⟩
        rw [decide_eq_true (show (([] : List V).length : Int) ≤ hi by simpa using h0)]
        refine iteN1 ?_
        refine ⟨_, rfl, a, rfl, ⟨_, SqT.of ea⟩, fun D hD => ?_⟩
        refine lc_tup (K := K) (a := a) (xs := []) (fun j H' => Same H H' ∧ H' D = some (.lst [])) ⟨same_new hD, upd_same⟩ (fun j H' _ h => SqT.of (h.1 _ _ ea)) ?_ ?_
        · rintro m y H' hm
          cases hm
        rintro H1 ⟨s1, e1⟩
        refine ⟨(show 0 ≤ sizeLine by decide), fun p hp => ⟨D, p, [], rfl, rfl, SqL.of ((same_new hp) _ _ e1), SqL.of upd_same, k _ (s1.trans (same_new hp))⟩⟩
      · refine ⟨_, rfl, _, _, _, _, true, rfl, .ty "tuple", .base (.tup ea), kit_ty (by decide +kernel), _, rfl, iteN1 ?_⟩
        refine ⟨_, rfl, _, rfl, _, _, rfl, .inr ⟨_, SqT.of ea, rfl⟩, _, _, rfl, rfl, _, rfl, ?_⟩
        rw [List.length_map]
        by_cases c1 : lo ≤ (zs.length : Int)
        rotate_left
        · rw [decide_eq_false c1] at k ⊢
          exact iteF ⟨_, rfl, iteN0 (k _ (Same.refl _))⟩
        rw [decide_eq_true c1] at k ⊢
        refine iteT ⟨_, rfl, _, _, rfl, rfl, _, rfl, ?_⟩
        by_cases c2 : (zs.length : Int) ≤ hi
        rotate_left
        · rw [decide_eq_false c2] at k ⊢
          exact iteN0 (k _ (Same.refl _))
        rw [decide_eq_true c2] at k ⊢
        refine iteN1 ?_
        refine ⟨_, rfl, a, rfl, ⟨_, SqT.of ea⟩, fun D hD => ?_⟩
        refine lc_tup (K := K) (a := a) (xs := zs.map V.str) (fun m H' => Same H H' ∧ H' D = some (.lst (((zs.take m).filter fun z => !nmB z).map V.str))) ⟨same_new hD, upd_same⟩ (fun j H' _ h => SqT.of (h.1 _ _ ea)) ?_ ?_
        · rintro m y H' hm ⟨sm, em⟩
          rw [List.getElem?_map, Option.map_eq_some_iff] at hm
          obtain ⟨z, hz, rfl⟩ := hm
          have hml := (List.getElem?_eq_some_iff.mp hz).1
          refine ⟨rfl, rfl, _, rfl, _, rfl, .inl ⟨z.cps.toList, by rw [← str_sT], hz2 z (List.mem_of_getElem? hz), fun H2 s2 => ?_⟩⟩
          refine ⟨_, rfl, ?_⟩
          have e2 := s2 _ _ em
          have step : (zs.take (m + 1)).filter (fun z => !nmB z) = (zs.take m).filter (fun z => !nmB z) ++ (if nmB z = true then [] else [z]) := by
            rw [take_snoc2 hz, List.filter_append]
            cases h : nmB z <;> simp [h]
          cases hq : nameB z.cps.toList with
          | true =>
            refine iteF ⟨sm.trans s2, ?_⟩
            rw [e2, step, if_pos (show nmB z = true from hq), List.append_nil]
          | false =>
            refine iteT ⟨_, rfl, _, e2, ?_, same_sub (sm.trans s2) hD, ?_⟩
            · rw [List.length_map]
              exact Nat.lt_of_le_of_lt (Nat.le_trans (List.length_filter_le _ _) (Nat.le_trans (List.length_take_le' _ _) hl)) (by decide)
            · rw [upd_same, step, if_neg (by rw [show nmB z = false from hq]; decide), List.map_append]
              rfl
        rintro H1 ⟨s1, e1⟩
        rw [List.length_map, List.take_length] at e1
        refine ⟨(show 0 ≤ sizeLine by decide), fun p hp => ⟨D, p, _, rfl, rfl, SqL.of ((same_new hp) _ _ e1), SqL.of upd_same, ?_⟩⟩
        have e : ((zs.filter fun z => !nmB z).map V.str).isEmpty = zs.all nmB := by
          clear k e1 hz2 hl ea c1 c2
          induction zs with
          | nil => rfl
          | cons z zs ih => cases h : nmB z <;> simp [h] at ih ⊢ <;> exact ih
        rw [e]
        exact k _ (s1.trans (same_new hp))
theorem sc_is_tagged : FnScope ["thing", "sizes"] ["thing", "sizes"] (defScope s_is_tagged) := ⟨rfl, rfl, rfl, by decide +kernel, rfl, by decide +kernel, by decide +kernel⟩
theorem ok_tag {CX : CXT} {f : Addr} {fd : FuncData} (F : FnP K "is_tagged" s_is_tagged f fd) (G : NkF K mg) (tup : mg "tuple" = none) : FnOk P w K mg base CX 1 f fd ["thing", "sizes"] (spTag K) := by
  refine F.ok sc_is_tagged (fun vs H Q E h => ?_) (fun cdv A outer s H vs Q E hr h => ?_)
  · obtain ⟨x, sa, rfl, _⟩ := h
    rfl
  · obtain ⟨x, sa, rfl, es, h⟩ := h
    have nd := sc_is_tagged.nd
    have hu := hu_of hr
    apply Exists.intro
    apply And.intro
    case left =>
     apply PSs.nox
     apply pss_cons
     · exact (ps_if (PW.pt (pw_or (pt_not (pt_val (pe_callB call_isi (by rfl) G.isi (by decide +kernel) (pa_cons (pv 0) (pa_cons (pe_bltn (v := .ty "tuple") (by rfl) tup (by decide +kernel) rfl) pa_nil))))) (pw_or (pt_cmpR op_eq (pe_callB call_len (by rfl) G.len PySem.boot_len (pa_cons (pv 0) pa_nil)) pe_int (nomark _)) (pw_or1 (pt_not (pt_val (pe_callB call_isi (by rfl) G.isi (by decide +kernel) (pa_cons (pe_ix ix_seq (pv 0) pe_int (fun _ _ => rfl)) (pa_cons (pe_bltn (v := .ty "str") (by rfl) G.str (by decide +kernel) rfl) pa_nil))))))))) (pss_one (ps_ret pe_bl)) pss_nil)
     apply pss_one
     exact (ps_ret (pe_cmpR op_eq (pe_dget2 hu (pv 1) (pe_ix ix_seq (pv 0) pe_int (fun _ _ => rfl)) pe_int ⟨by rfl, by rfl, by rfl, by rfl⟩) (pe_callB call_len (by rfl) G.len PySem.boot_len (pa_cons (pv 0) pa_nil)) (nomark _)))
    case right =>
      rcases h with ⟨⟨ty, h1, h2⟩, k⟩ | ⟨a, rfl, ha, k⟩ | ⟨a, z, xr, rfl, ha, k⟩
      · exact ⟨_, rfl, _, _, _, _, false, rfl, .ty "tuple", h1, h2, _, rfl, iteN0 (iteT (k _ (Same.refl _)))⟩
      · refine ⟨_, rfl, _, _, _, _, true, rfl, .ty "tuple", .base (.tup ha), kit_ty (by decide +kernel), _, rfl, iteN1 ?_⟩
        refine ⟨_, rfl, _, _, rfl, .inr ⟨_, SqT.of ha, rfl⟩, rfl, _, rfl, ?_⟩
        rw [decide_eq_true (show V.int ((([] : List V).length : Nat) : Int) = V.int 0 from rfl)]
        exact iteT (iteT (k _ (Same.refl _)))
      · refine ⟨_, rfl, _, _, _, _, true, rfl, .ty "tuple", .base (.tup ha), kit_ty (by decide +kernel), _, rfl, iteN1 ?_⟩
        refine ⟨_, rfl, _, _, rfl, .inr ⟨_, SqT.of ha, rfl⟩, rfl, _, rfl, ?_⟩
        rw [decide_eq_false (show ¬ V.int (((V.str z :: xr).length : Nat) : Int) = V.int 0 from fun q => by injection q with q; rw [List.length_cons] at q; omega)]
        refine iteF ⟨_, rfl, .inr (.inl ⟨_, _, _, _, rfl, rfl, SqT.of ha, atI_nat (j := 0) rfl, _, _, _, _, true, rfl, .ty "str", .base (.str z), kit_ty (by decide +kernel), _, rfl, iteN1 ?_⟩)⟩
        have ev : (valV unitK (Sum.inr z)).getD (.int 0) = .int (if z = "unit" then 5 else 0) := by
          by_cases c : z = "unit"
          · subst c
            rfl
          · rw [if_neg c]
            have e2 : valV unitK (Sum.inr z) = none := by
              have : decide ((Sum.inr "unit" : Key) = Sum.inr z) = false := decide_eq_false fun q => c (by injection q with q; exact q.symm)
              unfold valV unitK
              rw [List.find?_cons_of_neg (by simpa using this)]
              rfl
            rw [e2]
            rfl
        refine ⟨_, rfl, sa, rfl, .inl ⟨_, .inl es⟩, _, rfl, .inr (.inl ⟨_, _, _, _, rfl, rfl, SqT.of ha, atI_nat (j := 0) rfl, ?_⟩)⟩
        refine ⟨_, DGet.k (k := Sum.inr z) es, ?_⟩
        rw [ev]
        refine ⟨_, rfl, _, _, rfl, .inr ⟨_, SqT.of ha, rfl⟩, rfl, ?_⟩
        have e : (decide (z = "unit") && decide (xr.length = 4)) = decide (V.int (if z = "unit" then 5 else 0) = V.int (((V.str z :: xr).length : Nat) : Int)) := by
          rw [List.length_cons]
          by_cases c : z = "unit"
          · subst c
            rw [decide_eq_true rfl, Bool.true_and, if_pos rfl]
            exact decide_eq_decide.mpr ⟨fun q => congrArg V.int (by omega), fun q => by have q : (5 : Int) = ((xr.length + 1 : Nat) : Int) := by { injection q }; omega⟩
          · rw [decide_eq_false c, Bool.false_and, if_neg c]
            exact (decide_eq_false fun q => by have q : (0 : Int) = ((xr.length + 1 : Nat) : Int) := by { injection q }; omega).symm
        rw [← e]
        exact k _ (Same.refl _)
end
/-! ## k11: what a unit is -/
inductive NtV (H : Hp) : V → Prop
  | non : NtV H .non
  | int (i : Int) : NtV H (.int i)
  | lst {a : Addr} {xs : List V} (e : H a = some (.lst xs)) : NtV H (.ref a)
theorem NtV.same {H H' : Hp} {x : V} (h : NtV H x) (s : Same H H') : NtV H' x := by
  cases h with
  | non => exact .non
  | int i => exact .int i
  | lst e => exact .lst (s _ _ e)
theorem NtV.no {K : PySem.W.Frag} {H : Hp} {x : V} (h : NtV H x) : NoTup K H x := by
  cases h with
  | non => exact ⟨_, .base .non, kit_ty (by decide +kernel)⟩
  | int i => exact ⟨_, .base (.int i), kit_ty (by decide +kernel)⟩
  | lst e => exact ⟨_, .base (.lst e), kit_ty (by decide +kernel)⟩
/-- a value that is_unit is asked: none, or a unit's name and what it uses -/
inductive UtX (K : PySem.W.Frag) (H : Hp) : V → Option (Str × List Str) → Prop
  | non {x : V} (h : NtV H x) : UtX K H x none
  | emp {a : Addr} (h : H a = some (.tup [])) : UtX K H (.ref a) none
  | odd {a : Addr} {z : Str} {r : List V} (h : H a = some (.tup (.str z :: r))) (o : (decide (z = "unit") && decide (r.length = 4)) = false) : UtX K H (.ref a) none
  | bad {a : Addr} {n : Str} {xu e1 e2 : V} (h : H a = some (.tup [.str "unit", .str n, xu, e1, e2])) (t : txS n) (o : nmB n = false ∨ NtV H xu) : UtX K H (.ref a) none
  | one {a b e1 e2 : Addr} {n : Str} {us : List Str} (h : H a = some (.tup [.str "unit", .str n, .ref b, .ref e1, .ref e2])) (hb : H b = some (.tup (us.map V.str))) (h1 : H e1 = some (.tup [])) (h2 : H e2 = some (.tup []))
      (t : txS n) (g : nmB n = true) (l : us.length ≤ 5) (hu : ∀ z ∈ us, txS z ∧ nmB z = true) : UtX K H (.ref a) (some (n, us))
theorem UtX.same {K : PySem.W.Frag} {H H' : Hp} {x : V} {o : Option (Str × List Str)} (h : UtX K H x o) (s : Same H H') : UtX K H' x o := by
  cases h with
  | non h => exact .non (h.same s)
  | emp h => exact .emp (s _ _ h)
  | odd h o => exact .odd (s _ _ h) o
  | bad h t o => exact .bad (s _ _ h) t (o.imp id fun h => h.same s)
  | one h hb h1 h2 t g l hu => exact .one (s _ _ h) (s _ _ hb) (s _ _ h1) (s _ _ h2) t g l hu
def spUnit (K : PySem.W.Frag) : Sp := fun vs H Q _ => ∃ x o, vs = [x] ∧ UtX K H x o ∧ ∀ H', Same H H' → Q (.bl o.isSome) H'
section
variable {P : Program} {w : World} {K : PySem.W.Frag} {mg : Str → Option Value} {base : Heap}
theorem sc_is_unit : FnScope ["thing"] ["thing"] (defScope s_is_unit) := ⟨rfl, rfl, rfl, by decide +kernel, rfl, by decide +kernel, by decide +kernel⟩
theorem ok_unit {CX : CXT} {f f_is_name fdc ffn : Addr} {fd fd_is_name : FuncData} (F : FnP K "is_unit" s_is_unit f fd) (c_is_tagged : Cal P w K mg base 1 "is_tagged" ["thing", "sizes"] (spTag K)) (c_is_row_of : Cal P w K mg base 2 "is_row_of" ["thing", "judge", "least", "most"] (spRow K f_is_name))
    (g_is_name : mg "is_name" = some (.ref f_is_name)) (k_is_name : PySem.W.keepIn K (.ref f_is_name) = true) (b_is_name : Binds K fd_is_name ["thing"] []) (G_is_name : FnOk P w K mg base CX0 1 f_is_name fd_is_name ["thing"] (spTxO K nameB))
    (g_is_declaration : mg "is_declaration" = some (.ref fdc)) (g_is_function : mg "is_function" = some (.ref ffn)) : FnOk P w K mg base CX 3 f fd ["thing"] (spUnit K) := by
  obtain ⟨f_is_tagged, fd_is_tagged, g_is_tagged, k_is_tagged, b_is_tagged, G_is_tagged⟩ := c_is_tagged
  obtain ⟨f_is_row_of, fd_is_row_of, g_is_row_of, k_is_row_of, b_is_row_of, G_is_row_of⟩ := c_is_row_of
  refine F.ok sc_is_unit (fun vs H Q E h => ?_) (fun cdv A outer s H vs Q E hr h => ?_)
  · obtain ⟨x, o, rfl, _⟩ := h
    rfl
  · obtain ⟨x, o, rfl, hx, k⟩ := h
    have nd := sc_is_unit.nd
    apply Exists.intro
    apply And.intro
    case left =>
     apply PSs.nox
     apply pss_cons
     · exact (ps_if (PW.pt (pw_or (pt_not (pt_val (pe_call G_is_tagged (hr.mono (by decide)) rfl g_is_tagged k_is_tagged b_is_tagged .nil pass0 (pa_cons (pv 0) (pa_cons (pe_disp (pps_cons pe_str pe_int pps_nil) rfl rfl (by decide) (by decide)) pa_nil))))) (pw_or (pt_not (pt_val (pe_call G_is_name (hr.mono (by decide)) rfl g_is_name k_is_name b_is_name .nil pass0 (pa_cons (pe_ix ix_seq (pv 0) pe_int (fun _ _ => rfl)) pa_nil)))) (pw_or1 (pt_not (pt_val (pe_call G_is_row_of (hr.mono (by decide)) rfl g_is_row_of k_is_row_of b_is_row_of .nil pass0 (pa_cons (pe_ix ix_seq (pv 0) pe_int (fun _ _ => rfl)) (pa_cons (pe_glob (v := .ref f_is_name) (by rfl) g_is_name rfl) (pa_cons pe_int (pa_cons pe_int pa_nil))))))))))) (pss_one (ps_ret pe_bl)) pss_nil)
     apply pss_one
     exact (ps_ret (pe_and (pe_call G_is_row_of (hr.mono (by decide)) rfl g_is_row_of k_is_row_of b_is_row_of .nil pass0 (pa_cons (pe_ix ix_seq (pv 0) pe_int (fun _ _ => rfl)) (pa_cons (pe_glob (v := .ref fdc) (by rfl) g_is_declaration rfl) (pa_cons pe_int (pa_cons pe_int pa_nil))))) (pe_one (pe_call G_is_row_of (hr.mono (by decide)) rfl g_is_row_of k_is_row_of b_is_row_of .nil pass0 (pa_cons (pe_ix ix_seq (pv 0) pe_int (fun _ _ => rfl)) (pa_cons (pe_glob (v := .ref ffn) (by rfl) g_is_function rfl) (pa_cons pe_int (pa_cons pe_int pa_nil))))))))
    case right =>
      refine ⟨_, rfl, fun p hp => ⟨upd_same, unitK, rfl, by decide, ?_⟩⟩
      rw [upd_upd, show mergeK [] unitK = unitK from rfl]
      have s1 := same_new (o := .dK unitK) hp
      have hx := hx.same s1
      have k : ∀ H', Same (upd H p (.dK unitK)) H' → Q (.bl o.isSome) H' := fun H' s' => k H' (s1.trans s')
      have ep : (upd H p (.dK unitK)) p = some (.dK unitK) := upd_same
      generalize upd H p (.dK unitK) = H1 at hx k ep ⊢
      cases hx with
      | non h => exact ⟨_, p, rfl, ep, .inl ⟨h.no, fun H2 s2 => ⟨_, rfl, iteN0 (iteT (k _ s2))⟩⟩⟩
      | emp h => exact ⟨_, p, rfl, ep, .inr (.inl ⟨_, rfl, h, fun H2 s2 => ⟨_, rfl, iteN0 (iteT (k _ s2))⟩⟩)⟩
      | odd h o =>
        refine ⟨_, p, rfl, ep, .inr (.inr ⟨_, _, _, rfl, h, fun H2 s2 => ?_⟩)⟩
        rw [o]
        exact ⟨_, rfl, iteN0 (iteT (k _ s2))⟩
      | @bad a n xu e1 e2 h t o =>
        refine ⟨_, p, rfl, ep, .inr (.inr ⟨_, _, _, rfl, h, fun H2 s2 => ⟨_, rfl, iteN1 ?_⟩⟩)⟩
        refine ⟨_, rfl, .inr (.inl ⟨_, _, _, _, rfl, rfl, SqT.of (s2 _ _ h), atI_nat (j := 1) rfl, ?_⟩)⟩
        refine ⟨_, rfl, .inl ⟨n.cps.toList, by rw [← str_sT], t, fun H3 s3 => ⟨_, rfl, ?_⟩⟩⟩
        rcases Bool.eq_false_or_eq_true (nmB n) with c | c
        · rcases o with o | o
          · rw [o] at c
            cases c
          show if (!nmB n) = true then _ else _
          rw [c]
          refine iteN1 ?_
          refine ⟨_, rfl, .inr (.inl ⟨_, _, _, _, rfl, rfl, SqT.of (s3 _ _ (s2 _ _ h)), atI_nat (j := 2) rfl, ?_⟩)⟩
          exact ⟨_, _, _, _, rfl, .inl ⟨(o.same (s2.trans s3)).no, fun H4 s4 => ⟨_, rfl, iteT (k _ ((s2.trans s3).trans s4))⟩⟩⟩
        · show if (!nmB n) = true then _ else _
          rw [c]
          exact iteN0 (iteT (k _ (s2.trans s3)))
      | @one a b e1 e2 n us h hb h1 h2 t g l hu =>
        refine ⟨_, p, rfl, ep, .inr (.inr ⟨_, _, _, rfl, h, fun H2 s2 => ⟨_, rfl, iteN1 ?_⟩⟩)⟩
        refine ⟨_, rfl, .inr (.inl ⟨_, _, _, _, rfl, rfl, SqT.of (s2 _ _ h), atI_nat (j := 1) rfl, ?_⟩)⟩
        refine ⟨_, rfl, .inl ⟨n.cps.toList, by rw [← str_sT], t, fun H3 s3 => ⟨_, rfl, ?_⟩⟩⟩
        show if (!nmB n) = true then _ else _
        rw [g]
        refine iteN1 ?_
        have s23 := s2.trans s3
        refine ⟨_, rfl, .inr (.inl ⟨_, _, _, _, rfl, rfl, SqT.of (s23 _ _ h), atI_nat (j := 2) rfl, ?_⟩)⟩
        refine ⟨_, _, _, _, rfl, .inr (.inr ⟨b, us, rfl, rfl, s23 _ _ hb, by omega, fun z hz => (hu z hz).1, fun H4 s4 => ?_⟩)⟩
        have s24 := s23.trans s4
        have e : (decide ((0 : Int) ≤ (us.length : Int)) && (decide ((us.length : Int) ≤ 5) && us.all nmB)) = true := by
          rw [decide_eq_true (show (0 : Int) ≤ (us.length : Int) by omega), decide_eq_true (show (us.length : Int) ≤ 5 by omega), List.all_eq_true.mpr fun z hz => (hu z hz).2]
          rfl
        rw [e]
        refine ⟨_, rfl, iteF ?_⟩
        refine ⟨_, rfl, .inr (.inl ⟨_, _, _, _, rfl, rfl, SqT.of (s24 _ _ h), atI_nat (j := 3) rfl, ?_⟩)⟩
        refine ⟨_, _, _, _, rfl, .inr (.inl ⟨e1, rfl, s24 _ _ h1, rfl, by decide, fun H5 s5 => ⟨_, rfl, ?_⟩⟩)⟩
        refine iteT ⟨_, rfl, .inr (.inl ⟨_, _, _, _, rfl, rfl, SqT.of ((s24.trans s5) _ _ h), atI_nat (j := 4) rfl, ?_⟩)⟩
        exact ⟨_, _, _, _, rfl, .inr (.inl ⟨e2, rfl, (s24.trans s5) _ _ h2, rfl, by decide, fun H6 s6 => k _ ((s24.trans s5).trans s6)⟩)⟩
end
/-! ## k11: what is needed of units -/
theorem inV_strs (z : Str) : ∀ ws : List Str, inV (.str z) (ws.map V.str) = decide (z ∈ ws)
  | [] => rfl
  | w :: ws => by
    have ih := inV_strs z ws
    unfold inV at ih ⊢
    rw [List.map_cons, List.any_cons, ih]
    show ((w : Str) == z || decide (z ∈ ws)) = _
    rw [Bool.eq_iff_iff]
    simp only [Bool.or_eq_true, beq_iff_eq, decide_eq_true_eq, List.mem_cons]
    exact ⟨fun h => h.imp (fun e => e.symm) id, fun h => h.imp (fun e => e.symm) id⟩
def keptS : List Str := ["and", "at", "choice", "else", "fail", "false", "function", "if", "let", "long", "make", "match", "new", "not", "number", "of", "or", "over", "put", "rest", "return", "row", "set", "show", "true", "truth", "try", "unit", "uses", "while"]
def shortS : List Str := ["if", "of", "or", "at", "and", "new", "not", "let", "put", "row", "set", "try"]
def flE (a : Str) (C : Addr) (v : V) (H : Hp) (E : XK) : Prop := ∀ H' d, Same H H' → H' d = some (.xd [(a, v)]) → H d = none → E (.ref C) (some d) H'
theorem flE.same {a : Str} {C : Addr} {v : V} {H H1 : Hp} {E : XK} (s : Same H H1) (k : flE a C v H E) : flE a C v H1 E := fun H' d s' e n => k H' d (s.trans s') e (s.free n)
def UtA (K : PySem.W.Frag) (H : Hp) (xs : List V) (os : List (Option (Str × List Str))) : Prop := xs.length = os.length ∧ ∀ (i : Nat) (x : V), xs[i]? = some x → ∃ o, os[i]? = some o ∧ UtX K H x o
theorem UtA.same {K : PySem.W.Frag} {H H' : Hp} {xs : List V} {os : List (Option (Str × List Str))} (h : UtA K H xs os) (s : Same H H') : UtA K H' xs os := ⟨h.1, fun i x e => by
  obtain ⟨o, h1, h2⟩ := h.2 i x e
  exact ⟨o, h1, h2.same s⟩⟩
abbrev Prs := List (Str × List Str)
def nms (ps : Prs) : List Str := ps.map (·.1)
/-- the first item that is no unit, or is one again -/
def BadAt (os : List (Option (Str × List Str))) (i : Nat) : Prop := ∃ ps : Prs, os.take i = ps.map some ∧ (nms ps).Nodup ∧ (os[i]? = some none ∨ ∃ p, os[i]? = some (some p) ∧ p.1 ∈ nms ps)
/-- the first use that is not there -/
def MissAt (ps : Prs) (z : Str) : Prop := ∃ (i j : Nat) (p : Str × List Str), ps[i]? = some p ∧ p.2[j]? = some z ∧ z ∉ nms ps ∧ (∀ i', i' < i → ∀ q : Str × List Str, ps[i']? = some q → ∀ y ∈ q.2, y ∈ nms ps) ∧ ∀ j', j' < j → ∀ y, p.2[j']? = some y → y ∈ nms ps
/-- what need_units ends in -/
def NeedR (C CN : Addr) (os : List (Option (Str × List Str))) (H : Hp) (Q : VK) (E : XK) : Prop :=
  (os = [] ∧ flE "at" C .non H E) ∨ (os ≠ [] ∧ ((∃ i, BadAt os i ∧ flE "at" C (.int ((i : Nat) : Int)) H E) ∨ ∃ ps : Prs, os = ps.map some ∧ (nms ps).Nodup ∧ (((∀ p ∈ ps, ∀ y ∈ p.2, y ∈ nms ps) ∧ ∀ H', Same H H' → Q .non H') ∨ ∃ z, MissAt ps z ∧ flE "name" CN (.str z) H E)))
theorem NeedR.same {C CN : Addr} {os : List (Option (Str × List Str))} {H H1 : Hp} {Q : VK} {E : XK} (s : Same H H1) (h : NeedR C CN os H Q E) : NeedR C CN os H1 Q E := by
  rcases h with ⟨a, b⟩ | ⟨a, ⟨i, b, c⟩ | ⟨ps, b, c, ⟨d, e⟩ | ⟨z, d, e⟩⟩⟩
  · exact .inl ⟨a, b.same s⟩
  · exact .inr ⟨a, .inl ⟨i, b, c.same s⟩⟩
  · exact .inr ⟨a, .inr ⟨ps, b, c, .inl ⟨d, fun H' s' => e H' (s.trans s')⟩⟩⟩
  · exact .inr ⟨a, .inr ⟨ps, b, c, .inr ⟨z, d, e.same s⟩⟩⟩
def spNeedU (K : PySem.W.Frag) (C CN : Addr) : Sp := fun vs H Q E => ∃ x, vs = [x] ∧ ((NsV H x ∧ flE "at" C .non H E) ∨ ∃ a xs os, x = .ref a ∧ SeqH H a xs ∧ UtA K H xs os ∧ os.length ≤ 1000 ∧ NeedR C CN os H Q E)
theorem nms_app (a b : Prs) : nms (a ++ b) = nms a ++ nms b := List.map_append
theorem map_some_inj {α : Type} : ∀ {a b : List α}, a.map some = b.map some → a = b
  | [], [], _ => rfl
  | [], _ :: _, h => by cases h
  | _ :: _, [], h => by cases h
  | x :: a, y :: b, h => by
    injection h with h1 h2
    injection h1 with h1
    rw [h1, map_some_inj h2]
theorem badAt_no {os : List (Option (Str × List Str))} {i j : Nat} {qs : Prs} (h : BadAt os i) (e : os.take j = qs.map some) (hj : i < j) (nd : (nms qs).Nodup) : False := by
  obtain ⟨ps, e1, n1, c⟩ := h
  have ei : os[i]? = qs[i]?.map some := by
    rw [← List.getElem?_map, ← e, List.getElem?_take, if_pos hj]
  rcases c with c | ⟨p, c, hp⟩
  · rw [c] at ei
    cases hq : qs[i]? <;> rw [hq] at ei <;> cases ei
  · have hq : qs[i]? = some p := by
      rw [c] at ei
      cases hq : qs[i]? with
      | none => rw [hq] at ei; cases ei
      | some q => rw [hq] at ei; injection ei with ei; injection ei with ei; rw [ei]
    have e2 : ps = qs.take i := map_some_inj (by rw [← e1, List.map_take, ← e, List.take_take, Nat.min_eq_left (Nat.le_of_lt hj)])
    have e3 : qs.take (i + 1) = ps ++ [p] := by rw [e2, List.take_succ, hq]; rfl
    have n3 : (nms (qs.take (i + 1))).Nodup := List.Nodup.sublist (List.Sublist.map _ (List.take_sublist _ _)) nd
    rw [e3, nms_app] at n3
    exact (List.nodup_append.mp n3).2.2 p.1 hp p.1 (List.mem_singleton.mpr rfl) rfl
section
variable {K : PySem.W.Frag} {σ : L2.St} {H0 H : Hp} {a : Addr} {xs : List V} {R : It → Hp → Prop} {i : Nat}
theorem ior_seqB (hσ : σ[i]? = some (some (.ref a))) (h : SeqH H0 a xs) (s : Same H0 H) (k : ∀ (J : It) (G : Hp → Prop), Walk J xs.length G (YAt xs) → (∀ H', Same H0 H' → G H') → R J H) : iOr (iList K (tVar i)) (iTup K (tVar i)) σ H R := by
  rcases h with h | h
  · exact .inl ⟨_, hσ, a, rfl, ⟨xs, SqL.of (s _ _ h)⟩, k _ _ walk_list fun H' s => SqL.of (s _ _ h)⟩
  · exact .inr ⟨_, hσ, a, rfl, ⟨xs, SqT.of (s _ _ h)⟩, k _ _ walk_tup fun H' s => SqT.of (s _ _ h)⟩
theorem ior_enumB (hσ : σ[i]? = some (some (.ref a))) (h : SeqH H0 a xs) (s : Same H0 H) (k : ∀ (J : It) (G : Hp → Prop), Walk J xs.length G (YPair (fun i => some (.int (i : Nat))) (fun i => xs[i]?)) → (∀ H', Same H0 H' → G H') → R J H) : iOr (iEnum K (tCons (tVar i) tNil)) (iEnumT K (tCons (tVar i) tNil)) σ H R := by
  rcases h with h | h
  · exact .inl ⟨_, hσ, a, xs, rfl, SqL.of (s _ _ h), k _ _ walk_enum fun H' s => SqL.of (s _ _ h)⟩
  · exact .inr ⟨_, hσ, a, xs, rfl, SqT.of (s _ _ h), k _ _ walk_enumT fun H' s => SqT.of (s _ _ h)⟩
end
theorem flat_txt (ns : List Str) : (ns.map V.str).all flatV = true := List.all_eq_true.mpr fun y hy => by
  obtain ⟨z, _, rfl⟩ := List.mem_map.mp hy
  rfl
theorem MissAt.one {ps : Prs} {z y : Str} (h : MissAt ps z) {i j : Nat} {q : Str × List Str} (hi : ps[i]? = some q) (hy : q.2[j]? = some y) (n : y ∉ nms ps) (h1 : ∀ i', i' < i → ∀ q : Str × List Str, ps[i']? = some q → ∀ y ∈ q.2, y ∈ nms ps) (h2 : ∀ j', j' < j → ∀ y, q.2[j']? = some y → y ∈ nms ps) : z = y := by
  obtain ⟨i0, j0, p, g1, g2, g3, g4, g5⟩ := h
  have : i0 = i := by
    rcases Nat.lt_trichotomy i0 i with c | c | c
    · exact absurd (h1 i0 c p g1 z (List.mem_of_getElem? g2)) g3
    · exact c
    · exact absurd (g4 i c q hi y (List.mem_of_getElem? hy)) n
  subst this
  rw [hi] at g1
  injection g1 with g1
  subst g1
  have : j0 = j := by
    rcases Nat.lt_trichotomy j0 j with c | c | c
    · exact absurd (h2 j0 c z g2) g3
    · exact c
    · exact absurd (g5 j c y hy) n
  subst this
  rw [hy] at g2
  injection g2 with g2
  exact g2.symm
section
variable {P : Program} {w : World} {K : PySem.W.Frag} {mg : Str → Option Value} {base : Heap}
theorem sc_need_units : FnScope ["units", "names", "at", "unit", "name"] ["units"] (defScope s_need_units) := ⟨rfl, rfl, rfl, by decide +kernel, rfl, by decide +kernel, by decide +kernel⟩
theorem ok_needU {f C CN : Addr} {fd : FuncData} (F : FnP K "need_units" s_need_units f fd) (c_is_unit : Cal P w K mg base 3 "is_unit" ["thing"] (spUnit K)) (G : NkF K mg) (B : Ix1 P w K mg base "BadUnits" C "at") (BN : Ix1 P w K mg base "NoUnit" CN "name") (tup : mg "tuple" = none) (lis : mg "list" = none) (m_enumerate : mg "enumerate" = none) :
    FnOk P w K mg base (L2.CX P w) 4 f fd ["units"] (spNeedU K C CN) := by
  obtain ⟨f_is_unit, fd_is_unit, g_is_unit, k_is_unit, b_is_unit, G_is_unit⟩ := c_is_unit
  obtain ⟨fi, fdi, iC, tI, OI, bi⟩ := B.i
  obtain ⟨fi2, fdi2, iC2, tI2, OI2, bi2⟩ := BN.i
  refine F.ok sc_need_units (fun vs H Q E h => ?_) (fun cdv A outer s H vs Q E hr h => ?_)
  · obtain ⟨x, rfl, _⟩ := h
    rfl
  · obtain ⟨x, rfl, h⟩ := h
    have nd := sc_need_units.nd
    apply Exists.intro
    apply And.intro
    case left =>
     apply pss_cons
     · exact (ps_if (PW.pt (pw_or (pt_not (pt_val (pe_callB call_isiT (by rfl) G.isi (by decide +kernel) (pa_cons (pv 0) (pa_cons (pe_tup (pa_cons (pe_bltn (v := .ty "list") (by rfl) lis (by decide +kernel) rfl) (pa_cons (pe_bltn (v := .ty "tuple") (by rfl) tup (by decide +kernel) rfl) pa_nil))) pa_nil))))) (pw_or1 (pt_cmpR op_eq (pe_callB call_len (by rfl) G.len PySem.boot_len (pa_cons (pv 0) pa_nil)) pe_int (nomark _))))) (pss_one (ps_raise rfl (takes_of rfl rfl rfl rfl) (pmk_oex B.o iC tI OI (hr.mono (show 2 ≤ 3 by decide)) bi .nil pass0 rfl B.g (pa_cons pe_non pa_nil)))) pss_nil)
     apply pss_cons
     · exact (ps_set (i := 1) nd rfl (.inl rfl) (pe_lst pa_nil))
     apply pss_cons
     · apply ps_for (passes_of rfl) rfl
       · exact (pi_or (pi_enum (by rfl) m_enumerate (pa_cons (pv 0) pa_nil)) (pi_enumT (by rfl) m_enumerate (pa_cons (pv 0) pa_nil)))
       · exact (pg_tup rfl (pgs_cons (pg_name (i := 2) nd rfl (Or.inl rfl)) (pgs_cons (pg_name (i := 3) nd rfl (Or.inl rfl)) pgs_nil)))
       · apply pss_cons
         · exact (ps_if (PW.pt (pw_or (pt_not (pt_val (pe_call G_is_unit (hr.mono (by decide)) rfl g_is_unit k_is_unit b_is_unit .nil pass0 (pa_cons (pv 3) pa_nil)))) (pw_or1 (pt_cmpR op_in_seq (pe_ix ix_seq (pv 3) pe_int (fun _ _ => rfl)) (pv 1) (by rfl))))) (pss_one (ps_raise rfl (takes_of rfl rfl rfl rfl) (pmk_oex B.o iC tI OI (hr.mono (show 2 ≤ 3 by decide)) bi .nil pass0 rfl B.g (pa_cons (pv 2) pa_nil)))) pss_nil)
         apply pss_one
         exact (ps_expr (pe_bm PySem.F.plainAttrs_list PySem.F.slot_list_append PySem.F.type_list_append mt_append (pv 1) (pa_cons (pe_ix ix_seq (pv 3) pe_int (fun _ _ => rfl)) pa_nil)))
     apply pss_one
     apply ps_for (passes_of rfl) rfl
     · exact (pi_or (pi_list (pv 0)) (pi_tup (pv 0)))
     · exact (pg_name (i := 3) nd rfl (Or.inl rfl))
     · apply pss_one
       apply ps_for (passes_of rfl) rfl
       · exact (pi_tup (pe_ix ix_seq (pv 3) pe_int (fun _ _ => rfl)))
       · exact (pg_name (i := 4) nd rfl (Or.inl rfl))
       · apply pss_one
         exact (ps_if (pt_cmpR op_notIn_seq (pv 4) (pv 1) (by rfl)) (pss_one (ps_raise rfl (takes_of rfl rfl rfl rfl) (pmk_oex BN.o iC2 tI2 OI2 (hr.mono (show 2 ≤ 3 by decide)) bi2 .nil pass0 rfl BN.g (pa_cons (pv 4) pa_nil)))) pss_nil)
    case right =>
      rcases h with ⟨hN, q⟩ | ⟨a, xs, os, rfl, hS, hA, hl4, h⟩
      · refine ⟨_, rfl, (show 2 ≤ sizeLine by decide), fun p hp => ?_⟩
        obtain ⟨t, h1, h2, h3⟩ := (hN.same (same_new (o := .tup [.ty "list", .ty "tuple"]) hp)).ty (K := K)
        exact ⟨x, p, _, t, [.type "list", .type "tuple"], false, rfl, upd_same, .cons (.ty _) (.cons (.ty _) .nil), h1, kitAny_cons h2 (fun _ => kitAny_cons h3 (fun _ => kitAny_nil) fun z => by cases z) (fun z => by cases z), _, rfl, iteN0 (iteT (raise_i1 (q.same (same_new hp))))⟩
      · refine ⟨_, rfl, (show 2 ≤ sizeLine by decide), fun p hp => ?_⟩
        have sp := same_new (o := .tup [.ty "list", .ty "tuple"]) hp
        have kit : ∃ t, TyX K (upd H p (.tup [.ty "list", .ty "tuple"])) (.ref a) t ∧ PySem.W.kitAny K t [.type "list", .type "tuple"] = some true := by
          rcases hS with h | h
          · exact ⟨_, .base (.lst (sp _ _ h)), kitAny_cons (kit_ty (b := "list") (r := true) (by decide +kernel)) (fun z => by cases z) fun _ => rfl⟩
          · exact ⟨_, .base (.tup (sp _ _ h)), kitAny_cons (kit_ty (b := "list") (r := false) (by decide +kernel)) (fun _ => kitAny_cons (kit_ty (b := "tuple") (r := true) (by decide +kernel)) (fun z => by cases z) fun _ => rfl) fun z => by cases z⟩
        obtain ⟨t, h1, h2⟩ := kit
        refine ⟨.ref a, p, _, t, [.type "list", .type "tuple"], true, rfl, upd_same, .cons (.ty _) (.cons (.ty _) .nil), h1, h2, _, rfl, iteN1 ?_⟩
        clear h1 h2
        have hS := hS.same sp
        have hA := hA.same sp
        have h := h.same sp
        have hl := hA.1
        refine ⟨_, rfl, _, _, rfl, hS.imp (fun e => ⟨_, SqL.of e, rfl⟩) (fun e => ⟨_, SqT.of e, rfl⟩), rfl, _, rfl, ?_⟩
        rcases h with ⟨h0, q⟩ | ⟨h0, h⟩
        · rw [decide_eq_true (show V.int ((xs.length : Nat) : Int) = V.int 0 by rw [hl, h0]; rfl)]
          exact iteT (raise_i1 q)
        rw [decide_eq_false (show ¬ V.int ((xs.length : Nat) : Int) = V.int 0 from fun z => h0 (by injection z with z; exact List.eq_nil_of_length_eq_zero (by omega)))]
        refine iteF ?_
        generalize upd H p (.tup [.ty "list", .ty "tuple"]) = H1 at hS hA h ⊢
        refine ⟨(show 0 ≤ sizeLine by decide), fun L hL => ?_⟩
        refine ior_enumB rfl hS (same_new hL) fun J GG hw hG => ?_
        refine for_it hw (fun i σ H' => ∃ ps : Prs, os.take i = ps.map some ∧ (nms ps).Nodup ∧ Same H1 H' ∧ H1 L = none ∧ H' L = some (.lst ((nms ps).map V.str)) ∧ ∃ v1 v2 v3, σ = [some (.ref a), some (.ref L), v1, v2, v3]) ⟨[], rfl, .nil, same_new hL, hL, upd_same, none, none, none, rfl⟩ (fun i σ H' _ ⟨ps, _, _, s1, _, _, _⟩ => hG _ s1) ?_ ?_
        · rintro i x σ H' Hx hi ⟨ps, g1, g2, s1, hLn, eL, v2, v3, v4, rfl⟩ ⟨Tp, x1, x2, rfl, hT, rfl, hx1, hx2⟩
          cases hx1
          obtain ⟨o, ho, hu⟩ := hA.2 _ _ hx2
          have sTp := same_new (o := .tup [.int (i : Int), x2]) hT
          refine ⟨Tp, _, rfl, SqT.of upd_same, rfl, _, _, rfl, _, _, rfl, rfl, _, rfl, x2, o, rfl, hu.same (s1.trans sTp), fun H3 s3 => ⟨_, rfl, ?_⟩⟩
          have s13 := (s1.trans sTp).trans s3
          have hbad : BadAt os i → flE "at" C (.int ((i : Nat) : Int)) H3 E := fun hb => by
            rcases h with ⟨i0, b0, k⟩ | ⟨ps0, e0, n0, _⟩
            · have ei : i = i0 := by
                rcases Nat.lt_trichotomy i i0 with c | c | c
                · exact (badAt_no hb b0.choose_spec.1 c b0.choose_spec.2.1).elim
                · exact c
                · exact (badAt_no b0 hb.choose_spec.1 c hb.choose_spec.2.1).elim
              subst ei
              exact k.same s13
            · exact (badAt_no hb (j := os.length) (by rw [List.take_length]; exact e0) (List.getElem?_eq_some_iff.mp ho).1 n0).elim
          cases o with
          | none => exact iteN0 ⟨_, rfl, raise_i1 (hbad ⟨ps, g1, g2, .inl ho⟩)⟩
          | some q =>
            obtain ⟨n, us⟩ := q
            cases hu with
            | @one a2 b e1 e2 n us hh hb h1 h2 t g l hu =>
            refine iteN1 ⟨_, rfl, .inr (.inl ⟨_, _, _, _, rfl, rfl, SqT.of (s13 _ _ hh), atI_nat (j := 1) rfl, ?_⟩)⟩
            refine ⟨_, rfl, L, _, rfl, .inl (SqL.of (s3 _ _ (sTp _ _ eL))), rfl, flat_txt _, _, rfl, ?_⟩
            rw [show (if false = true then !inV (.str n) ((nms ps).map V.str) else inV (.str n) ((nms ps).map V.str)) = decide (n ∈ nms ps) from inV_strs _ _]
            by_cases c : n ∈ nms ps
            · rw [decide_eq_true c]
              exact iteT ⟨_, rfl, raise_i1 (hbad ⟨ps, g1, g2, .inr ⟨_, ho, c⟩⟩)⟩
            rw [decide_eq_false c]
            refine iteF ?_
            have el := s3 _ _ (sTp _ _ eL)
            have lp : ps.length ≤ 1000 := by
              have e : (ps.map some).length = ps.length := List.length_map _
              rw [← g1] at e
              have := List.length_take_le' i os
              omega
            refine ⟨_, rfl, .inl ⟨rfl, _, SqL.of el⟩, _, rfl, .inr (.inl ⟨_, _, _, _, rfl, rfl, SqT.of (s13 _ _ hh), atI_nat (j := 1) rfl, ?_⟩)⟩
            refine ⟨L, _, _, rfl, rfl, el, ?_, ps ++ [(n, us)], ?_, ?_, same_sub s13 hLn, hLn, ?_, _, _, _, rfl⟩
            · unfold nms
              rw [List.length_map, List.length_map]
              exact Nat.lt_of_le_of_lt lp (by decide)
            · rw [take_snoc2 ho, g1, List.map_append]
              rfl
            · rw [nms_app]
              refine List.nodup_append.mpr ⟨g2, by simp [nms], fun x hx y hy e => c ?_⟩
              have : y = n := List.mem_singleton.mp hy
              rw [← this, ← e]
              exact hx
            · rw [upd_same, nms_app, List.map_append]
              rfl
        · rintro σ H2 ⟨ps, g1, g2, s1, hLn, eL, v2, v3, v4, rfl⟩
          rw [hl, List.take_length] at g1
          have h : ((∀ p ∈ ps, ∀ y ∈ p.2, y ∈ nms ps) ∧ ∀ H', Same H1 H' → Q .non H') ∨ ∃ z, MissAt ps z ∧ flE "name" CN (.str z) H1 E := by
            rcases h with ⟨i0, b0, k⟩ | ⟨ps0, e0, n0, h⟩
            · have lt : i0 < os.length := by
                obtain ⟨_, _, _, c | ⟨_, c, _⟩⟩ := b0
                · exact (List.getElem?_eq_some_iff.mp c).1
                · exact (List.getElem?_eq_some_iff.mp c).1
              exact (badAt_no b0 (j := os.length) (by rw [List.take_length]; exact g1) lt g2).elim
            · rw [g1] at e0
              rw [map_some_inj e0]
              exact h
          have lp : ps.length ≤ 1000 := by
            have e : (ps.map some).length = ps.length := List.length_map _
            rw [← g1] at e
            omega
          refine ior_seqB rfl hS s1 fun J GG hw hG => ?_
          refine for_it hw (fun i σ H' => Same H1 H' ∧ H' L = some (.lst ((nms ps).map V.str)) ∧ (∀ i', i' < i → ∀ q : Str × List Str, ps[i']? = some q → ∀ y ∈ q.2, y ∈ nms ps) ∧ ∃ v2 v3 v4, σ = [some (.ref a), some (.ref L), v2, v3, v4]) ⟨s1, eL, fun _ z => absurd z (Nat.not_lt_zero _), _, _, _, rfl⟩ (fun i σ H' _ h => hG _ h.1) ?_ ?_
          · rintro i x σ H' Hx hi ⟨s2, eL, g3, v2, v3, v4, rfl⟩ ⟨rfl, hx⟩
            obtain ⟨o, ho, hu⟩ := hA.2 _ _ hx
            have hq : ∃ q, ps[i]? = some q ∧ o = some q := by
              rw [g1, List.getElem?_map] at ho
              cases hq : ps[i]? with
              | none => rw [hq] at ho; cases ho
              | some q => rw [hq] at ho; injection ho with ho; exact ⟨q, rfl, ho.symm⟩
            obtain ⟨q, hq, rfl⟩ := hq
            obtain ⟨n, us⟩ := q
            cases hu with
            | @one a2 b e1 e2 n us hh hb h1 h2 t g l hu =>
            refine ⟨_, rfl, .inr (.inl ⟨_, _, _, _, rfl, rfl, SqT.of (s2 _ _ hh), atI_nat (j := 2) rfl, b, rfl, ⟨_, SqT.of (s2 _ _ hb)⟩, ?_⟩)⟩
            refine for_it walk_tup (fun j σ H' => Same H1 H' ∧ H' L = some (.lst ((nms ps).map V.str)) ∧ (∀ j', j' < j → ∀ y, us[j']? = some y → y ∈ nms ps) ∧ ∃ v3, σ = [some (.ref a), some (.ref L), v2, some (.ref a2), v3]) ⟨s2, eL, fun _ z => absurd z (Nat.not_lt_zero _), _, rfl⟩ (fun j σ H' _ h => SqT.of (h.1 _ _ hb)) ?_ ?_
            · rintro j x σ H' Hx hj ⟨s3, eL, g4, v3, rfl⟩ ⟨rfl, hx⟩
              obtain ⟨y, hy, rfl⟩ : ∃ y, us[j]? = some y ∧ x = V.str y := by
                rw [List.getElem?_map] at hx
                cases hy : us[j]? with
                | none => rw [hy] at hx; cases hx
                | some y => rw [hy] at hx; injection hx with hx; exact ⟨y, rfl, hx.symm⟩
              refine ⟨_, rfl, _, rfl, L, _, rfl, .inl (SqL.of eL), rfl, flat_txt _, _, rfl, ?_⟩
              rw [show (if true = true then !inV (.str y) ((nms ps).map V.str) else inV (.str y) ((nms ps).map V.str)) = !decide (y ∈ nms ps) from congrArg (fun b => !b) (inV_strs y (nms ps))]
              by_cases c : y ∈ nms ps
              · rw [decide_eq_true c]
                refine iteN1 ⟨s3, eL, fun j' hj' y' hy' => ?_, _, rfl⟩
                rcases Nat.lt_succ_iff_lt_or_eq.mp hj' with z | z
                · exact g4 j' z y' hy'
                · subst z
                  rw [hy] at hy'
                  cases hy'
                  exact c
              · rw [decide_eq_false c]
                refine iteN0 ⟨_, rfl, raise_i1 ?_⟩
                rcases h with ⟨h, _⟩ | ⟨z, hm, k⟩
                · exact absurd (h _ (List.mem_of_getElem? hq) y (List.mem_of_getElem? hy)) c
                · rw [hm.one hq hy c g3 g4] at k
                  exact k.same s3
            · rintro σ H4 ⟨s4, eL, g4, v3, rfl⟩
              refine ⟨s4, eL, fun i' hi' q hq' y hy' => ?_, _, _, _, rfl⟩
              rcases Nat.lt_succ_iff_lt_or_eq.mp hi' with z | z
              · exact g3 i' z q hq' y hy'
              · subst z
                rw [hq] at hq'
                cases hq'
                obtain ⟨j', hj', e⟩ := List.getElem_of_mem hy'
                exact g4 j' (by rw [List.length_map]; exact hj') y (by rw [List.getElem?_eq_getElem hj', e])
          · rintro σ H3 ⟨s3, _, g3, v2, v3, v4, rfl⟩
            rcases h with ⟨_, k⟩ | ⟨z, hm, _⟩
            · exact k _ s3
            · obtain ⟨i0, j0, p, c1, c2, c3, _⟩ := hm
              have lt := (List.getElem?_eq_some_iff.mp c1).1
              have : ps.length = xs.length := by rw [hl, g1, List.length_map]
              exact absurd (g3 i0 (by omega) p c1 z (List.mem_of_getElem? c2)) c3
end
/-! ## k11: names sorted; dicts of uses; ways in the heap -/
theorem nm_ltC : ∀ i < 8, ∀ j < 8, PySem.Spec.ltCps (nm i).cps.toList (nm j).cps.toList = decide (i < j) := by decide +kernel
def rk (z : Str) : Nat := nmL.findIdx (fun y => decide (y = z))
theorem rk_nm : ∀ i < 8, rk (nm i) = i := by decide +kernel
theorem rising_sort : ∀ (l : List Nat) (p : Nat), p < 8 → (∀ x ∈ l, x < 8) → PyProof.Rows.risingS (nm p) (l.map nm) = true → (∀ x ∈ l, p ≤ x) ∧ l.Pairwise (· ≤ ·)
  | [], _, _, _, _ => ⟨(fun _ h => nomatch h), .nil⟩
  | x :: l, p, hp, h, hr => by
    have hx := h x (List.mem_cons_self ..)
    unfold PyProof.Rows.risingS at hr
    simp only [List.map_cons] at hr
    rw [nm_ltC x hx p hp, Bool.and_eq_true] at hr
    have h1 : p ≤ x := by
      have := hr.1
      simp at this
      exact this
    obtain ⟨h2, h3⟩ := rising_sort l x hx (fun y hy => h y (List.mem_cons_of_mem _ hy)) hr.2
    refine ⟨fun y hy => ?_, List.pairwise_cons.mpr ⟨h2, h3⟩⟩
    rcases List.mem_cons.mp hy with rfl | hy
    · exact h1
    · exact Nat.le_trans h1 (h2 y hy)
theorem sort_nm {l : List Nat} {ys : List Str} (hp : ys.Perm (l.map nm)) (h8 : ∀ x ∈ l, x < 8) (hs : PyProof.Rows.sortedS ys = true) : ∃ vs : List Nat, ys = vs.map nm ∧ vs.Perm l ∧ vs.Pairwise (· ≤ ·) := by
  have e1 : ys = (ys.map rk).map nm := by
    rw [List.map_map]
    refine (List.map_id _).symm.trans (List.map_congr_left fun y hy => ?_)
    obtain ⟨i, hi, rfl⟩ := List.mem_map.mp (hp.mem_iff.mp hy)
    show nm i = nm (rk (nm i))
    rw [rk_nm i (h8 i hi)]
  have p1 : (ys.map rk).Perm l := by
    have := hp.map rk
    rw [List.map_map] at this
    refine this.trans (.of_eq ((List.map_congr_left fun i hi => ?_).trans (List.map_id _)))
    exact rk_nm i (h8 i hi)
  refine ⟨ys.map rk, e1, p1, ?_⟩
  have q8 : ∀ x ∈ ys.map rk, x < 8 := fun x hx => h8 x (p1.mem_iff.mp hx)
  generalize ys.map rk = vs at e1 q8
  subst e1
  cases vs with
  | nil => exact .nil
  | cons v vs =>
    obtain ⟨a, b⟩ := rising_sort vs v (q8 v (List.mem_cons_self ..)) (fun x hx => q8 x (List.mem_cons_of_mem _ hx)) hs
    exact List.pairwise_cons.mpr ⟨a, b⟩
theorem in_nms {i : Nat} {l : List Nat} (hi : i < 8) (h8 : ∀ x ∈ l, x < 8) : inV (nmV i) (l.map nmV) = decide (i ∈ l) := by
  have e : l.map nmV = (l.map nm).map V.str := by rw [List.map_map]; rfl
  rw [e, show inV (nmV i) ((l.map nm).map V.str) = _ from inV_strs (nm i) (l.map nm)]
  refine decide_eq_decide.mpr ⟨fun h => ?_, fun h => List.mem_map.mpr ⟨i, h, rfl⟩⟩
  obtain ⟨j, hj, e⟩ := List.mem_map.mp h
  rw [← nm_inj (h8 j hj) hi e]
  exact hj
theorem flat_nm (l : List Nat) : (l.map nmV).all flatV = true := List.all_eq_true.mpr fun y hy => by
  obtain ⟨z, _, rfl⟩ := List.mem_map.mp hy
  rfl
/-- names and what they use -/
structure Nts (ns : List Nat) (us : Nat → List Nat) : Prop where
  one : ns.Nodup
  lt : ∀ n ∈ ns, n < 8
  len : ns.length ≤ 7
  sub : ∀ n ∈ ns, ∀ m ∈ us n, m ∈ ns
  ul : ∀ n ∈ ns, (us n).length ≤ 5
/-- a dict of names with lists (tuples) of names -/
def UsD (c : List V → HO) (H : Hp) (d : Addr) (ns : List Nat) (us : Nat → List Nat) : Prop := ∃ kvs, H d = some (.dK kvs) ∧ kvs.map (·.1) = ns.map (fun i => (Sum.inr (nm i) : Key)) ∧ ∀ n ∈ ns, ∃ L, valV kvs (Sum.inr (nm n)) = some (.ref L) ∧ H L = some (c ((us n).map nmV))
theorem UsD.same {c : List V → HO} {H H' : Hp} {d : Addr} {ns : List Nat} {us : Nat → List Nat} (h : UsD c H d ns us) (s : Same H H') : UsD c H' d ns us := by
  obtain ⟨kvs, h1, h2, h3⟩ := h
  refine ⟨kvs, s _ _ h1, h2, fun n hn => ?_⟩
  obtain ⟨L, a, b⟩ := h3 n hn
  exact ⟨L, a, s _ _ b⟩
theorem UsD.at {c : List V → HO} {H : Hp} {d : Addr} {ns : List Nat} {us : Nat → List Nat} (h : UsD c H d ns us) {n : Nat} (hn : n ∈ ns) : ∃ L, DGet H d (nmV n) (some (.ref L)) ∧ H L = some (c ((us n).map nmV)) := by
  obtain ⟨kvs, h1, h2, h3⟩ := h
  obtain ⟨L, a, b⟩ := h3 n hn
  exact ⟨L, a ▸ DGet.k (k := Sum.inr (nm n)) h1, b⟩
/-- ways stand as tuples, first name first -/
def wayV (w : List Nat) : List V := w.reverse.map nmV
inductive WyA (H : Hp) : List Addr → List (List Nat) → Prop
  | nil : WyA H [] []
  | cons {p : Addr} {ps : List Addr} {w : List Nat} {ws : List (List Nat)} (h : H p = some (.tup (wayV w))) (t : WyA H ps ws) : WyA H (p :: ps) (w :: ws)
theorem WyA.same {H H' : Hp} (s : Same H H') : ∀ {ps : List Addr} {ws : List (List Nat)}, WyA H ps ws → WyA H' ps ws
  | _, _, .nil => .nil
  | _, _, .cons h t => .cons (s _ _ h) (t.same s)
theorem WyA.app {H : Hp} : ∀ {ps qs : List Addr} {ws vs : List (List Nat)}, WyA H ps ws → WyA H qs vs → WyA H (ps ++ qs) (ws ++ vs)
  | _, _, _, _, .nil, h => h
  | _, _, _, _, .cons h t, g => .cons h (t.app g)
theorem WyA.length {H : Hp} : ∀ {ps : List Addr} {ws : List (List Nat)}, WyA H ps ws → ps.length = ws.length
  | _, _, .nil => rfl
  | _, _, .cons _ t => congrArg Nat.succ t.length
theorem way_cons (v : Nat) (w : List Nat) : wayV (v :: w) = wayV w ++ [nmV v] := by
  unfold wayV
  rw [List.reverse_cons, List.map_append]
  rfl
theorem way_last {w : List Nat} (h : w ≠ []) : atI (wayV w) (-1) = some (nmV (G11.hd w)) := by
  cases w with
  | nil => exact absurd rfl h
  | cons a r =>
    rw [way_cons]
    exact atI_last _ _
/-- objects stay, but those that lie at two new places -/
theorem Bf_room {us : Nat → List Nat} {s : Nat} {D L : List (List Nat)} {w : List Nat} {ns : List Nat} (B : G11.Bf us s D (w :: L)) (N : Nts ns us) (hs : s ∈ ns) : D.length < ns.length := by
  have h := G11.sub_len B.one (N := ns) fun x hx => by
    obtain ⟨z, hz, rfl⟩ := List.mem_map.mp hx
    obtain ⟨h1, _⟩ := B.way z hz
    refine h1.in_nodes hs N.sub _ ?_
    cases z with
    | nil => exact absurd rfl h1.ne
    | cons a r => exact List.mem_cons_self ..
  rw [List.length_map, List.length_append, List.length_cons] at h
  omega
/-! lists of whatever, unlike [] -/
def rNeEL (K : PySem.W.Frag) : R2 := fun x y H Q => ∃ a b xs, x = .ref a ∧ y = .ref b ∧ SqL K H a xs ∧ SqL K H b [] ∧ Q (.bl (!xs.isEmpty)) H
theorem op_neEL {X : Cx} (hu : X.A.units < cLine) : OpR X (compareOp .NotEq) (rNeEL X.K) := by
  intro pins s σ H x y v u Q I rx ry h
  obtain ⟨a, b, xs, rfl, rfl, h1, h2, q⟩ := h
  cases rx
  cases ry
  obtain ⟨its, rv, p1, _⟩ := I.list h1
  obtain ⟨its2, rv2, p2, _⟩ := I.list h2
  cases rv2
  cases rv with
  | nil =>
    have r := PySem.SeqAt.RcNeAt.lists (e := fun _ => true) (A := X.A) p1.isList p2.isList rfl hu (fun j _ h2 => absurd h2 (Nat.not_lt_zero _))
    exact r _ _ _ _ ⟨.bl false, H, I, rfl, q⟩
  | cons g r0 =>
    have r := PySem.SeqAt.RcNeAt.lists_lengths (A := X.A) p1.isList p2.isList (by simp) hu
    exact r _ _ _ _ ⟨.bl true, H, I, rfl, q⟩
/-! ## k11: the least ring -/
/-- what the best way so far stands for -/
def BestV (H : Hp) (v : V) (best : Option (List Nat)) : Prop := match best with
  | none => v = .non
  | some w => ∃ p, v = .ref p ∧ H p = some (.tup (wayV w))
theorem BestV.same {H H' : Hp} {v : V} {best : Option (List Nat)} (h : BestV H v best) (s : Same H H') : BestV H' v best := by
  cases best with
  | none => exact h
  | some w =>
    obtain ⟨p, h1, h2⟩ := h
    exact ⟨p, h1, s _ _ h2⟩
theorem WyA.put {H : Hp} {a : Addr} {xs : List V} {o : HO} (e : H a = some (.lst xs)) : ∀ {ps : List Addr} {ws : List (List Nat)}, WyA H ps ws → WyA (upd H a o) ps ws
  | _, _, .nil => .nil
  | _, _, .cons (p := q) h t => .cons (by
      have : q ≠ a := fun z => by rw [z, e] at h; cases h
      rw [upd_ne this]
      exact h) (t.put e)
theorem asc_split {vs : List Nat} {i n : Nat} (h : vs.Pairwise (· ≤ ·)) (nd : vs.Nodup) (e : vs[i]? = some n) : (∀ s ∈ vs.take i, s < n) ∧ ∀ x ∈ vs, x < n → x ∈ vs.take i := by
  obtain ⟨hi, e2⟩ := List.getElem?_eq_some_iff.mp e
  have sp : vs.take i ++ n :: vs.drop (i + 1) = vs := by
    rw [← e2, ← List.drop_eq_getElem_cons hi, List.take_append_drop]
  rw [← sp] at h nd
  obtain ⟨_, h2, h3⟩ := List.pairwise_append.mp h
  obtain ⟨_, _, n3⟩ := List.nodup_append.mp nd
  refine ⟨fun s hs => ?_, fun x hx hl => ?_⟩
  · have a := h3 s hs n (List.mem_cons_self ..)
    have b := n3 s hs n (List.mem_cons_self ..)
    omega
  · rw [← sp] at hx
    rcases List.mem_append.mp hx with hx | hx
    · exact hx
    · rcases List.mem_cons.mp hx with rfl | hx
      · omega
      · have := (List.pairwise_cons.mp h2).1 x hx
        omega
theorem Tn_one {us : Nat → List Nat} {s : Nat} {D L N : List (List Nat)} {w vs : List Nat} (B : G11.Bf us s D (w :: L)) (T : G11.Tn us s D L w N vs) : ((D ++ w :: L ++ N).map G11.hd).Nodup := by
  rw [List.map_append]
  refine List.nodup_append.mpr ⟨B.one, T.one, fun x hx y hy q => ?_⟩
  subst q
  obtain ⟨z, hz, rfl⟩ := List.mem_map.mp hy
  obtain ⟨v, rfl, _, h2, _⟩ := T.new z hz
  exact h2 hx
def spRing : Sp := fun vs H Q _ => ∃ (d : Addr) (ns : List Nat) (us : Nat → List Nat), vs = [.ref d] ∧ UsD HO.lst H d ns us ∧ Nts ns us ∧ ∀ (H' : Hp) (v : V) (P : List Nat) (best : Option (List Nat)), Same H H' → BestV H' v best → G11.Bst us P best → (∀ x, x ∈ P ↔ x ∈ ns) → Q v H'
section
variable {P : Program} {w : World} {K : PySem.W.Frag} {mg : Str → Option Value} {base : Heap}
theorem sc_least_ring : FnScope ["uses", "best", "name", "line", "met", "way", "further"] ["uses"] (defScope s_least_ring) := ⟨rfl, rfl, rfl, by decide +kernel, rfl, by decide +kernel, by decide +kernel⟩
theorem ok_ring {f : Addr} {fd : FuncData} (F : FnP K "least_ring" s_least_ring f fd) (G : NkF K mg) (m_min : mg "min" = none) (m_sorted : mg "sorted" = none) : FnOk P w K mg base CX0 1 f fd ["uses"] spRing := by
  refine F.ok sc_least_ring (fun vs H Q E h => ?_) (fun cdv A outer s H vs Q E hr h => ?_)
  · obtain ⟨d, ns, us, rfl, _⟩ := h
    rfl
  · obtain ⟨d, ns, us, rfl, hD, hN, k⟩ := h
    have nd := sc_least_ring.nd
    have hu := hu_of hr
    apply Exists.intro
    apply And.intro
    case left =>
     apply PSs.nox
     apply pss_cons
     · exact (ps_set (i := 1) nd rfl (.inl rfl) pe_non)
     apply pss_cons
     · apply ps_for PassesOwn.never rfl
       · exact (pi_list (pe_callB (call_sortedD rfl) (by rfl) m_sorted (by decide +kernel) (pa_cons (pv 0) pa_nil)))
       · exact (pg_name (i := 2) nd rfl (Or.inl rfl))
       · apply pss_cons
         · exact (ps_par (X := (cxOf CX0 P w K mg base ["uses", "best", "name", "line", "met", "way", "further"] "least_ring" (defScope s_least_ring) f cdv A outer s H E).nox) (i := 3) (j := 4) rfl nd rfl rfl (by decide) rfl rfl (pa_cons (pe_lst (pa_cons (pe_tup (pa_cons (pv 2) pa_nil)) pa_nil)) (pa_cons (pe_lst (pa_cons (pv 2) pa_nil)) pa_nil)) (by rfl))
         apply pss_one
         apply ps_while PassesOwn.never
         · exact (pt_cmpR (op_neEL (Nat.lt_of_le_of_lt (Nat.le_add_right _ 64) hr.units)) (pv 3) (pe_lst pa_nil) (nomark _))
         · apply pss_cons
           · exact (ps_set (i := 5) nd rfl (.inl rfl) (pe_bm PySem.F.plainAttrs_list PySem.F.slot_list_pop PySem.F.type_list_pop mt_popAt (pv 3) (pa_cons pe_int pa_nil)))
           apply pss_cons
           · exact (ps_if (pt_cmpR op_in_seq (pv 2) (pe_dget hu (pv 0) (pe_ix ix_tup (pv 5) (pe_un un_neg pe_int) (fun _ _ => rfl)) (fun _ _ => rfl)) (by rfl)) (pss_cons (ps_if (PW.pt (pw_and (pt_cmpR op_eq (pv 2) (pe_callB (cr_minN rfl) (by rfl) m_min (by decide +kernel) (pa_cons (pv 5) pa_nil)) (nomark _)) (pw_and1 (PW.pt (pw_or (pt_cmpR op_isN (pv 1) pe_non (nomark _)) (pw_or1 (pt_cmpR op_lt (pe_callB call_len (by rfl) G.len PySem.boot_len (pa_cons (pv 5) pa_nil)) (pe_callB call_len (by rfl) G.len PySem.boot_len (pa_cons (pv 1) pa_nil)) (nomark _)))))))) (pss_one (ps_set (i := 1) nd rfl (.inl rfl) (pv 5))) pss_nil) (pss_one ps_break)) pss_nil)
           apply pss_one
           apply ps_for PassesOwn.never rfl
           · exact (pi_list (pe_callB cr_sortedS (by rfl) m_sorted (by decide +kernel) (pa_cons (pe_dget hu (pv 0) (pe_ix ix_tup (pv 5) (pe_un un_neg pe_int) (fun _ _ => rfl)) (fun _ _ => rfl)) pa_nil)))
           · exact (pg_name (i := 6) nd rfl (Or.inl rfl))
           · apply pss_one
             exact (ps_if (pt_cmpR op_notIn_seq (pv 6) (pv 4) (by rfl)) (pss_cons (ps_expr (pe_bm PySem.F.plainAttrs_list PySem.F.slot_list_append PySem.F.type_list_append mt_append (pv 4) (pa_cons (pv 6) pa_nil))) (pss_one (ps_expr (pe_bm PySem.F.plainAttrs_list PySem.F.slot_list_append PySem.F.type_list_append mt_append (pv 3) (pa_cons (pe_tup (StX.pa_star (pv 5) (pa_cons (pv 6) pa_nil))) pa_nil))))) pss_nil)
     apply pss_one
     exact (ps_ret (pv 1))
    case right =>
      obtain ⟨kvs, hk1, hk2, hk3⟩ := id hD
      refine ⟨_, rfl, d, kvs, ns.map nm, rfl, .inl hk1, by rw [hk2, List.map_map]; rfl, by rw [List.length_map]; have := hN.len; omega, fun ys p hperm hsort hp => ?_⟩
      obtain ⟨vs, rfl, hvp, hvs⟩ := sort_nm hperm hN.lt hsort
      have hD1 := hD.same (same_new (o := .lst ((vs.map nm).map V.str)) hp)
      have ep : (upd H p (.lst ((vs.map nm).map V.str))) p = some (.lst ((vs.map nm).map V.str)) := upd_same
      have k : ∀ (H' : Hp) (v : V) (P : List Nat) (best : Option (List Nat)), Same (upd H p (.lst ((vs.map nm).map V.str))) H' → BestV H' v best → G11.Bst us P best → (∀ x, x ∈ P ↔ x ∈ ns) → Q v H' := fun H' v P best s' => k H' v P best ((same_new hp).trans s')
      generalize upd H p (.lst ((vs.map nm).map V.str)) = H0 at hD1 ep k ⊢
      have vnd : vs.Nodup := hvp.nodup_iff.mpr hN.one
      refine ⟨p, rfl, ⟨_, SqL.of ep⟩, ?_⟩
      refine for_it walk_list (fun i σ H' => ∃ best v v2 v3 v4 v5 v6, Same H0 H' ∧ BestV H' v best ∧ G11.Bst us (vs.take i) best ∧ σ = [some (.ref d), some v, v2, v3, v4, v5, v6]) ⟨none, .non, none, none, none, none, none, Same.refl _, rfl, G11.Bst.start us, rfl⟩ (fun i σ H' _ ⟨_, _, _, _, _, _, _, s1, _⟩ => SqL.of (s1 _ _ ep)) ?_ ?_
      · rintro i x σ Hx H' hi ⟨best, v, v2, v3, v4, v5, v6, s1, hB, B, rfl⟩ ⟨rfl, hx⟩
        obtain ⟨n, hn, rfl⟩ : ∃ n, vs[i]? = some n ∧ x = nmV n := by
          rw [List.map_map, List.getElem?_map] at hx
          cases hn : vs[i]? with
          | none => rw [hn] at hx; cases hx
          | some n => rw [hn] at hx; injection hx with hx; exact ⟨n, rfl, hx.symm⟩
        have nN : n ∈ ns := hvp.mem_iff.mp (List.mem_of_getElem? hn)
        have n8 := hN.lt n nN
        have lessP := (asc_split hvs vnd hn).1
        have allP : ∀ x ∈ ns, x < n → x ∈ vs.take i := fun x hx => (asc_split hvs vnd hn).2 x (hvp.mem_iff.mpr hx)
        have tk : vs.take (i + 1) = vs.take i ++ [n] := take_snoc2 hn
        rw [tk]
        refine ⟨_, rfl, (show 1 ≤ sizeLine by decide), fun pT hT => ⟨(show 1 ≤ sizeLine by decide), fun LN hLN => ⟨_, rfl, (show 1 ≤ sizeLine by decide), fun MT hMT => ⟨_, _, rfl, ?_⟩⟩⟩⟩
        have sT := same_new (o := .tup [nmV n]) hT
        have sL := same_new (o := .lst [V.ref pT]) hLN
        have sM := same_new (o := .lst [nmV n]) hMT
        have eT : (upd (upd (upd H' pT (.tup [nmV n])) LN (.lst [V.ref pT])) MT (.lst [nmV n])) pT = some (.tup (wayV [n])) := sM _ _ (sL _ _ upd_same)
        have eL : (upd (upd (upd H' pT (.tup [nmV n])) LN (.lst [V.ref pT])) MT (.lst [nmV n])) LN = some (.lst ([pT].map V.ref)) := sM _ _ upd_same
        have eM : (upd (upd (upd H' pT (.tup [nmV n])) LN (.lst [V.ref pT])) MT (.lst [nmV n])) MT = some (.lst ((([] ++ [[n]] : List (List Nat)).map G11.hd).map nmV)) := upd_same
        have sA := (sT.trans sL).trans sM
        have fL : H' LN = none := sT.free hLN
        have fM : H' MT = none := (sT.trans sL).free hMT
        have LM : LN ≠ MT := fun z => by rw [← z, upd_same] at hMT; cases hMT
        generalize upd (upd (upd H' pT (.tup [nmV n])) LN (.lst [V.ref pT])) MT (.lst [nmV n]) = H1 at eT eL eM sA ⊢
        refine ⟨fun m σ H2 => ∃ D L ps w5 w6, m = ns.length - D.length ∧ σ = [some (.ref d), some v, some (nmV n), some (.ref LN), some (.ref MT), w5, w6] ∧ G11.Bf us n D L ∧ Same H' H2 ∧ H2 LN = some (.lst (ps.map V.ref)) ∧ WyA H2 ps L ∧ H2 MT = some (.lst (((D ++ L).map G11.hd).map nmV)), ⟨_, [], [[n]], [pT], _, _, rfl, rfl, G11.Bf.start us n, sA, eL, .cons eT .nil, eM⟩, ?_⟩
        rintro m σ H2 ⟨D, L, ps, w5, w6, rfl, rfl, Bf, s2, eL, W, eM⟩
        refine ⟨_, rfl, (show 0 ≤ sizeLine by decide), fun q hq => ⟨LN, q, _, rfl, rfl, SqL.of ((same_new hq) _ _ eL), SqL.of upd_same, _, rfl, ?_⟩⟩
        cases W with
        | nil =>
          exact iteN1 ⟨best, v, _, _, _, _, _, (s1.trans s2).trans (same_new hq), hB.same (s2.trans (same_new hq)), B.none fun q hq => G11.Bf.none Bf hq, rfl⟩
        | @cons pw ps w L hw W =>
          have sq := same_new (o := .lst []) hq
          have s2 := s2.trans sq
          have eL := sq _ _ eL
          have eM := sq _ _ eM
          have hw := sq _ _ hw
          have W := W.same sq
          generalize upd H2 q (.lst []) = H2 at s2 eL eM hw W ⊢
          have room := Bf_room Bf hN nN
          obtain ⟨wW, wN, wM⟩ := Bf.way w (List.mem_append_right _ (List.mem_cons_self ..))
          have wIn := wW.in_nodes nN hN.sub
          have hdN : G11.hd w ∈ ns := wIn _ (by
            cases w with
            | nil => exact absurd rfl wW.ne
            | cons a r => exact List.mem_cons_self ..)
          refine iteN0 ⟨fun σ' H' => ∃ m', m' < _ ∧ _, fun _ _ h => h, ?_⟩
          refine ⟨_, rfl, .inl ⟨rfl, _, SqL.of eL⟩, LN, _, 0, 0, _, rfl, rfl, eL, by decide, by decide, by unfold seqIndex?; simp, rfl, ?_⟩
          have eL2 : (upd H2 LN (.lst (((pw :: ps).map V.ref).eraseIdx 0))) LN = some (.lst (ps.map V.ref)) := upd_same
          have s3 : Same H' (upd H2 LN (.lst (((pw :: ps).map V.ref).eraseIdx 0))) := same_sub s2 fL
          have eM3 : (upd H2 LN (.lst (((pw :: ps).map V.ref).eraseIdx 0))) MT = some (.lst (((D ++ w :: L).map G11.hd).map nmV)) := by rw [upd_ne (Ne.symm LM)]; exact eM
          have W3 : WyA (upd H2 LN (.lst (((pw :: ps).map V.ref).eraseIdx 0))) (pw :: ps) (w :: L) := WyA.put eL (.cons hw W)
          generalize upd H2 LN (.lst (((pw :: ps).map V.ref).eraseIdx 0)) = H3 at eL2 s3 eM3 W3 ⊢
          cases W3 with
          | cons hw3 W3 =>
          obtain ⟨U, gU, eU⟩ := (hD1.same (s1.trans s3)).at hdN
          refine ⟨_, rfl, _, rfl, _, rfl, _, rfl, ⟨_, _, _, _, rfl, rfl, SqT.of hw3, way_last wW.ne, _, _, rfl, gU, U, _, rfl, .inl (SqL.of eU), rfl, flat_nm _, _, rfl, ?_⟩⟩
          rw [show (if false = true then !inV (nmV n) ((us (G11.hd w)).map nmV) else inV (nmV n) ((us (G11.hd w)).map nmV)) = decide (n ∈ us (G11.hd w)) from in_nms n8 fun x hx => hN.lt x (hN.sub _ hdN x hx)]
          by_cases c : n ∈ us (G11.hd w)
          · rw [decide_eq_true c]
            have near : G11.Near us n (some w) := ⟨wW, wN, c, fun q hq e => Bf.closes hq e⟩
            have s03 := s1.trans s3
            have hB3 := hB.same s3
            refine iteT ⟨_, rfl, _, rfl, pw, w.reverse, rfl, .inr (SqT.of hw3), by simpa using wW.ne, fun k hk => hN.lt k (wIn k (List.mem_reverse.mp hk)), fun m hm hmin => ⟨rfl, _, rfl, ?_⟩⟩
            have m8 := hN.lt m (wIn m (List.mem_reverse.mp hm))
            have mn : m ≤ n := hmin n (List.mem_reverse.mpr wW.start)
            by_cases c2 : n = m
            · subst c2
              rw [decide_eq_true rfl]
              refine iteT ⟨_, rfl, rfl, _, rfl, ?_⟩
              cases best with
              | none =>
                have ev : v = .non := hB3
                subst ev
                rw [decide_eq_true rfl]
                refine iteT (iteT ⟨_, rfl, some w, _, _, _, _, _, _, s03, ⟨pw, rfl, hw3⟩, B.better near (fun x hx => hmin x (List.mem_reverse.mpr hx)) (fun b e => by cases e), rfl⟩)
              | some b =>
                obtain ⟨pb, rfl, hb⟩ := hB3
                rw [decide_eq_false (fun z => by cases z)]
                refine iteF ⟨_, rfl, _, _, rfl, .inr ⟨_, SqT.of hw3, rfl⟩, _, rfl, _, _, rfl, .inr ⟨_, SqT.of hb, rfl⟩, _, _, rfl, rfl, _, rfl, ?_⟩
                have l1 : (wayV w).length = w.length := by unfold wayV; rw [List.length_map, List.length_reverse]
                have l2 : (wayV b).length = b.length := by unfold wayV; rw [List.length_map, List.length_reverse]
                rw [l1, l2]
                by_cases c3 : w.length < b.length
                · rw [decide_eq_true (show ((w.length : Nat) : Int) < (b.length : Nat) by omega)]
                  exact iteT ⟨_, rfl, some w, _, _, _, _, _, _, s03, ⟨pw, rfl, hw3⟩, B.better near (fun x hx => hmin x (List.mem_reverse.mpr hx)) (fun b' e => by cases e; exact c3), rfl⟩
                · rw [decide_eq_false (show ¬ ((w.length : Nat) : Int) < (b.length : Nat) by omega)]
                  exact iteF ⟨some b, _, _, _, _, _, _, s03, ⟨pb, rfl, hb⟩, B.longer lessP near rfl (by omega), rfl⟩
            · have ne : decide (nmV n = nmV m) = false := decide_eq_false fun z => c2 (nm_inj n8 m8 (by injection z))
              rw [ne]
              exact iteF (iteF ⟨best, _, _, _, _, _, _, s03, hB3, B.lesser lessP allP wIn near ⟨m, List.mem_reverse.mp hm, by omega⟩, rfl⟩)
          rw [decide_eq_false c]
          refine iteF ?_
          refine ⟨_, rfl, _, rfl, _, rfl, _, _, _, _, rfl, rfl, SqT.of hw3, way_last wW.ne, _, _, rfl, gU, U, (us (G11.hd w)).map nm, rfl, SqL.of (by rw [List.map_map]; exact eU), ?_, fun ys pS hperm hsort hpS => ?_⟩
          · rw [List.length_map]
            have := hN.ul _ hdN
            omega
          obtain ⟨ws, rfl, hwp, hws⟩ := sort_nm hperm (fun x hx => hN.lt x (hN.sub _ hdN x hx)) hsort
          refine ⟨pS, rfl, ⟨_, SqL.of upd_same⟩, ?_⟩
          have sS := same_new (o := .lst ((ws.map nm).map V.str)) hpS
          have pL : pS ≠ LN := fun z => by rw [z, eL2] at hpS; cases hpS
          have pM : pS ≠ MT := fun z => by rw [z, eM3] at hpS; cases hpS
          have hdM : ∀ N vs, G11.Tn us n D L w N vs → ∀ x ∈ (D ++ w :: L ++ N).map G11.hd, x ∈ ns := fun N vs T x hx => by
            obtain ⟨z, hz, rfl⟩ := List.mem_map.mp hx
            rcases List.mem_append.mp hz with hz | hz
            · obtain ⟨h1, _⟩ := Bf.way z hz
              refine h1.in_nodes nN hN.sub _ ?_
              cases z with
              | nil => exact absurd rfl h1.ne
              | cons a r => exact List.mem_cons_self ..
            · obtain ⟨u, rfl, hu, _⟩ := T.new z hz
              exact hN.sub _ hdN u hu
          refine for_it walk_list (fun j σ H5 => ∃ N qs v6, σ = [some (.ref d), some v, some (nmV n), some (.ref LN), some (.ref MT), some (.ref pw), v6] ∧ G11.Tn us n D L w N (ws.drop j) ∧ (∀ x ∈ ws.take j, x ∈ (D ++ w :: L ++ N).map G11.hd) ∧ Same H' H5 ∧ H5 pS = some (.lst ((ws.map nm).map V.str)) ∧ H5 pw = some (.tup (wayV w)) ∧ H5 LN = some (.lst ((ps ++ qs).map V.ref)) ∧ WyA H5 (ps ++ qs) (L ++ N) ∧ H5 MT = some (.lst (((D ++ w :: L ++ N).map G11.hd).map nmV)))
            ⟨[], [], w6, rfl, G11.Tn.start us n D L w _, (fun x hx => nomatch hx), s3.trans sS, upd_same, sS _ _ hw3, by rw [List.append_nil]; exact sS _ _ eL2, by rw [List.append_nil, List.append_nil]; exact W3.same sS, by rw [List.append_nil]; exact sS _ _ eM3⟩ (fun j σ H5 _ ⟨_, _, _, _, _, _, _, e, _⟩ => SqL.of e) ?_ ?_
          · rintro j x σ Hx H5 hj ⟨N, qs, v6, rfl, T, hT2, s5, e5, hw5, eL5, W5, eM5⟩ ⟨rfl, hx⟩
            obtain ⟨u, hu2, rfl⟩ : ∃ u, ws[j]? = some u ∧ x = nmV u := by
              rw [List.map_map, List.getElem?_map] at hx
              cases hn : ws[j]? with
              | none => rw [hn] at hx; cases hx
              | some n => rw [hn] at hx; injection hx with hx; exact ⟨n, rfl, hx.symm⟩
            have uU : u ∈ us (G11.hd w) := hwp.mem_iff.mp (List.mem_of_getElem? hu2)
            have u8 := hN.lt u (hN.sub _ hdN u uU)
            obtain ⟨lj, ej⟩ := List.getElem?_eq_some_iff.mp hu2
            have dj : ws.drop j = u :: ws.drop (j + 1) := by rw [← ej, ← List.drop_eq_getElem_cons lj]
            rw [dj] at T
            refine ⟨_, rfl, _, rfl, MT, _, rfl, .inl (SqL.of eM5), rfl, flat_nm _, _, rfl, ?_⟩
            rw [show (if true = true then !inV (nmV u) (((D ++ w :: L ++ N).map G11.hd).map nmV) else inV (nmV u) (((D ++ w :: L ++ N).map G11.hd).map nmV)) = !decide (u ∈ (D ++ w :: L ++ N).map G11.hd) from congrArg (fun b => !b) (in_nms u8 fun x hx => hN.lt x (hdM N _ T x hx))]
            by_cases c5 : u ∈ (D ++ w :: L ++ N).map G11.hd
            · rw [decide_eq_true c5]
              refine iteN1 ⟨N, qs, _, rfl, T.skip, fun x hx => ?_, s5, e5, hw5, eL5, W5, eM5⟩
              rw [take_snoc2 hu2] at hx
              rcases List.mem_append.mp hx with hx | hx
              · exact hT2 x hx
              · rw [List.mem_singleton.mp hx]
                exact c5
            rw [decide_eq_false c5]
            refine iteN0 ⟨_, rfl, .inl ⟨rfl, _, SqL.of eM5⟩, _, rfl, MT, _, _, rfl, rfl, eM5, ?_, ?_⟩
            · have := hN.len
              have h7 := G11.sub_len (Tn_one Bf T) (hdM N _ T)
              rw [List.length_map]
              exact Nat.lt_of_le_of_lt (Nat.le_trans h7 this) (by decide)
            have pwM : pw ≠ MT := fun z => by rw [z, eM5] at hw5; cases hw5
            have s6 := same_sub (o := .lst (((D ++ w :: L ++ N).map G11.hd).map nmV ++ [nmV u])) s5 fM
            have eM6 : (upd H5 MT (.lst (((D ++ w :: L ++ N).map G11.hd).map nmV ++ [nmV u]))) MT = some (.lst (((D ++ w :: L ++ (N ++ [u :: w])).map G11.hd).map nmV)) := by
              rw [upd_same]
              simp [G11.hd]
            have eL6 : (upd H5 MT (.lst (((D ++ w :: L ++ N).map G11.hd).map nmV ++ [nmV u]))) LN = some (.lst ((ps ++ qs).map V.ref)) := by rw [upd_ne LM]; exact eL5
            have hw6 : (upd H5 MT (.lst (((D ++ w :: L ++ N).map G11.hd).map nmV ++ [nmV u]))) pw = some (.tup (wayV w)) := by rw [upd_ne pwM]; exact hw5
            have e6 : (upd H5 MT (.lst (((D ++ w :: L ++ N).map G11.hd).map nmV ++ [nmV u]))) pS = some (.lst ((ws.map nm).map V.str)) := by rw [upd_ne pM]; exact e5
            have W6 : WyA (upd H5 MT (.lst (((D ++ w :: L ++ N).map G11.hd).map nmV ++ [nmV u]))) (ps ++ qs) (L ++ N) := W5.put eM5
            generalize upd H5 MT (.lst (((D ++ w :: L ++ N).map G11.hd).map nmV ++ [nmV u])) = H6 at s6 eM6 eL6 hw6 e6 W6 ⊢
            refine ⟨_, rfl, .inl ⟨rfl, _, SqL.of eL6⟩, _, rfl, pw, _, rfl, .inl (SqT.of hw6), _, rfl, ?_, fun pt hpt => ?_⟩
            · have := G11.sub_len wN wIn
              have := hN.len
              rw [List.length_append]
              unfold wayV
              rw [List.length_map, List.length_reverse]
              exact Nat.le_trans (show w.length + 1 ≤ 8 by omega) (by decide)
            have sp := same_new (o := .tup (wayV w ++ [nmV u])) hpt
            have e7 : (upd H6 pt (.tup (wayV w ++ [nmV u]))) pt = some (.tup (wayV (u :: w))) := by rw [upd_same, way_cons]
            have W7 : WyA (upd H6 pt (.tup (wayV w ++ [nmV u]))) ((ps ++ qs) ++ [pt]) ((L ++ N) ++ [u :: w]) := (W6.same sp).app (.cons e7 .nil)
            have eL7 := sp _ _ eL6
            have eM7 := sp _ _ eM6
            have hw7 := sp _ _ hw6
            have e8 := sp _ _ e6
            have s7 := s6.trans sp
            have pwL : pw ≠ LN := fun z => by rw [z, eL6] at hw6; cases hw6
            refine ⟨LN, _, _, rfl, rfl, eL7, ?_, N ++ [u :: w], qs ++ [pt], _, rfl, ?_, fun x hx => ?_, same_sub s7 fL, ?_, ?_, ?_, ?_, ?_⟩
            · rw [List.length_map, W6.length]
              have h7 := G11.sub_len (Tn_one Bf T) (hdM N _ T)
              simp only [List.length_map, List.length_append, List.length_cons] at h7 ⊢
              have := hN.len
              exact Nat.lt_of_le_of_lt (show L.length + N.length ≤ 8 by omega) (by decide)
            · refine T.put uU c5 fun y hy => ?_
              have h2 := hws
              rw [← List.take_append_drop j ws, dj] at h2
              exact (List.pairwise_cons.mp (List.pairwise_append.mp h2).2.1).1 y hy
            · rw [take_snoc2 hu2] at hx
              rw [← List.append_assoc, List.map_append]
              rcases List.mem_append.mp hx with hx | hx
              · exact List.mem_append_left _ (hT2 x hx)
              · exact List.mem_append_right _ hx
            · rw [upd_ne pL]
              exact e8
            · rw [upd_ne pwL]
              exact hw7
            · rw [upd_same]
              simp
            · rw [← List.append_assoc, ← List.append_assoc]
              exact W7.put eL7
            · rw [upd_ne (Ne.symm LM)]
              exact eM7
          · rintro σ H5 ⟨N, qs, v6, rfl, T, hT2, s5, e5, hw5, eL5, W5, eM5⟩
            rw [List.length_map, List.length_map] at T hT2
            rw [List.drop_length] at T
            rw [List.take_length] at hT2
            have B2 := Bf.tn_end T (fun x hx => hT2 x (hwp.mem_iff.mpr hx)) c
            refine ⟨ns.length - (D ++ [w]).length, by rw [List.length_append]; simp; omega, D ++ [w], L ++ N, ps ++ qs, _, _, rfl, rfl, B2, s5, eL5, W5, ?_⟩
            rw [show D ++ [w] ++ (L ++ N) = D ++ w :: L ++ N by simp]
            exact eM5
      · rintro σ H2 ⟨best, v, v2, v3, v4, v5, v6, s1, hB, B, rfl⟩
        rw [List.length_map, List.length_map, List.take_length] at B
        exact ⟨_, rfl, k _ _ _ _ s1 hB B fun x => hvp.mem_iff⟩
end
/-! ## rules that mention X.K, with K told (for comprehensions) -/
theorem ix_seqK {X : Cx} {K : PySem.W.Frag} (e : X.K = K := by rfl) : IxR X (rIx K) := by
  subst e
  exact ix_seq
def rLenK (K : PySem.W.Frag) : List V → Hp → VK → Prop := fun xs H Q => ∃ x n, xs = [x] ∧ LenV K x H n ∧ Q (.int n) H
theorem call_lenK {X : Cx} {K : PySem.W.Frag} (e : X.K = K := by rfl) : CallR X (.builtin "len") (rLenK K) := by
  subst e
  exact call_len
theorem call_isiK {X : Cx} {K : PySem.W.Frag} (e : X.K = K := by rfl) : CallR X (.builtin "isinstance") (rIsi K) := by
  subst e
  exact call_isi
/-! ## k11: the order -/
namespace G11
inductive Ord (N : List Nat) (us : Nat → List Nat) : List Nat → Prop
  | nil : Ord N us []
  | step {F : List Nat} {m : Nat} (h : Ord N us F) (hm : m ∈ freeL N us F) (hl : ∀ k ∈ freeL N us F, m ≤ k) : Ord N us (F ++ [m])
theorem Ord.ok {N : List Nat} {us : Nat → List Nat} {F : List Nat} (h : Ord N us F) : F.Nodup ∧ ∀ x ∈ F, x ∈ N := by
  induction h with
  | nil => exact ⟨.nil, (fun _ h => nomatch h)⟩
  | @step F m h hm hl ih =>
    obtain ⟨h1, h2, _⟩ := freeL_mem.mp hm
    refine ⟨List.nodup_append.mpr ⟨ih.1, by simp, fun x hx y hy e => h2 ?_⟩, fun x hx => ?_⟩
    · rw [← List.mem_singleton.mp hy, ← e]
      exact hx
    · rcases List.mem_append.mp hx with hx | hx
      · exact ih.2 x hx
      · rw [List.mem_singleton.mp hx]
        exact h1
theorem Ord.cut {N : List Nat} {us : Nat → List Nat} {F : List Nat} (h : Ord N us F) : F = [] ∨ ∃ G m, F = G ++ [m] ∧ Ord N us G ∧ m ∈ freeL N us G ∧ ∀ k ∈ freeL N us G, m ≤ k := by
  cases h with
  | nil => exact .inl rfl
  | step h hm hl => exact .inr ⟨_, _, rfl, h, hm, hl⟩
theorem Ord.det {N : List Nat} {us : Nat → List Nat} {F : List Nat} (h : Ord N us F) : ∀ {G : List Nat}, Ord N us G → F.length = G.length → F = G := by
  induction h with
  | nil =>
    intro G _ e
    exact (List.length_eq_zero_iff.mp e.symm).symm
  | @step F m h hm hl ih =>
    intro G hG e
    rcases hG.cut with rfl | ⟨G', m', rfl, g1, g2, g3⟩
    · simp at e
    · have : F = G' := ih g1 (by simpa using e)
      subst this
      have a := hl m' g2
      have b := g3 m hm
      have : m = m' := by omega
      rw [this]
theorem freeL_same {N N' : List Nat} {us : Nat → List Nat} (hN : ∀ x, x ∈ N ↔ x ∈ N') {F : List Nat} {n : Nat} : n ∈ freeL N us F ↔ n ∈ freeL N' us F := by
  rw [freeL_mem, freeL_mem, hN]
theorem Ord.same {N N' : List Nat} {us : Nat → List Nat} (hN : ∀ x, x ∈ N ↔ x ∈ N') {F : List Nat} (h : Ord N us F) : Ord N' us F := by
  induction h with
  | nil => exact .nil
  | step h hm hl ih => exact .step ih ((freeL_same hN).mp hm) fun k hk => hl k ((freeL_same hN).mpr hk)
theorem Ord.ring {N : List Nat} {us : Nat → List Nat} {F : List Nat} (h : Ord N us F) {s : Nat} {r : List Nat} (hr : Ring us s r) : ∀ x ∈ r, x ∉ F := by
  induction h with
  | nil => exact fun x _ h => nomatch h
  | step h hm hl ih => exact ring_out hr ih hm
/-- all told and a ring: not both -/
theorem Ord.full {N : List Nat} {us : Nat → List Nat} {F : List Nat} (h : Ord N us F) (hl : F.length = N.length) (hN : N.Nodup) {s : Nat} {r : List Nat} (hr : Ring us s r) (hs : s ∈ N) : False := by
  by_cases c : s ∈ F
  · exact h.ring hr s hr.way.start c
  · have := sub_len (l := s :: F) (N := N) (List.nodup_cons.mpr ⟨c, h.ok.1⟩) fun x hx => by
      rcases List.mem_cons.mp hx with rfl | hx
      · exact hs
      · exact h.ok.2 x hx
    rw [List.length_cons] at this
    omega
theorem more_left {N F : List Nat} (hN : N.Nodup) (hl : F.length < N.length) (hF : F.Nodup) : ∃ x ∈ N, x ∉ F := by
  by_cases c : ∀ x ∈ N, x ∈ F
  · have := sub_len hN c
    omega
  · simp only [Classical.not_forall] at c
    obtain ⟨x, hx, h⟩ := c
    exact ⟨x, hx, h⟩
end G11
/-- a dict comprehension over what is walked -/
theorem dc_it {J : It} {n : Nat} {GG : Hp → Prop} {Y : Nat → Hp → V → Hp → Prop} (w : Walk J n GG Y) {g : TG} {tt : TT} {tk tv : TE} {vs : List Nat} {σ : L2.St} {H1 : Hp} {D : Addr} {Qd : Hp → Prop} (Pv : Nat → Hp → Prop) (h0 : Pv 0 (upd H1 D (.dK []))) (hG : ∀ i H, i ≤ n → Pv i H → GG H)
    (hs : ∀ i x H H', i < n → Pv i H → Y i H x H' → g x (wipe σ vs) H' fun σ2 H2 => wipe σ2 vs = wipe σ vs ∧ tt σ2 H2 fun b H3 =>
      if b = true then tk σ2 H3 fun y H4 => tv σ2 H4 fun z H5 => ∃ kvs k, y = kV k ∧ H5 D = some (.dK kvs) ∧ kvs.length < sizeLine ∧ Pv (i + 1) (upd H5 D (.dK (putK kvs k z))) else Pv (i + 1) H3) (hd : ∀ H, Pv n H → Qd H) :
    ∃ W : Nat → Nat → Hp → Prop, (∃ m, W 0 m (upd H1 D (.dK []))) ∧ ∀ i m H, W i m H →
      (J.stop i H ∧ Qd H) ∨ (J.go i H ∧ ∃ Nx : Hp → Prop, (∀ H', Nx H' → ∃ m', m' < m ∧ W (i + 1) m' H') ∧ ∀ x H', J.yld i H x H' → g x (wipe σ vs) H' fun σ2 H2 => wipe σ2 vs = wipe σ vs ∧ tt σ2 H2 fun b H3 =>
        if b = true then tk σ2 H3 fun y H4 => tv σ2 H4 fun z H5 => ∃ kvs k, y = kV k ∧ H5 D = some (.dK kvs) ∧ kvs.length < sizeLine ∧ Nx (upd H5 D (.dK (putK kvs k z))) else Nx H3) := by
  refine ⟨fun i m H => m = n - i ∧ i ≤ n ∧ Pv i H, ⟨n, by simp, Nat.zero_le _, h0⟩, ?_⟩
  rintro i m H ⟨rfl, hi, p⟩
  have q := hG i H hi p
  by_cases hlt : i < n
  · exact .inr ⟨w.goes i H hlt q, Pv (i + 1), fun H' p' => ⟨n - (i + 1), by omega, rfl, hlt, p'⟩, fun x H' y => hs i x H H' hlt p (w.yields i H x H' hlt q y)⟩
  · have e : i = n := by omega
    subst e
    exact .inl ⟨w.stops H q, hd H p⟩
theorem pi_listK {X : Cx} {K : PySem.W.Frag} {tg e : Expr} {te : TE} (he : PE X e te) (e2 : X.K = K := by rfl) : PI X tg e (iList K te) := by
  subst e2
  exact pi_list he
def rListOf (K : PySem.W.Frag) : List V → Hp → VK → Prop := fun xs H Q => ∃ p ys, xs = [.ref p] ∧ (SqL K H p ys ∨ SqT K H p ys) ∧ ∀ l, H l = none → Q (.ref l) (upd H l (.lst ys))
theorem call_list_ofK {X : Cx} {K : PySem.W.Frag} (e : X.K = K := by rfl) : CallR X (.type "list") (rListOf K) := by
  subst e
  exact call_list_of
theorem cr_allK {X : Cx} {K : PySem.W.Frag} (hc : X.calm = true) (e : X.K = K := by rfl) : CallR X (.builtin "all") (rAll K) := by
  subst e
  exact cr_all hc
theorem op_in_seqK {X : Cx} {K : PySem.W.Frag} (e : X.K = K := by rfl) : OpR X (compareOp .In) (rIn K false) := by
  subst e
  exact op_in_seq
theorem op_notIn_seqK {X : Cx} {K : PySem.W.Frag} (e : X.K = K := by rfl) : OpR X (compareOp .NotIn) (rIn K true) := by
  subst e
  exact op_notIn_seq
def uOf (us : Nat → List Nat) (n : Nat) : Str × List Str := (nm n, (us n).map nm)
theorem UtX.get {K : PySem.W.Frag} {H : Hp} {x : V} {p : Str × List Str} (h : UtX K H x (some p)) : ∃ a b e1 e2, x = .ref a ∧ H a = some (.tup [.str "unit", .str p.1, .ref b, .ref e1, .ref e2]) ∧ H b = some (.tup (p.2.map V.str)) := by
  cases h with
  | one h hb _ _ _ _ _ _ => exact ⟨_, _, _, _, rfl, h, hb⟩
theorem us_at {us : Nat → List Nat} {ns : List Nat} {i : Nat} {o : Option (Str × List Str)} (h : (ns.map fun n => some (uOf us n))[i]? = some o) : ∃ n, ns[i]? = some n ∧ o = some (uOf us n) := by
  rw [List.getElem?_map] at h
  cases e : ns[i]? with
  | none => rw [e] at h; cases h
  | some n => rw [e] at h; injection h with h; exact ⟨n, rfl, h.symm⟩
theorem nmV_map (l : List Nat) : (l.map nm).map V.str = l.map nmV := by rw [List.map_map]; rfl
def keyN (n : Nat) : Key := Sum.inr (nm n)
theorem keyN_inj {i j : Nat} (hi : i < 8) (hj : j < 8) (h : keyN i = keyN j) : i = j := nm_inj hi hj (by injection h)
def relab (scope sc0 : Scope) : Scope := { scope with names := scope.names.map fun (n, k) => if (k == .free && sc0.kind == .function && sc0.names.lookup n == some .cell) then (n, .cell) else (n, k) }
theorem blkOk_in {N : List Str} {scope0 sc0 scope : Scope} {own : List (Str × Nat)} {cl : List (Str × Addr)} {C : Addr} {env : Env} (h : blkC N (relab scope0 sc0) scope own = true) (e : env.scope = sc0 := by rfl) : BlkOk N (compEnvC scope0 cl C env).scope scope own := by
  subst e
  exact blkOk_by h
/-- what ends in an error -/
def NeedB (C CN : Addr) (os : List (Option (Str × List Str))) (H : Hp) (E : XK) : Prop :=
  (os = [] ∧ flE "at" C .non H E) ∨ (os ≠ [] ∧ ((∃ i, BadAt os i ∧ flE "at" C (.int ((i : Nat) : Int)) H E) ∨ ∃ ps : Prs, os = ps.map some ∧ (nms ps).Nodup ∧ ∃ z, MissAt ps z ∧ flE "name" CN (.str z) H E))
theorem NeedB.to {C CN : Addr} {os : List (Option (Str × List Str))} {H : Hp} {E : XK} {Q : VK} (h : NeedB C CN os H E) : NeedR C CN os H Q E := by
  rcases h with h | ⟨h, h2 | ⟨ps, a, b, z, c⟩⟩
  · exact .inl h
  · exact .inr ⟨h, .inl h2⟩
  · exact .inr ⟨h, .inr ⟨ps, a, b, .inr ⟨z, c⟩⟩⟩
theorem nms_of {us : Nat → List Nat} (ns : List Nat) : nms (ns.map (uOf us)) = ns.map nm := by
  unfold nms
  rw [List.map_map]
  rfl
theorem Nts.nd {ns : List Nat} {us : Nat → List Nat} (N : Nts ns us) : (ns.map nm).Nodup := by
  have h8 := N.lt
  have h1 := N.one
  clear N
  induction ns with
  | nil => exact .nil
  | cons n ns ih =>
    rw [List.nodup_cons] at h1
    rw [List.map_cons, List.nodup_cons]
    refine ⟨fun h => ?_, ih (fun x hx => h8 x (List.mem_cons_of_mem _ hx)) h1.2⟩
    obtain ⟨m, hm, e⟩ := List.mem_map.mp h
    rw [nm_inj (h8 m (List.mem_cons_of_mem _ hm)) (h8 n (List.mem_cons_self ..)) e] at hm
    exact h1.1 hm
theorem Nts.need {C CN : Addr} {ns : List Nat} {us : Nat → List Nat} {H : Hp} {Q : VK} {E : XK} (N : Nts ns us) (hne : ns ≠ []) (k : ∀ H', Same H H' → Q .non H') : NeedR C CN (ns.map fun n => some (uOf us n)) H Q E := by
  refine .inr ⟨by simpa using hne, .inr ⟨ns.map (uOf us), by rw [List.map_map]; rfl, by rw [nms_of]; exact N.nd, .inl ⟨fun p hp y hy => ?_, k⟩⟩⟩
  obtain ⟨n, hn, rfl⟩ := List.mem_map.mp hp
  obtain ⟨m, hm, rfl⟩ := List.mem_map.mp hy
  rw [nms_of]
  exact List.mem_map.mpr ⟨m, N.sub n hn m hm, rfl⟩
def OrdR (CR : Addr) (ns : List Nat) (us : Nat → List Nat) (H : Hp) (Q : VK) (E : XK) : Prop :=
  (∀ (H' : Hp) (r : Addr) (F : List Nat), Same H H' → H' r = some (.tup (F.map nmV)) → G11.Ord ns us F → F.length = ns.length → Q (.ref r) H') ∧
  ∀ (H1 : Hp) (v : V) (P : List Nat) (best : Option (List Nat)), Same H H1 → BestV H1 v best → G11.Bst us P best → (∀ x, x ∈ P ↔ x ∈ ns) → (∃ m r, G11.Ring us m r ∧ m ∈ ns) → flE "ring" CR v H1 E
def spOrd (K : PySem.W.Frag) (C CN CR : Addr) : Sp := fun vs H Q E => ∃ x, vs = [x] ∧ ((NsV H x ∧ flE "at" C .non H E) ∨ ∃ a xs os, x = .ref a ∧ SeqH H a xs ∧ UtA K H xs os ∧ os.length ≤ 1000 ∧
  (NeedB C CN os H E ∨ ∃ ns us, os = ns.map (fun n => some (uOf us n)) ∧ ns ≠ [] ∧ Nts ns us ∧ OrdR CR ns us H Q E))
section
variable {P : Program} {w : World} {K : PySem.W.Frag} {mg : Str → Option Value} {base : Heap}
theorem sc_order_of : FnScope ["units", "uses", "unit", "found", "free", "name", "used"] ["units"] (defScope s_order_of) := ⟨rfl, rfl, rfl, by decide +kernel, rfl, by decide +kernel, by decide +kernel⟩
theorem ok_order {f C CN CR : Addr} {fd : FuncData} (F : FnP K "order_of" s_order_of f fd) (c_need_units : CalX P w K mg base 4 "need_units" ["units"] (spNeedU K C CN)) (c_least_ring : Cal P w K mg base 1 "least_ring" ["uses"] spRing) (G : NkF K mg) (BR : Ix1 P w K mg base "UsesRing" CR "ring") (tup : mg "tuple" = none) (lis : mg "list" = none) (m_all : mg "all" = none) (m_min : mg "min" = none) :
    FnOk P w K mg base (L2.CX P w) 5 f fd ["units"] (spOrd K C CN CR) := by
  obtain ⟨f_need_units, fd_need_units, g_need_units, k_need_units, b_need_units, G_need_units⟩ := c_need_units
  obtain ⟨f_least_ring, fd_least_ring, g_least_ring, k_least_ring, b_least_ring, G_least_ring⟩ := c_least_ring
  obtain ⟨fi, fdi, iC, tI, OI, bi⟩ := BR.i
  refine F.ok sc_order_of (fun vs H Q E h => ?_) (fun cdv A outer s H vs Q E hr h => ?_)
  · obtain ⟨x, rfl, _⟩ := h
    rfl
  · obtain ⟨x, rfl, h⟩ := h
    have nd := sc_order_of.nd
    have hu := hu_of hr
    apply Exists.intro
    apply And.intro
    case left =>
     apply pss_cons
     · exact (ps_expr (pe_call G_need_units (hr.mono (by decide)) rfl g_need_units k_need_units b_need_units .nil (passes_call (takes_of rfl rfl rfl rfl) (fun _ _ _ _ h => h)) (pa_cons (pv 0) pa_nil)))
     apply pss_cons
     · exact (ps_set (i := 1) nd rfl (.inr rfl) (pe_dc (own := [("unit", 2)]) (g := gName 2) rfl nd (pi_or (pi_list (pv 0)) (pi_tup (pv 0))) (blkOk_by (own := [("unit", 2)]) (N := ["units", "uses", "unit", "found", "free", "name", "used"]) (sc := defScope s_order_of) (by decide +kernel)) (fun _ _ _ _ _ => (pg_name (i := 2) nd rfl (Or.inl rfl))) (fun _ _ _ _ _ => pts_nil) (fun _ _ _ _ _ => (pe_ix (ix_seqK (K := K)) (pv 2) pe_int (fun _ _ => rfl))) (fun _ _ _ _ _ => (pe_callTy call_list_ofK (by rfl) lis (by decide +kernel) (pa_cons (pe_ix (ix_seqK (K := K)) (pv 2) pe_int (fun _ _ => rfl)) pa_nil)))))
     apply pss_cons
     · exact (ps_set (i := 3) nd rfl (.inr rfl) (pe_lst pa_nil))
     apply pss_cons
     · apply ps_while (passes_of rfl)
       · exact (pt_cmpR op_lt (pe_callB call_len (by rfl) G.len PySem.boot_len (pa_cons (pv 3) pa_nil)) (pe_callB call_lenD (by rfl) G.len PySem.boot_len (pa_cons (pv 1) pa_nil)) (nomark _))
       · apply pss_cons
         · exact (ps_lock (ps_setLc (i := 4) (own := [("name", 5)]) (g := gName 5) rfl nd rfl rfl (sw_true rfl rfl rfl (by decide +kernel)) (pi_keys (pv 1)) (blkOk_by (own := [("name", 5)]) (N := ["units", "uses", "unit", "found", "free", "name", "used"]) (sc := defScope s_order_of) (by decide +kernel)) (fun _ _ _ _ _ => (pg_name (i := 5) nd rfl (Or.inl rfl))) (fun _ _ _ _ _ => pts_one (PW.pt (pw_and (pt_cmpR op_notIn_seqK (pv 5) (pv 3) (by rfl)) (pw_and1 (pt_val (pe_callB (cr_allK rfl) (by rfl) m_all (by decide +kernel) (pa_cons (pe_lc (own := [("used", 6)]) (g := gName 6) rfl nd (pi_listK (K := K) (pe_dget (by exact hu) (pv 1) (pv 5) (fun _ _ => rfl))) (blkOk_in (own := [("used", 6)]) (N := ["units", "uses", "unit", "found", "free", "name", "used"]) (sc0 := defScope s_order_of) (by decide +kernel)) (fun _ _ _ _ _ => (pg_name (i := 6) nd rfl (Or.inl rfl))) (fun _ _ _ _ _ => pts_nil) (fun _ _ _ _ _ => (pe_cmpR op_in_seqK (pv 6) (pv 3) (by rfl)))) pa_nil))))))) (fun _ _ _ _ _ => (pv 5))))
         apply pss_cons
         · exact (ps_if (pt_cmpR (op_eqEL (Nat.lt_of_le_of_lt (Nat.le_add_right _ 64) hr.units)) (pv 4) (pe_lst pa_nil) (nomark _)) (pss_one (ps_raise rfl (takes_of rfl rfl rfl rfl) (pmk_oex BR.o iC tI OI (hr.mono (show 2 ≤ 4 by decide)) bi .nil pass0 rfl BR.g (pa_cons (pe_call G_least_ring (hr.mono (by decide)) rfl g_least_ring k_least_ring b_least_ring .nil pass0 (pa_cons (pv 1) pa_nil)) pa_nil)))) pss_nil)
         apply pss_one
         exact (ps_expr (pe_bm PySem.F.plainAttrs_list PySem.F.slot_list_append PySem.F.type_list_append mt_append (pv 3) (pa_cons (pe_callB (cr_minN rfl) (by rfl) m_min (by decide +kernel) (pa_cons (pv 4) pa_nil)) pa_nil)))
     apply pss_one
     exact (ps_ret (pe_callTy call_tuple_of (by rfl) tup (by decide +kernel) (pa_cons (pv 3) pa_nil)))
    case right =>
      rcases h with ⟨h1, h2⟩ | ⟨a, xs, os, rfl, hS, hA, hl, h⟩
      · exact ⟨_, rfl, _, rfl, .inl ⟨h1, h2⟩⟩
      rcases h with h | ⟨ns, us, rfl, hne, hN, hq⟩
      · exact ⟨_, rfl, _, rfl, .inr ⟨a, xs, os, rfl, hS, hA, hl, h.to⟩⟩
      refine ⟨_, rfl, _, rfl, .inr ⟨a, xs, _, rfl, hS, hA, hl, hN.need hne fun H1 s1 => ?_⟩⟩
      refine ior_seqB rfl hS s1 fun J GG hw hG => fun D hD => ?_
      have hlx : xs.length = ns.length := by rw [hA.1, List.length_map]
      refine dc_it hw (fun i H' => ∃ kvs, H' D = some (.dK kvs) ∧ kvs.map (·.1) = (ns.take i).map keyN ∧ (∀ n ∈ ns.take i, ∃ L, valV kvs (keyN n) = some (.ref L) ∧ H' L = some (.lst ((us n).map nmV))) ∧ Same H1 H') ⟨[], upd_same, rfl, (fun _ h => nomatch h), same_new hD⟩ (fun i H' _ ⟨_, _, _, _, s2⟩ => hG _ (s1.trans s2)) ?_ ?_
      · rintro i x Hx H' hi ⟨kvs, eD, hk, hv, s2⟩ ⟨rfl, hx⟩
        obtain ⟨o, ho, hu2⟩ := hA.2 _ _ hx
        obtain ⟨n, hn, rfl⟩ := us_at ho
        obtain ⟨a2, b, e1, e2, rfl, h2, hb⟩ := hu2.get
        have s12 := s1.trans s2
        have n8 := hN.lt n (List.mem_of_getElem? hn)
        refine ⟨rfl, yesIf ⟨_, rfl, .inr (.inl ⟨_, _, _, _, rfl, rfl, SqT.of (s12 _ _ h2), atI_nat (j := 1) rfl, ?_⟩)⟩⟩
        refine ⟨_, rfl, .inr (.inl ⟨_, _, _, _, rfl, rfl, SqT.of (s12 _ _ h2), atI_nat (j := 2) rfl, b, _, rfl, .inr (SqT.of (s12 _ _ hb)), fun l hl => ?_⟩)⟩
        have sl := same_new (o := .lst ((uOf us n).2.map V.str)) hl
        have lk : kvs.length = (ns.take i).length := by
          have := congrArg List.length hk
          rwa [List.length_map, List.length_map] at this
        have nin : valV kvs (keyN n) = none := by
          cases e : valV kvs (keyN n) with
          | none => rfl
          | some v =>
            have := valV_in e
            rw [hk] at this
            obtain ⟨m, hm, e2⟩ := List.mem_map.mp this
            have e3 := keyN_inj (hN.lt m (List.mem_of_mem_take hm)) n8 e2
            subst e3
            have h7 : (ns.take (i + 1)).Nodup := List.Nodup.sublist (List.take_sublist _ _) hN.one
            rw [take_snoc2 hn] at h7
            exact ((List.nodup_append.mp h7).2.2 m hm m (List.mem_singleton.mpr rfl) rfl).elim
        refine ⟨kvs, keyN n, rfl, sl _ _ eD, ?_, ?_⟩
        · have h7 := hN.len
          have := List.length_take_le' i ns
          exact Nat.lt_of_le_of_lt (show kvs.length ≤ 7 by omega) (by decide)
        have lD : l ≠ D := fun z => by rw [z, eD] at hl; cases hl
        refine ⟨_, upd_same, ?_, fun m hm => ?_, ?_⟩
        · rw [putK_new _ nin, List.map_append, hk, take_snoc2 hn, List.map_append]
          rfl
        · rw [take_snoc2 hn] at hm
          rw [valV_put]
          rcases List.mem_append.mp hm with hm | hm
          · obtain ⟨L, g1, g2⟩ := hv m hm
            have : ¬ keyN m = keyN n := fun z => by rw [z, nin] at g1; cases g1
            refine ⟨L, by rw [if_neg this]; exact g1, ?_⟩
            have LD : L ≠ D := fun z => by rw [z, eD] at g2; cases g2
            rw [upd_ne LD]
            exact sl _ _ g2
          · rw [List.mem_singleton.mp hm]
            refine ⟨l, by rw [if_pos rfl], ?_⟩
            rw [upd_ne lD, upd_same, ← nmV_map]
            rfl
        · exact same_sub (s2.trans sl) hD
      rintro H2 ⟨kvs, eD, hk, hv, s2⟩
      rw [hlx, List.take_length] at hk hv
      have s02 := s1.trans s2
      refine ⟨(show 0 ≤ sizeLine by decide), fun FL hFL => ?_⟩
      have s3 := s02.trans (same_new (o := .lst []) hFL)
      have eD3 := (same_new (o := .lst []) hFL) _ _ eD
      have hv3 : ∀ n ∈ ns, ∃ L, valV kvs (keyN n) = some (.ref L) ∧ (upd H2 FL (.lst [])) L = some (.lst ((us n).map nmV)) := fun n hn => by
        obtain ⟨L, g1, g2⟩ := hv n hn
        exact ⟨L, g1, (same_new hFL) _ _ g2⟩
      have lk : kvs.length = ns.length := by
        have := congrArg List.length hk
        rwa [List.length_map, List.length_map] at this
      refine ⟨fun m σ H' => ∃ F v4, m = ns.length - F.length ∧ σ = [some (.ref a), some (.ref D), none, some (.ref FL), v4, none, none] ∧ G11.Ord ns us F ∧ Same H2 H' ∧ H' FL = some (.lst (F.map nmV)), ⟨_, [], _, rfl, rfl, .nil, same_new hFL, upd_same⟩, ?_⟩
      rintro m σ Hb ⟨F, v4, rfl, rfl, hF, s4, eF⟩
      have eDb := s4 _ _ eD
      have s04 := s02.trans s4
      have hFN := G11.sub_len hF.ok.1 hF.ok.2
      have h7 := hN.len
      have F8 : ∀ x ∈ F, x < 8 := fun x hx => hN.lt x (hF.ok.2 x hx)
      have FD : FL ≠ D := fun z => by rw [z, eD] at hFL; cases hFL
      refine ⟨_, rfl, _, _, rfl, .inl ⟨_, SqL.of eF, rfl⟩, _, rfl, _, _, rfl, eDb, _, _, rfl, rfl, _, rfl, ?_⟩
      rw [List.length_map, lk]
      by_cases c : F.length < ns.length
      rotate_left
      · rw [decide_eq_false (show ¬ ((F.length : Nat) : Int) < (ns.length : Nat) by omega)]
        refine iteF ⟨_, rfl, FL, _, rfl, .inl ⟨SqL.of eF, fun l hl => ?_⟩⟩
        exact hq.1 _ l F (s04.trans (same_new hl)) upd_same hF (by omega)
      rw [decide_eq_true (show ((F.length : Nat) : Int) < (ns.length : Nat) by omega)]
      refine iteT ⟨fun σ' H' => ∃ m', m' < _ ∧ _, fun _ _ h => h, ?_⟩
      refine ⟨D, _, eDb, trivial, fun od => ?_⟩
      refine ⟨_, rfl, D, od, rfl, .inl ⟨kvs, upd_same, fun LD hLD => ?_⟩⟩
      have LDD : LD ≠ D := fun z => by rw [z, upd_same] at hLD; cases hLD
      have hLb : Hb LD = none := by rw [upd_ne LDD] at hLD; exact hLD
      refine lc_it walk_keys (fun i H' => H' D = some (.frz od (.dK kvs)) ∧ H' LD = some (.lst ((G11.freeL (ns.take i) us F).map nmV)) ∧ ∀ b o, b ≠ D → Hb b = some o → H' b = some o) ?_ (fun i H' _ h => h.1) ?_ ?_
      · refine ⟨by rw [upd_ne (Ne.symm LDD)]; exact upd_same, upd_same, fun b o nb e => ?_⟩
        have : b ≠ LD := fun z => by rw [z, hLb] at e; cases e
        rw [upd_ne this, upd_ne nb]
        exact e
      · rintro i x Hx H' hi ⟨f1, f2, f3⟩ ⟨rfl, kk, v, hkv, rfl⟩
        obtain ⟨n, hn, rfl⟩ : ∃ n, ns[i]? = some n ∧ kk = keyN n := by
          have := congrArg (fun l => l[i]?) hk
          rw [List.getElem?_map, List.getElem?_map, hkv] at this
          cases e : ns[i]? with
          | none => rw [e] at this; cases this
          | some n => rw [e] at this; injection this with this; exact ⟨n, rfl, this⟩
        have nN := List.mem_of_getElem? hn
        have n8 := hN.lt n nN
        have fr : G11.freeL (ns.take (i + 1)) us F = G11.freeL (ns.take i) us F ++ (if (!decide (n ∈ F) && (us n).all fun m => decide (m ∈ F)) = true then [n] else []) := by
          unfold G11.freeL
          rw [take_snoc2 hn, List.filter_append]
          congr 1
          rw [List.filter_cons, List.filter_nil]
        refine ⟨rfl, ?_⟩
        have eF' := f3 _ _ FD eF
        refine ⟨_, rfl, _, rfl, FL, _, rfl, .inl (SqL.of eF'), rfl, flat_nm _, _, rfl, ?_⟩
        rw [show (if true = true then !inV (kV (keyN n)) (F.map nmV) else inV (kV (keyN n)) (F.map nmV)) = !decide (n ∈ F) from congrArg (fun b => !b) (in_nms n8 F8)]
        by_cases c2 : n ∈ F
        · rw [decide_eq_true c2] at fr ⊢
          refine iteF (iteF ⟨f1, ?_, f3⟩)
          rw [fr]
          simpa using f2
        rw [decide_eq_false c2] at fr ⊢
        obtain ⟨L, g1, g2⟩ := hv n nN
        have LD2 : L ≠ D := fun z => by rw [z, eD] at g2; cases g2
        have eL := f3 _ _ LD2 (s4 _ _ g2)
        refine iteT ⟨_, rfl, _, rfl, D, .ref L, rfl, .inl ⟨kvs, keyN n, .inr ⟨od, f1⟩, rfl, g1.symm⟩, L, rfl, ⟨_, SqL.of eL⟩, fun LE hLE => ?_⟩
        refine lc_list (K := K) (a := L) (xs := (us n).map nmV) (fun j H6 => Same H' H6 ∧ H6 LE = some (.lst (((us n).take j).map fun m => V.bl (decide (m ∈ F))))) ⟨same_new hLE, upd_same⟩ (fun j H6 _ h => SqL.of (h.1 _ _ eL)) ?_ ?_
        · rintro j y H6 hy ⟨s6, e6⟩
          obtain ⟨m, hm, rfl⟩ : ∃ m, (us n)[j]? = some m ∧ y = nmV m := by
            rw [List.getElem?_map] at hy
            cases e : (us n)[j]? with
            | none => rw [e] at hy; cases hy
            | some m => rw [e] at hy; injection hy with hy; exact ⟨m, rfl, hy.symm⟩
          have m8 := hN.lt m (hN.sub n nN m (List.mem_of_getElem? hm))
          refine ⟨rfl, yesIf ⟨_, rfl, _, rfl, FL, _, rfl, .inl (SqL.of (s6 _ _ eF')), rfl, flat_nm _, _, e6, ?_, same_sub s6 hLE, ?_⟩⟩
          · rw [List.length_map]
            have := hN.ul n nN
            have := List.length_take_le' j (us n)
            exact Nat.lt_of_le_of_lt (show ((us n).take j).length ≤ 7 by omega) (by decide)
          · rw [upd_same, take_snoc2 hm, List.map_append]
            rw [show (if false = true then !inV (nmV m) (F.map nmV) else inV (nmV m) (F.map nmV)) = decide (m ∈ F) from in_nms m8 F8]
            rfl
        · rintro H6 ⟨s6, e6⟩
          rw [List.length_map, List.take_length] at e6
          refine ⟨LE, (us n).map fun m => decide (m ∈ F), rfl, SqL.of (by rw [List.map_map]; exact e6), _, rfl, ?_⟩
          rw [show ((us n).map fun m => decide (m ∈ F)).all id = (us n).all fun m => decide (m ∈ F) by rw [List.all_map]; rfl]
          have f2' := s6 _ _ f2
          have f3' : ∀ b o, b ≠ D → Hb b = some o → H6 b = some o := fun b o nb e => s6 _ _ (f3 b o nb e)
          cases hc : (us n).all fun m => decide (m ∈ F) with
          | false =>
            rw [hc] at fr
            refine iteF ⟨s6 _ _ f1, ?_, f3'⟩
            rw [fr]
            simpa using f2'
          | true =>
            rw [hc] at fr
            refine iteT ⟨_, rfl, _, f2', ?_, ?_, ?_, fun b o nb e => ?_⟩
            · rw [List.length_map]
              have h9 : (G11.freeL (ns.take i) us F).length ≤ (ns.take i).length := List.length_filter_le _ _
              have := List.length_take_le' i ns
              exact Nat.lt_of_le_of_lt (show (G11.freeL (ns.take i) us F).length ≤ 7 by omega) (by decide)
            · rw [upd_ne (Ne.symm LDD)]
              exact s6 _ _ f1
            · rw [upd_same, fr]
              simp
              rfl
            · have : b ≠ LD := fun z => by rw [z, hLb] at e; cases e
              rw [upd_ne this]
              exact f3' b o nb e
      · rintro H5 ⟨f1, f2, f3⟩
        rw [lk, List.take_length] at f2
        refine ⟨f1, ?_⟩
        have sb : Same Hb (upd H5 D (.dK kvs)) := fun b o e => by
          by_cases z : b = D
          · subst z
            rw [upd_same, ← e, eDb]
          · rw [upd_ne z]
            exact f3 b o z e
        have f2 : (upd H5 D (.dK kvs)) LD = some (.lst ((G11.freeL ns us F).map nmV)) := by rw [upd_ne LDD]; exact f2
        generalize upd H5 D (.dK kvs) = H6 at sb f2 ⊢
        refine ⟨_, rfl, (show 0 ≤ sizeLine by decide), fun q hq2 => ⟨LD, q, _, rfl, rfl, SqL.of ((same_new hq2) _ _ f2), SqL.of upd_same, _, rfl, ?_⟩⟩
        have sq := sb.trans (same_new (o := .lst []) hq2)
        have f2 := (same_new (o := .lst []) hq2) _ _ f2
        generalize upd H6 q (.lst []) = H7 at sq f2 ⊢
        by_cases c3 : G11.freeL ns us F = []
        · rw [c3]
          refine iteT ⟨_, rfl, D, ns, us, rfl, ⟨kvs, sq _ _ eDb, hk, fun n hn => ?_⟩, hN, fun H8 v P best s8 hB hBst hP => raise_i1 ?_⟩
          · obtain ⟨L, g1, g2⟩ := hv n hn
            exact ⟨L, g1, sq _ _ (s4 _ _ g2)⟩
          · obtain ⟨x0, h0, h0F⟩ := G11.more_left hN.one c hF.ok.1
            obtain ⟨m, r, hr1, hr2⟩ := G11.stuck hN.sub h0 h0F c3
            exact hq.2 H8 v P best ((s04.trans sq).trans s8) hB hBst hP ⟨m, r, hr1, hr2⟩
        · have ne : ((G11.freeL ns us F).map nmV).isEmpty = false := by
            cases e : G11.freeL ns us F with
            | nil => exact absurd e c3
            | cons _ _ => rfl
          rw [ne]
          have eF7 := sq _ _ eF
          refine iteF ⟨_, rfl, .inl ⟨rfl, _, SqL.of eF7⟩, _, rfl, LD, _, rfl, .inl (SqL.of f2), c3, fun k hk2 => hN.lt k (G11.freeL_mem.mp hk2).1, fun m hm hmin => ⟨FL, _, _, rfl, rfl, eF7, ?_, ns.length - (F ++ [m]).length, ?_, F ++ [m], _, rfl, rfl, .step hF hm hmin, same_sub (s4.trans sq) hFL, ?_⟩⟩
          · rw [List.length_map]
            exact Nat.lt_of_le_of_lt (show F.length ≤ 7 by omega) (by decide)
          · rw [List.length_append]
            simp
            omega
          · rw [upd_same, List.map_append]
            rfl
end
/-! ## k11: who uses whom -/
namespace G11
theorem Us.turn {us : Nat → List Nat} {N : List Nat} {a h : Nat} {F S : List Nat} (hN : N.Nodup) (U : Us us N a F (S ++ [h])) : Us us N a (F ++ N.filter fun x => decide (h ∈ us x) && !decide (x ∈ F)) (S ++ N.filter fun x => decide (h ∈ us x) && !decide (x ∈ F)) := by
  have new : ∀ x, x ∈ (N.filter fun x => decide (h ∈ us x) && !decide (x ∈ F)) ↔ x ∈ N ∧ h ∈ us x ∧ x ∉ F := fun x => by
    rw [List.mem_filter]
    simp
  generalize hW : (N.filter fun x => decide (h ∈ us x) && !decide (x ∈ F)) = W at new
  have hr : Rch us N a h := by
    rcases U.stk h (by simp) with rfl | e
    · exact .base
    · obtain ⟨h1, g, h2, h3⟩ := U.sub h e
      exact .step h1 h2 h3
  refine ⟨List.nodup_append.mpr ⟨U.one, by rw [← hW]; exact hN.sublist List.filter_sublist, fun x hx y hy e => ((new y).mp hy).2.2 (e ▸ hx)⟩, fun x hx => ?_, fun x hx => ?_, fun g hg => ?_⟩
  · rcases List.mem_append.mp hx with hx | hx
    · exact U.sub x hx
    · obtain ⟨h1, h2, _⟩ := (new x).mp hx
      exact ⟨h1, h, h2, hr⟩
  · rcases List.mem_append.mp hx with hx | hx
    · exact (U.stk x (List.mem_append_left _ hx)).imp id fun e => List.mem_append_left _ e
    · exact .inr (List.mem_append_right _ hx)
  · have old : (g = a ∨ g ∈ F) → g ∈ S ++ W ∨ ∀ x ∈ N, g ∈ us x → x ∈ F ++ W := fun e => by
      rcases U.clo g e with e | e
      · rcases List.mem_append.mp e with e | e
        · exact .inl (List.mem_append_left _ e)
        · rw [List.mem_singleton.mp e]
          refine .inr fun x hx hu => ?_
          by_cases c : x ∈ F
          · exact List.mem_append_left _ c
          · exact List.mem_append_right _ ((new x).mpr ⟨hx, hu, c⟩)
      · exact .inr fun x hx hu => List.mem_append_left _ (e x hx hu)
    rcases hg with e | e
    · exact old (.inl e)
    · rcases List.mem_append.mp e with e | e
      · exact old (.inr e)
      · exact .inl (List.mem_append_right _ e)
theorem Us.room {us : Nat → List Nat} {N : List Nat} {a : Nat} {F S : List Nat} (U : Us us N a F S) : F.length ≤ N.length := sub_len U.one fun x hx => (U.sub x hx).1
/-- the answer, ascending -/
structure Cm (us : Nat → List Nat) (N : List Nat) (a : Nat) (R : List Nat) : Prop where
  asc : R.Pairwise (· < ·)
  all : ∀ x, x ∈ R ↔ x ≠ a ∧ x ∈ N ∧ Rch us N a x
theorem asc_eq : ∀ {l m : List Nat}, l.Pairwise (· < ·) → m.Pairwise (· < ·) → (∀ x, x ∈ l ↔ x ∈ m) → l = m
  | [], [], _, _, _ => rfl
  | [], b :: m, _, _, h => nomatch (h b).mpr (List.mem_cons_self ..)
  | a :: l, [], _, _, h => nomatch (h a).mp (List.mem_cons_self ..)
  | a :: l, b :: m, h1, h2, h => by
    obtain ⟨a1, a2⟩ := List.pairwise_cons.mp h1
    obtain ⟨b1, b2⟩ := List.pairwise_cons.mp h2
    have e : a = b := by
      rcases List.mem_cons.mp ((h a).mp (List.mem_cons_self ..)) with e | e
      · exact e
      · rcases List.mem_cons.mp ((h b).mpr (List.mem_cons_self ..)) with e2 | e2
        · exact e2.symm
        · have := b1 a e
          have := a1 b e2
          omega
    subst e
    rw [asc_eq a2 b2 fun x => ⟨fun hx => ?_, fun hx => ?_⟩]
    · rcases List.mem_cons.mp ((h x).mp (List.mem_cons_of_mem _ hx)) with e | e
      · have := a1 x hx
        omega
      · exact e
    · rcases List.mem_cons.mp ((h x).mpr (List.mem_cons_of_mem _ hx)) with e | e
      · have := b1 x hx
        omega
      · exact e
theorem Cm.one {us : Nat → List Nat} {N : List Nat} {a : Nat} {R R' : List Nat} (h : Cm us N a R) (h' : Cm us N a R') : R = R' := asc_eq h.asc h'.asc fun x => by rw [h.all, h'.all]
theorem Rch.same {us : Nat → List Nat} {N N' : List Nat} (hN : ∀ x, x ∈ N ↔ x ∈ N') {a x : Nat} (h : Rch us N a x) : Rch us N' a x := by
  induction h with
  | base => exact .base
  | step h1 h2 _ ih => exact .step ((hN _).mp h1) h2 ih
theorem Cm.same {us : Nat → List Nat} {N N' : List Nat} (hN : ∀ x, x ∈ N ↔ x ∈ N') {a : Nat} {R : List Nat} (h : Cm us N a R) : Cm us N' a R :=
  ⟨h.asc, fun x => by
    rw [h.all, hN]
    exact ⟨fun ⟨a, b, c⟩ => ⟨a, b, c.same hN⟩, fun ⟨a, b, c⟩ => ⟨a, b, c.same fun x => (hN x).symm⟩⟩⟩
theorem asc_lt {l : List Nat} (h : l.Pairwise (· ≤ ·)) (n : l.Nodup) : l.Pairwise (· < ·) := by
  induction l with
  | nil => exact .nil
  | cons a l ih =>
    obtain ⟨h1, h2⟩ := List.pairwise_cons.mp h
    obtain ⟨n1, n2⟩ := List.nodup_cons.mp n
    refine List.pairwise_cons.mpr ⟨fun x hx => ?_, ih h2 n2⟩
    have := h1 x hx
    have : a ≠ x := fun e => n1 (e ▸ hx)
    omega
/-- ascending, of those found but the one asked -/
theorem Us.cm {us : Nat → List Nat} {N : List Nat} {a : Nat} {F R : List Nat} (U : Us us N a F []) (hp : R.Perm (F.filter fun x => decide (x ≠ a))) (hs : R.Pairwise (· ≤ ·)) : Cm us N a R := by
  refine ⟨asc_lt hs (hp.nodup_iff.mpr (U.one.sublist List.filter_sublist)), fun x => ?_⟩
  rw [hp.mem_iff, List.mem_filter, decide_eq_true_eq]
  exact ⟨fun ⟨h1, h2⟩ => ⟨h2, (U.done x h2).mp h1⟩, fun ⟨h1, h2⟩ => ⟨(U.done x h1).mpr h2, h1⟩⟩
end G11
/-! ## k11: users_of -/
theorem shaped_txts (zs : List Str) (h : ∀ z ∈ zs, PyData.strOk z = true) : SeqAt.shaped (.list (zs.map PyData.str)) = true := by
  have h1 : PyData.canLayAll0 (zs.map PyData.str) = true := by
    induction zs with
    | nil => rfl
    | cons c l ih =>
      show (PyData.strOk c && PyData.canLayAll0 (l.map PyData.str)) = true
      rw [ih fun d hd => h d (List.mem_cons_of_mem _ hd), h c (List.mem_cons_self ..)]
      rfl
  have h2 : PyData.depthAll (zs.map PyData.str) = 0 := by
    clear h h1
    induction zs with
    | nil => rfl
    | cons c l ih => simp [PyData.depthAll, PyData.depth, ih]
  simp [SeqAt.shaped, PyData.canLay0, PyData.depth, h1, h2]
theorem nm_ok : ∀ i < 8, PyData.strOk (nm i) = true := by decide +kernel
theorem nm_sh : ∀ i < 8, SeqAt.shaped (.str (nm i)) = true := by decide +kernel
theorem dpAll_txt {K : PySem.W.Frag} {H : Hp} : ∀ l : List Str, DpAll K H (l.map V.str) (l.map PyData.str)
  | [] => .nil
  | c :: l => .cons (.str c) (dpAll_txt l)
def spUse (K : PySem.W.Frag) (C CN : Addr) : Sp := fun vs H Q E => ∃ x y, vs = [x, y] ∧ ((NsV H x ∧ flE "at" C .non H E) ∨ ∃ a xs os, x = .ref a ∧ SeqH H a xs ∧ UtA K H xs os ∧ os.length ≤ 1000 ∧
  (NeedB C CN os H E ∨ ∃ ns us, os = ns.map (fun n => some (uOf us n)) ∧ ns ≠ [] ∧ Nts ns us ∧
    ((∃ d, (∀ H', Same H H' → Dp K H' y d) ∧ SeqAt.shaped d = true ∧ (∀ n ∈ ns, PyData.eqv (.str (nm n)) d = false) ∧ flE "name" CN y H E) ∨
      ∃ n ∈ ns, y = nmV n ∧ ∀ (H' : Hp) (r : Addr) (R : List Nat), Same H H' → H' r = some (.tup (R.map nmV)) → G11.Cm us ns n R → Q (.ref r) H')))
section
variable {P : Program} {w : World} {K : PySem.W.Frag} {mg : Str → Option Value} {base : Heap}
theorem sc_users_of : FnScope ["units", "name", "unit", "found", "line", "here", "other"] ["units", "name"] (defScope s_users_of) := ⟨rfl, rfl, rfl, by decide +kernel, rfl, by decide +kernel, by decide +kernel⟩
theorem ok_users {f C CN : Addr} {fd : FuncData} (F : FnP K "users_of" s_users_of f fd) (c_need_units : CalX P w K mg base 4 "need_units" ["units"] (spNeedU K C CN)) (G : NkF K mg) (BN : Ix1 P w K mg base "NoUnit" CN "name") (tup : mg "tuple" = none) (m_sorted : mg "sorted" = none) :
    FnOk P w K mg base (L2.CX P w) 5 f fd ["units", "name"] (spUse K C CN) := by
  obtain ⟨f_need_units, fd_need_units, g_need_units, k_need_units, b_need_units, G_need_units⟩ := c_need_units
  obtain ⟨fi, fdi, iC, tI, OI, bi⟩ := BN.i
  refine F.ok sc_users_of (fun vs H Q E h => ?_) (fun cdv A outer s H vs Q E hr h => ?_)
  · obtain ⟨x, y, rfl, _⟩ := h
    rfl
  · obtain ⟨x, y, rfl, h⟩ := h
    have nd := sc_users_of.nd
    have hu := hu_of hr
    apply Exists.intro
    apply And.intro
    case left =>
     apply pss_cons
     · exact (ps_expr (pe_call G_need_units (hr.mono (by decide)) rfl g_need_units k_need_units b_need_units .nil (passes_call (takes_of rfl rfl rfl rfl) (fun _ _ _ _ h => h)) (pa_cons (pv 0) pa_nil)))
     apply pss_cons
     · exact (ps_if (pt_cmpR (op_notInD (Nat.lt_of_le_of_lt (Nat.add_le_add_left (show 65 ≤ 101 by decide) _) (Room.u101 hr))) (pv 1) (pe_lc (own := [("unit", 2)]) (g := gName 2) rfl nd (pi_or (pi_list (pv 0)) (pi_tup (pv 0))) (blkOk_by (own := [("unit", 2)]) (N := ["units", "name", "unit", "found", "line", "here", "other"]) (sc := defScope s_users_of) (by decide +kernel)) (fun _ _ _ _ _ => (pg_name (i := 2) nd rfl (Or.inl rfl))) (fun _ _ _ _ _ => pts_nil) (fun _ _ _ _ _ => (pe_ix (ix_seqK (K := K)) (pv 2) pe_int (fun _ _ => rfl)))) (by rfl)) (pss_one (ps_raise rfl (takes_of rfl rfl rfl rfl) (pmk_oex BN.o iC tI OI (hr.mono (show 2 ≤ 4 by decide)) bi .nil pass0 rfl BN.g (pa_cons (pv 1) pa_nil)))) pss_nil)
     apply PSs.nox
     apply pss_cons
     · exact (ps_par (X := (cxOf (L2.CX P w) P w K mg base ["units", "name", "unit", "found", "line", "here", "other"] "users_of" (defScope s_users_of) f cdv A outer s H E).nox) (i := 3) (j := 4) rfl nd rfl rfl (by decide) rfl rfl (pa_cons (pe_lst pa_nil) (pa_cons (pe_lst (pa_cons (pv 1) pa_nil)) pa_nil)) (by rfl))
     apply pss_cons
     · apply ps_while PassesOwn.never
       · exact (pt_cmpR (op_neEL (Nat.lt_of_le_of_lt (Nat.le_add_right _ 64) hr.units)) (pv 4) (pe_lst pa_nil) (nomark _))
       · apply pss_cons
         · exact (ps_set (i := 5) nd rfl (.inl rfl) (pe_bm0 PySem.F.plainAttrs_list PySem.F.slot_list_pop PySem.F.type_list_pop mt_pop (pv 4)))
         apply pss_one
         apply ps_for PassesOwn.never rfl
         · exact (pi_or (pi_list (pv 0)) (pi_tup (pv 0)))
         · exact (pg_name (i := 2) nd rfl (Or.inl rfl))
         · apply pss_one
           exact (ps_if (PW.pt (pw_and (pt_cmpR op_in_seq (pv 5) (pe_ix ix_seq (pv 2) pe_int (fun _ _ => rfl)) (by rfl)) (pw_and1 (pt_cmpR op_notIn_seq (pe_ix ix_seq (pv 2) pe_int (fun _ _ => rfl)) (pv 3) (by rfl))))) (pss_cons (ps_expr (pe_bm PySem.F.plainAttrs_list PySem.F.slot_list_append PySem.F.type_list_append mt_append (pv 3) (pa_cons (pe_ix ix_seq (pv 2) pe_int (fun _ _ => rfl)) pa_nil))) (pss_one (ps_expr (pe_bm PySem.F.plainAttrs_list PySem.F.slot_list_append PySem.F.type_list_append mt_append (pv 4) (pa_cons (pe_ix ix_seq (pv 2) pe_int (fun _ _ => rfl)) pa_nil))))) pss_nil)
     apply pss_one
     exact (ps_ret (pe_callTy call_tuple_of (by rfl) tup (by decide +kernel) (pa_cons (pe_callB cr_sortedS (by rfl) m_sorted (by decide +kernel) (pa_cons (pe_lc (own := [("other", 6)]) (g := gName 6) rfl nd (pi_list (pv 3)) (blkOk_by (own := [("other", 6)]) (N := ["units", "name", "unit", "found", "line", "here", "other"]) (sc := defScope s_users_of) (by decide +kernel)) (fun _ _ _ _ _ => (pg_name (i := 6) nd rfl (Or.inl rfl))) (fun _ _ _ _ _ => pts_one (pt_cmpR op_ne (pv 6) (pv 1) (nomark _))) (fun _ _ _ _ _ => (pv 6))) pa_nil)) pa_nil)))
    case right =>
      rcases h with ⟨h1, h2⟩ | ⟨a, xs, os, rfl, hS, hA, hl, h⟩
      · exact ⟨_, rfl, _, rfl, .inl ⟨h1, h2⟩⟩
      rcases h with h | ⟨ns, us, rfl, hne, hN, hq⟩
      · exact ⟨_, rfl, _, rfl, .inr ⟨a, xs, os, rfl, hS, hA, hl, h.to⟩⟩
      refine ⟨_, rfl, _, rfl, .inr ⟨a, xs, _, rfl, hS, hA, hl, hN.need hne fun H1 s1 => ?_⟩⟩
      have hlx : xs.length = ns.length := by rw [hA.1, List.length_map]
      refine ⟨_, rfl, ior_seqB rfl hS s1 fun J GG hw hG => fun D hD => ?_⟩
      refine lc_it hw (fun i H' => Same H1 H' ∧ H' D = some (.lst (((ns.take i).map nm).map V.str))) ⟨same_new hD, upd_same⟩ (fun i H' _ h => hG _ (s1.trans h.1)) ?_ ?_
      · rintro i x Hx H' hi ⟨s2, eD⟩ ⟨rfl, hx⟩
        obtain ⟨o, ho, hu2⟩ := hA.2 _ _ hx
        obtain ⟨n, hn, rfl⟩ := us_at ho
        obtain ⟨a2, b, e1, e2, rfl, h2, hb⟩ := hu2.get
        refine ⟨rfl, yesIf ⟨_, rfl, .inr (.inl ⟨_, _, _, _, rfl, rfl, SqT.of ((s1.trans s2) _ _ h2), atI_nat (j := 1) rfl, _, eD, ?_, same_sub s2 hD, ?_⟩)⟩⟩
        · rw [List.length_map, List.length_map]
          have := hN.len
          have := List.length_take_le' i ns
          exact Nat.lt_of_le_of_lt (show (ns.take i).length ≤ 7 by omega) (by decide)
        · rw [upd_same, take_snoc2 hn, List.map_append, List.map_append]
          rfl
      rintro H2 ⟨s2, eD⟩
      rw [hlx, List.take_length] at eD
      have s02 := s1.trans s2
      have shL : SeqAt.shaped (.list ((ns.map nm).map PyData.str)) = true := shaped_txts _ fun z hz => by
        obtain ⟨n, hn, rfl⟩ := List.mem_map.mp hz
        exact nm_ok n (hN.lt n hn)
      rcases hq with ⟨d, hd, sd, hno, hE⟩ | ⟨n, hn, rfl, hq⟩
      · refine ⟨d, _, hd H2 s02, .lst (SqL.of eD) (dpAll_txt _), sd, shL, _, rfl, ?_⟩
        have e : ((ns.map nm).map PyData.str).any (fun z => PyData.eqv z d) = false := by
          rw [List.any_eq_false]
          intro z hz
          obtain ⟨z0, hz0, rfl⟩ := List.mem_map.mp hz
          obtain ⟨n, hn, rfl⟩ := List.mem_map.mp hz0
          rw [hno n hn]
          simp
        rw [e]
        exact iteN0 ⟨_, rfl, raise_i1 (hE.same s02)⟩
      · have n8 := hN.lt n hn
        refine ⟨.str (nm n), _, .str _, .lst (SqL.of eD) (dpAll_txt _), nm_sh n n8, shL, _, rfl, ?_⟩
        have e : ((ns.map nm).map PyData.str).any (fun z => PyData.eqv z (.str (nm n))) = true := by
          rw [List.any_eq_true]
          exact ⟨_, List.mem_map.mpr ⟨_, List.mem_map.mpr ⟨n, hn, rfl⟩, rfl⟩, by simp [PyData.eqv]⟩
        rw [e]
        refine iteN1 ?_
        refine ⟨(show 0 ≤ sizeLine by decide), fun FL hFL => ⟨_, rfl, (show 1 ≤ sizeLine by decide), fun LN hLN => ⟨_, _, rfl, ?_⟩⟩⟩
        have sF := same_new (o := .lst []) hFL
        have sL := same_new (o := .lst [nmV n]) hLN
        have fL : H2 LN = none := sF.free hLN
        have FLN : FL ≠ LN := fun z => by rw [← z, upd_same] at hLN; cases hLN
        refine ⟨fun m σ H' => ∃ F S v2 v5, m = 2 * (ns.length - F.length) + S.length ∧ σ = [some (.ref a), some (nmV n), v2, some (.ref FL), some (.ref LN), v5, none] ∧ G11.Us us ns n F S ∧ S.length ≤ F.length + 1 ∧ Same H2 H' ∧ H' FL = some (.lst (F.map nmV)) ∧ H' LN = some (.lst (S.map nmV)), ⟨_, [], [n], _, _, rfl, rfl, G11.Us.start us ns n, by simp, sF.trans sL, sL _ _ upd_same, upd_same⟩, ?_⟩
        rintro m σ Hb ⟨F, S, v2, v5, rfl, rfl, U, lS, s3, eF, eS⟩
        have inF : ∀ x ∈ F, x ∈ ns := fun x hx => (U.sub x hx).1
        have F8 : ∀ x ∈ F, x < 8 := fun x hx => hN.lt x (inF x hx)
        have h7 := hN.len
        have hFl := U.room
        refine ⟨_, rfl, (show 0 ≤ sizeLine by decide), fun q hq2 => ⟨LN, q, _, rfl, rfl, SqL.of ((same_new hq2) _ _ eS), SqL.of upd_same, _, rfl, ?_⟩⟩
        have sq := same_new (o := .lst []) hq2
        have s3 := s3.trans sq
        have eF := sq _ _ eF
        have eS := sq _ _ eS
        generalize upd Hb q (.lst []) = Hc at s3 eF eS ⊢
        rcases List.eq_nil_or_concat S with rfl | ⟨S', h, rfl⟩
        · refine iteN1 ⟨_, rfl, FL, rfl, ⟨_, SqL.of eF⟩, fun D2 hD2 => ?_⟩
          refine lc_list (K := K) (a := FL) (xs := F.map nmV) (fun i H' => Same Hc H' ∧ H' D2 = some (.lst ((((F.take i).filter fun x => decide (x ≠ n))).map nmV))) ⟨same_new hD2, upd_same⟩ (fun i H' _ h => SqL.of (h.1 _ _ eF)) ?_ ?_
          · rintro i y H' hy ⟨s4, e4⟩
            obtain ⟨x, hx, rfl⟩ : ∃ x, F[i]? = some x ∧ y = nmV x := by
              rw [List.getElem?_map] at hy
              cases e : F[i]? with
              | none => rw [e] at hy; cases hy
              | some x => rw [e] at hy; injection hy with hy; exact ⟨x, rfl, hy.symm⟩
            have x8 := F8 x (List.mem_of_getElem? hx)
            refine ⟨rfl, _, rfl, _, rfl, rfl, _, rfl, ?_⟩
            have ed : decide (nmV x = nmV n) = decide (x = n) := decide_eq_decide.mpr ⟨fun z => nm_inj x8 n8 (by injection z), fun z => by rw [z]⟩
            rw [ed]
            have ef : ((F.take (i + 1)).filter fun x => decide (x ≠ n)) = ((F.take i).filter fun x => decide (x ≠ n)) ++ (if x = n then [] else [x]) := by
              rw [take_snoc2 hx, List.filter_append]
              congr 1
              by_cases c : x = n <;> simp [c]
            by_cases c : x = n
            · rw [decide_eq_true c]
              rw [if_pos c, List.append_nil] at ef
              refine iteF ⟨s4, ?_⟩
              rw [ef]
              exact e4
            · rw [decide_eq_false c]
              rw [if_neg c] at ef
              refine iteT ⟨_, rfl, _, e4, ?_, same_sub s4 hD2, ?_⟩
              · rw [List.length_map]
                have h9 : ((F.take i).filter fun x => decide (x ≠ n)).length ≤ (F.take i).length := List.length_filter_le _ _
                have := List.length_take_le' i F
                exact Nat.lt_of_le_of_lt (show ((F.take i).filter fun x => decide (x ≠ n)).length ≤ 7 by omega) (by decide)
              · rw [upd_same, ef, List.map_append]
                rfl
          · rintro H4 ⟨s4, e4⟩
            rw [List.length_map, List.take_length] at e4
            refine ⟨D2, ((F.filter fun x => decide (x ≠ n)).map nm), rfl, SqL.of (by rw [nmV_map]; exact e4), ?_, fun ys p hperm hsort hp => ?_⟩
            · rw [List.length_map]
              have h9 : (F.filter fun x => decide (x ≠ n)).length ≤ F.length := List.length_filter_le _ _
              omega
            obtain ⟨R, rfl, hR1, hR2⟩ := sort_nm hperm (fun x hx => F8 x (List.mem_filter.mp hx).1) hsort
            refine ⟨p, _, rfl, .inl ⟨SqL.of upd_same, fun l hl => ?_⟩⟩
            exact hq _ l R (((s02.trans s3).trans s4).trans ((same_new hp).trans (same_new hl))) (by rw [upd_same, nmV_map]) (U.cm hR1 hR2)
        · have ne : ((S' ++ [h]).map nmV).isEmpty = false := by simp
          rw [List.concat_eq_append] at *
          rw [ne]
          refine iteN0 ⟨fun σ' H' => ∃ m', m' < _ ∧ _, fun _ _ h => h, ?_⟩
          have hin : h ∈ ns := by
            rcases U.stk h (by simp) with e | e
            · rw [e]; exact hn
            · exact inF h e
          have h8 := hN.lt h hin
          refine ⟨_, rfl, .inl ⟨rfl, _, SqL.of eS⟩, LN, _, nmV h, rfl, rfl, eS, by simp, ?_⟩
          have eS2 : (upd Hc LN (.lst (((S' ++ [h]).map nmV).dropLast))) LN = some (.lst (S'.map nmV)) := by rw [upd_same]; simp
          have eF2 : (upd Hc LN (.lst (((S' ++ [h]).map nmV).dropLast))) FL = some (.lst (F.map nmV)) := by rw [upd_ne FLN]; exact eF
          have s4 : Same H2 (upd Hc LN (.lst (((S' ++ [h]).map nmV).dropLast))) := same_sub s3 fL
          generalize upd Hc LN (.lst (((S' ++ [h]).map nmV).dropLast)) = H3 at eS2 eF2 s4 ⊢
          have U2 := U.turn hN.one
          refine ior_seqB rfl hS (s02.trans s4) fun J GG hw hG => ?_
          refine for_it hw (fun i σ H' => ∃ v2, σ = [some (.ref a), some (nmV n), v2, some (.ref FL), some (.ref LN), some (nmV h), none] ∧ Same H2 H' ∧ H' FL = some (.lst ((F ++ (ns.take i).filter fun x => decide (h ∈ us x) && !decide (x ∈ F)).map nmV)) ∧ H' LN = some (.lst ((S' ++ (ns.take i).filter fun x => decide (h ∈ us x) && !decide (x ∈ F)).map nmV)))
            ⟨_, rfl, s4, by simpa using eF2, by simpa using eS2⟩ (fun i σ H' _ ⟨_, _, s5, _⟩ => hG _ (s02.trans s5)) ?_ ?_
          · rintro i x σ Hx H' hi ⟨v2, rfl, s5, eF5, eS5⟩ ⟨rfl, hx⟩
            obtain ⟨o, ho, hu2⟩ := hA.2 _ _ hx
            obtain ⟨u, hu3, rfl⟩ := us_at ho
            obtain ⟨a2, b, e1, e2, rfl, h2, hb⟩ := hu2.get
            have uN := List.mem_of_getElem? hu3
            have u8 := hN.lt u uN
            have s05 := s02.trans s5
            have hb5 : H' b = some (.tup ((us u).map nmV)) := by rw [← nmV_map]; exact s05 _ _ hb
            have ef : ((ns.take (i + 1)).filter fun x => decide (h ∈ us x) && !decide (x ∈ F)) = ((ns.take i).filter fun x => decide (h ∈ us x) && !decide (x ∈ F)) ++ (if (decide (h ∈ us u) && !decide (u ∈ F)) = true then [u] else []) := by
              rw [take_snoc2 hu3, List.filter_append]
              congr 1
              rw [List.filter_cons, List.filter_nil]
            refine ⟨_, rfl, _, rfl, .inr (.inl ⟨_, _, _, _, rfl, rfl, SqT.of (s05 _ _ h2), atI_nat (j := 2) rfl, b, _, rfl, .inr (SqT.of hb5), rfl, flat_nm _, _, rfl, ?_⟩)⟩
            rw [show (if false = true then !inV (nmV h) ((us u).map nmV) else inV (nmV h) ((us u).map nmV)) = decide (h ∈ us u) from in_nms h8 fun x hx => hN.lt x (hN.sub u uN x hx)]
            by_cases c1 : h ∈ us u
            rotate_left
            · rw [decide_eq_false c1] at ef ⊢
              refine iteF (iteF ⟨_, rfl, s5, ?_, ?_⟩)
              · rw [ef]
                simpa using eF5
              · rw [ef]
                simpa using eS5
            rw [decide_eq_true c1] at ef ⊢
            have W8 : ∀ x ∈ F ++ (ns.take i).filter (fun x => decide (h ∈ us x) && !decide (x ∈ F)), x < 8 := fun x hx => by
              rcases List.mem_append.mp hx with hx | hx
              · exact F8 x hx
              · exact hN.lt x (List.mem_of_mem_take (List.mem_filter.mp hx).1)
            refine iteT ⟨_, rfl, .inr (.inl ⟨_, _, _, _, rfl, rfl, SqT.of (s05 _ _ h2), atI_nat (j := 1) rfl, _, rfl, FL, _, rfl, .inl (SqL.of eF5), rfl, flat_nm _, _, rfl, ?_⟩)⟩
            have inew : u ∈ (F ++ (ns.take i).filter fun x => decide (h ∈ us x) && !decide (x ∈ F)) ↔ u ∈ F := by
              refine ⟨fun e => ?_, fun e => List.mem_append_left _ e⟩
              rcases List.mem_append.mp e with e | e
              · exact e
              · have h9 : (ns.take (i + 1)).Nodup := List.Nodup.sublist (List.take_sublist _ _) hN.one
                rw [take_snoc2 hu3] at h9
                exact ((List.nodup_append.mp h9).2.2 u (List.mem_filter.mp e).1 u (List.mem_singleton.mpr rfl) rfl).elim
            have ein : decide (u ∈ F ++ (ns.take i).filter fun x => decide (h ∈ us x) && !decide (x ∈ F)) = decide (u ∈ F) := decide_eq_decide.mpr inew
            have lW : ((ns.take i).filter fun x => decide (h ∈ us x) && !decide (x ∈ F)).length ≤ 7 := by
              have h9 : ((ns.take i).filter fun x => decide (h ∈ us x) && !decide (x ∈ F)).length ≤ (ns.take i).length := List.length_filter_le _ _
              have := List.length_take_le' i ns
              omega
            generalize hW : ((ns.take i).filter fun x => decide (h ∈ us x) && !decide (x ∈ F)) = W at ef eF5 eS5 W8 ein lW ⊢
            rw [show (if true = true then !inV (.str (uOf us u).1) ((F ++ W).map nmV) else inV (.str (uOf us u).1) ((F ++ W).map nmV)) = !decide (u ∈ F) from (congrArg (fun b => !b) (in_nms u8 W8)).trans (by rw [ein])]
            by_cases c2 : u ∈ F
            · rw [decide_eq_true c2] at ef ⊢
              refine iteF ⟨_, rfl, s5, ?_, ?_⟩
              · rw [ef]
                simpa using eF5
              · rw [ef]
                simpa using eS5
            rw [decide_eq_false c2] at ef ⊢
            refine iteT ⟨_, rfl, .inl ⟨rfl, _, SqL.of eF5⟩, _, rfl, .inr (.inl ⟨_, _, _, _, rfl, rfl, SqT.of (s05 _ _ h2), atI_nat (j := 1) rfl, FL, _, _, rfl, rfl, eF5, ?_, ?_⟩)⟩
            · rw [List.length_map, List.length_append]
              exact Nat.lt_of_le_of_lt (show F.length + W.length ≤ 14 by omega) (by decide)
            have aF : a2 ≠ FL := fun z => by have q := s05 _ _ h2; rw [z, eF5] at q; cases q
            have aL : a2 ≠ LN := fun z => by have q := s05 _ _ h2; rw [z, eS5] at q; cases q
            have eS6 : (upd H' FL (.lst ((F ++ W).map nmV ++ [.str (uOf us u).1]))) LN = some (.lst ((S' ++ W).map nmV)) := by rw [upd_ne (Ne.symm FLN)]; exact eS5
            have h26 : (upd H' FL (.lst ((F ++ W).map nmV ++ [.str (uOf us u).1]))) a2 = some (.tup [.str "unit", .str (uOf us u).1, .ref b, .ref e1, .ref e2]) := by rw [upd_ne aF]; exact s05 _ _ h2
            refine ⟨_, rfl, .inl ⟨rfl, _, SqL.of eS6⟩, _, rfl, .inr (.inl ⟨_, _, _, _, rfl, rfl, SqT.of h26, atI_nat (j := 1) rfl, LN, _, _, rfl, rfl, eS6, ?_, ?_⟩)⟩
            · rw [List.length_map, List.length_append]
              simp only [List.length_append, List.length_cons, List.length_nil] at lS
              exact Nat.lt_of_le_of_lt (show S'.length + W.length ≤ 20 by omega) (by decide)
            refine ⟨_, rfl, same_sub (same_sub s5 hFL) fL, ?_, ?_⟩
            · rw [upd_ne FLN, upd_same, ef, ← List.append_assoc]
              show some (HO.lst ((F ++ W).map nmV ++ [nmV u])) = some (HO.lst (((F ++ W) ++ [u]).map nmV))
              rw [List.map_append (l₁ := F ++ W)]
              rfl
            · rw [upd_same, ef, ← List.append_assoc]
              show some (HO.lst ((S' ++ W).map nmV ++ [nmV u])) = some (HO.lst (((S' ++ W) ++ [u]).map nmV))
              rw [List.map_append (l₁ := S' ++ W)]
              rfl
          · rintro σ H5 ⟨v2, rfl, s5, eF5, eS5⟩
            rw [hlx, List.take_length] at eF5 eS5
            refine ⟨_, ?_, _, _, _, _, rfl, rfl, U2, ?_, s5, eF5, eS5⟩
            · have := U2.room
              simp only [List.length_append, List.length_cons, List.length_nil] at this ⊢
              omega
            · simp only [List.length_append, List.length_cons, List.length_nil] at lS ⊢
              omega
end
/-! ## lambdas that are kept: made at one statement, called at a later one -/
namespace LamV
open PySem PySem.Spec PyProof.Rows L2 LamX
/-- the function object of a lambda, as it was made -/
def LamO (f : Addr) (ob : Obj) : HO := .ext fun h => h.get? f = some ob
theorem LamO.ok {P : Program} {w : World} {H : Hp} {h : Heap} {f : Addr} {ob : Obj} (e : h.get? f = some ob) : ObjOk P w H h f (LamO f ob) := ⟨e, ⟨ob, e⟩, fun _ _ q st => st _ q⟩
abbrev obj (X : Cx) (params : Arguments) (body : Expr) (scope : Scope) (pm ctv : Value) (c' : Addr) : Obj := PySem.W.kla_obj "<lambda>" (X.env.qual ++ "<lambda>") params body scope (cloFrom X.env.cells scope.names []) pm c' ctv
section
variable {X : Cx} {pins : List (Addr × Obj)} {σ : L2.St} {H : Hp} {s : Shared}
theorem make {T : List (Addr × Str)} {c P : Addr} {params : Arguments} {body : Expr} {scope : Scope} {pos : Pos} {E : Value → Shared → Prop} {Q : Value → Shared → Prop} (I : Inv X pins σ H s) (TB : TabB X.base X.mg c P) (hcode : X.env.code = .ref c)
    (hm : (P, X.env.qual ++ "<lambda>") ∈ T) (hu : ∀ p ∈ T, p.1 = P → p.2 = X.env.qual ++ "<lambda>") (hT : Tabs T H) (hdef : defaultsOf params X.env = ([], [])) (hfree : ∀ y ∈ scope.names, y.2 = .free → ∃ c, X.env.cells.lookup y.1 = some c)
    (h : ∀ (f c' : Addr) (pm ctv : Value) (H1 : Hp) (s' : Shared), Inv X pins σ H1 s' → ExtN H H1 → Tabs T H1 → H f = none → H1 f = some (LamO f (obj X params body scope pm ctv c')) → H1 c' = some (CodeO c' (X.env.qual ++ "<lambda>")) → Q (.ref f) s') :
    wpAny (model X.prog X.w) X.A (eval (.Lambda params body scope pos) X.env) Q E s := by
  obtain ⟨ps, hP, ht, ha⟩ := hT _ hm
  have hP' : s.heap.get? P = some { cls := .none, data := .fields ps } := I.hok P _ hP
  refine PySem.W.kla_eval hdef ?_
  have lastly : ∀ {H1 : Hp} {h' : Heap} {tk : Nat} (c' : Addr) (pm ctv : Value), Inv X pins σ H1 { s with heap := h', toks := tk } → s.heap.objs.size ≤ h'.objs.size → ExtN H H1 → Tabs T H1 → H1 c' = some (CodeO c' (X.env.qual ++ "<lambda>")) →
      ∀ tk', Q (.ref h'.objs.size) { s with heap := h'.push (obj X params body scope pm ctv c'), toks := tk' } := fun {H1 h' tk} c' pm ctv I1 hz eN T1 hc tk' => by
    have n1 : H1 h'.objs.size = none := I1.hok.fresh (Nat.le_refl _)
    have I2 := I1.laid (a := h'.objs.size) (o := LamO h'.objs.size (obj X params body scope pm ctv c')) (h' := h'.push (obj X params body scope pm ctv c')) (t' := tk') (fun _ _ e => Heap.get?_push_of_some _ e) (Nat.le_refl _) (LamO.ok (Heap.get?_push_size _ rfl))
    have old : ∀ b o, H1 b = some o → upd H1 h'.objs.size (LamO h'.objs.size (obj X params body scope pm ctv c')) b = some o := fun b o e => by rw [upd_ne (ne_of_none e n1)]; exact e
    exact h _ c' pm ctv _ _ I2 (eN.trans (ExtN.of old)) (T1.ext old) (I.hok.fresh hz) upd_same (old _ _ hc)
  cases hc : codeAmong pos ps.toList with
  | some cv =>
    obtain ⟨c', rfl, hco⟩ := ha pos cv hc
    refine PySem.W.kla_makeFunctionHit (mg := X.mg) (c := c) (P := P) (ps := ps) (closure_ok hfree) I.ok.glob (I.mod.glob.keeps I.bk) hcode (TB.code.keeps I.bk) hP' ht hc (TB.bm.keeps I.bk) fun ctv h' tk hx hsz => ?_
    exact lastly (H1 := H) (tk := tk) c' _ ctv (I.kept hx) hsz (ExtN.refl H) hT hco tk
  | none =>
    refine PySem.W.kla_makeFunction (mg := X.mg) (c := c) (P := P) (ps := ps) (closure_ok hfree) I.ok.glob (I.mod.glob.keeps I.bk) hcode (TB.code.keeps I.bk) hP' ht hc TB.gP (TB.bm.keeps I.bk) fun c' ctv h' tk hx hge hlt hrec htb => ?_
    obtain ⟨c2, oc, vs, t, e2, hoc, hd, hv⟩ := hrec
    cases e2
    have nC : H c' = none := I.hok.fresh hge
    have I1 := inv_table (t' := tk) (more := #[rawInt pos.line, rawInt pos.col, .ref c']) (h' := h') I hP hx htb hge ⟨oc, vs, t, hoc, hd, hv⟩
    have hE : ExtN H (upd (upd H P (.tbl (ps ++ #[rawInt pos.line, rawInt pos.col, .ref c']))) c' (CodeO c' (X.env.qual ++ "<lambda>"))) := fun b o e n => by
      rw [upd_ne (ne_of_none e nC), upd_ne (fun z => n ps (Option.some.inj (e.symm.trans (by rw [z]; exact hP))))]
      exact e
    have eL : (ps ++ #[rawInt pos.line, rawInt pos.col, .ref c']).toList = ps.toList ++ [rawInt pos.line, rawInt pos.col, .ref c'] := by simp
    refine lastly c' _ ctv I1 (Nat.le_trans hge (Nat.le_of_lt hlt)) hE (fun p hp => ?_) upd_same tk
    by_cases hb : p.1 = P
    · rw [hu p hp hb, hb]
      refine ⟨_, by rw [upd_ne (ne_of_none hP nC), upd_same], by rw [eL]; exact PySem.TriplesOk_snoc _ _ _ _ ht, fun p' cv hcv => ?_⟩
      rw [eL] at hcv
      rcases among_app _ ht hcv with z | z
      · obtain ⟨c0, e1, e2⟩ := ha p' cv z
        exact ⟨c0, e1, hE _ _ e2 codeO_ne⟩
      · exact ⟨c', z, upd_same⟩
    · obtain ⟨ps', a1, a2, a3⟩ := hT p hp
      refine ⟨ps', by rw [upd_ne (ne_of_none a1 nC), upd_ne hb]; exact a1, a2, fun p' cv hcv => ?_⟩
      obtain ⟨c0, e1, e2⟩ := a3 p' cv hcv
      exact ⟨c0, e1, hE _ _ e2 codeO_ne⟩
end
/-- what a lambda's text comes to, whenever it is called -/
structure Bod (X : Cx) (k : Nat) (params : Arguments) (body : Expr) (scope : Scope) (t : XK → TE) : Prop where
  L : LamS X.env.scope scope
  bind : ∀ (q : Str) (cl : List (Str × Addr)) (pm cv ctv : Value), bindArgs (PySem.W.kla_fn "<lambda>" q params body scope cl pm cv ctv) ⟨[], []⟩ = pure []
  run : ∀ (A : Around) (outer : List Env) (s : Shared) (H : Hp) (E : XK) (f c' : Addr), Room k (A.deeper (lamEnv X scope s.heap.objs.size f c')) → PE (lamCx X A outer s H E scope f c') body (t E)
/-- the value v is a lambda of X that comes to t -/
def Is (X : Cx) (k : Nat) (v : V) (H : Hp) (t : XK → TE) : Prop := ∃ (f c' : Addr) (pm ctv : Value) (params : Arguments) (body : Expr) (scope : Scope), v = .ref f ∧ Bod X k params body scope t ∧ H f = some (LamO f (obj X params body scope pm ctv c')) ∧ H c' = some (CodeO c' (X.env.qual ++ "<lambda>"))
theorem lamO_ne {f : Addr} {ob : Obj} (ps : Array Value) : LamO f ob ≠ .tbl ps := fun z => by
  unfold LamO at z
  cases z
theorem Is.ext {X : Cx} {k : Nat} {v : V} {H H' : Hp} {t : XK → TE} (h : Is X k v H t) (e : ExtN H H') : Is X k v H' t := by
  obtain ⟨f, c', pm, ctv, params, body, scope, a, b, c, d⟩ := h
  exact ⟨f, c', pm, ctv, params, body, scope, a, b, e _ _ c lamO_ne, e _ _ d codeO_ne⟩
def tMk (T : List (Addr × Str)) (X : Cx) (k : Nat) (t : XK → TE) : TE := fun σ H Q => Tabs T H ∧ ∀ v H1, ExtN H H1 → Tabs T H1 → Is X k v H1 t → Q v H1
section
variable {X : Cx} {pins : List (Addr × Obj)} {σ : L2.St} {H : Hp} {s : Shared}
/-- lambda: body, as a value -/
theorem pe_mk {T : List (Addr × Str)} {c P : Addr} {k : Nat} {params : Arguments} {body : Expr} {scope : Scope} {pos : Pos} {t : XK → TE} (TB : TabB X.base X.mg c P) (hcode : X.env.code = .ref c) (hm : (P, X.env.qual ++ "<lambda>") ∈ T) (hu : ∀ p ∈ T, p.1 = P → p.2 = X.env.qual ++ "<lambda>")
    (hdef : defaultsOf params X.env = ([], [])) (B : Bod X k params body scope t) : PE X (.Lambda params body scope pos) (tMk T X k t) := by
  refine ⟨fun pins s σ H Q I h => ?_⟩
  obtain ⟨hT, h⟩ := h
  refine make I TB hcode hm hu hT hdef (B.L.has I.ok) fun f c' pm ctv H1 s' I1 eN T1 _ hf hc => ?_
  exact ⟨.ref f, H1, I1, rfl, h _ H1 eN T1 ⟨f, c', pm, ctv, params, body, scope, rfl, B, hf, hc⟩⟩
/-- x(), in the def that got the lambda -/
theorem act {CXg : CXT} {Eg : XK} {Ng : List Str} {qg : Str} {sg : Scope} {g f c' : Addr} {cdg pm ctv : Value} {params : Arguments} {body : Expr} {scope : Scope} {k i : Nat} {a : Str} {pn : List (Addr × Obj)} {xe : Value → Shared → Prop} {W : WX} {E : XK} {t : XK → TE} {p1 p2 : Pos}
    (I : Inv X pins σ H s) (B : Bod X k params body scope t) (tk : Takes ((cxOf CXg X.prog X.w X.K X.mg X.base Ng qg sg g cdg X.A X.stack s H Eg).tr pn xe) W) (hW : ∀ cls d σ' H', E cls d H' → W cls d σ' H') (hr : Room (k + 1) (X.A.deeper (envOfC qg sg s.heap.objs.size g cdg)))
    (hN : Ng[i]? = some a) (hv : Vis sg a) (hd : (a == ("__debug__" : Str)) = false := by decide) (hcd : (a == ("__classdict__" : Str)) = false := by decide) :
    PE ((cxOf CXg X.prog X.w X.K X.mg X.base Ng qg sg g cdg X.A X.stack s H Eg).tr pn xe) (.Call (.Name a p1) [] [] p2)
      (fun σZ HZ Q => σZ[i]? = some (some (.ref f)) ∧ HZ c' = some (CodeO c' (X.env.qual ++ "<lambda>")) ∧ HZ f = some (LamO f (obj X params body scope pm ctv c')) ∧ t E σ HZ Q) := by
  refine ⟨fun pinsZ sZ σZ HZ Q IZ h => ?_⟩
  obtain ⟨hs, hc, hf, ht⟩ := h
  refine wpAny_Call_Name_kw (thn ((pe_var (pos := p1) (i := i) hN hv hd hcd).run pinsZ sZ σZ HZ (fun v H1 => v = .ref f ∧ H1 = HZ) IZ ⟨.ref f, hs, rfl, rfl⟩) fun u s1 ⟨v, H1, I1, r1, ev, eH⟩ => ?_)
  subst ev
  rw [eH] at I1
  obtain rfl : u = Value.ref f := r1
  have of1 : s1.heap.get? f = some (obj X params body scope pm ctv c') := (I1.hok f _ hf).1
  refine PySem.W.callWith_F0 ⟨_, _, _, _, of1⟩ ?_
  obtain ⟨⟨oc, vs, tt, hoc, hdc, hvc⟩, _, _⟩ := I1.hok c' _ hc
  have rc : codeAny (model X.prog X.w) (X.A.deeper (envOfC qg sg s.heap.objs.size g cdg)) (.call (.ref f) ⟨[], []⟩) (CR (L2.CX X.prog X.w) (envOfC qg sg s.heap.objs.size g cdg :: X.stack) X.prog X.w HZ s1 Q E) s1 := by
    refine PySem.W.kla_callFunE hr.depth of1 rfl B.L.co B.L.gen rfl ⟨c', oc, vs, tt, rfl, hoc, hdc, hvc⟩ ?_
    rw [B.bind]
    refine wpAny_pure (wpAny_newFunctionEnv (fun y hy => (B.L.own y hy).2) (fun y hy => absurd hy (by simp)) (fun h₁ hns hsb => ⟨I1.nolimit.fresh _ hsb, ?_⟩) B.L.kind)
    show codeAny _ _ (.expr body (lamEnv X scope s1.heap.objs.size f c')) _ _
    have kp : ∀ b o, s1.heap.get? b = some o → h₁.get? b = some o := fun b o e => hsb.extBut b o (Nat.ne_of_lt (Heap.lt_size e)) (Heap.get?_push_of_some _ e)
    have J : Inv (lamCx X (X.A.deeper (envOfC qg sg s.heap.objs.size g cdg)) (envOfC qg sg s.heap.objs.size g cdg :: X.stack) s1 HZ E scope f c') [] σ HZ { s1 with heap := h₁, toks := s1.toks + ([] : List (Str × Value)).length } :=
      lam_start2 I B.L I1.env0 hr.hd I1.base hns kp
    refine PySem.W.kla_codeExpr (wpAny_mono ((B.run _ _ s1 HZ E f c' (hr.deeper _)).run [] _ _ HZ Q J ht) (fun v s' hq => ?_) fun e s' hq => hq)
    obtain ⟨w', H', J', rv, q⟩ := hq
    exact ⟨w', H', J'.os, J'.bare, J'.base, J'.hok, rv, q⟩
  have hx : Passes (L2.CX X.prog X.w) ((cxOf CXg X.prog X.w X.K X.mg X.base Ng qg sg g cdg X.A X.stack s H Eg).tr pn xe) E := passes_call tk hW
  refine wpAny_call (codeAny_mono rc fun r s' hq => ?_)
  cases r with
  | error e => exact hx pinsZ σZ HZ s1 e s' I1 hq
  | ok fl =>
    cases fl with
    | ret u => exact I1.after hq
    | next => exact False.elim hq
    | brk => exact False.elim hq
    | cont => exact False.elim hq
/-- g(v), v a slot that holds a lambda -/
def tGive (X : Cx) (k i : Nat) (TT : (XK → Hp → VK → Prop) → Hp → VK → Prop) : TE := fun σ H Q => ∃ (f c' : Addr) (pm ctv : Value) (params : Arguments) (body : Expr) (scope : Scope) (t : XK → TE), σ[i]? = some (some (.ref f)) ∧ Bod X k params body scope t ∧ H f = some (LamO f (obj X params body scope pm ctv c')) ∧ H c' = some (CodeO c' (X.env.qual ++ "<lambda>")) ∧
  TT (fun E H' Q' => H' f = some (LamO f (obj X params body scope pm ctv c')) ∧ t E σ H' Q') H Q
theorem pe_give {TT : (XK → Hp → VK → Prop) → Hp → VK → Prop} {x a y : Str} {g : Addr} {k i : Nat} {pg : Arguments} {bg : List Stmt} {sg : Scope} {dV kV doc pm cdv ct oc : Value} {an od : Option Addr} {osl : Array (Option Value)} {Ng : List Str} {p p3 pos : Pos}
    (hg : Gl X x) (hm : X.mg x = some (.ref g)) (hk : PySem.W.keepIn X.K (.ref g) = true)
    (lk : X.K.lookup g = some ⟨oc, od, .func (PySem.W.fnOf x x pg bg sg dV kV doc pm an cdv ct), osl⟩) (hcg : PySem.W.codeIn X.K cdv x = true) (hb : L2.Binds X.K (PySem.W.fnOf x x pg bg sg dV kV doc pm an cdv ct) [a] []) (Sg : FnScope Ng [a] sg) (hNg : Ng[0]? = some a) (hva : Vis sg a)
    (hG : GivesTo X Ng x sg g cdv bg a (X.env.qual ++ "<lambda>") TT) (hr : Room (k + 2) X.A) (hN : X.N[i]? = some y) (hvy : Vis X.env.scope y)
    (hdb : (x == ("__debug__" : Str)) = false := by decide) (hd : (a == ("__debug__" : Str)) = false := by decide) (hcd : (a == ("__classdict__" : Str)) = false := by decide) (hd2 : (y == ("__debug__" : Str)) = false := by decide) (hcd2 : (y == ("__classdict__" : Str)) = false := by decide) :
    PE X (.Call (.Name x p) [.Name y p3] [] pos) (tGive X k i TT) := by
  refine ⟨fun pins s σ H Q I h => ?_⟩
  obtain ⟨f, c', pm', ctv, params, body, scope, t, hs, B, hf, hc, h⟩ := h
  refine wpAny_Call_Name_kw (ld_glob I hg hm ?_ hdb)
  refine PySem.W.callWith_K (h₀ := X.base) I.ok.mod.kin hk ?_ (by rfl) (by rfl)
  show wpAny _ _ (spliced ((false, eval (.Name y p3) X.env) :: backTo pos (starEach [] X.env))) _ _ s
  refine Calls.spliced_cons (thn ((pe_var (pos := p3) (i := i) hN hvy hd2 hcd2).run pins s σ H (fun v H1 => v = .ref f ∧ H1 = H) I ⟨.ref f, hs, rfl, rfl⟩) fun u s' ⟨v, H1, I1, r1, ev, eH⟩ => ?_)
  subst ev
  rw [eH] at I1
  obtain rfl : u = Value.ref f := r1
  refine Calls.spliced_nil ⟨I1.kIn, ?_⟩
  have rc : codeAny (model X.prog X.w) X.A (.call (.ref g) ⟨[.ref f], []⟩) (CR C8.CX0 X.stack X.prog X.w H s' Q C8.E0) s' := by
    refine run_ofS (N := Ng) (ps := [a]) (us := [.ref f]) (vs := [.ref f]) lk hcg Sg hr I1.env0 (hb s' [.ref f] I1.kIn rfl) (.cons rfl .nil) rfl fun hr' => ?_
    obtain ⟨t', ht', hq'⟩ := hG f c' s' H Q (fun E H' Q' => H' f = some (LamO f (obj X params body scope pm' ctv c')) ∧ t E σ H' Q') (fun W pn xe E p1 p2 tk hW => act (i := 0) I1 B tk hW hr' hNg hva hd hcd) hc h
    exact ⟨t', ht'.nox, hq'⟩
  refine wpAny_call (codeAny_mono rc fun r s2 hq => ?_)
  cases r with
  | error e => exact (show False from hq).elim
  | ok fl =>
    cases fl with
    | ret u => exact I1.after hq
    | next => exact False.elim hq
    | brk => exact False.elim hq
    | cont => exact False.elim hq
end
end LamV
/-! ## _law_caught -/
theorem takes_len {X : Cx} {W : WX} (t : Takes X W) : Takes X (fun cls d σ H => σ.length = X.N.length → W cls d σ H) := fun u s' ⟨a, B, sI, pins, σ, H, cls, d, e, I, nb, up, sky, na, os, ag, w⟩ =>
  t u s' ⟨a, B, sI, pins, σ, H, cls, d, e, I, nb, up, sky, na, os, ag, w I.len⟩
def TCaught (K : PySem.W.Frag) (CS : Addr) : (XK → Hp → VK → Prop) → Hp → VK → Prop := fun tl H Q =>
  tl (fun cls d H' => PySem.W.exmOne K cls (.ref CS) = some true ∧ ∀ a, H' a = none → Q (.ref a) (upd H' a (ExH cls a d))) H fun _ H' => ∃ v : V, (some (some V.non) : Option (Option V)) = some (some v) ∧ Q v H'
theorem sc_caught : FnScope ["_law_work", "_law_caught_here", "_law_error"] ["_law_work"] (defScope s_law_caught) := ⟨rfl, rfl, rfl, by decide +kernel, rfl, by decide +kernel, by decide +kernel⟩
theorem len3 {σ : L2.St} (h : σ.length = 3) : ∃ a b c, σ = [a, b, c] := by
  match σ, h with
  | [a, b, c], _ => exact ⟨a, b, c, rfl⟩
theorem caught_gives {X : Cx} {g CS : Addr} {cdg : Value} {q : Str} (gP : X.mg "StopError" = some (.ref CS)) :
    LamX.GivesTo X ["_law_work", "_law_caught_here", "_law_error"] "_law_caught" (defScope s_law_caught) g cdg (defBody s_law_caught) "_law_work" q (TCaught X.K CS) := by
  intro f c' s H Q tl act hc h
  have nd := sc_caught.nd
  refine ⟨_, pss_cons (ps_set (i := 1) nd rfl (.inl rfl) pe_non) (pss_cons (ps_try_held (X := (cxOf C8.CX0 X.prog X.w X.K X.mg X.base ["_law_work", "_law_caught_here", "_law_error"] "_law_caught" (defScope s_law_caught) g cdg X.A X.stack s H C8.E0).nox) (c := .ref CS) (i := 2)
      (tb := fun W D σ H => ∃ Ech : XK, (∀ cls d σ' H', σ'.length = 3 → Ech cls d H' → W cls d σ' H') ∧ σ[0]? = some (some (.ref f)) ∧ H c' = some (LamX.CodeO c' q) ∧ tl Ech H (fun _ H' => D.nx σ H')) (ts := fun a cls d => tAsg (tVar 2) (gName 1)) (Wout := fun _ _ _ _ => False)
      rfl rfl rfl nd rfl rfl ⟨rfl, by decide, .inl gP⟩ LamX.takes0 (fun W pn xe tk _ => ?_) (fun a oe cls d pn _ _ => pss_one (ps_set (i := 1) nd rfl (.inl rfl) (pv 2)))) (pss_one (ps_ret (pv 1)))), ?_⟩
  · refine ⟨fun pins s' σ H' D I h' => ?_⟩
    obtain ⟨Ech, hW, h1, h2, h3⟩ := h'
    exact (pss_one (ps_expr (act _ pn xe Ech _ _ (takes_len tk) (fun cls d σ' H' e hl => hW cls d σ' H' hl e)))).run pins s' σ H' D I ⟨h1, h2, h3⟩
  · refine ⟨fun cls d H' => PySem.W.exmOne X.K cls (.ref CS) = some true ∧ ∀ a, H' a = none → Q (.ref a) (upd H' a (ExH cls a d)), fun cls d σ' H' hl ⟨e1, e2⟩ => ⟨true, e1, fun _ a ha => ?_, fun z => nomatch z⟩, rfl, hc, h⟩
    obtain ⟨x, y, z, rfl⟩ := len3 hl
    exact ⟨_, rfl, _, rfl, e2 a ha⟩
theorem FunD.okC {P : Program} {w : World} {K : PySem.W.Frag} {mg : Str → Option Value} {base : Heap} {x qual : Str} {params : Arguments} {body : List Stmt} {scope : Scope} {dvs : List V} {kws : List (Str × V)} {f : Addr} {fd : FuncData} {CX : CXT} {N ps : List Str} {k : Nat} {sp : Sp} (F : FunD K x qual params body scope dvs kws f fd) (S : FnScope N ps scope) (len : ∀ vs H Q E, sp vs H Q E → vs.length = ps.length)
    (hbody : ∀ (c : Addr) (A : Around) (outer : List Env) (s : Shared) (H : Hp) (vs : List V) (Q : VK) (E : XK), fd.code = .ref c → Room k (A.deeper (PyProof.Rows.envOfC qual scope s.heap.objs.size f (.ref c))) → sp vs H Q E →
      ∃ t, PSs (cxOf CX P w K mg base N qual scope f (.ref c) A outer s H E) body t ∧ t { nx := fun _ H' => Q .non H', rt := Q } (start N vs) H) : FnOk P w K mg base CX (k + 1) f fd ps sp := by
  obtain ⟨oc, od, dV, kV, doc, pm, an, cdv, ct, osl, rfl, lk, hcd, _, _⟩ := F.ex
  obtain ⟨c, rfl⟩ := He.codeIn_ref hcd
  exact fn_of lk hcd S len fun A outer s H vs Q E hr hsp => hbody c A outer s H vs Q E rfl hr hsp
/-- _law_caught(lambda: body) -/
theorem pe_caught {X : Cx} {T : List (Addr × Str)} {g CS c PT : Addr} {fdg : FuncData} {k : Nat} {params : Arguments} {body : Expr} {scope : Scope} {t : XK → TE} {p lpos pos : Pos}
    (FC : FnP X.K "_law_caught" s_law_caught g fdg) (gC : X.mg "_law_caught" = some (.ref g)) (gS : X.mg "StopError" = some (.ref CS)) (hg : Gl X "_law_caught")
    (TB : LamX.TabB X.base X.mg c PT) (hcode : X.env.code = .ref c) (hmT : (PT, X.env.qual ++ "<lambda>") ∈ T) (huT : ∀ p ∈ T, p.1 = PT → p.2 = X.env.qual ++ "<lambda>") (hr : Room (k + 2) X.A) (L : LamX.LamS X.env.scope scope) (hdef : defaultsOf params X.env = ([], []))
    (hbind : ∀ (q : Str) (cl : List (Str × Addr)) (pm cv ctv : Value), bindArgs (PySem.W.kla_fn "<lambda>" q params body scope cl pm cv ctv) ⟨[], []⟩ = pure [])
    (hbody : ∀ (A : Around) (outer : List Env) (s : Shared) (H : Hp) (E : XK) (f c' : Addr), Room k (A.deeper (LamX.lamEnv X scope s.heap.objs.size f c')) → PE (LamX.lamCx X A outer s H E scope f c') body (t E)) :
    PE X (.Call (.Name "_law_caught" p) [.Lambda params body scope lpos] [] pos) (LamX.tLam T (TCaught X.K CS) t) := by
  have bC : Binds X.K fdg ["_law_work"] [] := FC.bindsN fun _ _ _ _ _ _ us hl => match us, hl with | [_], _ => rfl
  have kp := FC.kp
  obtain ⟨oc, od, dV, kV, doc, pm, an, cdv, ct, osl, rfl, lk, hcd, _, _⟩ := FC.ex
  exact LamX.pe_lamcall (Ng := ["_law_work", "_law_caught_here", "_law_error"]) hg gC kp lk hcd bC sc_caught rfl (.inl rfl) (caught_gives gS) TB hcode hmT huT hr L hdef hbind hbody
/-- _law_caught(v) -/
theorem pe_caughtV {X : Cx} {g CS : Addr} {fdg : FuncData} {k i : Nat} {y : Str} {p p3 pos : Pos}
    (FC : FnP X.K "_law_caught" s_law_caught g fdg) (gC : X.mg "_law_caught" = some (.ref g)) (gS : X.mg "StopError" = some (.ref CS)) (hg : Gl X "_law_caught") (hr : Room (k + 2) X.A) (hN : X.N[i]? = some y) (hvy : Vis X.env.scope y) (hd2 : (y == ("__debug__" : Str)) = false := by decide) (hcd2 : (y == ("__classdict__" : Str)) = false := by decide) :
    PE X (.Call (.Name "_law_caught" p) [.Name y p3] [] pos) (LamV.tGive X k i (TCaught X.K CS)) := by
  have bC : Binds X.K fdg ["_law_work"] [] := FC.bindsN fun _ _ _ _ _ _ us hl => match us, hl with | [_], _ => rfl
  have kp := FC.kp
  obtain ⟨oc, od, dV, kV, doc, pm, an, cdv, ct, osl, rfl, lk, hcd, _, _⟩ := FC.ex
  exact LamV.pe_give (Ng := ["_law_work", "_law_caught_here", "_law_error"]) hg gC kp lk hcd bC sc_caught rfl (.inl rfl) (caught_gives gS) hr hN hvy (by decide) (by decide) (by decide) hd2 hcd2
theorem give_caught {X : Cx} {k i : Nat} {CS : Addr} {σ : L2.St} {H : Hp} {Q : VK} {v : V} {t : XK → TE} (hs : σ[i]? = some (some v)) (h : LamV.Is X k v H t)
    (q : t (fun cls d H' => PySem.W.exmOne X.K cls (.ref CS) = some true ∧ ∀ a, H' a = none → Q (.ref a) (upd H' a (ExH cls a d))) σ H fun _ H' => ∃ v : V, (some (some V.non) : Option (Option V)) = some (some v) ∧ Q v H') : LamV.tGive X k i (TCaught X.K CS) σ H Q := by
  obtain ⟨f, c', pm, ctv, params, body, scope, rfl, B, hf, hc⟩ := h
  exact ⟨f, c', pm, ctv, params, body, scope, t, hs, B, hf, hc, hf, q⟩
/-! ## the visible heap grows -/
theorem Dw.mk {t : Nat} {V0 H : Hp} {d p : Addr} {o : HO} (h : Dw t V0 H d) (hp : H p = none) : ∃ V', Dw t V' (upd H p o) d ∧ Same V0 V' ∧ V' p = some o :=
  ⟨upd V0 p o, h.new hp, same_new (h.same.free hp), upd_same⟩
theorem Dw.grow {t : Nat} {V0 H H1 : Hp} {d : Addr} (h : Dw t V0 H d) (e : Same H H1) : ∃ V', Dw t V' H1 d ∧ Same V0 V' ∧ ∀ b o, H b = none → H1 b = some o → V' b = some o := by
  obtain ⟨s, w, c, ws, cs, rest, turn, h1, h2, h3, ht, D⟩ := h
  have D1 := D.same e
  have hid : ∀ b, H b = none → ¬ (b = d ∨ b = w ∨ b = c) := fun b q => by
    rintro (z | z | z) <;> subst z
    · rw [D.hd] at q; cases q
    · rw [D.hw] at q; cases q
    · rw [D.hc] at q; cases q
  have sm : Same V0 (fun b => if b = d ∨ b = w ∨ b = c then none else H1 b) := fun b o q => by
    have hb : ¬ (b = d ∨ b = w ∨ b = c) := by
      rintro (z | z | z) <;> subst z
      · rw [h1] at q; cases q
      · rw [h2] at q; cases q
      · rw [h3] at q; cases q
    simp only [if_neg hb]
    exact e _ _ (s _ _ q)
  refine ⟨fun b => if b = d ∨ b = w ∨ b = c then none else H1 b, ⟨fun b o q => ?_, w, c, ws, cs, rest, turn, if_pos (.inl rfl), if_pos (.inr (.inl rfl)), if_pos (.inr (.inr rfl)), ht, D1⟩, sm, fun b o q n => ?_⟩
  · by_cases hb : b = d ∨ b = w ∨ b = c
    · simp only [if_pos hb] at q
      cases q
    · simp only [if_neg hb] at q
      exact q
  · simp only [if_neg (hid b q)]
    exact n/-! ## k11's law: things in a drawn order -/
def spShuf : Sp := fun vs H Q _ => ∃ (t : Nat) (V0 : Hp) (d a : Addr) (xs : List V), vs = [.ref d, .ref a] ∧ Dw t V0 H d ∧ t + 200 < T40 ∧ V0 a = some (.lst xs) ∧ xs.length ≤ 100 ∧
  ∀ (H' V' : Hp) (r : Addr) (ys : List V), Dw (t + xs.length) V' H' d → Same V0 V' → V0 r = none → V' r = some (.lst ys) → ys.Perm xs → Q (.ref r) H'
theorem erase_perm {α : Type} : ∀ {l : List α} {k : Nat} {x : α}, l[k]? = some x → (x :: l.eraseIdx k).Perm l
  | [], _, _, h => by cases h
  | a :: l, 0, x, h => by
    injection h with h
    subst h
    exact .refl _
  | a :: l, k + 1, x, h => ((erase_perm (l := l) (k := k) (x := x) h).cons a).symm.trans (.swap _ _ _) |>.symm
theorem sIx_ok {k n : Nat} (h : k < n) : seqIndex? (k : Int) n = some k := by
  unfold seqIndex?
  simp
  omega
section
variable {P : Program} {w : World} {K : PySem.W.Frag} {mg : Str → Option Value} {base : Heap}
theorem sc__law_shuffled : FnScope ["_law_draw", "_law_some", "_law_left", "_law_found"] ["_law_draw", "_law_some"] (defScope s_law_shuffled) := ⟨rfl, rfl, rfl, by decide +kernel, rfl, by decide +kernel, by decide +kernel⟩
theorem ok_lshuf {f : Addr} {fd : FuncData} (F : FnP K "_law_shuffled" s_law_shuffled f fd) (c__law_take : Cal P w K mg base 2 "_law_take" ["_law_draw", "_law_many"] spTake) (G : NkF K mg) (lis : mg "list" = none) : FnOk P w K mg base CX0 3 f fd ["_law_draw", "_law_some"] spShuf := by
  obtain ⟨f__law_take, fd__law_take, g__law_take, k__law_take, b__law_take, G__law_take⟩ := c__law_take
  refine F.ok sc__law_shuffled (fun vs H Q E h => ?_) (fun cdv A outer s H vs Q E hr h => ?_)
  · obtain ⟨t, V0, d, a, xs, rfl, _⟩ := h
    rfl
  · obtain ⟨t, V0, d, a, xs, rfl, hD, ht, ha, hl, k⟩ := h
    have T0 : t + 200 < 1099511627776 := ht
    have nd := sc__law_shuffled.nd
    have hu := hu_of hr
    apply Exists.intro
    apply And.intro
    case left =>
     apply PSs.nox
     apply pss_cons
     · exact (ps_par (X := (cxOf CX0 P w K mg base ["_law_draw", "_law_some", "_law_left", "_law_found"] "_law_shuffled" (defScope s_law_shuffled) f cdv A outer s H E).nox) (i := 2) (j := 3) rfl nd rfl rfl (by decide) rfl rfl (pa_cons (pe_callTy call_list_of (by rfl) lis (by decide +kernel) (pa_cons (pv 1) pa_nil)) (pa_cons (pe_lst pa_nil) pa_nil)) (by rfl))
     apply pss_cons
     · apply ps_while PassesOwn.never
       · exact (pt_cmpR (op_neEL (Nat.lt_of_le_of_lt (Nat.le_add_right _ 64) hr.units)) (pv 2) (pe_lst pa_nil) (nomark _))
       · apply pss_one
         exact (ps_expr (pe_bm PySem.F.plainAttrs_list PySem.F.slot_list_append PySem.F.type_list_append mt_append (pv 3) (pa_cons (pe_bm PySem.F.plainAttrs_list PySem.F.slot_list_pop PySem.F.type_list_pop mt_popAt (pv 2) (pa_cons (pe_call G__law_take (hr.mono (by decide)) rfl g__law_take k__law_take b__law_take .nil pass0 (pa_cons (pv 0) (pa_cons (pe_callB call_len (by rfl) G.len PySem.boot_len (pa_cons (pv 2) pa_nil)) pa_nil))) pa_nil)) pa_nil)))
     apply pss_one
     exact (ps_ret (pv 3))
    case right =>
      refine ⟨_, rfl, a, xs, rfl, .inl (SqL.of (hD.same _ _ ha)), fun l1 hl1 => ?_⟩
      obtain ⟨V1, D1, y1, e1⟩ := hD.mk (o := .lst xs) hl1
      refine ⟨(show 0 ≤ sizeLine by decide), fun l2 hl2 => ⟨_, _, rfl, ?_⟩⟩
      obtain ⟨V2, D2, y2, e2⟩ := D1.mk (o := .lst []) hl2
      have n1 : V0 l1 = none := hD.same.free hl1
      have n2 : V0 l2 = none := y1.free (D1.same.free hl2)
      have ne : l1 ≠ l2 := fun z => by rw [← z] at hl2; rw [upd_same] at hl2; cases hl2
      refine ⟨fun m σ H' => ∃ (V' : Hp) (L F : List V), m = L.length ∧ σ = [some (.ref d), some (.ref a), some (.ref l1), some (.ref l2)] ∧ Dw (t + F.length) V' H' d ∧ Same V0 V' ∧ V' l1 = some (.lst L) ∧ V' l2 = some (.lst F) ∧ (F ++ L).Perm xs, ⟨_, V2, xs, [], rfl, rfl, D2, y1.trans y2, y2 _ _ e1, e2, .refl _⟩, ?_⟩
      rintro m σ H' ⟨V', L, F, rfl, rfl, D', y', eL, eF, pm⟩
      have lp := pm.length_eq
      rw [List.length_append] at lp
      refine ⟨_, rfl, (show 0 ≤ sizeLine by decide), fun q hq => ⟨l1, q, _, rfl, rfl, SqL.of ((same_new hq) _ _ (D'.same _ _ eL)), SqL.of upd_same, _, rfl, ?_⟩⟩
      obtain ⟨V3, D3, y3, _⟩ := D'.mk (o := .lst []) hq
      have eL3 := y3 _ _ eL
      have eF3 := y3 _ _ eF
      cases L with
      | nil =>
        refine iteN1 ⟨_, rfl, ?_⟩
        rw [List.append_nil] at pm
        refine k _ V3 l2 F ?_ (y'.trans y3) n2 eF3 pm
        rw [← pm.length_eq]
        exact D3
      | cons x L =>
        refine iteN0 ⟨fun σ' H' => ∃ m', m' < _ ∧ _, fun _ _ h => h, ?_⟩
        refine ⟨_, rfl, .inl ⟨rfl, _, SqL.of (D3.same _ _ eF3)⟩, _, rfl, .inl ⟨rfl, _, SqL.of (D3.same _ _ eL3)⟩, _, rfl, _, rfl, _, _, rfl, .inl ⟨_, SqL.of (D3.same _ _ eL3), rfl⟩, t + F.length, V3, d, _, rfl, D3, by show t + F.length < 1099511627776; simp only [List.length_cons] at lp; omega, by simp, ?_, fun kk H4 h0 h1 D4 => ?_⟩
        · simp only [List.length_cons] at lp ⊢
          omega
        obtain ⟨k0, rfl⟩ := Int.eq_ofNat_of_zero_le h0
        have hk : k0 < (x :: L).length := by omega
        obtain ⟨y, hy⟩ : ∃ y, (x :: L)[k0]? = some y := ⟨_, List.getElem?_eq_getElem hk⟩
        refine ⟨l1, _, _, k0, y, rfl, rfl, D4.same _ _ eL3, by omega, ?_, sIx_ok hk, hy, ?_⟩
        · have : (x :: L).length ≤ 100 := by
            simp only [List.length_cons] at lp ⊢
            omega
          omega
        have D5 := D4.set (o' := .lst ((x :: L).eraseIdx k0)) eL3
        have eF5 : (upd V3 l1 (.lst ((x :: L).eraseIdx k0))) l2 = some (.lst F) := by rw [upd_ne (Ne.symm ne)]; exact eF3
        have D6 := D5.set (o' := .lst (F ++ [y])) eF5
        refine ⟨l2, F, y, rfl, rfl, D5.same _ _ eF5, ?_, ((x :: L).eraseIdx k0).length, ?_, upd (upd V3 l1 (.lst ((x :: L).eraseIdx k0))) l2 (.lst (F ++ [y])), (x :: L).eraseIdx k0, F ++ [y], rfl, rfl, ?_, same_sub (same_sub (y'.trans y3) n1) n2, ?_, upd_same, ?_⟩
        · exact Nat.lt_of_le_of_lt (show F.length ≤ 100 by simp only [List.length_cons] at lp; omega) (by decide)
        · rw [List.length_eraseIdx_of_lt hk]
          simp only [List.length_cons]
          omega
        · rw [List.length_append]
          exact D6
        · rw [upd_ne ne, upd_same]
        · rw [List.append_assoc]
          exact ((erase_perm hy).append_left F).trans pm
end
/-! ## k11's law: drawn pairs -/
def PrV (W : Hp) (v : V) (m : Nat × List Nat) : Prop := ∃ p q : Addr, v = .ref p ∧ W p = some (.tup [nmV m.1, .ref q]) ∧ W q = some (.tup (m.2.map nmV))
theorem PrV.same {W W' : Hp} {v : V} {m : Nat × List Nat} (h : PrV W v m) (s : Same W W') : PrV W' v m := by
  obtain ⟨p, q, a, b, c⟩ := h
  exact ⟨p, q, a, s _ _ b, s _ _ c⟩
/-- a list written: tuples stay -/
theorem PrV.set {W : Hp} {a : Addr} {xs : List V} {o : HO} {v : V} {m : Nat × List Nat} (h : PrV W v m) (e : W a = some (.lst xs)) : PrV (upd W a o) v m := by
  obtain ⟨p, q, h1, h2, h3⟩ := h
  have n1 : p ≠ a := fun z => by rw [z, e] at h2; cases h2
  have n2 : q ≠ a := fun z => by rw [z, e] at h3; cases h3
  exact ⟨p, q, h1, by rw [upd_ne n1]; exact h2, by rw [upd_ne n2]; exact h3⟩
inductive PrA (W : Hp) : List V → List (Nat × List Nat) → Prop
  | nil : PrA W [] []
  | cons {v : V} {vs : List V} {m : Nat × List Nat} {ms : List (Nat × List Nat)} (h : PrV W v m) (t : PrA W vs ms) : PrA W (v :: vs) (m :: ms)
theorem PrA.to {W W' : Hp} (f : ∀ v m, PrV W v m → PrV W' v m) : ∀ {vs : List V} {ms : List (Nat × List Nat)}, PrA W vs ms → PrA W' vs ms
  | _, _, .nil => .nil
  | _, _, .cons h t => .cons (f _ _ h) (t.to f)
theorem PrA.same {W W' : Hp} (s : Same W W') {vs : List V} {ms : List (Nat × List Nat)} (h : PrA W vs ms) : PrA W' vs ms := h.to fun _ _ h => h.same s
theorem PrA.app {W : Hp} : ∀ {vs us : List V} {ms ks : List (Nat × List Nat)}, PrA W vs ms → PrA W us ks → PrA W (vs ++ us) (ms ++ ks)
  | _, _, _, _, .nil, h => h
  | _, _, _, _, .cons h t, g => .cons h (t.app g)
theorem PrA.length {W : Hp} : ∀ {vs : List V} {ms : List (Nat × List Nat)}, PrA W vs ms → vs.length = ms.length
  | _, _, .nil => rfl
  | _, _, .cons _ t => congrArg Nat.succ t.length
theorem PrA.at {W : Hp} : ∀ {vs : List V} {ms : List (Nat × List Nat)} {i : Nat} {v : V}, PrA W vs ms → vs[i]? = some v → ∃ m, ms[i]? = some m ∧ PrV W v m
  | _, _, _, _, .nil, e => by simp at e
  | _, _, 0, _, .cons h _, e => by
    simp at e
    subst e
    exact ⟨_, rfl, h⟩
  | _, _, i + 1, _, .cons _ t, e => t.at (i := i) (by simpa using e)
theorem PrA.put {W : Hp} : ∀ {vs : List V} {ms : List (Nat × List Nat)} {i : Nat} {v : V} {m : Nat × List Nat}, PrA W vs ms → PrV W v m → PrA W (vs.set i v) (ms.set i m)
  | _, _, _, _, _, .nil, _ => .nil
  | _, _, 0, _, _, .cons _ t, h => .cons h t
  | _, _, i + 1, _, _, .cons h0 t, h => .cons h0 (t.put (i := i) h)
theorem PrA.perm {W : Hp} {vs us : List V} (p : us.Perm vs) : ∀ {ms : List (Nat × List Nat)}, PrA W vs ms → ∃ ks, ks.Perm ms ∧ PrA W us ks := by
  have q := p.symm
  clear p
  induction q with
  | nil =>
    intro ms h
    exact ⟨ms, .refl _, h⟩
  | cons x _ ih =>
    intro ms h
    cases h with
    | cons h t =>
      obtain ⟨ks, h1, h2⟩ := ih t
      exact ⟨_ :: ks, h1.cons _, .cons h h2⟩
  | swap x y l =>
    intro ms h
    cases h with
    | cons h t =>
      cases t with
      | cons h' t => exact ⟨_, .swap _ _ _, .cons h' (.cons h t)⟩
  | trans _ _ ih1 ih2 =>
    intro ms h
    obtain ⟨k1, a, b⟩ := ih1 h
    obtain ⟨k2, c, d⟩ := ih2 b
    exact ⟨k2, c.trans a, d⟩
theorem perm_of_map {α β : Type} {f : α → β} {ys zs : List β} (p : ys.Perm zs) : ∀ {l : List α}, zs = l.map f → ∃ l' : List α, ys = l'.map f ∧ l'.Perm l := by
  have q := p.symm
  clear p
  induction q with
  | nil =>
    intro l e
    cases l with
    | nil => exact ⟨[], rfl, .refl _⟩
    | cons a l => cases e
  | cons x _ ih =>
    intro l e
    cases l with
    | nil => cases e
    | cons a l =>
      injection e with e1 e2
      obtain ⟨l', h1, h2⟩ := ih e2
      exact ⟨a :: l', by rw [List.map_cons, ← e1, ← h1], h2.cons a⟩
  | swap x y l0 =>
    intro l e
    match l, e with
    | a :: b :: l, e =>
      injection e with e1 e2
      injection e2 with e2 e3
      exact ⟨b :: a :: l, by rw [List.map_cons, List.map_cons, ← e1, ← e2, ← e3], .swap _ _ _⟩
  | trans _ _ ih1 ih2 =>
    intro l e
    obtain ⟨l1, a, b⟩ := ih1 e
    obtain ⟨l2, c, d⟩ := ih2 a
    exact ⟨l2, c, d.trans b⟩
theorem cutV_take (xs : List V) (n : Nat) : cutV xs none (some (n : Int)) = xs.take n := by
  unfold cutV
  rw [HT.sIx_nat, HT.sIx_none]
  refine List.ext_getElem? fun i => ?_
  simp only [List.getElem?_take, List.getElem?_drop]
  by_cases h : n ≤ xs.length
  · rw [Nat.min_eq_left h]
    simp
  · rw [Nat.min_eq_right (by omega)]
    by_cases h2 : i < n
    · by_cases h3 : i < xs.length
      · simp [h2, h3]
      · simp [h2, h3]
    · have : ¬ i < xs.length := by omega
      simp [h2, this]
theorem map_at {α β : Type} {f : α → β} {l : List α} {i : Nat} {y : β} (h : (l.map f)[i]? = some y) : ∃ x, l[i]? = some x ∧ y = f x := by
  rw [List.getElem?_map] at h
  cases e : l[i]? with
  | none => rw [e] at h; cases h
  | some x => rw [e] at h; injection h with h; exact ⟨x, rfl, h.symm⟩
theorem ixN_ok {n j : Nat} (hj : j < n) : ixN n (j : Int) = some j := by
  unfold ixN
  rw [if_pos (by omega), if_pos (by omega)]
  simp
theorem map_put {ms : List (Nat × List Nat)} {k : Nat} {m : Nat × List Nat} {u : List Nat} {ns : List Nat} (h : ms[k]? = some m) (e : ms.map (·.1) = ns) : (ms.set k (m.1, u)).map (·.1) = ns := by
  rw [← e]
  refine List.ext_getElem? fun i => ?_
  rw [List.getElem?_map, List.getElem?_map, List.getElem?_set]
  by_cases c : k = i
  · subst c
    have := (List.getElem?_eq_some_iff.mp h).1
    rw [if_pos rfl, if_pos this, h]
    rfl
  · rw [if_neg c]
/-- the pairs of names and uses -/
structure Pm (ms : List (Nat × List Nat)) : Prop where
  one : (ms.map (·.1)).Nodup
  lt : ∀ m ∈ ms, m.1 < 8 ∧ m.1 ≠ 5
  len : ms.length ≤ 6
  pos : 1 ≤ ms.length
  sub : ∀ m ∈ ms, m.2.length ≤ 5 ∧ ∀ x ∈ m.2, x ∈ ms.map (·.1)
def spUnits : Sp := fun vs H Q _ => ∃ (t : Nat) (V0 : Hp) (d : Addr), vs = [.ref d] ∧ Dw t V0 H d ∧ t + 500 < T40 ∧
  ∀ (H' V' : Hp) (r : Addr) (ys : List V) (ms : List (Nat × List Nat)), Dw (t + 500) V' H' d → Same V0 V' → V0 r = none → V' r = some (.lst ys) → PrA V' ys ms → Pm ms → Q (.ref r) H'
section
variable {P : Program} {w : World} {K : PySem.W.Frag} {mg : Str → Option Value} {base : Heap}
theorem sc__law_units : FnScope ["_law_draw", "_law_names", "_law_found", "_law_way", "_law_at", "_law_name", "_law_some", "_law_k", "_law_other", "_law_goal", "_law_uses"] ["_law_draw"] (defScope s_law_units) := ⟨rfl, rfl, rfl, by decide +kernel, rfl, by decide +kernel, by decide +kernel⟩
theorem ok_lunits {f : Addr} {fd : FuncData} (F : FnP K "_law_units" s_law_units f fd) (c__law_take : Cal P w K mg base 2 "_law_take" ["_law_draw", "_law_many"] spTake) (c__law_pick : Cal P w K mg base 3 "_law_pick" ["_law_draw", "_law_some"] (spPick K)) (c__law_shuffled : Cal P w K mg base 3 "_law_shuffled" ["_law_draw", "_law_some"] spShuf) (G : NkF K mg) (tup : mg "tuple" = none) (m_enumerate : mg "enumerate" = none) : FnOk P w K mg base CX0 4 f fd ["_law_draw"] spUnits := by
  obtain ⟨f__law_take, fd__law_take, g__law_take, k__law_take, b__law_take, G__law_take⟩ := c__law_take
  obtain ⟨f__law_pick, fd__law_pick, g__law_pick, k__law_pick, b__law_pick, G__law_pick⟩ := c__law_pick
  obtain ⟨f__law_shuffled, fd__law_shuffled, g__law_shuffled, k__law_shuffled, b__law_shuffled, G__law_shuffled⟩ := c__law_shuffled
  refine F.ok sc__law_units (fun vs H Q E h => ?_) (fun cdv A outer s H vs Q E hr h => ?_)
  · obtain ⟨t, V0, d, rfl, _⟩ := h
    rfl
  · obtain ⟨t, V0, d, rfl, hD, ht, k⟩ := h
    have T0 : t + 500 < 1099511627776 := ht
    have nd := sc__law_units.nd
    have hu := hu_of hr
    apply Exists.intro
    apply And.intro
    case left =>
     apply PSs.nox
     apply pss_cons
     · exact (ps_set (i := 1) nd rfl (.inl rfl) (pe_slice sl_list (pe_call G__law_shuffled (hr.mono (by decide)) rfl g__law_shuffled k__law_shuffled b__law_shuffled .nil pass0 (pa_cons (pv 0) (pa_cons (pe_lst (pa_cons pe_str (pa_cons pe_str (pa_cons pe_str (pa_cons pe_str (pa_cons pe_str (pa_cons pe_str (pa_cons pe_str pa_nil)))))))) pa_nil))) po_none (po_some (pe_op op_add pe_int (pe_call G__law_take (hr.mono (by decide)) rfl g__law_take k__law_take b__law_take .nil pass0 (pa_cons (pv 0) (pa_cons pe_int pa_nil)))))))
     apply pss_cons
     · exact (ps_asg (pe_tup (pa_cons (pe_lst pa_nil) (pa_cons (pe_call G__law_take (hr.mono (by decide)) rfl g__law_take k__law_take b__law_take .nil pass0 (pa_cons (pv 0) (pa_cons pe_int pa_nil))) pa_nil))) (pg_tup rfl (pgs_cons (pg_name (i := 2) nd rfl (Or.inl rfl)) (pgs_cons (pg_name (i := 3) nd rfl (Or.inr rfl)) pgs_nil))))
     apply pss_cons
     · apply ps_for PassesOwn.never rfl
       · exact (pi_enum (by rfl) m_enumerate (pa_cons (pv 1) pa_nil))
       · exact (pg_tup rfl (pgs_cons (pg_name (i := 4) nd rfl (Or.inr rfl)) (pgs_cons (pg_name (i := 5) nd rfl (Or.inl rfl)) pgs_nil)))
       · apply pss_cons
         · exact (ps_setLc (i := 6) (own := [("_law_k", 7), ("_law_other", 8)]) (g := gTup K 2 (gCons (gName 7) (gCons (gName 8) gNil))) rfl nd rfl rfl (sw_true rfl rfl rfl (by decide +kernel)) (pi_enum (by rfl) m_enumerate (pa_cons (pv 1) pa_nil)) (blkOk_by (own := [("_law_k", 7), ("_law_other", 8)]) (N := ["_law_draw", "_law_names", "_law_found", "_law_way", "_law_at", "_law_name", "_law_some", "_law_k", "_law_other", "_law_goal", "_law_uses"]) (sc := defScope s_law_units) (by decide +kernel)) (fun _ _ _ _ _ => by exact (pg_tup rfl (pgs_cons (pg_name (i := 7) nd rfl (Or.inl rfl)) (pgs_cons (pg_name (i := 8) nd rfl (Or.inl rfl)) pgs_nil)))) (fun _ _ _ _ _ => pts_one (PW.pt (pw_or (pt_cmpR op_lt (pv 7) (pv 4) (nomark _)) (pw_or1 (PW.pt (pw_and (pt_cmpR op_eq (pv 3) pe_int (nomark _)) (pw_and1 (pt_cmpR op_eq (pe_call G__law_take (hr.mono (by decide)) rfl g__law_take k__law_take b__law_take .nil pass0 (pa_cons (pv 0) (pa_cons pe_int pa_nil))) pe_int (nomark _))))))))) (fun _ _ _ _ _ => (pv 8)))
         apply pss_one
         exact (ps_expr (pe_bm PySem.F.plainAttrs_list PySem.F.slot_list_append PySem.F.type_list_append mt_append (pv 2) (pa_cons (pe_tup (pa_cons (pv 5) (pa_cons (pe_callTy call_tuple_of (by rfl) tup (by decide +kernel) (pa_cons (pe_slice sl_list (pe_lc (own := [("_law_other", 8)]) (g := gName 8) rfl nd (pi_list (pe_call G__law_shuffled (hr.mono (by decide)) rfl g__law_shuffled k__law_shuffled b__law_shuffled .nil pass0 (pa_cons (pv 0) (pa_cons (pv 6) pa_nil)))) (blkOk_by (own := [("_law_other", 8)]) (N := ["_law_draw", "_law_names", "_law_found", "_law_way", "_law_at", "_law_name", "_law_some", "_law_k", "_law_other", "_law_goal", "_law_uses"]) (sc := defScope s_law_units) (by decide +kernel)) (fun _ _ _ _ _ => (pg_name (i := 8) nd rfl (Or.inl rfl))) (fun _ _ _ _ _ => pts_one (pt_cmpR op_eq (pe_call G__law_take (hr.mono (by decide)) rfl g__law_take k__law_take b__law_take .nil pass0 (pa_cons (pv 0) (pa_cons pe_int pa_nil))) pe_int (nomark _))) (fun _ _ _ _ _ => (pv 8))) po_none (po_some pe_int)) pa_nil)) pa_nil))) pa_nil)))
     apply pss_cons
     · exact (ps_if (pt_cmpR op_eq (pv 3) pe_int (nomark _)) (pss_cons (ps_asg (pe_tup (pa_cons (pe_call G__law_take (hr.mono (by decide)) rfl g__law_take k__law_take b__law_take .nil pass0 (pa_cons (pv 0) (pa_cons (pe_callB call_len (by rfl) G.len PySem.boot_len (pa_cons (pv 2) pa_nil)) pa_nil))) (pa_cons (pe_call G__law_pick (hr.mono (by decide)) rfl g__law_pick k__law_pick b__law_pick .nil pass0 (pa_cons (pv 0) (pa_cons (pv 1) pa_nil))) pa_nil))) (pg_tup rfl (pgs_cons (pg_name (i := 4) nd rfl (Or.inr rfl)) (pgs_cons (pg_name (i := 9) nd rfl (Or.inl rfl)) pgs_nil)))) (pss_cons (ps_asg (pe_ix ix_list (pv 2) (pv 4) (fun _ _ => rfl)) (pg_tup rfl (pgs_cons (pg_name (i := 5) nd rfl (Or.inl rfl)) (pgs_cons (pg_name (i := 10) nd rfl (Or.inl rfl)) pgs_nil)))) (pss_one (ps_asg (pe_tup (pa_cons (pv 5) (pa_cons (pe_ifExp (PW.pt (pw_or (pt_cmpR op_in_seq (pv 9) (pv 10) (by rfl)) (pw_or1 (pt_cmpR op_gt (pe_callB call_len (by rfl) G.len PySem.boot_len (pa_cons (pv 10) pa_nil)) pe_int (nomark _))))) (pv 10) (pe_op op_catA (pv 10) (pe_tup (pa_cons (pv 9) pa_nil)))) pa_nil))) (pg_sub (pv 2) (pv 4) set_list))))) pss_nil)
     apply pss_one
     exact (ps_ret (pe_call G__law_shuffled (hr.mono (by decide)) rfl g__law_shuffled k__law_shuffled b__law_shuffled .nil pass0 (pa_cons (pv 0) (pa_cons (pv 2) pa_nil))))
    case right =>
      refine ⟨_, rfl, (show 7 ≤ sizeLine by decide), fun p0 hp0 => ?_⟩
      obtain ⟨V1, D1, y1, e1⟩ := hD.mk (o := .lst ([0, 2, 3, 4, 7, 1, 6].map nmV)) hp0
      refine ⟨t, V1, d, p0, [0, 2, 3, 4, 7, 1, 6].map nmV, rfl, D1, by show t + 200 < 1099511627776; omega, e1, by decide, fun H2 V2 r ys D2 y2 n2 e2 pm => ?_⟩
      obtain ⟨l0, rfl, pl⟩ := perm_of_map pm rfl
      have D2 : Dw (t + 7) V2 H2 d := D2
      refine ⟨_, rfl, t + 7, V2, d, 6, rfl, D2, by show t + 7 < 1099511627776; omega, by decide, by decide, fun kk H3 h0 h1 D3 => ⟨_, _, rfl, rfl, _, rfl, r, _, rfl, SqL.of (D3.same _ _ e2), fun p1 hp1 => ?_⟩⟩
      obtain ⟨k0, rfl⟩ := Int.eq_ofNat_of_zero_le h0
      rw [show (1 : Int) + (k0 : Int) = ((1 + k0 : Nat) : Int) by omega, cutV_take, ← List.map_take]
      obtain ⟨V3, D4, y3, e3⟩ := D3.mk (o := .lst ((l0.take (1 + k0)).map nmV)) hp1
      have ll : l0.length = 7 := pl.length_eq
      have nsl : (l0.take (1 + k0)).length = 1 + k0 := by rw [List.length_take]; omega
      have ns1 : (l0.take (1 + k0)).Nodup := List.Nodup.sublist (List.take_sublist _ _) (pl.nodup_iff.mpr (by decide))
      have ns8 : ∀ x ∈ l0.take (1 + k0), x < 8 ∧ x ≠ 5 := fun x hx => by
        have := pl.mem_iff.mp (List.mem_of_mem_take hx)
        revert x
        have all : ∀ x ∈ [0, 2, 3, 4, 7, 1, 6], x < 8 ∧ x ≠ 5 := by decide
        intro x _ h
        exact all x h
      have y03 := y1.trans (y2.trans y3)
      generalize l0.take (1 + k0) = ns at e3 nsl ns1 ns8 D4 ⊢
      refine ⟨(show 0 ≤ sizeLine by decide), fun FL hFL => ⟨_, rfl, t + 8, upd V3 FL (.lst []), d, 3, rfl, D4.new hFL, by show t + 8 < 1099511627776; omega, by decide, by decide, fun way H4 w0 w1 D5 => ⟨(show 2 ≤ sizeLine by decide), fun pq hpq => ⟨pq, _, rfl, SqT.of upd_same, rfl, _, _, rfl, _, _, rfl, rfl, ?_⟩⟩⟩⟩
      have nF : V3 FL = none := D4.same.free hFL
      have y4 : Same V3 (upd V3 FL (.lst [])) := same_new nF
      have pF : p1 ≠ FL := ne_of_none e3 nF
      have eF : (upd V3 FL (.lst [])) FL = some (.lst []) := upd_same
      obtain ⟨V5, D6, y5, _⟩ := D5.mk (o := .tup [.ref FL, .int way]) hpq
      have e15 := y5 _ _ (y4 _ _ e3)
      have eF5 := y5 _ _ eF
      have y05 := y03.trans (y4.trans y5)
      refine ⟨_, rfl, p1, _, rfl, SqL.of (D6.same _ _ e15), ?_⟩
      have F0 : V0 FL = none := y03.free nF
      refine for_it walk_enum (fun i σ H' => ∃ (V' : Hp) (t' : Nat) (vs : List V) (ms : List (Nat × List Nat)) (v4 v5 v6 : Option V), σ = [some (.ref d), some (.ref p1), some (.ref FL), some (.int way), v4, v5, v6, none, none, none, none] ∧ Dw t' V' H' d ∧ t' ≤ t + 10 + 30 * i ∧ Same V0 V' ∧ V' p1 = some (.lst (ns.map nmV)) ∧ V' FL = some (.lst vs) ∧ PrA V' vs ms ∧ ms.map (·.1) = ns.take i ∧ ∀ m ∈ ms, m.2.length ≤ 5 ∧ ∀ x ∈ m.2, x ∈ ns)
        ⟨V5, t + 9, [], [], none, none, none, rfl, D6, by omega, y05, e15, eF5, .nil, rfl, (fun _ h => nomatch h)⟩ (fun i σ H' _ ⟨V', _, _, _, _, _, _, _, D', _, _, e, _⟩ => SqL.of (D'.same _ _ e)) ?_ ?_
      · rintro i x σ Hx H' hi ⟨V', t', vs, ms, v4, v5, v6, rfl, D', tb, y', e1', eF', A', hm, hs⟩ ⟨Tp, x1, x2, rfl, hT, rfl, hx1, hx2⟩
        cases hx1
        obtain ⟨n, hn, rfl⟩ : ∃ n, ns[i]? = some n ∧ x2 = nmV n := map_at hx2
        have hi6 : i < 1 + k0 := by rw [← nsl]; exact (List.getElem?_eq_some_iff.mp hn).1
        obtain ⟨Va, Da, ya, _⟩ := D'.mk (o := .tup [.int (i : Int), nmV n]) hT
        have e1a := ya _ _ e1'
        refine ⟨Tp, _, rfl, SqT.of upd_same, rfl, _, _, rfl, _, _, rfl, rfl, ?_⟩
        refine ⟨_, rfl, p1, _, rfl, SqL.of (Da.same _ _ e1a), fun Dl hDl => ?_⟩
        have nDl : Va Dl = none := Da.same.free hDl
        refine lc_it walk_enum (fun j H' => ∃ (Vc : Hp) (t2 : Nat) (so : List Nat), Dw t2 Vc H' d ∧ t2 ≤ t' + j ∧ Same Va Vc ∧ Vc Dl = some (.lst (so.map nmV)) ∧ so.length ≤ j ∧ ∀ x ∈ so, x ∈ ns) ⟨upd Va Dl (.lst []), t', [], Da.new hDl, by omega, same_new nDl, upd_same, Nat.le_refl _, (fun _ h => nomatch h)⟩ (fun j H' _ ⟨Vc, _, _, Dc, _, yc, _⟩ => SqL.of (Dc.same _ _ (yc _ _ e1a))) ?_ ?_
        · rintro j x Hx H' hj ⟨Vc, t2, so, Dc, tc, yc, eD, ls, hso⟩ ⟨Tq, x1, x2, rfl, hTq, rfl, hx1, hx2⟩
          cases hx1
          obtain ⟨u, hu2, rfl⟩ : ∃ n, ns[j]? = some n ∧ x2 = nmV n := map_at hx2
          obtain ⟨Vd, Dd, yd, _⟩ := Dc.mk (o := .tup [.int (j : Int), nmV u]) hTq
          refine ⟨Tq, _, rfl, SqT.of upd_same, rfl, _, _, rfl, _, _, rfl, rfl, rfl, ?_⟩
          have uns := List.mem_of_getElem? hu2
          have hj7 : j < 7 := by
            have := (List.getElem?_eq_some_iff.mp hu2).1
            omega
          have no : ∀ (H5 Ve : Hp) (t3 : Nat), Dw t3 Ve H5 d → t3 ≤ t' + (j + 1) → Same Vd Ve → ∃ (Vc : Hp) (t2 : Nat) (so : List Nat), Dw t2 Vc H5 d ∧ t2 ≤ t' + (j + 1) ∧ Same Va Vc ∧ Vc Dl = some (.lst (so.map nmV)) ∧ so.length ≤ j + 1 ∧ ∀ x ∈ so, x ∈ ns :=
            fun H5 Ve t3 D5 tl ye => ⟨Ve, t3, so, D5, tl, yc.trans (yd.trans ye), (yd.trans ye) _ _ eD, by omega, hso⟩
          have yes : ∀ (H5 Ve : Hp) (t3 : Nat), Dw t3 Ve H5 d → t3 ≤ t' + (j + 1) → Same Vd Ve → ∃ y', (some (some (nmV u)) : Option (Option V)) = some (some y') ∧ ∃ acc, H5 Dl = some (.lst acc) ∧ acc.length < sizeLine ∧ ∃ (Vc : Hp) (t2 : Nat) (so : List Nat), Dw t2 Vc (upd H5 Dl (.lst (acc ++ [y']))) d ∧ t2 ≤ t' + (j + 1) ∧ Same Va Vc ∧ Vc Dl = some (.lst (so.map nmV)) ∧ so.length ≤ j + 1 ∧ ∀ x ∈ so, x ∈ ns :=
            fun H5 Ve t3 D5 tl ye => by
              have eD5 := (yd.trans ye) _ _ eD
              refine ⟨_, rfl, _, D5.same _ _ eD5, ?_, upd Ve Dl (.lst (so.map nmV ++ [nmV u])), t3, so ++ [u], D5.set eD5, tl, same_sub (yc.trans (yd.trans ye)) nDl, ?_, ?_, fun x hx => ?_⟩
              · rw [List.length_map]
                exact Nat.lt_of_le_of_lt (show so.length ≤ 7 by omega) (by decide)
              · rw [upd_same, List.map_append]
                rfl
              · rw [List.length_append]
                exact Nat.succ_le_succ ls
              · rcases List.mem_append.mp hx with hx | hx
                · exact hso x hx
                · rw [List.mem_singleton.mp hx]
                  exact uns
          refine ⟨_, rfl, _, rfl, _, _, rfl, rfl, _, rfl, ?_⟩
          by_cases c1 : j < i
          · rw [decide_eq_true (show ((j : Nat) : Int) < (i : Nat) by omega)]
            exact iteT (iteT (yes _ Vd t2 Dd (by omega) (Same.refl _)))
          rw [decide_eq_false (show ¬ ((j : Nat) : Int) < (i : Nat) by omega)]
          refine iteF ⟨_, rfl, rfl, _, rfl, ?_⟩
          by_cases c2 : way = 0
          rotate_left
          · rw [decide_eq_false (fun z => c2 (by injection z))]
            exact iteF (iteF (no _ Vd t2 Dd (by omega) (Same.refl _)))
          rw [decide_eq_true (show V.int way = V.int 0 by rw [c2])]
          refine iteT ⟨_, rfl, t2, Vd, d, 3, rfl, Dd, by show t2 < 1099511627776; omega, by decide, by decide, fun k2 H6 _ _ D6 => ⟨rfl, _, rfl, ?_⟩⟩
          by_cases c3 : k2 = 0
          · rw [decide_eq_true (show V.int k2 = V.int 0 by rw [c3])]
            exact iteT (yes _ Vd (t2 + 1) D6 (by omega) (Same.refl _))
          · rw [decide_eq_false (fun z => c3 (by injection z))]
            exact iteF (no _ Vd (t2 + 1) D6 (by omega) (Same.refl _))
        · rintro H6 ⟨Vc, t2, so, Dc, tc, yc, eD, ls, hso⟩
          rw [List.length_map, nsl] at tc ls
          have y1c := ya.trans yc
          have eFc := y1c _ _ eF'
          have e1c := y1c _ _ e1'
          have Ac := A'.same y1c
          have y0c := y'.trans y1c
          have n6 : n ∈ ns := List.mem_of_getElem? hn
          refine ⟨_, rfl, .inl ⟨rfl, _, SqL.of (Dc.same _ _ eFc)⟩, _, rfl, _, rfl, _, rfl, t2, Vc, d, Dl, so.map nmV, rfl, Dc, by show t2 + 200 < 1099511627776; omega, eD, by rw [List.length_map]; omega, fun H7 V7 r7 ys7 D7 y7 n7 e7 pm7 => ?_⟩
          obtain ⟨sh, rfl, psh⟩ := perm_of_map pm7 rfl
          rw [List.length_map] at D7
          have lsh : sh.length = so.length := psh.length_eq
          refine ⟨r7, rfl, ⟨_, SqL.of (D7.same _ _ e7)⟩, fun D8 hD8 => ?_⟩
          have n8 : V7 D8 = none := D7.same.free hD8
          refine lc_list (K := K) (a := r7) (xs := sh.map nmV) (fun j H' => ∃ (Ve : Hp) (t3 : Nat) (u : List Nat), Dw t3 Ve H' d ∧ t3 ≤ t2 + so.length + j ∧ Same V7 Ve ∧ Ve D8 = some (.lst (u.map nmV)) ∧ u.length ≤ j ∧ ∀ x ∈ u, x ∈ ns) ⟨upd V7 D8 (.lst []), t2 + so.length, [], D7.new hD8, by omega, same_new n8, upd_same, Nat.le_refl _, (fun _ h => nomatch h)⟩ (fun j H' _ ⟨Ve, _, _, De, _, ye, _⟩ => SqL.of (De.same _ _ (ye _ _ e7))) ?_ ?_
          · rintro j y H' hy ⟨Ve, t3, u, De, te, ye, eu, lu, hu9⟩
            obtain ⟨x, hx, rfl⟩ := map_at hy
            have hj7 : j < 7 := by
              have := (List.getElem?_eq_some_iff.mp hx).1
              omega
            refine ⟨rfl, _, rfl, t3, Ve, d, 2, rfl, De, by show t3 < 1099511627776; omega, by decide, by decide, fun k2 H9 _ _ D9 => ⟨rfl, _, rfl, ?_⟩⟩
            by_cases c3 : k2 = 0
            · rw [decide_eq_true (show V.int k2 = V.int 0 by rw [c3])]
              refine iteT ⟨_, rfl, _, D9.same _ _ eu, ?_, upd Ve D8 (.lst (u.map nmV ++ [nmV x])), t3 + 1, u ++ [x], D9.set eu, by omega, same_sub ye n8, ?_, ?_, fun z hz => ?_⟩
              · rw [List.length_map]
                exact Nat.lt_of_le_of_lt (show u.length ≤ 7 by omega) (by decide)
              · rw [upd_same, List.map_append]
                rfl
              · rw [List.length_append]
                exact Nat.succ_le_succ lu
              · rcases List.mem_append.mp hz with hz | hz
                · exact hu9 z hz
                · rw [List.mem_singleton.mp hz]
                  exact hso x (psh.mem_iff.mp (List.mem_of_getElem? hx))
            · rw [decide_eq_false (fun z => c3 (by injection z))]
              exact iteF ⟨Ve, t3 + 1, u, D9, by omega, ye, eu, by omega, hu9⟩
          · rintro H9 ⟨Ve, t3, u, De, te, ye, eu, lu, hu9⟩
            rw [List.length_map, lsh] at te lu
            refine ⟨_, rfl, D8, _, rfl, SqL.of (De.same _ _ eu), fun p9 hp9 => ?_⟩
            rw [show (5 : Int) = ((5 : Nat) : Int) from rfl, cutV_take, ← List.map_take]
            obtain ⟨Vf, Df, yf, ef⟩ := De.mk (o := .lst ((u.take 5).map nmV)) hp9
            refine ⟨p9, _, rfl, .inl ⟨SqL.of (Df.same _ _ ef), fun pq hpq => ?_⟩⟩
            obtain ⟨Vg, Dg, yg, eg⟩ := Df.mk (o := .tup ((u.take 5).map nmV)) hpq
            refine ⟨(show 2 ≤ sizeLine by decide), fun pp hpp => ?_⟩
            obtain ⟨Vh, Dh, yh, eh⟩ := Dg.mk (o := .tup [nmV n, .ref pq]) hpp
            have y2 : Same Vc Vh := y7.trans (ye.trans (yf.trans (yg.trans yh)))
            have eFh := y2 _ _ eFc
            have F0h := (Same.refl V0)
            refine ⟨FL, vs, .ref pp, rfl, rfl, Dh.same _ _ eFh, ?_, upd Vh FL (.lst (vs ++ [.ref pp])), t3, vs ++ [.ref pp], ms ++ [(n, u.take 5)], _, _, _, rfl, Dh.set eFh, by omega, same_sub (y0c.trans y2) F0, ?_, upd_same, ?_, ?_, fun m hm2 => ?_⟩
            · have l1 := A'.length
              have l2 := congrArg List.length hm
              rw [List.length_map] at l2
              have l3 := List.length_take_le' i ns
              exact Nat.lt_of_le_of_lt (show vs.length ≤ 7 by omega) (by decide)
            · rw [upd_ne pF]
              exact y2 _ _ e1c
            · have h1 : PrV Vh (.ref pp) (n, u.take 5) := ⟨pp, pq, rfl, eh, yh _ _ eg⟩
              exact ((Ac.same y2).to fun _ _ h => h.set eFh).app (.cons (h1.set eFh) .nil)
            · rw [List.map_append, hm, take_snoc2 hn]
              rfl
            · rcases List.mem_append.mp hm2 with hm2 | hm2
              · exact hs m hm2
              · rw [List.mem_singleton.mp hm2]
                refine ⟨List.length_take_le _ _, fun x hx => hu9 x (List.mem_of_mem_take hx)⟩
      · rintro σ H6 ⟨V', t', vs, ms, v4, v5, v6, rfl, D', tb, y', e1', eF', A', hm, hs⟩
        rw [List.length_map, nsl] at tb hm
        rw [List.take_of_length_le (show ns.length ≤ 1 + k0 by omega)] at hm
        have k6 : k0 < 6 := by omega
        have lm : ms.length = 1 + k0 := by
          have := congrArg List.length hm
          rwa [List.length_map, nsl] at this
        have lv := A'.length
        have last : ∀ (H7 V7 : Hp) (t7 : Nat) (us : List V) (ks : List (Nat × List Nat)), Dw t7 V7 H7 d → t7 ≤ t + 250 → Same V0 V7 → V7 FL = some (.lst us) → PrA V7 us ks → ks.map (·.1) = ns → (∀ m ∈ ks, m.2.length ≤ 5 ∧ ∀ x ∈ m.2, x ∈ ns) →
            spShuf [.ref d, .ref FL] H7 Q (fun _ _ _ => False) := fun H7 V7 t7 us ks D7 tl y7 e7 A7 hk hs7 => by
          have l1 := A7.length
          have l2 := congrArg List.length hk
          rw [List.length_map] at l2
          refine ⟨t7, V7, d, FL, us, rfl, D7, by show t7 + 200 < 1099511627776; omega, e7, by omega, fun H8 V8 r8 ys8 D8 y8 n8 e8 pm8 => ?_⟩
          obtain ⟨ks2, pk, A8⟩ := (A7.same y8).perm pm8
          have pn := pk.map (·.1)
          rw [hk] at pn
          refine k H8 V8 r8 ys8 ks2 (D8.mono (by omega)) (y7.trans y8) (y7.free n8) e8 A8 ⟨pn.nodup_iff.mpr ns1, fun m hm2 => ?_, ?_, ?_, fun m hm2 => ?_⟩
          · exact ns8 _ (pn.mem_iff.mp (List.mem_map.mpr ⟨m, hm2, rfl⟩))
          · rw [pk.length_eq]
            omega
          · rw [pk.length_eq]
            omega
          · obtain ⟨h1, h2⟩ := hs7 m (pk.mem_iff.mp hm2)
            exact ⟨h1, fun x hx => pn.mem_iff.mpr (h2 x hx)⟩
        refine ⟨_, rfl, rfl, _, rfl, ?_⟩
        by_cases c1 : way = 1
        rotate_left
        · rw [decide_eq_false (fun z => c1 (by injection z))]
          exact iteF ⟨_, rfl, _, rfl, last H6 V' t' vs ms D' (by omega) y' eF' A' hm hs⟩
        rw [decide_eq_true (show V.int way = V.int 1 by rw [c1])]
        refine iteT ?_
        have lns : ns.length ≤ 6 := by omega
        refine ⟨_, rfl, _, rfl, _, _, rfl, .inl ⟨_, SqL.of (D'.same _ _ eF'), rfl⟩, t', V', d, _, rfl, D', by show t' < 1099511627776; omega, by omega, by omega, fun kk H7 h0 h1 D7 => ⟨_, rfl, _, rfl, t' + 1, V', d, .ref p1, ns.map nmV, rfl, D7, by show t' + 1 < 1099511627776; omega, .lst (SqL.of e1'), by rw [List.length_map]; omega, by rw [List.length_map]; omega, fun v H8 hv D8 => ⟨(show 2 ≤ sizeLine by decide), fun pq hpq => ⟨pq, _, rfl, SqT.of upd_same, rfl, _, _, rfl, _, _, rfl, rfl, ?_⟩⟩⟩⟩
        obtain ⟨g, hg, rfl⟩ := List.mem_map.mp hv
        obtain ⟨k1, rfl⟩ := Int.eq_ofNat_of_zero_le h0
        obtain ⟨V9, D9, y9, _⟩ := D8.mk (o := .tup [.int ((k1 : Nat) : Int), nmV g]) hpq
        have A9 := A'.same y9
        have hk1 : k1 < vs.length := by omega
        obtain ⟨v1, hv1⟩ : ∃ v1, vs[k1]? = some v1 := ⟨_, List.getElem?_eq_getElem hk1⟩
        obtain ⟨m1, hm1, pp, qq, rfl, hpp, hqq⟩ := A9.at hv1
        have hs1 := hs m1 (List.mem_of_getElem? hm1)
        have eF9 := y9 _ _ eF'
        refine ⟨_, rfl, _, rfl, FL, vs, _, _, rfl, rfl, SqL.of (D9.same _ _ eF9), atI_nat hv1, ?_⟩
        refine ⟨pp, _, rfl, SqT.of (D9.same _ _ hpp), rfl, _, _, rfl, _, _, rfl, rfl, ?_⟩
        refine ⟨_, rfl, ?_⟩
        have inU : (if false = true then !inV (nmV g) (m1.2.map nmV) else inV (nmV g) (m1.2.map nmV)) = decide (g ∈ m1.2) := in_nms (ns8 g hg).1 fun x hx => (ns8 x (hs1.2 x hx)).1
        have hqq9 := D9.same _ _ hqq
        refine ⟨_, rfl, _, rfl, qq, _, rfl, .inr (SqT.of hqq9), rfl, flat_nm _, _, rfl, ?_⟩
        rw [inU]
        by_cases c2 : g ∈ m1.2
        · rw [decide_eq_true c2]
          refine iteT (iteT ⟨_, rfl, ?_⟩)
          refine ⟨(show 2 ≤ sizeLine by decide), fun pn hpn => ?_⟩
          obtain ⟨Vz, Dz, yz, ez⟩ := D9.mk (o := .tup [nmV m1.1, .ref qq]) hpn
          have eFz := yz _ _ eF9
          refine ⟨_, rfl, _, rfl, FL, vs, _, k1, rfl, rfl, Dz.same _ _ eFz, ixN_ok hk1, ?_⟩
          have A2 : PrA (upd Vz FL (.lst (vs.set k1 (.ref pn)))) (vs.set k1 (.ref pn)) (ms.set k1 (m1.1, m1.2)) := (((A9.same yz).to fun _ _ h => h.set eFz).put (i := k1) (PrV.set ⟨pn, qq, rfl, ez, yz _ _ hqq⟩ eFz))
          refine ⟨_, rfl, _, rfl, last _ _ (t' + 2) _ _ (Dz.set eFz) (by omega) (same_sub ((y'.trans y9).trans yz) F0) upd_same A2 (map_put hm1 hm) fun m hm2 => ?_⟩
          rcases List.mem_or_eq_of_mem_set hm2 with hm2 | rfl
          · exact hs m hm2
          · exact hs1
        rw [decide_eq_false c2]
        refine iteF ⟨_, rfl, _, _, rfl, .inr ⟨_, SqT.of hqq9, rfl⟩, _, _, rfl, rfl, _, rfl, ?_⟩
        rw [List.length_map]
        by_cases c3 : 4 < m1.2.length
        · rw [decide_eq_true (show (4 : Int) < ((m1.2.length : Nat) : Int) by omega)]
          refine iteT ⟨_, rfl, ?_⟩
          refine ⟨(show 2 ≤ sizeLine by decide), fun pn hpn => ?_⟩
          obtain ⟨Vz, Dz, yz, ez⟩ := D9.mk (o := .tup [nmV m1.1, .ref qq]) hpn
          have eFz := yz _ _ eF9
          refine ⟨_, rfl, _, rfl, FL, vs, _, k1, rfl, rfl, Dz.same _ _ eFz, ixN_ok hk1, ?_⟩
          have A2 : PrA (upd Vz FL (.lst (vs.set k1 (.ref pn)))) (vs.set k1 (.ref pn)) (ms.set k1 (m1.1, m1.2)) := (((A9.same yz).to fun _ _ h => h.set eFz).put (i := k1) (PrV.set ⟨pn, qq, rfl, ez, yz _ _ hqq⟩ eFz))
          refine ⟨_, rfl, _, rfl, last _ _ (t' + 2) _ _ (Dz.set eFz) (by omega) (same_sub ((y'.trans y9).trans yz) F0) upd_same A2 (map_put hm1 hm) fun m hm2 => ?_⟩
          rcases List.mem_or_eq_of_mem_set hm2 with hm2 | rfl
          · exact hs m hm2
          · exact hs1
        rw [decide_eq_false (show ¬ (4 : Int) < ((m1.2.length : Nat) : Int) by omega)]
        refine iteF ⟨_, rfl, _, rfl, (show 1 ≤ sizeLine by decide), fun pg hpg => ?_⟩
        obtain ⟨Va, Da, ya, ea⟩ := D9.mk (o := .tup [nmV g]) hpg
        refine ⟨qq, pg, _, _, rfl, rfl, SqT.of (Da.same _ _ (ya _ _ hqq)), SqT.of (Da.same _ _ ea), ?_, fun z0 => ?_, (fun _ z => by cases z), fun _ _ pc hpc => ?_⟩
        · rw [List.length_map]
          exact Nat.le_trans (show m1.2.length + 1 ≤ 6 by omega) (by decide)
        · have u0 : m1.2 = [] := List.map_eq_nil_iff.mp z0
          refine ⟨(show 2 ≤ sizeLine by decide), fun pn hpn => ?_⟩
          obtain ⟨Vz, Dz, yz, ez⟩ := Da.mk (o := .tup [nmV m1.1, .ref pg]) hpn
          have eFz := yz _ _ (ya _ _ eF9)
          refine ⟨_, rfl, _, rfl, FL, vs, _, k1, rfl, rfl, Dz.same _ _ eFz, ixN_ok hk1, ?_⟩
          have A2 : PrA (upd Vz FL (.lst (vs.set k1 (.ref pn)))) (vs.set k1 (.ref pn)) (ms.set k1 (m1.1, [g])) := ((((A9.same ya).same yz).to fun _ _ h => h.set eFz).put (i := k1) (PrV.set ⟨pn, pg, rfl, ez, yz _ _ ea⟩ eFz))
          refine ⟨_, rfl, _, rfl, last _ _ (t' + 2) _ _ (Dz.set eFz) (by omega) (same_sub (((y'.trans y9).trans ya).trans yz) F0) upd_same A2 (map_put hm1 hm) fun m hm2 => ?_⟩
          rcases List.mem_or_eq_of_mem_set hm2 with hm2 | rfl
          · exact hs m hm2
          · exact ⟨show 1 ≤ 5 by decide, fun x hx => by rw [List.mem_singleton.mp hx]; exact hg⟩
        obtain ⟨Vb, Db, yb, eb⟩ := Da.mk (o := .tup (m1.2.map nmV ++ [nmV g])) hpc
        have eb : Vb pc = some (.tup ((m1.2 ++ [g]).map nmV)) := by rw [eb, List.map_append]; rfl
        have yab := ya.trans yb
        refine ⟨(show 2 ≤ sizeLine by decide), fun pn hpn => ?_⟩
        obtain ⟨Vz, Dz, yz, ez⟩ := Db.mk (o := .tup [nmV m1.1, .ref pc]) hpn
        have eFz := yz _ _ (yab _ _ eF9)
        refine ⟨_, rfl, _, rfl, FL, vs, _, k1, rfl, rfl, Dz.same _ _ eFz, ixN_ok hk1, ?_⟩
        have A2 : PrA (upd Vz FL (.lst (vs.set k1 (.ref pn)))) (vs.set k1 (.ref pn)) (ms.set k1 (m1.1, (m1.2 ++ [g]))) := ((((A9.same yab).same yz).to fun _ _ h => h.set eFz).put (i := k1) (PrV.set ⟨pn, pc, rfl, ez, yz _ _ eb⟩ eFz))
        refine ⟨_, rfl, _, rfl, last _ _ (t' + 2) _ _ (Dz.set eFz) (by omega) (same_sub (((y'.trans y9).trans yab).trans yz) F0) upd_same A2 (map_put hm1 hm) fun m hm2 => ?_⟩
        rcases List.mem_or_eq_of_mem_set hm2 with hm2 | rfl
        · exact hs m hm2
        · exact ⟨by rw [List.length_append]; exact Nat.succ_le_of_lt (by omega), fun x hx => by
            rcases List.mem_append.mp hx with hx | hx
            · exact hs1.2 x hx
            · rw [List.mem_singleton.mp hx]; exact hg⟩
end
/-! ## k11's law: the units of pairs -/
def TrV (W : Hp) (v : V) (m : Nat × List Nat) : Prop := ∃ p q e1 e2 : Addr, v = .ref p ∧ W p = some (.tup [.str "unit", nmV m.1, .ref q, .ref e1, .ref e2]) ∧ W q = some (.tup (m.2.map nmV)) ∧ W e1 = some (.tup []) ∧ W e2 = some (.tup [])
theorem TrV.tup {W W' : Hp} (f : ∀ b xs, W b = some (.tup xs) → W' b = some (.tup xs)) {v : V} {m : Nat × List Nat} (h : TrV W v m) : TrV W' v m := by
  obtain ⟨p, q, e1, e2, a, b, c, d, e⟩ := h
  exact ⟨p, q, e1, e2, a, f _ _ b, f _ _ c, f _ _ d, f _ _ e⟩
def TrA (W : Hp) (vs : List V) (ms : List (Nat × List Nat)) : Prop := vs.length = ms.length ∧ ∀ (i : Nat) (v : V), vs[i]? = some v → ∃ m, ms[i]? = some m ∧ TrV W v m
theorem TrA.tup {W W' : Hp} (f : ∀ b xs, W b = some (.tup xs) → W' b = some (.tup xs)) {vs : List V} {ms : List (Nat × List Nat)} (h : TrA W vs ms) : TrA W' vs ms := ⟨h.1, fun i v e => by
  obtain ⟨m, a, b⟩ := h.2 i v e
  exact ⟨m, a, b.tup f⟩⟩
theorem TrA.same {W W' : Hp} (s : Same W W') {vs : List V} {ms : List (Nat × List Nat)} (h : TrA W vs ms) : TrA W' vs ms := h.tup fun b xs e => s _ _ e
theorem TrA.snoc {W : Hp} {vs : List V} {ms : List (Nat × List Nat)} {v : V} {m : Nat × List Nat} (h : TrA W vs ms) (t : TrV W v m) : TrA W (vs ++ [v]) (ms ++ [m]) := by
  refine ⟨by rw [List.length_append, List.length_append, h.1]; rfl, fun i u e => ?_⟩
  by_cases c : i < vs.length
  · rw [List.getElem?_append_left c] at e
    obtain ⟨m0, a, b⟩ := h.2 i u e
    exact ⟨m0, by rw [List.getElem?_append_left (by rw [← h.1]; exact c)]; exact a, b⟩
  · rw [List.getElem?_append_right (by omega)] at e
    have hi : i - vs.length = 0 := by
      have := (List.getElem?_eq_some_iff.mp e).1
      simp at this
      exact this
    rw [hi] at e
    injection e with e
    subst e
    exact ⟨m, by rw [List.getElem?_append_right (by rw [← h.1]; omega), ← h.1, hi]; rfl, t⟩
theorem nm_nmB : ∀ i < 8, nmB (nm i) = true := by decide +kernel
theorem nm_tx : ∀ i < 8, (nm i).cps.toList.all (fun c => decide (c < 128)) = true ∧ (nm i).cps.toList.length ≤ 8 := by decide +kernel
theorem nm_txS {i : Nat} (h : i < 8) : txS (nm i) := by
  obtain ⟨a, b⟩ := nm_tx i h
  refine ⟨Nat.le_trans b (by decide), fun c hc => ?_⟩
  exact of_decide_eq_true (List.all_eq_true.mp a c hc)
/-- such a value is a unit -/
theorem TrV.ut {K : PySem.W.Frag} {W : Hp} {v : V} {m : Nat × List Nat} (h : TrV W v m) (h1 : m.1 < 8) (h2 : m.2.length ≤ 5) (h3 : ∀ x ∈ m.2, x < 8) : UtX K W v (some (nm m.1, m.2.map nm)) := by
  obtain ⟨p, q, e1, e2, rfl, b, c, d, e⟩ := h
  refine .one b (by rw [nmV_map]; exact c) d e (nm_txS h1) (nm_nmB _ h1) (by rw [List.length_map]; exact h2) fun z hz => ?_
  obtain ⟨x, hx, rfl⟩ := List.mem_map.mp hz
  exact ⟨nm_txS (h3 x hx), nm_nmB _ (h3 x hx)⟩
def spTrees : Sp := fun vs H Q _ => ∃ (a : Addr) (ps : List V) (ms : List (Nat × List Nat)), vs = [.ref a] ∧ H a = some (.lst ps) ∧ PrA H ps ms ∧ ms.length ≤ 100 ∧ ∀ (H' : Hp) (r : Addr) (ts : List V), Same H H' → H r = none → H' r = some (.lst ts) → TrA H' ts ms → Q (.ref r) H'
section
variable {P : Program} {w : World} {K : PySem.W.Frag} {mg : Str → Option Value} {base : Heap}
theorem sc__law_trees : FnScope ["_law_pairs", "_law_name", "_law_uses"] ["_law_pairs"] (defScope s_law_trees) := ⟨rfl, rfl, rfl, by decide +kernel, rfl, by decide +kernel, by decide +kernel⟩
theorem ok_ltrees {CX : CXT} {f : Addr} {fd : FuncData} (F : FnP K "_law_trees" s_law_trees f fd) : FnOk P w K mg base CX0 1 f fd ["_law_pairs"] spTrees := by
  refine F.ok sc__law_trees (fun vs H Q E h => ?_) (fun cdv A outer s H vs Q E hr h => ?_)
  · obtain ⟨a, ps, ms, rfl, _⟩ := h
    rfl
  · obtain ⟨a, ps, ms, rfl, ea, hA, hl, k⟩ := h
    have nd := sc__law_trees.nd
    apply Exists.intro
    apply And.intro
    case left =>
     apply PSs.nox
     apply pss_one
     exact (ps_ret (pe_lc (own := [("_law_name", 1), ("_law_uses", 2)]) (g := gTup K 2 (gCons (gName 1) (gCons (gName 2) gNil))) rfl nd (pi_list (pv 0)) (blkOk_by (own := [("_law_name", 1), ("_law_uses", 2)]) (N := ["_law_pairs", "_law_name", "_law_uses"]) (sc := defScope s_law_trees) (by decide +kernel)) (fun _ _ _ _ _ => by exact (pg_tup rfl (pgs_cons (pg_name (i := 1) nd rfl (Or.inl rfl)) (pgs_cons (pg_name (i := 2) nd rfl (Or.inl rfl)) pgs_nil)))) (fun _ _ _ _ _ => pts_nil) (fun _ _ _ _ _ => (pe_tup (pa_cons pe_str (pa_cons (pv 1) (pa_cons (pv 2) (pa_cons (pe_tup pa_nil) (pa_cons (pe_tup pa_nil) pa_nil)))))))))
    case right =>
      have lv := hA.length
      refine ⟨_, rfl, a, rfl, ⟨_, SqL.of ea⟩, fun D hD => ?_⟩
      refine lc_list (K := K) (a := a) (xs := ps) (fun j H' => Same H H' ∧ ∃ ts, H' D = some (.lst ts) ∧ TrA H' ts (ms.take j)) ⟨same_new hD, [], upd_same, rfl, fun i v e => by simp at e⟩ (fun j H' _ h => SqL.of (h.1 _ _ ea)) ?_ ?_
      · rintro j y H' hy ⟨sj, ts, eD, T⟩
        obtain ⟨m, hm, p, q, rfl, hp, hq⟩ := hA.at hy
        have lT := T.1
        have l3 := List.length_take_le' j ms
        refine ⟨p, _, rfl, SqT.of (sj _ _ hp), rfl, _, _, rfl, _, _, rfl, rfl, rfl, yesIf ?_⟩
        refine ⟨_, rfl, _, rfl, ?_⟩
        refine ⟨(show 0 ≤ sizeLine by decide), fun e1 h1 => ⟨(show 0 ≤ sizeLine by decide), fun e2 h2 => ⟨(show 5 ≤ sizeLine by decide), fun tt ht => ?_⟩⟩⟩
        have s1 := same_new (o := .tup []) h1
        have s2 := same_new (o := .tup []) h2
        have s3 := same_new (o := .tup [.str "unit", nmV m.1, .ref q, .ref e1, .ref e2]) ht
        have s123 := s1.trans (s2.trans s3)
        have eD3 := s123 _ _ eD
        have tv : TrV (upd (upd (upd H' e1 (.tup [])) e2 (.tup [])) tt (.tup [.str "unit", nmV m.1, .ref q, .ref e1, .ref e2])) (.ref tt) m :=
          ⟨tt, q, e1, e2, rfl, upd_same, (sj.trans s123) _ _ hq, (s2.trans s3) _ _ upd_same, s3 _ _ upd_same⟩
        have T3 := T.same s123
        have sj3 := sj.trans s123
        generalize upd (upd (upd H' e1 (.tup [])) e2 (.tup [])) tt (.tup [.str "unit", nmV m.1, .ref q, .ref e1, .ref e2]) = H4 at eD3 tv T3 sj3 ⊢
        refine ⟨ts, eD3, ?_, same_sub sj3 hD, ts ++ [.ref tt], upd_same, ?_⟩
        · exact Nat.lt_of_le_of_lt (show ts.length ≤ 100 by omega) (by decide)
        · rw [take_snoc2 hm]
          have f : ∀ b xs, H4 b = some (.tup xs) → (upd H4 D (.lst (ts ++ [.ref tt]))) b = some (.tup xs) := fun b xs e => by
            have : b ≠ D := fun z => by rw [z, eD3] at e; cases e
            rw [upd_ne this]
            exact e
          exact (T3.tup f).snoc (tv.tup f)
      · rintro H' ⟨s1, ts, eD, T⟩
        rw [lv, List.take_length] at T
        exact k _ D ts s1 hD eD T
end
/-! ## k11's law: the order that is due -/
theorem op_eqELK {X : Cx} {K : PySem.W.Frag} (hu : X.A.units < cLine) (e : X.K = K := by rfl) : OpR X (compareOp .Eq) (rEqEL K) := by
  subst e
  exact op_eqEL hu
theorem op_neELK {X : Cx} {K : PySem.W.Frag} (hu : X.A.units < cLine) (e : X.K = K := by rfl) : OpR X (compareOp .NotEq) (rNeEL K) := by
  subst e
  exact op_neEL hu
theorem pi_tupK {X : Cx} {K : PySem.W.Frag} {tg e : Expr} {te : TE} (he : PE X e te) (e2 : X.K = K := by rfl) : PI X tg e (iTup K te) := by
  subst e2
  exact pi_tup he
def spLOrd : Sp := fun vs H Q _ => ∃ (d : Addr) (ns : List Nat) (us : Nat → List Nat), vs = [.ref d] ∧ UsD HO.tup H d ns us ∧ Nts ns us ∧ (∀ m r, G11.Ring us m r → m ∈ ns → False) ∧
  ∀ (H' : Hp) (r : Addr) (F : List Nat), Same H H' → H' r = some (.tup (F.map nmV)) → G11.Ord ns us F → F.length = ns.length → Q (.ref r) H'
section
variable {P : Program} {w : World} {K : PySem.W.Frag} {mg : Str → Option Value} {base : Heap}
theorem sc__law_order : FnScope ["_law_uses", "_law_found", "_law_free", "_law_name", "_law_goal"] ["_law_uses"] (defScope s_law_order) := ⟨rfl, rfl, rfl, by decide +kernel, rfl, by decide +kernel, by decide +kernel⟩
theorem ok_lorder {f : Addr} {fd : FuncData} (F : FnP K "_law_order" s_law_order f fd) (G : NkF K mg) (tup : mg "tuple" = none) (m_sorted : mg "sorted" = none) : FnOk P w K mg base CX0 1 f fd ["_law_uses"] spLOrd := by
  refine F.ok sc__law_order (fun vs H Q E h => ?_) (fun cdv A outer s H vs Q E hr h => ?_)
  · obtain ⟨d, ns, us, rfl, _⟩ := h
    rfl
  · obtain ⟨D, ns, us, rfl, hU, hN, hno, hq⟩ := h
    have nd := sc__law_order.nd
    have hu := hu_of hr
    have hun : (A.deeper (PyProof.Rows.envOfC "_law_order" (defScope s_law_order) s.heap.objs.size f cdv)).units < cLine := Nat.lt_of_le_of_lt (Nat.le_add_right _ 64) hr.units
    apply Exists.intro
    apply And.intro
    case left =>
     apply PSs.nox
     apply pss_cons
     · exact (ps_set (i := 1) nd rfl (.inr rfl) (pe_lst pa_nil))
     apply pss_cons
     · apply ps_while PassesOwn.never
       · exact (pt_cmpR op_lt (pe_callB call_len (by rfl) G.len PySem.boot_len (pa_cons (pv 1) pa_nil)) (pe_callB call_lenD (by rfl) G.len PySem.boot_len (pa_cons (pv 0) pa_nil)) (nomark _))
       · apply pss_cons
         · exact (ps_lock (ps_setLc (i := 2) (own := [("_law_name", 3)]) (g := gName 3) rfl nd rfl rfl (sw_true rfl rfl rfl (by decide +kernel)) (pi_keys (pv 0)) (blkOk_by (own := [("_law_name", 3)]) (N := ["_law_uses", "_law_found", "_law_free", "_law_name", "_law_goal"]) (sc := defScope s_law_order) (by decide +kernel)) (fun _ _ _ _ _ => (pg_name (i := 3) nd rfl (Or.inl rfl))) (fun _ _ _ _ _ => pts_one (PW.pt (pw_and (pt_cmpR op_notIn_seqK (pv 3) (pv 1) (by rfl)) (pw_and1 (pt_cmpR (op_eqELK (K := K) (by exact hun)) (pe_lc (own := [("_law_goal", 4)]) (g := gName 4) rfl nd (pi_tupK (K := K) (pe_dget (by exact hu) (pv 0) (pv 3) (fun _ _ => rfl))) (blkOk_in (own := [("_law_goal", 4)]) (N := ["_law_uses", "_law_found", "_law_free", "_law_name", "_law_goal"]) (sc0 := defScope s_law_order) (by decide +kernel)) (fun _ _ _ _ _ => (pg_name (i := 4) nd rfl (Or.inl rfl))) (fun _ _ _ _ _ => pts_one (pt_cmpR op_notIn_seqK (pv 4) (pv 1) (by rfl))) (fun _ _ _ _ _ => pe_int)) (pe_lst pa_nil) (nomark _)))))) (fun _ _ _ _ _ => (pv 3))))
         apply pss_one
         exact (ps_expr (pe_bm PySem.F.plainAttrs_list PySem.F.slot_list_append PySem.F.type_list_append mt_append (pv 1) (pa_cons (pe_ix ix_list (pe_callB cr_sortedS (by rfl) m_sorted (by decide +kernel) (pa_cons (pv 2) pa_nil)) pe_int (fun _ _ => rfl)) pa_nil)))
     apply pss_one
     exact (ps_ret (pe_callTy call_tuple_of (by rfl) tup (by decide +kernel) (pa_cons (pv 1) pa_nil)))
    case right =>
      obtain ⟨kvs, eD, hk, hv⟩ := hU
      refine ⟨(show 0 ≤ sizeLine by decide), fun FL hFL => ?_⟩
      have lk : kvs.length = ns.length := by
        have := congrArg List.length hk
        rwa [List.length_map, List.length_map] at this
      refine ⟨fun m σ H' => ∃ F v4, m = ns.length - F.length ∧ σ = [some (.ref D), some (.ref FL), v4, none, none] ∧ G11.Ord ns us F ∧ Same H H' ∧ H' FL = some (.lst (F.map nmV)), ⟨_, [], _, rfl, rfl, .nil, same_new hFL, upd_same⟩, ?_⟩
      rintro m σ Hb ⟨F, v4, rfl, rfl, hF, s4, eF⟩
      have eDb := s4 _ _ eD
      have hFN := G11.sub_len hF.ok.1 hF.ok.2
      have h7 := hN.len
      have F8 : ∀ x ∈ F, x < 8 := fun x hx => hN.lt x (hF.ok.2 x hx)
      have FD : FL ≠ D := fun z => by rw [z, eD] at hFL; cases hFL
      refine ⟨_, rfl, _, _, rfl, .inl ⟨_, SqL.of eF, rfl⟩, _, rfl, _, _, rfl, eDb, _, _, rfl, rfl, _, rfl, ?_⟩
      rw [List.length_map, lk]
      by_cases c : F.length < ns.length
      rotate_left
      · rw [decide_eq_false (show ¬ ((F.length : Nat) : Int) < (ns.length : Nat) by omega)]
        refine iteF ⟨_, rfl, FL, _, rfl, .inl ⟨SqL.of eF, fun l hl => ?_⟩⟩
        exact hq _ l F (s4.trans (same_new hl)) upd_same hF (by omega)
      rw [decide_eq_true (show ((F.length : Nat) : Int) < (ns.length : Nat) by omega)]
      refine iteT ⟨fun σ' H' => ∃ m', m' < _ ∧ _, fun _ _ h => h, ?_⟩
      refine ⟨D, _, eDb, trivial, fun od => ?_⟩
      refine ⟨_, rfl, D, od, rfl, .inl ⟨kvs, upd_same, fun LD hLD => ?_⟩⟩
      have LDD : LD ≠ D := fun z => by rw [z, upd_same] at hLD; cases hLD
      have hLb : Hb LD = none := by rw [upd_ne LDD] at hLD; exact hLD
      refine lc_it walk_keys (fun i H' => H' D = some (.frz od (.dK kvs)) ∧ H' LD = some (.lst ((G11.freeL (ns.take i) us F).map nmV)) ∧ ∀ b o, b ≠ D → Hb b = some o → H' b = some o) ?_ (fun i H' _ h => h.1) ?_ ?_
      · refine ⟨by rw [upd_ne (Ne.symm LDD)]; exact upd_same, upd_same, fun b o nb e => ?_⟩
        have : b ≠ LD := fun z => by rw [z, hLb] at e; cases e
        rw [upd_ne this, upd_ne nb]
        exact e
      · rintro i x Hx H' hi ⟨f1, f2, f3⟩ ⟨rfl, kk, v, hkv, rfl⟩
        obtain ⟨n, hn, rfl⟩ : ∃ n, ns[i]? = some n ∧ kk = keyN n := by
          have := congrArg (fun l => l[i]?) hk
          rw [List.getElem?_map, List.getElem?_map, hkv] at this
          cases e : ns[i]? with
          | none => rw [e] at this; cases this
          | some n => rw [e] at this; injection this with this; exact ⟨n, rfl, this⟩
        have nN := List.mem_of_getElem? hn
        have n8 := hN.lt n nN
        have fr : G11.freeL (ns.take (i + 1)) us F = G11.freeL (ns.take i) us F ++ (if (!decide (n ∈ F) && (us n).all fun m => decide (m ∈ F)) = true then [n] else []) := by
          unfold G11.freeL
          rw [take_snoc2 hn, List.filter_append]
          congr 1
          rw [List.filter_cons, List.filter_nil]
        refine ⟨rfl, ?_⟩
        have eF' := f3 _ _ FD eF
        refine ⟨_, rfl, _, rfl, FL, _, rfl, .inl (SqL.of eF'), rfl, flat_nm _, _, rfl, ?_⟩
        rw [show (if true = true then !inV (kV (keyN n)) (F.map nmV) else inV (kV (keyN n)) (F.map nmV)) = !decide (n ∈ F) from congrArg (fun b => !b) (in_nms n8 F8)]
        by_cases c2 : n ∈ F
        · rw [decide_eq_true c2] at fr ⊢
          refine iteF (iteF ⟨f1, ?_, f3⟩)
          rw [fr]
          simpa using f2
        rw [decide_eq_false c2] at fr ⊢
        obtain ⟨L, g1, g2⟩ := hv n nN
        have LD2 : L ≠ D := fun z => by rw [z, eD] at g2; cases g2
        have eL := f3 _ _ LD2 (s4 _ _ g2)
        refine iteT ⟨_, rfl, _, rfl, D, .ref L, rfl, .inl ⟨kvs, keyN n, .inr ⟨od, f1⟩, rfl, g1.symm⟩, L, rfl, ⟨_, SqT.of eL⟩, fun LE hLE => ?_⟩
        refine lc_tup (K := K) (a := L) (xs := (us n).map nmV) (fun j H6 => Same H' H6 ∧ ∃ acc, H6 LE = some (.lst acc) ∧ acc.length ≤ j ∧ acc.isEmpty = ((us n).take j).all fun m => decide (m ∈ F)) ⟨same_new hLE, [], upd_same, Nat.le_refl _, rfl⟩ (fun j H6 _ h => SqT.of (h.1 _ _ eL)) ?_ ?_
        · rintro j y H6 hy ⟨s6, acc, e6, la, ee⟩
          obtain ⟨m, hm, rfl⟩ := map_at hy
          have m8 := hN.lt m (hN.sub n nN m (List.mem_of_getElem? hm))
          have hj7 : j < 7 := by
            have := (List.getElem?_eq_some_iff.mp hm).1
            have := hN.ul n nN
            omega
          refine ⟨rfl, _, rfl, _, rfl, FL, _, rfl, .inl (SqL.of (s6 _ _ eF')), rfl, flat_nm _, _, rfl, ?_⟩
          rw [show (if true = true then !inV (nmV m) (F.map nmV) else inV (nmV m) (F.map nmV)) = !decide (m ∈ F) from congrArg (fun b => !b) (in_nms m8 F8)]
          by_cases c3 : m ∈ F
          · rw [decide_eq_true c3]
            refine iteF ⟨s6, acc, e6, by omega, ?_⟩
            rw [take_snoc2 hm, List.all_append, ee]
            simp [c3]
          · rw [decide_eq_false c3]
            refine iteT ⟨acc, e6, ?_, same_sub s6 hLE, acc ++ [V.int 1], upd_same, ?_, ?_⟩
            · exact Nat.lt_of_le_of_lt (show acc.length ≤ 7 by omega) (by decide)
            · rw [List.length_append]
              exact Nat.succ_le_succ la
            · rw [take_snoc2 hm, List.all_append]
              simp [c3]
        · rintro H6 ⟨s6, acc, e6, la, ee⟩
          rw [List.length_map, List.take_length] at ee
          refine ⟨(show 0 ≤ sizeLine by decide), fun q hq2 => ⟨LE, q, acc, rfl, rfl, SqL.of ((same_new hq2) _ _ e6), SqL.of upd_same, _, rfl, ?_⟩⟩
          rw [ee]
          have s7 := s6.trans (same_new (o := .lst []) hq2)
          generalize upd H6 q (.lst []) = H7 at s7 ⊢
          have f2' := s7 _ _ f2
          have f3' : ∀ b o, b ≠ D → Hb b = some o → H7 b = some o := fun b o nb e => s7 _ _ (f3 b o nb e)
          cases hc : (us n).all fun m => decide (m ∈ F) with
          | false =>
            rw [hc] at fr
            refine iteF ⟨s7 _ _ f1, ?_, f3'⟩
            rw [fr]
            simpa using f2'
          | true =>
            rw [hc] at fr
            refine iteT ⟨_, rfl, _, f2', ?_, ?_, ?_, fun b o nb e => ?_⟩
            · rw [List.length_map]
              have h9 : (G11.freeL (ns.take i) us F).length ≤ (ns.take i).length := List.length_filter_le _ _
              have := List.length_take_le' i ns
              exact Nat.lt_of_le_of_lt (show (G11.freeL (ns.take i) us F).length ≤ 7 by omega) (by decide)
            · rw [upd_ne (Ne.symm LDD)]
              exact s7 _ _ f1
            · rw [upd_same, fr]
              simp
              rfl
            · have : b ≠ LD := fun z => by rw [z, hLb] at e; cases e
              rw [upd_ne this]
              exact f3' b o nb e
      · rintro H5 ⟨f1, f2, f3⟩
        rw [lk, List.take_length] at f2
        refine ⟨f1, ?_⟩
        have sb : Same Hb (upd H5 D (.dK kvs)) := fun b o e => by
          by_cases z : b = D
          · subst z
            rw [upd_same, ← e, eDb]
          · rw [upd_ne z]
            exact f3 b o z e
        have f2 : (upd H5 D (.dK kvs)) LD = some (.lst ((G11.freeL ns us F).map nmV)) := by rw [upd_ne LDD]; exact f2
        generalize upd H5 D (.dK kvs) = H6 at sb f2 ⊢
        have eF6 := sb _ _ eF
        have c3 : G11.freeL ns us F ≠ [] := fun z => by
          obtain ⟨x0, h0, h0F⟩ := G11.more_left hN.one c hF.ok.1
          obtain ⟨m, r, hr1, hr2⟩ := G11.stuck hN.sub h0 h0F z
          exact hno m r hr1 hr2
        have fl : (G11.freeL ns us F).length ≤ ns.length := List.length_filter_le _ _
        refine ⟨_, rfl, .inl ⟨rfl, _, SqL.of eF6⟩, _, rfl, LD, (G11.freeL ns us F).map nm, rfl, SqL.of (by rw [nmV_map]; exact f2), by rw [List.length_map]; omega, fun ys p hperm hsort hp => ?_⟩
        obtain ⟨ws, rfl, hw1, hw2⟩ := sort_nm hperm (fun x hx => hN.lt x (G11.freeL_mem.mp hx).1) hsort
        cases ws with
        | nil => exact absurd (List.nil_perm.mp hw1) c3
        | cons m ws =>
          have sp := same_new (o := .lst (((m :: ws).map nm).map V.str)) hp
          refine ⟨p, _, _, _, rfl, rfl, SqL.of upd_same, atI_nat (j := 0) rfl, FL, _, _, rfl, rfl, sp _ _ eF6, ?_, ns.length - (F ++ [m]).length, ?_, F ++ [m], _, rfl, rfl, .step hF (hw1.mem_iff.mp (List.mem_cons_self ..)) (fun k hk2 => ?_), same_sub (s4.trans (sb.trans sp)) hFL, ?_⟩
          · rw [List.length_map]
            exact Nat.lt_of_le_of_lt (show F.length ≤ 7 by omega) (by decide)
          · rw [List.length_append]
            simp
            omega
          · rcases List.mem_cons.mp (hw1.mem_iff.mpr hk2) with e | e
            · omega
            · exact (List.pairwise_cons.mp hw2).1 k e
          · rw [upd_same, List.map_append]
            rfl
end
/-! ## k11's law: who comes to a name -/
theorem cutV_drop (xs : List V) (n : Nat) : cutV xs (some (n : Int)) none = xs.drop n := by
  unfold cutV
  rw [HT.sIx_nat, HT.sIx_none]
  refine List.ext_getElem? fun i => ?_
  simp only [List.getElem?_take, List.getElem?_drop]
  by_cases h : n ≤ xs.length
  · rw [Nat.min_eq_left h]
    by_cases h3 : i < xs.length - n
    · rw [if_pos h3]
    · rw [if_neg h3, List.getElem?_eq_none (by omega)]
  · rw [Nat.min_eq_right (by omega), if_neg (by omega), List.getElem?_eq_none (by omega)]
namespace G11
theorem rounds_cm {us : Nat → List Nat} {N : List Nat} {a : Nat} {R : List Nat} (hN : N.Nodup) (ha : a ∈ N) (hp : R.Perm ((rounds us N a N.length).drop 1)) (hs : R.Pairwise (· ≤ ·)) : Cm us N a R := by
  obtain ⟨h1, _, t, ht⟩ := rounds_ok (us := us) hN ha N.length
  have hall := rounds_all (us := us) hN ha
  rw [ht] at h1 hp hall
  obtain ⟨n1, n2⟩ := List.nodup_cons.mp h1
  have hp : R.Perm t := hp
  refine ⟨asc_lt hs (hp.nodup_iff.mpr n2), fun x => ?_⟩
  rw [hp.mem_iff]
  refine ⟨fun h => ⟨fun e => n1 (e ▸ h), (hall x).mp (List.mem_cons_of_mem _ h)⟩, fun ⟨h2, h3⟩ => ?_⟩
  rcases List.mem_cons.mp ((hall x).mpr h3) with e | e
  · exact absurd e h2
  · exact e
theorem rounds_len {us : Nat → List Nat} {N : List Nat} {a : Nat} (hN : N.Nodup) (ha : a ∈ N) (k : Nat) : (rounds us N a k).length ≤ N.length := by
  obtain ⟨h1, h2, _⟩ := rounds_ok (us := us) hN ha k
  exact sub_len h1 fun x hx => (h2 x hx).1
end G11
/-- the uses of a dict that is walked -/
def UsF (c : List V → HO) (H : Hp) (d : Addr) (ns : List Nat) (us : Nat → List Nat) : Prop := ∃ od kvs, H d = some (.frz od (.dK kvs)) ∧ kvs.map (·.1) = ns.map (fun i => (Sum.inr (nm i) : Key)) ∧ ∀ n ∈ ns, ∃ L, valV kvs (Sum.inr (nm n)) = some (.ref L) ∧ H L = some (c ((us n).map nmV))
theorem call_lenDF {X : Cx} : CallR X (.builtin "len") (fun xs H Q => ∃ a kvs, xs = [V.ref a] ∧ Rd H a (.dK kvs) ∧ Q (.int (kvs.length : Nat)) H) := by
  intro pins s σ H xs us Q I r h
  obtain ⟨a, kvs, rfl, ha, q⟩ := h
  obtain ⟨u, rfl, ru⟩ := vals1 r
  cases ru
  exact d_len I ha fun t s' I' => ⟨.int (kvs.length : Nat), H, I', ⟨t, rfl⟩, q⟩
def spCome : Sp := fun vs H Q _ => ∃ (d : Addr) (ns : List Nat) (us : Nat → List Nat) (n : Nat), vs = [.ref d, nmV n] ∧ UsF HO.tup H d ns us ∧ Nts ns us ∧ n ∈ ns ∧
  ∀ (H' : Hp) (r : Addr) (R : List Nat), Same H H' → H r = none → H' r = some (.tup (R.map nmV)) → G11.Cm us ns n R → Q (.ref r) H'
section
variable {P : Program} {w : World} {K : PySem.W.Frag} {mg : Str → Option Value} {base : Heap}
theorem sc__law_come : FnScope ["_law_uses", "_law_name", "_law_met", "_law_turn", "_law_one", "_law_goal"] ["_law_uses", "_law_name"] (defScope s_law_come) := ⟨rfl, rfl, rfl, by decide +kernel, rfl, by decide +kernel, by decide +kernel⟩
theorem ok_lcome {f : Addr} {fd : FuncData} (F : FnP K "_law_come" s_law_come f fd) (G : NkF K mg) (tup : mg "tuple" = none) (m_sorted : mg "sorted" = none) (rng : mg "range" = none) : FnOk P w K mg base CX0 1 f fd ["_law_uses", "_law_name"] spCome := by
  refine F.ok sc__law_come (fun vs H Q E h => ?_) (fun cdv A outer s H vs Q E hr h => ?_)
  · obtain ⟨d, ns, us, n, rfl, _⟩ := h
    rfl
  · obtain ⟨D, ns, us, a, rfl, hU, hN, ha, hq⟩ := h
    have nd := sc__law_come.nd
    have hu := hu_of hr
    have hun : (A.deeper (PyProof.Rows.envOfC "_law_come" (defScope s_law_come) s.heap.objs.size f cdv)).units < cLine := Nat.lt_of_le_of_lt (Nat.le_add_right _ 64) hr.units
    apply Exists.intro
    apply And.intro
    case left =>
     apply PSs.nox
     apply pss_cons
     · exact (ps_set (i := 2) nd rfl (.inr rfl) (pe_lst (pa_cons (pv 1) pa_nil)))
     apply pss_cons
     · apply ps_for PassesOwn.never rfl
       · exact (pi_range1 (by rfl) rng (pa_cons (pe_callB call_lenDF (by rfl) G.len PySem.boot_len (pa_cons (pv 0) pa_nil)) pa_nil))
       · exact (pg_name (i := 3) nd rfl (Or.inl rfl))
       · apply pss_one
         exact (ps_set (i := 2) nd rfl (.inr rfl) (pe_op op_cat (pv 2) (pe_lc (own := [("_law_one", 4)]) (g := gName 4) rfl nd (pi_keys (pv 0)) (blkOk_by (own := [("_law_one", 4)]) (N := ["_law_uses", "_law_name", "_law_met", "_law_turn", "_law_one", "_law_goal"]) (sc := defScope s_law_come) (by decide +kernel)) (fun _ _ _ _ _ => (pg_name (i := 4) nd rfl (Or.inl rfl))) (fun _ _ _ _ _ => pts_one (PW.pt (pw_and (pt_cmpR op_notIn_seqK (pv 4) (pv 2) (by rfl)) (pw_and1 (pt_cmpR (op_neELK (K := K) (by exact hun)) (pe_lc (own := [("_law_goal", 5)]) (g := gName 5) rfl nd (pi_tupK (K := K) (pe_dget (by exact hu) (pv 0) (pv 4) (fun _ _ => rfl))) (blkOk_in (own := [("_law_goal", 5)]) (N := ["_law_uses", "_law_name", "_law_met", "_law_turn", "_law_one", "_law_goal"]) (sc0 := defScope s_law_come) (by decide +kernel)) (fun _ _ _ _ _ => (pg_name (i := 5) nd rfl (Or.inl rfl))) (fun _ _ _ _ _ => pts_one (pt_cmpR op_in_seqK (pv 5) (pv 2) (by rfl))) (fun _ _ _ _ _ => pe_int)) (pe_lst pa_nil) (nomark _)))))) (fun _ _ _ _ _ => (pv 4)))))
     apply pss_one
     exact (ps_ret (pe_callTy call_tuple_of (by rfl) tup (by decide +kernel) (pa_cons (pe_callB cr_sortedS (by rfl) m_sorted (by decide +kernel) (pa_cons (pe_slice sl_list (pv 2) (po_some pe_int) po_none) pa_nil)) pa_nil)))
    case right =>
      obtain ⟨od, kvs, eD, hk, hv⟩ := hU
      have a8 := hN.lt a ha
      have h7 := hN.len
      have lk : kvs.length = ns.length := by
        have := congrArg List.length hk
        rwa [List.length_map, List.length_map] at this
      refine ⟨_, rfl, (show 1 ≤ sizeLine by decide), fun L0 hL0 => ?_⟩
      have s0 := same_new (o := .lst [nmV a]) hL0
      refine ⟨_, rfl, D, kvs, rfl, .inr ⟨od, s0 _ _ eD⟩, _, rfl, ?_⟩
      refine ⟨by omega, by have : (kvs.length : Int) ≤ 7 := by omega
                           exact Int.lt_of_le_of_lt this (by decide), ?_⟩
      refine for_range (lo := 0) (n := Int.toNat (kvs.length : Int)) (fun j σ H' => ∃ (LM : Addr) (v3 : Option V), σ = [some (.ref D), some (nmV a), some (.ref LM), v3, none, none] ∧ Same H H' ∧ H' LM = some (.lst ((G11.rounds us ns a j).map nmV))) ⟨L0, none, rfl, s0, upd_same⟩ ?_ ?_
      · rintro j σ Hb hj ⟨LM, v3, rfl, s4, eM⟩
        have eDb := s4 _ _ eD
        have MD : LM ≠ D := fun z => by rw [z, eDb] at eM; cases eM
        obtain ⟨m1, m2, _⟩ := G11.rounds_ok (us := us) hN.one ha j
        have ml := G11.rounds_len (us := us) hN.one ha j
        have M8 : ∀ x ∈ G11.rounds us ns a j, x < 8 := fun x hx => hN.lt x (m2 x hx).1
        generalize hM : G11.rounds us ns a j = M at eM M8 ml
        refine ⟨_, rfl, _, rfl, D, od, rfl, .inl ⟨kvs, eDb, fun LD hLD => ?_⟩⟩
        have LDD : LD ≠ D := fun z => by rw [z, eDb] at hLD; cases hLD
        have hLb := hLD
        refine lc_it walk_keys (fun i H' => H' D = some (.frz od (.dK kvs)) ∧ H' LD = some (.lst ((G11.more us (ns.take i) M).map nmV)) ∧ ∀ b o, Hb b = some o → H' b = some o) ?_ (fun i H' _ h => h.1) ?_ ?_
        · exact ⟨by rw [upd_ne (Ne.symm LDD)]; exact eDb, upd_same, same_new hLD⟩
        · rintro i x Hx H' hi ⟨f1, f2, f3⟩ ⟨rfl, kk, v, hkv, rfl⟩
          obtain ⟨n, hn, rfl⟩ : ∃ n, ns[i]? = some n ∧ kk = keyN n := by
            have := congrArg (fun l => l[i]?) hk
            rw [List.getElem?_map, List.getElem?_map, hkv] at this
            cases e : ns[i]? with
            | none => rw [e] at this; cases this
            | some n => rw [e] at this; injection this with this; exact ⟨n, rfl, this⟩
          have nN := List.mem_of_getElem? hn
          have n8 := hN.lt n nN
          have fr : G11.more us (ns.take (i + 1)) M = G11.more us (ns.take i) M ++ (if (!decide (n ∈ M) && (us n).any fun g => decide (g ∈ M)) = true then [n] else []) := by
            unfold G11.more
            rw [take_snoc2 hn, List.filter_append]
            congr 1
            rw [List.filter_cons, List.filter_nil]
          have eF' := f3 _ _ eM
          refine ⟨rfl, _, rfl, _, rfl, LM, _, rfl, .inl (SqL.of eF'), rfl, flat_nm _, _, rfl, ?_⟩
          rw [show (if true = true then !inV (kV (keyN n)) (M.map nmV) else inV (kV (keyN n)) (M.map nmV)) = !decide (n ∈ M) from congrArg (fun b => !b) (in_nms n8 M8)]
          by_cases c2 : n ∈ M
          · rw [decide_eq_true c2] at fr ⊢
            refine iteF (iteF ⟨f1, ?_, f3⟩)
            rw [fr]
            simpa using f2
          rw [decide_eq_false c2] at fr ⊢
          obtain ⟨L, g1, g2⟩ := hv n nN
          have LD2 : L ≠ D := fun z => by rw [z, eD] at g2; cases g2
          have eL := f3 _ _ (s4 _ _ g2)
          refine iteT ⟨_, rfl, _, rfl, D, .ref L, rfl, .inl ⟨kvs, keyN n, .inr ⟨od, f1⟩, rfl, g1.symm⟩, L, rfl, ⟨_, SqT.of eL⟩, fun LE hLE => ?_⟩
          refine lc_tup (K := K) (a := L) (xs := (us n).map nmV) (fun j H6 => Same H' H6 ∧ ∃ acc, H6 LE = some (.lst acc) ∧ acc.length ≤ j ∧ (!acc.isEmpty) = ((us n).take j).any fun m => decide (m ∈ M)) ⟨same_new hLE, [], upd_same, Nat.le_refl _, rfl⟩ (fun j H6 _ h => SqT.of (h.1 _ _ eL)) ?_ ?_
          · rintro j y H6 hy ⟨s6, acc, e6, la, ee⟩
            obtain ⟨m, hm, rfl⟩ := map_at hy
            have m8 := hN.lt m (hN.sub n nN m (List.mem_of_getElem? hm))
            have hj7 : j < 7 := by
              have := (List.getElem?_eq_some_iff.mp hm).1
              have := hN.ul n nN
              omega
            refine ⟨rfl, _, rfl, _, rfl, LM, _, rfl, .inl (SqL.of (s6 _ _ eF')), rfl, flat_nm _, _, rfl, ?_⟩
            rw [show (if false = true then !inV (nmV m) (M.map nmV) else inV (nmV m) (M.map nmV)) = decide (m ∈ M) from in_nms m8 M8]
            by_cases c3 : m ∈ M
            · rw [decide_eq_true c3]
              refine iteT ⟨acc, e6, ?_, same_sub s6 hLE, acc ++ [V.int 1], upd_same, ?_, ?_⟩
              · exact Nat.lt_of_le_of_lt (show acc.length ≤ 7 by omega) (by decide)
              · rw [List.length_append]
                exact Nat.succ_le_succ la
              · rw [take_snoc2 hm, List.any_append]
                simp [c3]
            · rw [decide_eq_false c3]
              refine iteF ⟨s6, acc, e6, by omega, ?_⟩
              rw [take_snoc2 hm, List.any_append, ee]
              simp [c3]
          · rintro H6 ⟨s6, acc, e6, la, ee⟩
            rw [List.length_map, List.take_length] at ee
            refine ⟨(show 0 ≤ sizeLine by decide), fun q hq2 => ⟨LE, q, acc, rfl, rfl, SqL.of ((same_new hq2) _ _ e6), SqL.of upd_same, _, rfl, ?_⟩⟩
            rw [ee]
            have s7 := s6.trans (same_new (o := .lst []) hq2)
            generalize upd H6 q (.lst []) = H7 at s7 ⊢
            have f2' := s7 _ _ f2
            have f3' : ∀ b o, Hb b = some o → H7 b = some o := fun b o e => s7 _ _ (f3 b o e)
            cases hc : (us n).any fun m => decide (m ∈ M) with
            | false =>
              rw [hc] at fr
              refine iteF ⟨s7 _ _ f1, ?_, f3'⟩
              rw [fr]
              simpa using f2'
            | true =>
              rw [hc] at fr
              refine iteT ⟨_, rfl, _, f2', ?_, ?_, ?_, fun b o e => ?_⟩
              · rw [List.length_map]
                have h9 : (G11.more us (ns.take i) M).length ≤ (ns.take i).length := List.length_filter_le _ _
                have := List.length_take_le' i ns
                exact Nat.lt_of_le_of_lt (show (G11.more us (ns.take i) M).length ≤ 7 by omega) (by decide)
              · rw [upd_ne (Ne.symm LDD)]
                exact s7 _ _ f1
              · rw [upd_same, fr]
                simp
                rfl
              · have : b ≠ LD := fun z => by rw [z, hLb] at e; cases e
                rw [upd_ne this]
                exact f3' b o e
        · rintro H5 ⟨f1, f2, f3⟩
          rw [lk, List.take_length] at f2
          have eM5 := f3 _ _ eM
          refine ⟨LM, LD, _, _, rfl, rfl, eM5, f2, ?_, fun p hp => ?_⟩
          · rw [List.length_map, List.length_map]
            have h9 : (G11.more us ns M).length ≤ ns.length := List.length_filter_le _ _
            exact Nat.le_trans (show M.length + (G11.more us ns M).length ≤ 14 by omega) (by decide)
          have s3 : Same Hb H5 := f3
          refine ⟨p, _, rfl, (s4.trans s3).trans (same_new hp), ?_⟩
          rw [upd_same, ← List.map_append]
          show _ = some (HO.lst ((G11.rounds us ns a j ++ G11.more us ns (G11.rounds us ns a j)).map nmV))
          rw [hM]
      · rintro σ H' ⟨LM, v3, rfl, s4, eM⟩
        rw [show Int.toNat (kvs.length : Int) = ns.length by rw [lk]; rfl] at eM
        refine ⟨_, rfl, _, rfl, LM, _, rfl, SqL.of eM, fun p1 hp1 => ?_⟩
        rw [show (1 : Int) = ((1 : Nat) : Int) from rfl, cutV_drop, ← List.map_drop]
        have sp := same_new (o := .lst (((G11.rounds us ns a ns.length).drop 1).map nmV)) hp1
        have ml := G11.rounds_len (us := us) hN.one ha ns.length
        obtain ⟨m1, m2, _⟩ := G11.rounds_ok (us := us) hN.one ha ns.length
        refine ⟨p1, ((G11.rounds us ns a ns.length).drop 1).map nm, rfl, SqL.of (by rw [nmV_map]; exact upd_same), ?_, fun ys p hperm hsort hp => ?_⟩
        · rw [List.length_map, List.length_drop]
          omega
        obtain ⟨R, rfl, hR1, hR2⟩ := sort_nm hperm (fun x hx => hN.lt x (m2 x (List.mem_of_mem_drop hx)).1) hsort
        refine ⟨p, _, rfl, .inl ⟨SqL.of upd_same, fun l hl => ?_⟩⟩
        have sl := (sp.trans (same_new (o := .lst ((R.map nm).map V.str)) hp))
        refine hq _ l R (s4.trans (sl.trans (same_new hl))) ((s4.trans sl).free hl) (by rw [upd_same, nmV_map]) (G11.rounds_cm hN.one ha hR1 hR2)
end
/-! ## k11's law: all rings -/
namespace G11
theorem wgt_pos (z : List Nat) : 1 ≤ wgt z := Nat.pos_of_ne_zero (by unfold wgt; simp)
theorem len_wgt (L : List (List Nat)) : L.length ≤ wgtL L := by
  unfold wgtL
  induction L with
  | nil => exact Nat.le_refl _
  | cons z L ih =>
    have := wgt_pos z
    rw [List.map_cons, List.sum_cons, List.length_cons]
    omega
theorem wgt_sum {us : Nat → List Nat} {s : Nat} {w : List Nat} {L F : List (List Nat)} (hu : (us (hd w)).length ≤ 7) (hl : w.length ≤ 7) : (F ++ (us (hd w)).flatMap (goFound s w)).length + wgtL (L ++ (us (hd w)).flatMap (goLine s w)) ≤ F.length + wgtL (w :: L) := by
  have each : ∀ l : List Nat, (l.flatMap (goFound s w)).length + wgtL (l.flatMap (goLine s w)) ≤ l.length * 8 ^ (7 - w.length) := by
    intro l
    induction l with
    | nil => exact Nat.zero_le _
    | cons g l ih =>
      have e : wgtL ((g :: l).flatMap (goLine s w)) = wgtL (goLine s w g) + wgtL (l.flatMap (goLine s w)) := by
        unfold wgtL
        rw [List.flatMap_cons, List.map_append, List.sum_append]
      have pos : 1 ≤ 8 ^ (7 - w.length) := Nat.pos_of_ne_zero (by simp)
      have h1 : (goFound s w g).length + wgtL (goLine s w g) ≤ 8 ^ (7 - w.length) := by
        unfold goFound goLine
        by_cases c : g = s
        · rw [if_pos c, if_pos c]
          exact pos
        · rw [if_neg c, if_neg c]
          split
          · show 0 + (8 ^ (8 - (w.length + 1)) + 0) ≤ _
            rw [show 8 - (w.length + 1) = 7 - w.length by omega]
            omega
          · exact Nat.zero_le _
      rw [e, List.length_cons, Nat.add_mul, Nat.one_mul, List.flatMap_cons, List.length_append]
      omega
  have h1 := each (us (hd w))
  have e1 : wgtL (L ++ (us (hd w)).flatMap (goLine s w)) = wgtL L + wgtL ((us (hd w)).flatMap (goLine s w)) := by
    unfold wgtL
    rw [List.map_append, List.sum_append]
  have e2 : wgtL (w :: L) = wgt w + wgtL L := by
    unfold wgtL
    rw [List.map_cons, List.sum_cons]
  have e3 : wgt w = 8 * 8 ^ (7 - w.length) := by
    unfold wgt
    rw [show 8 - w.length = (7 - w.length) + 1 by omega, Nat.pow_succ, Nat.mul_comm]
  have h2 : (us (hd w)).length * 8 ^ (7 - w.length) ≤ 7 * 8 ^ (7 - w.length) := Nat.mul_le_mul_right _ hu
  rw [List.length_append, e1, e2, e3]
  omega
theorem wgt_ones (l : List Nat) : wgtL (l.map fun n => [n]) = l.length * 2097152 := by
  unfold wgtL
  induction l with
  | nil => rfl
  | cons a l ih =>
    rw [List.map_cons, List.map_cons, List.sum_cons, ih, List.length_cons]
    show 8 ^ 7 + _ = _
    omega
theorem go_len {s : Nat} {w : List Nat} (l : List Nat) : (l.flatMap (goLine s w)).length ≤ l.length ∧ (l.flatMap (goFound s w)).length ≤ l.length := by
  induction l with
  | nil => exact ⟨Nat.le_refl _, Nat.le_refl _⟩
  | cons g l ih =>
    rw [List.flatMap_cons, List.flatMap_cons, List.length_append, List.length_append, List.length_cons]
    have h1 : (goLine s w g).length ≤ 1 := by
      unfold goLine
      split
      · exact Nat.zero_le _
      · split
        · exact Nat.le_refl _
        · exact Nat.zero_le _
    have h2 : (goFound s w g).length ≤ 1 := by
      unfold goFound
      split
      · exact Nat.le_refl _
      · exact Nat.zero_le _
    omega
end G11
theorem way_first {us : Nat → List Nat} {s : Nat} {w : List Nat} (h : G11.Way us s w) : (wayV w)[0]? = some (nmV s) := by
  induction h with
  | one => rfl
  | @step a b r h e ih =>
    rw [way_cons, List.getElem?_append_left (List.getElem?_eq_some_iff.mp ih).1]
    exact ih
theorem wayV_len (w : List Nat) : (wayV w).length = w.length := by unfold wayV; rw [List.length_map, List.length_reverse]
def spRings : Sp := fun vs H Q _ => ∃ (d : Addr) (ns : List Nat) (us : Nat → List Nat), vs = [.ref d] ∧ UsD HO.tup H d ns us ∧ Nts ns us ∧
  ∀ (H' : Hp) (r : Addr) (ps : List Addr) (F : List (List Nat)), Same H H' → H r = none → H' r = some (.lst (ps.map V.ref)) → WyA H' ps F → (∀ w ∈ F, ∃ s ∈ ns, G11.Ring us s w) → (∀ s ∈ ns, ∀ q, G11.Ring us s q → q ∈ F) → F.length ≤ 14680064 → Q (.ref r) H'
section
variable {P : Program} {w : World} {K : PySem.W.Frag} {mg : Str → Option Value} {base : Heap}
theorem sc__law_rings : FnScope ["_law_uses", "_law_found", "_law_line", "_law_name", "_law_way", "_law_goal"] ["_law_uses"] (defScope s_law_rings) := ⟨rfl, rfl, rfl, by decide +kernel, rfl, by decide +kernel, by decide +kernel⟩
theorem ok_lrings {f : Addr} {fd : FuncData} (F : FnP K "_law_rings" s_law_rings f fd) (G : NkF K mg) (m_sorted : mg "sorted" = none) : FnOk P w K mg base CX0 1 f fd ["_law_uses"] spRings := by
  refine F.ok sc__law_rings (fun vs H Q E h => ?_) (fun cdv A outer s H vs Q E hr h => ?_)
  · obtain ⟨d, ns, us, rfl, _⟩ := h
    rfl
  · obtain ⟨D, ns, us, rfl, hU, hN, hq⟩ := h
    have nd := sc__law_rings.nd
    have hu := hu_of hr
    apply Exists.intro
    apply And.intro
    case left =>
     apply PSs.nox
     apply pss_cons
     · exact (ps_par (X := (cxOf CX0 P w K mg base ["_law_uses", "_law_found", "_law_line", "_law_name", "_law_way", "_law_goal"] "_law_rings" (defScope s_law_rings) f cdv A outer s H E).nox) (i := 1) (j := 2) rfl nd rfl rfl (by decide) rfl rfl (pa_cons (pe_lst pa_nil) (pa_cons (pe_lc (own := [("_law_name", 3)]) (g := gName 3) rfl nd (pi_list (pe_callB (call_sortedD rfl) (by rfl) m_sorted (by decide +kernel) (pa_cons (pv 0) pa_nil))) (blkOk_by (own := [("_law_name", 3)]) (N := ["_law_uses", "_law_found", "_law_line", "_law_name", "_law_way", "_law_goal"]) (sc := defScope s_law_rings) (by decide +kernel)) (fun _ _ _ _ _ => (pg_name (i := 3) nd rfl (Or.inl rfl))) (fun _ _ _ _ _ => pts_nil) (fun _ _ _ _ _ => (pe_tup (pa_cons (pv 3) pa_nil)))) pa_nil)) (by rfl))
     apply pss_cons
     · apply ps_while PassesOwn.never
       · exact (pt_cmpR (op_neEL (Nat.lt_of_le_of_lt (Nat.le_add_right _ 64) hr.units)) (pv 2) (pe_lst pa_nil) (nomark _))
       · apply pss_cons
         · exact (ps_set (i := 4) nd rfl (.inl rfl) (pe_bm PySem.F.plainAttrs_list PySem.F.slot_list_pop PySem.F.type_list_pop mt_popAt (pv 2) (pa_cons pe_int pa_nil)))
         apply pss_one
         apply ps_for PassesOwn.never rfl
         · exact (pi_tup (pe_dget hu (pv 0) (pe_ix ix_tup (pv 4) (pe_un un_neg pe_int) (fun _ _ => rfl)) (fun _ _ => rfl)))
         · exact (pg_name (i := 5) nd rfl (Or.inl rfl))
         · apply pss_one
           exact (ps_if (pt_cmpR op_eq (pv 5) (pe_ix ix_tup (pv 4) pe_int (fun _ _ => rfl)) (nomark _)) (pss_one (ps_expr (pe_bm PySem.F.plainAttrs_list PySem.F.slot_list_append PySem.F.type_list_append mt_append (pv 1) (pa_cons (pv 4) pa_nil)))) (pss_one (ps_if (PW.pt (pw_and (pt_cmpR op_notIn_seq (pv 5) (pv 4) (by rfl)) (pw_and1 (pt_cmpR op_gt_str (pv 5) (pe_ix ix_tup (pv 4) pe_int (fun _ _ => rfl)) (nomark _))))) (pss_one (ps_expr (pe_bm PySem.F.plainAttrs_list PySem.F.slot_list_append PySem.F.type_list_append mt_append (pv 2) (pa_cons (pe_op op_catT (pv 4) (pe_tup (pa_cons (pv 5) pa_nil))) pa_nil)))) pss_nil)))
     apply pss_one
     exact (ps_ret (pv 1))
    case right =>
      obtain ⟨kvs, hk1, hk2, hk3⟩ := id hU
      have h7 := hN.len
      refine ⟨(show 0 ≤ sizeLine by decide), fun FL hFL => ?_⟩
      have sF := same_new (o := .lst []) hFL
      refine ⟨_, rfl, D, kvs, ns.map nm, rfl, .inl (sF _ _ hk1), by rw [hk2, List.map_map]; rfl, by rw [List.length_map]; omega, fun ys p hperm hsort hp => ?_⟩
      obtain ⟨vs, rfl, hvp, hvs⟩ := sort_nm hperm hN.lt hsort
      have sp := sF.trans (same_new (o := .lst ((vs.map nm).map V.str)) hp)
      have eF0 := (same_new (o := .lst ((vs.map nm).map V.str)) hp) _ _ (upd_same (H := H) (a := FL) (o := .lst []))
      have ep : (upd (upd H FL (.lst [])) p (.lst ((vs.map nm).map V.str))) p = some (.lst ((vs.map nm).map V.str)) := upd_same
      generalize upd (upd H FL (.lst [])) p (.lst ((vs.map nm).map V.str)) = H0 at sp ep eF0 ⊢
      refine ⟨p, rfl, ⟨_, SqL.of ep⟩, fun LD hLD => ?_⟩
      have FLD : FL ≠ LD := fun z => by rw [z, hLD] at eF0; cases eF0
      have nL : H LD = none := sp.free hLD
      refine lc_list (K := K) (a := p) (xs := (vs.map nm).map V.str) (fun j H' => Same H0 H' ∧ ∃ qs : List Addr, H' LD = some (.lst (qs.map V.ref)) ∧ WyA H' qs ((vs.take j).map fun n => [n])) ⟨same_new hLD, [], upd_same, .nil⟩ (fun j H' _ h => SqL.of (h.1 _ _ ep)) ?_ ?_
      · rintro j y H' hy ⟨sj, qs, eL, W⟩
        rw [List.map_map] at hy
        obtain ⟨n, hn, rfl⟩ := map_at hy
        refine ⟨rfl, yesIf ?_⟩
        refine ⟨_, rfl, (show 1 ≤ sizeLine by decide), fun pt hpt => ?_⟩
        have st := same_new (o := .tup [nmV n]) hpt
        have eL2 := st _ _ eL
        have W2 : WyA (upd H' pt (.tup [nmV n])) (qs ++ [pt]) (((vs.take j).map fun n => [n]) ++ [[n]]) := (W.same st).app (.cons upd_same .nil)
        refine ⟨_, eL2, ?_, same_sub (sj.trans st) hLD, qs ++ [pt], ?_, ?_⟩
        · rw [List.length_map, W.length, List.length_map]
          have := List.length_take_le' j vs
          have := hvp.length_eq
          exact Nat.lt_of_le_of_lt (show (vs.take j).length ≤ 7 by omega) (by decide)
        · rw [upd_same, List.map_append]
          rfl
        · rw [take_snoc2 hn, List.map_append]
          exact W2.put eL2
      rintro H1 ⟨s1, ps, eL, W⟩
      rw [List.length_map, List.length_map, List.take_length] at W
      have s01 := sp.trans s1
      have eF := s1 _ _ eF0
      refine ⟨_, _, rfl, ?_⟩
      have w0 : G11.wgtL (vs.map fun n => [n]) ≤ 14680064 := by
        rw [G11.wgt_ones, hvp.length_eq]
        exact Nat.mul_le_mul_right 2097152 h7
      refine ⟨fun m σ H' => ∃ (L F : List (List Nat)) (ps qs : List Addr) (v4 v5 : Option V), m = G11.wgtL L ∧ σ = [some (.ref D), some (.ref FL), some (.ref LD), none, v4, v5] ∧ G11.Rg us ns L F ∧ F.length + G11.wgtL L ≤ 14680064 ∧ Same H H' ∧ H' LD = some (.lst (ps.map V.ref)) ∧ WyA H' ps L ∧ H' FL = some (.lst (qs.map V.ref)) ∧ WyA H' qs F,
        ⟨_, _, [], ps, [], _, _, rfl, rfl, G11.Rg.start us ns vs (fun x => hvp.mem_iff), by simpa using w0, s01, eL, W, eF, .nil⟩, ?_⟩
      rintro m σ H2 ⟨L, F, ps, qs, v4, v5, rfl, rfl, R, hB, s2, eL, W, eF, WF⟩
      refine ⟨_, rfl, (show 0 ≤ sizeLine by decide), fun q hq2 => ⟨LD, q, _, rfl, rfl, SqL.of ((same_new hq2) _ _ eL), SqL.of upd_same, _, rfl, ?_⟩⟩
      have sq := same_new (o := .lst []) hq2
      cases W with
      | nil =>
        refine iteN1 ⟨_, rfl, ?_⟩
        refine hq _ FL qs F (s2.trans sq) hFL (sq _ _ eF) (WF.same sq) R.is (fun s hs r hr => ?_) (by omega)
        rcases R.all s hs r hr with h | ⟨z, hz, _⟩
        · exact h
        · exact nomatch hz
      | @cons pw ps w L hw W =>
        have s2 := s2.trans sq
        have eL := sq _ _ eL
        have eF := sq _ _ eF
        have hw := sq _ _ hw
        have W := W.same sq
        have WF := WF.same sq
        generalize upd H2 q (.lst []) = H2 at s2 eL eF hw W WF ⊢
        obtain ⟨s0, hs0, wW, wN, wM⟩ := R.way w (List.mem_cons_self ..)
        have wIn := wW.in_nodes hs0 hN.sub
        have lw := G11.sub_len wN wIn
        have hdN : G11.hd w ∈ ns := wIn _ (by
          cases w with
          | nil => exact absurd rfl wW.ne
          | cons a r => exact List.mem_cons_self ..)
        have ul := hN.ul _ hdN
        have hdec := G11.wgt_turn (us := us) (s := s0) (w := w) (L := L) (by omega) (by omega)
        have hsum := G11.wgt_sum (us := us) (s := s0) (w := w) (L := L) (F := F) (by omega) (by omega)
        have R2 := R.turn hs0 wW wM
        refine iteN0 ⟨fun σ' H' => ∃ m', m' < _ ∧ _, fun _ _ h => h, ?_⟩
        refine ⟨_, rfl, .inl ⟨rfl, _, SqL.of eL⟩, LD, _, 0, 0, _, rfl, rfl, eL, by decide, by decide, by unfold seqIndex?; simp, rfl, ?_⟩
        have eL2 : (upd H2 LD (.lst (((pw :: ps).map V.ref).eraseIdx 0))) LD = some (.lst (ps.map V.ref)) := upd_same
        have s3 : Same H (upd H2 LD (.lst (((pw :: ps).map V.ref).eraseIdx 0))) := same_sub s2 nL
        have eF3 : (upd H2 LD (.lst (((pw :: ps).map V.ref).eraseIdx 0))) FL = some (.lst (qs.map V.ref)) := by rw [upd_ne FLD]; exact eF
        have W3 : WyA (upd H2 LD (.lst (((pw :: ps).map V.ref).eraseIdx 0))) (pw :: ps) (w :: L) := WyA.put eL (.cons hw W)
        have WF3 : WyA (upd H2 LD (.lst (((pw :: ps).map V.ref).eraseIdx 0))) qs F := WyA.put eL WF
        generalize upd H2 LD (.lst (((pw :: ps).map V.ref).eraseIdx 0)) = H3 at eL2 s3 eF3 W3 WF3 ⊢
        cases W3 with
        | cons hw3 W3 =>
        obtain ⟨U, gU, eU⟩ := (hU.same s3).at hdN
        have eU0 : H3 U = some (.tup ((us (G11.hd w)).map nmV)) := eU
        refine ⟨_, rfl, _, rfl, _, rfl, _, _, _, _, rfl, rfl, SqT.of hw3, way_last wW.ne, _, _, rfl, gU, U, rfl, ⟨_, SqT.of eU0⟩, ?_⟩
        refine for_it walk_tup (fun j σ H5 => ∃ (ps2 qs2 : List Addr) (v5 : Option V), σ = [some (.ref D), some (.ref FL), some (.ref LD), none, some (.ref pw), v5] ∧ Same H H5 ∧ H5 U = some (.tup ((us (G11.hd w)).map nmV)) ∧ H5 pw = some (.tup (wayV w)) ∧ H5 LD = some (.lst ((ps ++ ps2).map V.ref)) ∧ WyA H5 (ps ++ ps2) (L ++ ((us (G11.hd w)).take j).flatMap (G11.goLine s0 w)) ∧ H5 FL = some (.lst ((qs ++ qs2).map V.ref)) ∧ WyA H5 (qs ++ qs2) (F ++ ((us (G11.hd w)).take j).flatMap (G11.goFound s0 w)))
          ⟨[], [], v5, rfl, s3, eU0, hw3, by rw [List.append_nil]; exact eL2, by rw [List.append_nil]; simpa using W3, by rw [List.append_nil]; exact eF3, by rw [List.append_nil]; simpa using WF3⟩ (fun j σ H5 _ ⟨_, _, _, _, _, e, _⟩ => SqT.of e) ?_ ?_
        · rintro j x σ Hx H5 hj ⟨ps2, qs2, v5, rfl, s5, eU5, hw5, eL5, W5, eF5, WF5⟩ ⟨rfl, hx⟩
          obtain ⟨g, hg, rfl⟩ := map_at hx
          have gN := hN.sub _ hdN g (List.mem_of_getElem? hg)
          have g8 := hN.lt g gN
          have s08 := hN.lt s0 hs0
          have tk : (us (G11.hd w)).take (j + 1) = (us (G11.hd w)).take j ++ [g] := take_snoc2 hg
          have one1 : ∀ f : Nat → List (List Nat), ((us (G11.hd w)).take (j + 1)).flatMap f = ((us (G11.hd w)).take j).flatMap f ++ f g := fun f => by rw [tk, List.flatMap_append]; simp
          have ljl := (G11.go_len (s := s0) (w := w) ((us (G11.hd w)).take j))
          have htl := List.length_take_le' j (us (G11.hd w))
          have llw := G11.len_wgt (w :: L)
          rw [List.length_cons] at llw
          have eq0 : decide (nmV g = nmV s0) = decide (g = s0) := decide_eq_decide.mpr ⟨fun z => nm_inj g8 s08 (by injection z), fun z => by rw [z]⟩
          refine ⟨_, rfl, _, rfl, _, _, _, _, rfl, rfl, SqT.of hw5, atI_nat (j := 0) (way_first wW), rfl, _, rfl, ?_⟩
          rw [eq0]
          by_cases c1 : g = s0
          · rw [decide_eq_true c1]
            have f1 : G11.goFound s0 w g = [w] := if_pos c1
            have l1 : G11.goLine s0 w g = [] := if_pos c1
            refine iteT ⟨_, rfl, .inl ⟨rfl, _, SqL.of eF5⟩, _, rfl, FL, _, _, rfl, rfl, eF5, ?_, ps2, qs2 ++ [pw], _, rfl, same_sub s5 hFL, ?_, ?_, ?_, ?_, ?_, ?_⟩
            · rw [List.length_map, WF5.length, List.length_append]
              exact Nat.lt_of_le_of_lt (show _ ≤ 14680064 + 7 by omega) (by decide)
            · have : U ≠ FL := fun z => by rw [z, eF5] at eU5; cases eU5
              rw [upd_ne this]
              exact eU5
            · have : pw ≠ FL := fun z => by rw [z, eF5] at hw5; cases hw5
              rw [upd_ne this]
              exact hw5
            · rw [upd_ne (Ne.symm FLD)]
              exact eL5
            · rw [one1, l1, List.append_nil]
              exact W5.put eF5
            · rw [upd_same, ← List.append_assoc, List.map_append (l₁ := qs ++ qs2)]
              rfl
            · rw [one1, f1, ← List.append_assoc, ← List.append_assoc]
              exact WyA.put eF5 (WF5.app (.cons hw5 .nil))
          rw [decide_eq_false c1]
          refine iteF ?_
          have f1 : G11.goFound s0 w g = [] := if_neg c1
          have noP : G11.goLine s0 w g = [] → ∃ (ps2 qs2 : List Addr) (v5 : Option V), [some (V.ref D), some (V.ref FL), some (V.ref LD), none, some (V.ref pw), some (nmV g)] = [some (V.ref D), some (V.ref FL), some (V.ref LD), none, some (V.ref pw), v5] ∧ Same H H5 ∧ H5 U = some (.tup ((us (G11.hd w)).map nmV)) ∧ H5 pw = some (.tup (wayV w)) ∧ H5 LD = some (.lst ((ps ++ ps2).map V.ref)) ∧ WyA H5 (ps ++ ps2) (L ++ ((us (G11.hd w)).take (j + 1)).flatMap (G11.goLine s0 w)) ∧ H5 FL = some (.lst ((qs ++ qs2).map V.ref)) ∧ WyA H5 (qs ++ qs2) (F ++ ((us (G11.hd w)).take (j + 1)).flatMap (G11.goFound s0 w)) := fun l1 =>
            ⟨ps2, qs2, _, rfl, s5, eU5, hw5, eL5, by rw [one1, l1, List.append_nil]; exact W5, eF5, by rw [one1, f1, List.append_nil]; exact WF5⟩
          refine ⟨_, rfl, _, rfl, pw, wayV w, rfl, .inr (SqT.of hw5), rfl, flat_nm _, _, rfl, ?_⟩
          rw [show (if true = true then !inV (nmV g) (wayV w) else inV (nmV g) (wayV w)) = !decide (g ∈ w) from (congrArg (fun b => !b) (in_nms (l := w.reverse) g8 fun x hx => hN.lt x (wIn x (List.mem_reverse.mp hx)))).trans (by simp)]
          by_cases c2 : g ∈ w
          · rw [decide_eq_true c2]
            exact iteF (iteF (noP (by unfold G11.goLine; rw [if_neg c1, if_neg fun z => z.1 c2])))
          rw [decide_eq_false c2]
          refine iteT ⟨_, rfl, _, rfl, _, _, _, _, rfl, rfl, SqT.of hw5, atI_nat (j := 0) (way_first wW), _, _, rfl, rfl, _, rfl, ?_⟩
          rw [nm_lt s0 s08 g g8]
          by_cases c3 : s0 < g
          rotate_left
          · rw [decide_eq_false c3]
            exact iteF (noP (by unfold G11.goLine; rw [if_neg c1, if_neg fun z => c3 z.2]))
          rw [decide_eq_true c3]
          have l1 : G11.goLine s0 w g = [g :: w] := by unfold G11.goLine; rw [if_neg c1, if_pos ⟨c2, c3⟩]
          refine iteT ⟨_, rfl, .inl ⟨rfl, _, SqL.of eL5⟩, _, rfl, _, rfl, (show 1 ≤ sizeLine by decide), fun pg hpg => ?_⟩
          have sg := same_new (o := .tup [nmV g]) hpg
          refine ⟨pw, pg, wayV w, [nmV g], rfl, rfl, SqT.of (sg _ _ hw5), SqT.of upd_same, ?_, ?_, (fun z => by cases z), fun _ pc hpc => ?_⟩
          · intro z
            have := wayV_len w
            rw [z] at this
            exact wW.ne (List.eq_nil_of_length_eq_zero this.symm)
          · rw [wayV_len]
            exact Nat.le_trans (show w.length + 1 ≤ 8 by omega) (by decide)
          have sc := sg.trans (same_new (o := .tup (wayV w ++ [nmV g])) hpc)
          have ec : (upd (upd H5 pg (.tup [nmV g])) pc (.tup (wayV w ++ [nmV g]))) pc = some (.tup (wayV (g :: w))) := by rw [upd_same, way_cons]
          have s6 := s5.trans sc
          have eU6 := sc _ _ eU5
          have hw6 := sc _ _ hw5
          have eL6 := sc _ _ eL5
          have eF6 := sc _ _ eF5
          have W6 := W5.same sc
          have WF6 := WF5.same sc
          generalize upd (upd H5 pg (.tup [nmV g])) pc (.tup (wayV w ++ [nmV g])) = H6 at ec s6 eU6 hw6 eL6 eF6 W6 WF6 ⊢
          refine ⟨LD, _, _, rfl, rfl, eL6, ?_, ps2 ++ [pc], qs2, _, rfl, same_sub s6 nL, ?_, ?_, ?_, ?_, ?_, ?_⟩
          · rw [List.length_map, W6.length, List.length_append]
            exact Nat.lt_of_le_of_lt (show _ ≤ 14680064 + 7 by omega) (by decide)
          · have : U ≠ LD := fun z => by rw [z, eL6] at eU6; cases eU6
            rw [upd_ne this]
            exact eU6
          · have : pw ≠ LD := fun z => by rw [z, eL6] at hw6; cases hw6
            rw [upd_ne this]
            exact hw6
          · rw [upd_same, ← List.append_assoc, List.map_append (l₁ := ps ++ ps2)]
            rfl
          · rw [one1, l1, ← List.append_assoc, ← List.append_assoc]
            exact WyA.put eL6 (W6.app (.cons ec .nil))
          · rw [upd_ne FLD]
            exact eF6
          · rw [one1, f1, List.append_nil]
            exact WF6.put eL6
        · rintro σ H5 ⟨ps2, qs2, v5, rfl, s5, eU5, hw5, eL5, W5, eF5, WF5⟩
          rw [List.length_map, List.take_length] at W5 WF5
          exact ⟨_, hdec, _, _, ps ++ ps2, qs ++ qs2, _, _, rfl, rfl, R2, by omega, s5, eL5, W5, eF5, WF5⟩
end
/-! ## k11's law: from pairs to names and uses -/
def usF (ms : List (Nat × List Nat)) (n : Nat) : List Nat := ((ms.find? fun m => decide (m.1 = n)).map (·.2)).getD []
theorem usF_at : ∀ {ms : List (Nat × List Nat)}, (ms.map (·.1)).Nodup → ∀ m ∈ ms, usF ms m.1 = m.2
  | [], _, _, h => nomatch h
  | a :: ms, nd, m, h => by
    rw [List.map_cons, List.nodup_cons] at nd
    unfold usF
    rcases List.mem_cons.mp h with rfl | h
    · simp
    · have ne : a.1 ≠ m.1 := fun e => nd.1 (e ▸ List.mem_map.mpr ⟨m, h, rfl⟩)
      have ih := usF_at nd.2 m h
      unfold usF at ih
      rw [List.find?_cons_of_neg (by simpa using ne)]
      exact ih
theorem ms_as {ms : List (Nat × List Nat)} (nd : (ms.map (·.1)).Nodup) : (ms.map fun m => some (nm m.1, m.2.map nm)) = (ms.map (·.1)).map fun n => some (uOf (usF ms) n) := by
  rw [List.map_map]
  refine List.map_congr_left fun m hm => ?_
  show some (nm m.1, m.2.map nm) = some (nm m.1, (usF ms m.1).map nm)
  rw [usF_at nd m hm]
theorem Pm.nts {ms : List (Nat × List Nat)} (h : Pm ms) : Nts (ms.map (·.1)) (usF ms) := by
  refine ⟨h.one, fun n hn => ?_, by rw [List.length_map]; have := h.len; omega, fun n hn x hx => ?_, fun n hn => ?_⟩
  · obtain ⟨m, hm, rfl⟩ := List.mem_map.mp hn
    exact (h.lt m hm).1
  · obtain ⟨m, hm, rfl⟩ := List.mem_map.mp hn
    rw [usF_at h.one m hm] at hx
    exact (h.sub m hm).2 x hx
  · obtain ⟨m, hm, rfl⟩ := List.mem_map.mp hn
    rw [usF_at h.one m hm]
    exact (h.sub m hm).1
theorem Pm.names8 {ms : List (Nat × List Nat)} (h : Pm ms) {m : Nat × List Nat} (hm : m ∈ ms) : ∀ x ∈ m.2, x < 8 := fun x hx => by
  obtain ⟨m2, h2, rfl⟩ := List.mem_map.mp ((h.sub m hm).2 x hx)
  exact (h.lt m2 h2).1
theorem TrA.ut {K : PySem.W.Frag} {W : Hp} {ts : List V} {ms : List (Nat × List Nat)} (h : TrA W ts ms) (p : Pm ms) : UtA K W ts ((ms.map (·.1)).map fun n => some (uOf (usF ms) n)) := by
  rw [← ms_as p.one]
  refine ⟨by rw [List.length_map]; exact h.1, fun i x e => ?_⟩
  obtain ⟨m, hm, t⟩ := h.2 i x e
  have mm := List.mem_of_getElem? hm
  exact ⟨_, by rw [List.getElem?_map, hm]; rfl, t.ut (p.lt m mm).1 (p.sub m mm).1 (p.names8 mm)⟩
theorem Pm.ne {ms : List (Nat × List Nat)} (h : Pm ms) : ms.map (·.1) ≠ [] := fun z => by
  have := h.pos
  rw [List.map_eq_nil_iff.mp z] at this
  exact absurd this (by decide)
theorem Pm.perm {ms ks : List (Nat × List Nat)} (h : Pm ms) (p : ks.Perm ms) : Pm ks := by
  have pn := p.map (·.1)
  refine ⟨pn.nodup_iff.mpr h.one, fun m hm => h.lt m (p.mem_iff.mp hm), by rw [p.length_eq]; exact h.len, by rw [p.length_eq]; exact h.pos, fun m hm => ?_⟩
  obtain ⟨a, b⟩ := h.sub m (p.mem_iff.mp hm)
  exact ⟨a, fun x hx => pn.mem_iff.mpr (b x hx)⟩
theorem UtA.join {K : PySem.W.Frag} {H : Hp} {xs ys : List V} {os us : List (Option (Str × List Str))} (h : UtA K H xs os) (g : UtA K H ys us) : UtA K H (xs ++ ys) (os ++ us) := by
  refine ⟨by rw [List.length_append, List.length_append, h.1, g.1], fun i x e => ?_⟩
  by_cases c : i < xs.length
  · rw [List.getElem?_append_left c] at e
    obtain ⟨o, a, b⟩ := h.2 i x e
    exact ⟨o, by rw [List.getElem?_append_left (by rw [← h.1]; exact c)]; exact a, b⟩
  · rw [List.getElem?_append_right (by omega)] at e
    obtain ⟨o, a, b⟩ := g.2 _ x e
    exact ⟨o, by rw [List.getElem?_append_right (by rw [← h.1]; omega), ← h.1]; exact a, b⟩
theorem UtA.take {K : PySem.W.Frag} {H : Hp} {xs : List V} {os : List (Option (Str × List Str))} (h : UtA K H xs os) (k : Nat) : UtA K H (xs.take k) (os.take k) := by
  refine ⟨by rw [List.length_take, List.length_take, h.1], fun i x e => ?_⟩
  rw [List.getElem?_take] at e
  by_cases c : i < k
  · rw [if_pos c] at e
    obtain ⟨o, a, b⟩ := h.2 i x e
    exact ⟨o, by rw [List.getElem?_take, if_pos c]; exact a, b⟩
  · rw [if_neg c] at e
    cases e
theorem UtA.drop {K : PySem.W.Frag} {H : Hp} {xs : List V} {os : List (Option (Str × List Str))} (h : UtA K H xs os) (k : Nat) : UtA K H (xs.drop k) (os.drop k) := by
  refine ⟨by rw [List.length_drop, List.length_drop, h.1], fun i x e => ?_⟩
  rw [List.getElem?_drop] at e
  obtain ⟨o, a, b⟩ := h.2 _ x e
  exact ⟨o, by rw [List.getElem?_drop]; exact a, b⟩
theorem UtA.single {K : PySem.W.Frag} {H : Hp} {x : V} {o : Option (Str × List Str)} (h : UtX K H x o) : UtA K H [x] [o] := by
  refine ⟨rfl, fun i y e => ?_⟩
  cases i with
  | zero =>
    injection e with e
    subst e
    exact ⟨o, rfl, h⟩
  | succ i => simp at e
/-- an item put into a list of units, no unit or one again -/
theorem bad_cut {ms : List (Nat × List Nat)} (p : Pm ms) {o : Option (Str × List Str)} {k : Nat} (hk : k ≤ ms.length) (rest : List (Option (Str × List Str))) {m0 : Nat × List Nat} (hm0 : ms[0]? = some m0) (ho : o = none ∨ (1 ≤ k ∧ ∃ q, o = some q ∧ q.1 = nm m0.1)) :
    BadAt ((((ms.map (·.1)).map fun n => some (uOf (usF ms) n)).take k ++ [o]) ++ rest) k := by
  have ll : (((ms.map (·.1)).map fun n => some (uOf (usF ms) n)).take k).length = k := by
    rw [List.length_take, List.length_map, List.length_map]
    omega
  refine ⟨((ms.map (·.1)).take k).map (uOf (usF ms)), ?_, ?_, ?_⟩
  · rw [List.append_assoc, List.take_append_of_le_length (by omega), List.take_of_length_le (by omega), ← List.map_take, List.map_map]
    rfl
  · rw [nms_of, ← List.map_take]
    have h := p.nts.nd
    exact List.Nodup.sublist (List.Sublist.map _ (List.Sublist.map _ (List.take_sublist _ _))) h
  · have e : ((((ms.map (·.1)).map fun n => some (uOf (usF ms) n)).take k ++ [o]) ++ rest)[k]? = some o := by
      rw [List.append_assoc, List.getElem?_append_right (by omega), ll]
      simp
    rw [e]
    rcases ho with rfl | ⟨h1, q, rfl, hq⟩
    · exact .inl rfl
    · refine .inr ⟨q, rfl, ?_⟩
      rw [nms_of, hq]
      refine List.mem_map.mpr ⟨m0.1, ?_, rfl⟩
      refine List.mem_of_getElem? (i := 0) ?_
      rw [List.getElem?_take, if_pos (by omega), List.getElem?_map, hm0]
      rfl
/-! ## k11's law: a unit that uses what is not there -/
theorem NtV.ext {H H' : Hp} {x : V} (h : NtV H x) (s : LamX.ExtN H H') : NtV H' x := by
  cases h with
  | non => exact .non
  | int i => exact .int i
  | lst e => exact .lst (s _ _ e (fun _ z => by cases z))
theorem UtX.ext {K : PySem.W.Frag} {H H' : Hp} {x : V} {o : Option (Str × List Str)} (h : UtX K H x o) (s : LamX.ExtN H H') : UtX K H' x o := by
  have f : ∀ b xs, H b = some (.tup xs) → H' b = some (.tup xs) := fun b xs e => s _ _ e (fun _ z => by cases z)
  cases h with
  | non h => exact .non (h.ext s)
  | emp h => exact .emp (f _ _ h)
  | odd h o => exact .odd (f _ _ h) o
  | bad h t o => exact .bad (f _ _ h) t (o.imp id fun h => h.ext s)
  | one h hb h1 h2 t g l hu => exact .one (f _ _ h) (f _ _ hb) (f _ _ h1) (f _ _ h2) t g l hu
theorem atI_prev {xs : List V} (h : 1 ≤ xs.length) {k : Nat} (hk : k ≤ xs.length) : ∃ (j : Nat) (v : V), xs[j]? = some v ∧ atI xs ((k : Int) - 1) = some v := by
  cases k with
  | zero =>
    rcases List.eq_nil_or_concat xs with rfl | ⟨l, a, rfl⟩
    · simp at h
    · refine ⟨l.length, a, by simp, ?_⟩
      rw [List.concat_eq_append]
      exact atI_last _ _
  | succ k =>
    have h : k < xs.length := hk
    refine ⟨k, xs[k], List.getElem?_eq_getElem h, ?_⟩
    rw [show ((k + 1 : Nat) : Int) - 1 = (k : Int) by omega]
    exact atI_nat (List.getElem?_eq_getElem h)
def spoil (q m : Nat × List Nat) : Nat × List Nat := if m.1 = q.1 then (q.1, 5 :: q.2.take 4) else m
theorem spoil_1 (q m : Nat × List Nat) : (spoil q m).1 = m.1 := by
  unfold spoil
  split
  · rename_i h
    exact h.symm
  · rfl
theorem Pm.spoil {ms : List (Nat × List Nat)} (p : Pm ms) {q : Nat × List Nat} (hq : q ∈ ms) {m : Nat × List Nat} (hm : m ∈ ms) : (My.spoil q m).1 < 8 ∧ (My.spoil q m).2.length ≤ 5 ∧ ∀ x ∈ (My.spoil q m).2, x < 8 := by
  unfold My.spoil
  split
  · refine ⟨(p.lt q hq).1, ?_, fun x hx => ?_⟩
    · show (q.2.take 4).length + 1 ≤ 5
      have := List.length_take_le 4 q.2
      omega
    · rcases List.mem_cons.mp hx with rfl | hx
      · decide
      · exact p.names8 hq x (List.mem_of_mem_take hx)
  · exact ⟨(p.lt m hm).1, (p.sub m hm).1, p.names8 hm⟩
def uS (m : Nat × List Nat) : Str × List Str := (nm m.1, m.2.map nm)
theorem TrA.utS {K : PySem.W.Frag} {W : Hp} {us : List V} {ms : List (Nat × List Nat)} {q : Nat × List Nat} (p : Pm ms) (hq : q ∈ ms) (h : TrA W us (ms.map (spoil q))) : UtA K W us ((ms.map (spoil q)).map fun m => some (uS m)) := by
  refine ⟨by rw [List.length_map]; exact h.1, fun i x e => ?_⟩
  obtain ⟨m, hm, t⟩ := h.2 i x e
  obtain ⟨m1, hm1, rfl⟩ := List.mem_map.mp (List.mem_of_getElem? hm)
  obtain ⟨a, b, c⟩ := p.spoil hq hm1
  exact ⟨_, by rw [List.getElem?_map, hm]; rfl, t.ut a b c⟩
theorem spoil_need {C CN : Addr} {ms : List (Nat × List Nat)} (p : Pm ms) {q : Nat × List Nat} (hq : q ∈ ms) {H : Hp} {E : XK} (h : flE "name" CN (.str "notthere") H E) : NeedB C CN ((ms.map (spoil q)).map fun m => some (uS m)) H E := by
  obtain ⟨i, hi, e⟩ := List.getElem_of_mem hq
  have hiq : ms[i]? = some q := by rw [List.getElem?_eq_getElem hi, e]
  have names : nms ((ms.map (spoil q)).map uS) = (ms.map (·.1)).map nm := by
    unfold nms
    rw [List.map_map, List.map_map, List.map_map]
    refine List.map_congr_left fun m _ => ?_
    show nm (spoil q m).1 = nm m.1
    rw [spoil_1]
  have inN : ∀ x ∈ ms.map (·.1), nm x ∈ nms ((ms.map (spoil q)).map uS) := fun x hx => by
    rw [names]
    exact List.mem_map.mpr ⟨x, hx, rfl⟩
  refine .inr ⟨?_, .inr ⟨(ms.map (spoil q)).map uS, by rw [List.map_map (g := some)]; rfl, by rw [names]; exact p.nts.nd, "notthere", ⟨i, 0, uS (q.1, 5 :: q.2.take 4), ?_, rfl, ?_, fun i' hi' r hr y hy => ?_, fun j' hj' => absurd hj' (Nat.not_lt_zero _)⟩, h⟩⟩
  · intro z
    have := p.pos
    rw [List.map_eq_nil_iff, List.map_eq_nil_iff] at z
    rw [z] at this
    exact absurd this (by decide)
  · rw [List.getElem?_map, List.getElem?_map, hiq]
    show some (uS (spoil q q)) = _
    unfold spoil
    rw [if_pos rfl]
  · rw [names]
    intro z
    obtain ⟨x, hx, e⟩ := List.mem_map.mp z
    obtain ⟨m, hm, rfl⟩ := List.mem_map.mp hx
    obtain ⟨a, b⟩ := p.lt m hm
    exact b (nm_inj a (by decide) (e.trans rfl))
  · rw [List.getElem?_map, List.getElem?_map] at hr
    cases hm : ms[i']? with
    | none => rw [hm] at hr; cases hr
    | some m =>
      rw [hm] at hr
      injection hr with hr
      subst hr
      have ne : m.1 ≠ q.1 := fun z => by
        have h2 := p.one
        have k1 : (ms.map (·.1))[i']? = some m.1 := by rw [List.getElem?_map, hm]; rfl
        have k2 : (ms.map (·.1))[i]? = some m.1 := by rw [List.getElem?_map, hiq, z]; rfl
        obtain ⟨l1, e1⟩ := List.getElem?_eq_some_iff.mp k1
        obtain ⟨l2, e2⟩ := List.getElem?_eq_some_iff.mp k2
        exact (List.pairwise_iff_getElem.mp h2) i' i l1 l2 hi' (e1.trans e2.symm)
      have hy : y ∈ (uS (spoil q m)).2 := hy
      unfold spoil at hy
      rw [if_neg ne] at hy
      obtain ⟨x, hx, rfl⟩ := List.mem_map.mp hy
      exact inN x ((p.sub m (List.mem_of_getElem? hm)).2 x hx)
/-- the names that are asked and are none -/
def oddD (m : Nat) : List (PyData) := [.str "notthere", .none, .int 5, .tuple [.str (nm m)], .str ""]
theorem odd_sh : ∀ m < 8, (oddD m).all (fun d => SeqAt.shaped d && (d.showable && (decide (d.depth ≤ 100) && decide (d.shown.length ≤ 100)))) = true := by decide +kernel
theorem odd_ne : ∀ m < 8, ∀ n < 8, n ≠ 5 → (oddD m).all (fun d => !PyData.eqv (.str (nm n)) d) = true := by decide +kernel
/-- t[:n] of a tuple, new or the same -/
theorem slA_take {K : PySem.W.Frag} {H : Hp} {a : Addr} {xs : List V} {Q : VK} {n : Nat} (e : H a = some (.tup xs)) (k : ∀ p H', Same H H' → H' p = some (.tup (xs.take n)) → Q (.ref p) H') : rSlA K (.ref a) none (some (n : Int)) H Q := by
  refine ⟨a, xs, rfl, SqT.of e, fun h => ?_, fun _ p hp => ?_⟩
  · have h2 := h.2
    rw [HT.sIx_nat] at h2
    refine k a H (Same.refl _) ?_
    rw [List.take_of_length_le (by omega)]
    exact e
  · refine k p _ (same_new hp) ?_
    rw [upd_same, cutV_take]
/-- t + u, new or one of them -/
theorem catA_any {K : PySem.W.Frag} {H : Hp} {a b : Addr} {xs ys : List V} {Q : VK} (ea : H a = some (.tup xs)) (eb : H b = some (.tup ys)) (hl : xs.length + ys.length ≤ sizeLine) (k : ∀ p H', Same H H' → H' p = some (.tup (xs ++ ys)) → Q (.ref p) H') : rCatA K (.ref a) (.ref b) H Q := by
  refine ⟨a, b, xs, ys, rfl, rfl, SqT.of ea, SqT.of eb, hl, fun h => ?_, fun _ h => ?_, fun _ _ p hp => ?_⟩
  · subst h
    exact k b H (Same.refl _) eb
  · subst h
    refine k a H (Same.refl _) ?_
    rw [List.append_nil]
    exact ea
  · exact k p _ (same_new hp) upd_same
/-! ## sorted(tuples of names, all of one length) -/
namespace SrtN
open PySem PySem.Spec PyProof.Rows L2
def lexF : List Nat → List Nat → Bool
  | [], [] => false
  | [], _ :: _ => true
  | _ :: _, [] => false
  | a :: r, b :: t => decide (a < b) || (decide (a = b) && lexF r t)
theorem lexF_eq (a b : Nat) (r t : List Nat) : lexF (a :: r) (b :: t) = (decide (a < b) || (decide (a = b) && lexF r t)) := rfl
theorem lexF_cons {a b : Nat} {r t : List Nat} : lexF (a :: r) (b :: t) = true ↔ a < b ∨ (a = b ∧ lexF r t = true) := by
  rw [lexF_eq]
  simp
theorem lexF_no {a b : Nat} {r t : List Nat} : lexF (a :: r) (b :: t) = false ↔ b < a ∨ (a = b ∧ lexF r t = false) := by
  rw [← Bool.not_eq_true, lexF_cons]
  cases lexF r t <;> simp <;> omega
theorem lexF_asym : ∀ x y : List Nat, lexF x y = true → lexF y x = false
  | [], [], _ => rfl
  | [], _ :: _, _ => rfl
  | _ :: _, [], h => by cases h
  | a :: r, b :: t, h => by
    rcases lexF_cons.mp h with h | ⟨h, h2⟩
    · exact lexF_no.mpr (.inl h)
    · exact lexF_no.mpr (.inr ⟨h.symm, lexF_asym r t h2⟩)
theorem lexF_tr : ∀ x y z : List Nat, lexF y x = false → lexF z y = false → lexF z x = false
  | [], [], [], _, _ => rfl
  | [], [], _ :: _, _, h => h
  | [], _ :: _, [], _, h => by cases h
  | [], _ :: _, _ :: _, _, _ => rfl
  | _ :: _, [], [], h, _ => by cases h
  | _ :: _, [], _ :: _, h, _ => by cases h
  | _ :: _, _ :: _, [], _, h => by cases h
  | a :: r, b :: t, c :: u, h1, h2 => by
    rcases lexF_no.mp h1 with h1 | ⟨h1, k1⟩ <;> rcases lexF_no.mp h2 with h2 | ⟨h2, k2⟩
    · exact lexF_no.mpr (.inl (by omega))
    · exact lexF_no.mpr (.inl (by omega))
    · exact lexF_no.mpr (.inl (by omega))
    · exact lexF_no.mpr (.inr ⟨by omega, lexF_tr r t u k1 k2⟩)
theorem swo (k : Value → List Nat) : SrtO.Swo fun v u => lexF (k v) (k u) := ⟨fun x y => lexF_asym _ _, fun x y z => lexF_tr _ _ _⟩
/-- a tuple of names -/
def IsN (h : Heap) (v : Value) (l : List Nat) : Prop := ∃ (a : Addr) (o : Obj) (us : Array Value) (n : Nat), v = .ref a ∧ h.get? a = some o ∧ o.cls = .type "tuple" ∧ o.data = .seq us n ∧ Vals (l.map nmV) us.toList
theorem IsN.keeps {h h' : Heap} {v : Value} {l : List Nat} (i : IsN h v l) (k : ∀ b o, h.get? b = some o → o.cls = .type "tuple" → h'.get? b = some o) : IsN h' v l := by
  obtain ⟨a, o, us, n, e, ho, hc, hd, r⟩ := i
  exact ⟨a, o, us, n, e, k a o ho hc, hc, hd, r⟩
section
variable {prog : Program} {w : World} {A : Around} {E : Value → Shared → Prop} {s : Shared}
theorem oneLt_strs (c : Bool) {p q : Str} {t u : Tok} {Q : Bool → Shared → Prop} (h : Q (decide (p.cps.toList < q.cps.toList)) s) : wpAny (model prog w) A (oneLt' c (.str p t) (.str q u)) Q E s := by
  cases c with
  | true => exact oneLt_str h
  | false => exact PySem.W.kat_one _ _ (PyProof.Rows.lt_str (Q := PySem.W.BoolBack Q) h)
theorem lex_nm {b : Bool} {Q : Bool → Shared → Prop} : ∀ (l m : List Nat) (us ws : List Value) (i : Nat), Vals (l.map nmV) us → Vals (m.map nmV) ws → l.length = m.length → (∀ x ∈ l, x < 8) → (∀ x ∈ m, x < 8) → Q (lexF l m) s → PySem.W.KatLex prog w A b false Q (us.zip ws) i s
  | [], [], _, _, _, .nil, .nil, _, _, _, h => PySem.W.kat_nil h
  | [], _ :: _, _, _, _, _, _, e, _, _, _ => by cases e
  | _ :: _, [], _, _, _, _, _, e, _, _, _ => by cases e
  | x :: l, y :: m, u :: us, v :: ws, i, .cons ru r1, .cons rv r2, e, h1, h2, h => by
    obtain ⟨t, rfl⟩ := ru
    obtain ⟨t2, rfl⟩ := rv
    have x8 := h1 x (List.mem_cons_self ..)
    have y8 := h2 y (List.mem_cons_self ..)
    refine PySem.W.kat_cons (SeqAt.EqAt.str_str (nm x) t (nm y) t2 prog w _ _ ?_)
    refine PySem.W.kat_go (fun e1 => ?_) (fun e1 => ?_)
    · have ex : x = y := nm_inj x8 y8 (by simpa using e1)
      have e2 : lexF (x :: l) (y :: m) = lexF l m := by rw [ex, lexF_eq]; simp
      rw [e2] at h
      exact PySem.W.kat_yes (lex_nm l m us ws (i + 1) r1 r2 (by simpa using e) (fun z hz => h1 z (List.mem_cons_of_mem _ hz)) (fun z hz => h2 z (List.mem_cons_of_mem _ hz)) h)
    · have ex : x ≠ y := fun z => by rw [z] at e1; simp at e1
      have e2 : lexF (x :: l) (y :: m) = decide (x < y) := by rw [lexF_eq]; simp [ex]
      rw [e2, ← nm_lt x x8 y y8] at h
      exact PySem.W.kat_no (oneLt_strs _ h)
theorem cmp {vs : List Value} {k : Value → List Nat} {m : Nat} (hp : ∀ v ∈ vs, IsN s.heap v (k v) ∧ (k v).length = m ∧ ∀ x ∈ k v, x < 8) : SrtO.Cmp prog w A s (tuples' true) (fun p => p.1 ∈ vs) (SrtO.lt2 fun v u => lexF (k v) (k u)) := by
  intro p q hm hm'
  obtain ⟨h1, l1, b1⟩ := hp _ hm
  obtain ⟨h2, l2, b2⟩ := hp _ hm'
  show wpAny (model prog w) A (keyLt' (tuples' true) p.1 q.1) (fun r s' => s' = s ∧ r = lexF (k p.1) (k q.1)) (fun _ _ => False) s
  generalize k p.1 = l at h1 l1 b1 ⊢
  generalize k q.1 = l' at h2 l2 b2 ⊢
  obtain ⟨a, o, us, n, e, ho, hc, hd, r1⟩ := h1
  obtain ⟨a', o', us', n', e', ho', hc', hd', r2⟩ := h2
  rw [e, e']
  refine PySem.W.kat_lt ho hd ho' hd' ?_
  have z1 : us.size = m := by rw [← l1, ← List.length_map nmV, r1.length]; simp
  have z2 : us'.size = m := by rw [← l2, ← List.length_map nmV, r2.length]; simp
  rw [z1, z2, show decide (m < m) = false from decide_eq_false (Nat.lt_irrefl _)]
  exact lex_nm l l' _ _ 0 r1 r2 (by rw [l1, l2]) b1 b2 ⟨rfl, rfl⟩
theorem firsts {h : Heap} {k : Value → List Nat} : ∀ {vs : List Value}, (∀ v ∈ vs, IsN h v (k v) ∧ 0 < (k v).length) → ∃ fs : List Value, PySem.W.KatTups h vs fs ∧ fs.length = vs.length ∧ ∀ f ∈ fs, ∃ x t, f = Value.str x t
  | [], _ => ⟨[], PySem.W.KatTups.nil, rfl, fun _ hm => by simp at hm⟩
  | v :: vs, hp => by
    obtain ⟨fs, h1, h2, h3⟩ := firsts (vs := vs) fun v' hm => hp v' (List.mem_cons_of_mem _ hm)
    obtain ⟨⟨a, o, us, n, e, ho, hc, hd, r⟩, pos⟩ := hp v (List.mem_cons_self ..)
    subst e
    generalize k (.ref a) = l at r pos
    obtain ⟨us⟩ := us
    cases l with
    | nil => exact absurd pos (by simp)
    | cons x l =>
      cases r with
      | @cons _ _ u us ru r =>
        obtain ⟨t, rfl⟩ := ru
        refine ⟨.str (nm x) t :: fs, PySem.W.KatTups.cons ho hc hd rfl h1, by rw [List.length_cons, List.length_cons, h2], fun f hm => ?_⟩
        rcases List.mem_cons.mp hm with rfl | hm
        · exact ⟨nm x, t, rfl⟩
        · exact h3 f hm
theorem sortable {a : Addr} {vs : List Value} {k : Value → List Nat} {m : Nat} (h0 : 0 < vs.length) (hm : 0 < m) (hp : ∀ v ∈ vs, IsN s.heap v (k v) ∧ (k v).length = m ∧ ∀ x ∈ k v, x < 8) (ha : ∀ o, s.heap.get? a = some o → o.cls ≠ .type "tuple") : SrtO.SortableO prog w A s a vs fun v u => lexF (k v) (k u) := by
  intro h' keep
  have hp' : ∀ v ∈ vs, IsN h' v (k v) ∧ (k v).length = m ∧ ∀ x ∈ k v, x < 8 := fun v hv => ⟨(hp v hv).1.keeps fun b o e c => keep b o (fun z => by subst z; exact ha o e c) e, (hp v hv).2⟩
  obtain ⟨fs, h1, h2, h3⟩ := firsts fun v hv => ⟨(hp' v hv).1, by rw [(hp' v hv).2.1]; exact hm⟩
  refine ⟨tuples' true, fun Q E hq => ?_, cmp hp'⟩
  refine PySem.W.kat_kind (T := .type "str") h1 (by omega) (fun f hf => ?_) (by rfl) ?_
  · obtain ⟨x, t, rfl⟩ := h3 f hf
    exact PySem.W.Looks.now
  · have e : (Value.type "str" != Value.type "tuple") = true := by first | decide +kernel | rfl | decide
    rw [e]
    exact hq
end
def rkV : V → Nat
  | .str z => rk z
  | _ => 0
/-- the key of a value, by the tracked heap -/
def kH (H : Hp) : Value → List Nat
  | .ref a => match H a with
    | some (.tup xs) => xs.map rkV
    | _ => []
  | _ => []
theorem kH_way {H : Hp} {p : Addr} {w : List Nat} (h : H p = some (.tup (wayV w))) (h8 : ∀ x ∈ w, x < 8) : kH H (.ref p) = w.reverse := by
  have e : kH H (.ref p) = (match H p with | some (.tup xs) => xs.map rkV | _ => []) := rfl
  rw [e, h]
  show (wayV w).map rkV = w.reverse
  unfold wayV
  rw [List.map_map]
  refine (List.map_congr_left fun x hx => ?_).trans (List.map_id _)
  exact rk_nm x (h8 x (List.mem_reverse.mp hx))
/-- sorted(xs)[0] of ways of one length: the first of the list -/
def rSortedN (K : PySem.W.Frag) : List V → Hp → VK → Prop := fun vs H Q => ∃ (a : Addr) (ps : List Addr) (ws : List (List Nat)) (m : Nat), vs = [V.ref a] ∧ SqL K H a (ps.map V.ref) ∧ WyA H ps ws ∧ (∀ w ∈ ws, w.length = m ∧ ∀ x ∈ w, x < 8) ∧ 0 < m ∧ ws ≠ [] ∧
  ∀ (q : Addr) (qs : List Addr) (z : List Nat) (p : Addr), H q = some (.tup (wayV z)) → z ∈ ws → (∀ y ∈ ws, lexF y.reverse z.reverse = false) → H p = none → Q (.ref p) (upd H p (.lst (V.ref q :: qs.map V.ref)))
theorem WyA.mem {H : Hp} : ∀ {ps : List Addr} {ws : List (List Nat)}, WyA H ps ws → ∀ p ∈ ps, ∃ w ∈ ws, H p = some (.tup (wayV w))
  | _, _, .nil, _, h => nomatch h
  | _, _, .cons e t, p, h => by
    rcases List.mem_cons.mp h with rfl | h
    · exact ⟨_, List.mem_cons_self .., e⟩
    · obtain ⟨w, a, b⟩ := WyA.mem t p h
      exact ⟨w, List.mem_cons_of_mem _ a, b⟩
theorem WyA.mem2 {H : Hp} : ∀ {ps : List Addr} {ws : List (List Nat)}, WyA H ps ws → ∀ w ∈ ws, ∃ p ∈ ps, H p = some (.tup (wayV w))
  | _, _, .nil, _, h => nomatch h
  | _, _, .cons e t, w, h => by
    rcases List.mem_cons.mp h with rfl | h
    · exact ⟨_, List.mem_cons_self .., e⟩
    · obtain ⟨p, a, b⟩ := WyA.mem2 t w h
      exact ⟨p, List.mem_cons_of_mem _ a, b⟩
theorem refs_vals : ∀ {ps : List Addr} {us : List Value}, Vals (ps.map V.ref) us → us = ps.map Value.ref
  | [], _, .nil => rfl
  | p :: ps, _, .cons r t => by
    cases r
    rw [refs_vals t] <;> rfl
theorem vals_refs : ∀ (ps : List Addr), Vals (ps.map V.ref) (ps.map Value.ref)
  | [] => .nil
  | p :: ps => .cons rfl (vals_refs ps)
theorem cr_sortedN {X : Cx} {K : PySem.W.Frag} (eK : X.K = K := by rfl) : CallR X (.builtin "sorted") (rSortedN K) := by
  subst eK
  intro pins s σ H vs us Q I r h
  obtain ⟨a, ps, ws, m, rfl, hs, hW, hw, hm, hne, q⟩ := h
  obtain ⟨its, rv, hl, hz⟩ := I.list hs
  rw [Vals.ref1 r]
  have ei := refs_vals rv
  subst ei
  have hp : ∀ v ∈ ps.map Value.ref, IsN s.heap v (kH H v) ∧ (kH H v).length = m ∧ ∀ x ∈ kH H v, x < 8 := fun v hv => by
    obtain ⟨p, hpp, rfl⟩ := List.mem_map.mp hv
    obtain ⟨w, hww, e⟩ := WyA.mem hW p hpp
    obtain ⟨l1, b1⟩ := hw w hww
    rw [kH_way e b1]
    obtain ⟨_, its2, r2, o, ho, hc, n, hd⟩ := I.hok _ _ e
    exact ⟨⟨p, o, its2.toArray, n, rfl, ho, hc, hd, r2⟩, by rw [List.length_reverse]; exact l1, fun x hx => b1 x (List.mem_reverse.mp hx)⟩
  refine SrtO.sorted_ord (swo (kH H)) hl.isList (by rw [← rv.length]; exact hz) (fun h2 h₁ a' ha kk => ?_) fun out h1 h2 => ?_
  · refine sortable (s := { s with heap := h₁ }) (by omega) hm (fun v hv => ⟨(hp v hv).1.keeps fun b o e _ => (kk b o e).2, (hp v hv).2⟩) fun o e => ?_
    have e' : some o = some (seqObj "list" (ps.map Value.ref).toArray 0) := e.symm.trans ha
    cases e'
    intro c
    exact absurd (Value.type.inj c) (by decide)
  · have hsub : ∀ v ∈ out, v ∈ ps.map Value.ref := fun v hv => h2.perm.mem_iff.mp hv
    have e3 : ∃ qs : List Addr, out = qs.map Value.ref := by
      clear h1 h2
      induction out with
      | nil => exact ⟨[], rfl⟩
      | cons v out ih =>
        obtain ⟨qs, e⟩ := ih fun u hu => hsub u (List.mem_cons_of_mem _ hu)
        obtain ⟨p, _, e2⟩ := List.mem_map.mp (hsub v (List.mem_cons_self ..))
        exact ⟨p :: qs, by rw [e, ← e2]; rfl⟩
    obtain ⟨qs, rfl⟩ := e3
    have ll : qs.length = ps.length := by
      have := h2.perm.length_eq
      rwa [List.length_map, List.length_map] at this
    have lw := WyA.length hW
    cases qs with
    | nil =>
      refine absurd (List.eq_nil_of_length_eq_zero ?_) hne
      rw [← lw, ← ll]
      rfl
    | cons q0 qs =>
      obtain ⟨p, hpp, e2⟩ := List.mem_map.mp (hsub (.ref q0) (List.mem_cons_self ..))
      cases e2
      obtain ⟨z, hzw, ez⟩ := WyA.mem hW q0 hpp
      obtain ⟨ep, he'⟩ := PyProof.Rows.sortedAll_at s.heap (ps.map Value.ref) ((q0 :: qs).map Value.ref).toArray
      refine ⟨.ref _, upd H (s.heap.objs.size + 1) (.lst ((q0 :: qs).map V.ref)), I.laid (t' := s.toks) (fun _ _ => PyProof.Rows.sortedAll_old) (Nat.le_succ _) ⟨?_, (q0 :: qs).map Value.ref, ep, vals_refs _, he'⟩, rfl, q q0 qs z _ ez hzw (fun y hy => ?_) (I.hok.fresh (Nat.le_succ _))⟩
      · rw [List.length_map] at hz ⊢
        rw [ll]
        exact hz
      · obtain ⟨py, hpy, ey⟩ := WyA.mem2 hW y hy
        have hin : Value.ref py ∈ (q0 :: qs).map Value.ref := h2.perm.mem_iff.mpr (List.mem_map.mpr ⟨py, hpy, rfl⟩)
        have k1 := kH_way ey (hw y hy).2
        have k2 := kH_way ez (hw z hzw).2
        have h1 := List.pairwise_cons.mp h1
        rcases List.mem_cons.mp hin with e | e
        · cases e
          rw [ey] at ez
          have : wayV y = wayV z := by injection (Option.some.inj ez)
          have e3 : y.reverse = z.reverse := by
            rw [← k1, ← k2]
          rw [e3]
          cases c : lexF z.reverse z.reverse with
          | false => rfl
          | true => exact (lexF_asym _ _ c).symm.trans c |>.symm
        · have := h1.1 _ e
          rw [← k1, ← k2]
          exact this
end SrtN
/-! ## calls by keyword -/
section
variable {X : Cx} {CX : CXT} {k : Nat} {f : Addr} {fd : FuncData} {ps ks : List Str} {sp : Sp} {E : XK} {x : Str} {p pos : Pos} {kws : List Keyword} {tk : TA} {g : List Value → List Value → List Value} {gV : List V → List V → List V}
/-- f(k = v, ..) -/
theorem pe_callN0 (F : FnOk X.prog X.w X.K X.mg X.base CX k f fd ps sp) (hr : Room k X.A) (hg : Gl X x) (hm : X.mg x = some (.ref f)) (hk : PySem.W.keepIn X.K (.ref f) = true) (hb : KBn X.K fd ps 0 ks g gV) (hx : Passes CX X E)
    (hkw : PK X kws tk) (hall : (backToKw pos (keywordEach kws X.env)).all (·.1.isSome) = true := by rfl) (hks : (backToKw pos (keywordEach kws X.env)).filterMap (·.1) = ks := by rfl)
    (hdb : (x == ("__debug__" : Str)) = false := by decide)
    (hpl : ((backTo pos (starEach [] X.env)).any (·.1) || (backToKw pos (keywordEach kws X.env)).any (·.1.isNone)) = false := by rfl) :
    PE X (.Call (.Name x p) [] kws pos) (tCallN 0 ks.length sp gV E tNil tk) := by
  refine ⟨fun pins s σ H Q I h => ?_⟩
  refine wpAny_Call_Name_kw (ld_glob I hg hm ?_ hdb)
  refine PySem.W.callWith_KW0 (h₀ := X.base) I.ok.mod.kin hk hall ?_ hpl
  refine thn (hkw.run pos pins s σ H _ I h) fun ws s2 ⟨zs, H2, I2, rz, l1, l2, q2⟩ => ⟨I2.kIn, ?_⟩
  rw [hks]
  exact run_fnN (us := []) (vs := []) F hr hb hx I2 .nil rz rfl l2 q2
end
section
variable {K : PySem.W.Frag} {x qual : Str} {params : Arguments} {body : List Stmt} {scope : Scope} {kws : List (Str × V)} {f : Addr} {fd : FuncData} {ps : List Str}
/-- every parameter by its name, in the order of the parameters -/
theorem FunD.kbindsA (F : FunD K x qual params body scope [] kws f fd)
    (h : ∀ (kV doc pm : Value) (an : Option Addr) (cdv ct : Value) (ws : List Value), ws.length = ps.length → bindArgs (PySem.W.fnOf x qual params body scope .none kV doc pm an cdv ct) ⟨[], ps.zip ws⟩ = pure (ps.zip ws)) : KBn K fd ps 0 ps (fun _ ws => ws) (fun _ zs => zs) := by
  obtain ⟨oc, od, dV, kV, doc, pm, an, cdv, ct, osl, rfl, lk, hcd, hD, hK⟩ := F.ex
  rcases hD with ⟨_, rfl⟩ | ⟨e, _⟩
  · refine ⟨fun s us ws X l1 l2 => ?_, fun _ r2 => r2⟩
    cases us with
    | nil => exact .of_eq (h kV doc pm an cdv ct ws l2)
    | cons a b => cases l1
  · exact absurd rfl e
end
/-! ## defs with lambdas that are called where no repr runs -/
section
variable {P : Program} {w : World} {K : PySem.W.Frag} {mg : Str → Option Value} {base : Heap} {x qual : Str} {params : Arguments} {body : List Stmt} {scope : Scope} {dvs : List V} {kws : List (Str × V)} {f : Addr} {fd : FuncData}
theorem FunD.okGC {N ps : List Str} {k : Nat} {sp : Sp} (F : FunD K x qual params body scope dvs kws f fd) (S : FnScope N ps scope) (len : ∀ vs H Q E, sp vs H Q E → vs.length = ps.length)
    (hbody : ∀ (cdv : Value) (A : Around) (outer : List Env) (s : Shared) (H : Hp) (vs : List V) (Q : VK) (E : XK), fd.code = cdv → (A.deeper (PyProof.Rows.envOfC qual scope s.heap.objs.size f cdv)).guards = some [] → Room k (A.deeper (PyProof.Rows.envOfC qual scope s.heap.objs.size f cdv)) → sp vs H Q E →
      ∃ t, PSs (cxOf CX0 P w K mg base N qual scope f cdv A outer s H E) body t ∧ t { nx := fun _ H' => Q .non H', rt := Q } (start N vs) H) : FnG P w K mg base (k + 1) f fd ps sp := by
  obtain ⟨oc, od, dV, kV, doc, pm, an, cdv, ct, osl, rfl, lk, hcd, _, _⟩ := F.ex
  refine ⟨len, fun A outer s H args us vs Q E hg hr e0 hb r hsp => ?_⟩
  have hlen := len _ _ _ _ hsp
  have kin : K.In s.heap := e0.mod.kin.keeps fun b o e => (e0.bs b o e).1
  have nol : s.heap.NoLimit := e0.mod.nolimit.keeps fun b o e => (e0.bs b o e).1
  have kinds : ∀ y ∈ ps.zip us, scope.names.lookup y.1 = some .local ∨ (scope.names.lookup y.1 = some .cell ∧ ((cellsFrom (s.heap.objs.size + 1) scope.names []).lookup y.1).isSome = true) := fun ⟨n, v⟩ hy => by
    rcases S.par n (List.of_mem_zip hy).1 with q | q
    · exact .inl q
    · exact .inr ⟨q, PySem.W.cellsFrom_some _ _ _ (.inl q)⟩
  refine codeAny_call_function hr.depth (kin _ _ lk) rfl S.co S.gen rfl (PySem.W.codeRec_of kin hcd) (hb _ _ _ _ ?_)
  refine wpAny_newFunctionEnv_cells S.kind kinds fun env he s1 ic => ?_
  subst he
  refine ⟨nol.keeps ic.toInCall.keep, codeAny_func ?_⟩
  obtain ⟨t, ht, hq⟩ := hbody cdv A outer s H vs Q E rfl hg (hr.deeper _) hsp
  have I : Inv (cxOf CX0 P w K mg base N qual scope f cdv A outer s H E) [] (start N vs) H s1 := inv_start S hr.hd e0 hlen r ic
  refine wpAny_mono (ht.run [] s1 (start N vs) H _ I hq) (fun fl s' hs => ?_) fun e s' hs => hs
  cases fl with
  | ret u =>
    obtain ⟨v, σ', H', J, rv, q⟩ := hs
    exact ⟨v, H', J.os, J.bare, J.base, J.hok, rv, q⟩
  | next =>
    obtain ⟨σ', H', J, q⟩ := hs
    exact ⟨V.non, H', J.os, J.bare, J.base, J.hok, rfl, q⟩
  | brk =>
    obtain ⟨_, _, _, q⟩ := hs
    exact q.elim
  | cont =>
    obtain ⟨_, _, _, q⟩ := hs
    exact q.elim
end
section
variable {X : Cx}

/-- repr of data of any kind -/
def rReprA (K : PySem.W.Frag) : List V → Hp → VK → Prop := fun xs H Q => ∃ (x : V) (d : PyData), xs = [x] ∧ Dx K H x d ∧ d.showable = true ∧ d.depth ≤ 100 ∧ d.shown.length ≤ sizeLine ∧ Q (.str d.shown) H
theorem call_reprA (hg : X.A.guards = some []) (hu : X.A.units + 101 < cLine) (S : SmD X.K) : CallR X (.builtin "repr") (rReprA X.K) := by
  intro pins s σ H xs us Q I r h
  obtain ⟨x, d, rfl, hd, hs, hdp, hz, q⟩ := h
  have any : ∀ a, x = .ref a → wpAny (model X.prog X.w) X.A (call (.builtin "repr") us) (EP X pins σ Q) X.xe s := fun a e => by
    subst e
    exact call_reprX hg hu S pins s σ H _ us Q I r ⟨a, d, rfl, hd, hs, hdp, hz, q⟩
  obtain ⟨u, rfl, ru⟩ := vals1 r
  cases hd with
  | non =>
    cases (show u = Value.none from ru)
    exact call_repr_gives (typeIs_none s) F.slot_NoneType_repr F.entry_NoneType_repr (F.args_NoneType_repr_1 _) gives_none_repr ⟨.str "None", H, I.tok _, ⟨_, rfl⟩, by simpa only [PyData.shown] using q⟩ rfl (by decide)
  | bl b =>
    cases (show u = Value.bool b from ru)
    refine call_repr_gives (typeIs_bool s b) F.slot_bool_repr F.entry_bool_repr (F.args_bool_repr_1 _) (gives_bool_repr b) ⟨.str (if b then ("True" : Str) else ("False" : Str)), H, I.tok _, ⟨s.toks, ?_⟩, by simpa only [PyData.shown] using q⟩ rfl (by cases b <;> decide)
    cases b <;> rfl
  | int i =>
    obtain ⟨t, rfl⟩ := ru
    exact PySem.P.repr_of_int (by simpa [PyData.showable] using hs) ⟨.str _, H, I.tok _, ⟨_, rfl⟩, by simpa only [PyData.shown] using q⟩
  | str z =>
    obtain ⟨t, rfl⟩ := ru
    exact call_repr_gives (typeIs_str s z t) F.slot_str_repr F.entry_str_repr (F.args_str_repr_1 _) (gives_str_repr z t) ⟨.str (reprText z), H, I.tok _, ⟨_, rfl⟩, by simpa only [PyData.shown] using q⟩ rfl (by simpa only [PyData.shown] using hz)
  | lst _ _ => exact any _ rfl
  | tup _ _ => exact any _ rfl
  | dic _ _ => exact any _ rfl
end
/-! ## k11's law: what is refused -/
theorem sl_listK {X : Cx} {K : PySem.W.Frag} (e : X.K = K := by rfl) : SlR X (rSlL K) := by
  subst e
  exact sl_list
theorem sl_tupAK {X : Cx} {K : PySem.W.Frag} (e : X.K = K := by rfl) : SlR X (rSlA K) := by
  subst e
  exact sl_tupA
theorem op_catAK {X : Cx} {K : PySem.W.Frag} (e : X.K = K := by rfl) : OpR X (binaryOp .Add) (rCatA K) := by
  subst e
  exact op_catA
theorem Dw.ext {t : Nat} {V0 H H1 : Hp} {d : Addr} (h : Dw t V0 H d) (e : LamX.ExtN H H1) : ∃ V', Dw t V' H1 d ∧ LamX.ExtN V0 V' ∧ ∀ b o, H1 b = some o → (∀ kvs, o ≠ .dK kvs) → (∀ xs, o ≠ .lst xs) → V' b = some o := by
  obtain ⟨s, w, c, ws, cs, rest, turn, h1, h2, h3, ht, D⟩ := h
  have D1 : DrD H1 d w c ws cs rest turn := ⟨e _ _ D.hd (fun _ z => by cases z), e _ _ D.hw (fun _ z => by cases z), e _ _ D.hc (fun _ z => by cases z), D.wc, D.wl, D.wn, D.cl, D.rn, D.tn⟩
  refine ⟨fun b => if b = d ∨ b = w ∨ b = c then none else H1 b, ⟨fun b o q => ?_, w, c, ws, cs, rest, turn, if_pos (.inl rfl), if_pos (.inr (.inl rfl)), if_pos (.inr (.inr rfl)), ht, D1⟩, fun b o q n => ?_, fun b o q n1 n2 => ?_⟩
  · by_cases hb : b = d ∨ b = w ∨ b = c
    · simp only [if_pos hb] at q
      cases q
    · simp only [if_neg hb] at q
      exact q
  · have hb : ¬ (b = d ∨ b = w ∨ b = c) := by
      rintro (z | z | z) <;> subst z
      · rw [h1] at q; cases q
      · rw [h2] at q; cases q
      · rw [h3] at q; cases q
    simp only [if_neg hb]
    exact e _ _ (s _ _ q) n
  · have hb : ¬ (b = d ∨ b = w ∨ b = c) := by
      rintro (z | z | z) <;> subst z
      · rw [D1.hd] at q; cases q; exact n1 _ rfl
      · rw [D1.hw] at q; cases q; exact n2 _ rfl
      · rw [D1.hc] at q; cases q; exact n2 _ rfl
    simp only [if_neg hb]
    exact q
theorem tabs_vis {T : List (Addr × Str)} {V' H1 : Hp} (h : ∀ b o, H1 b = some o → (∀ kvs, o ≠ .dK kvs) → (∀ xs, o ≠ .lst xs) → V' b = some o) (t : LamX.Tabs T H1) : LamX.Tabs T V' := fun p hp => by
  obtain ⟨ps, h1, h2, h3⟩ := t p hp
  refine ⟨ps, h _ _ h1 (fun _ z => by cases z) (fun _ z => by cases z), h2, fun pos cv hc => ?_⟩
  obtain ⟨c, e1, e2⟩ := h3 pos cv hc
  exact ⟨c, e1, h _ _ e2 (fun _ z => by unfold LamX.CodeO at z; cases z) (fun _ z => by unfold LamX.CodeO at z; cases z)⟩
theorem Dw.all {t : Nat} {V0 H H1 : Hp} {d : Addr} (h : Dw t V0 H d) (e : Same H H1) : ∃ V', Dw t V' H1 d ∧ Same V0 V' ∧ (∀ b o, H b = none → H1 b = some o → V' b = some o) ∧ ∀ b xs, H1 b = some (.tup xs) → V' b = some (.tup xs) := by
  obtain ⟨s, w, c, ws, cs, rest, turn, h1, h2, h3, ht, D⟩ := h
  have D1 := D.same e
  refine ⟨fun b => if b = d ∨ b = w ∨ b = c then none else H1 b, ⟨fun b o q => ?_, w, c, ws, cs, rest, turn, if_pos (.inl rfl), if_pos (.inr (.inl rfl)), if_pos (.inr (.inr rfl)), ht, D1⟩, fun b o q => ?_, fun b o q r => ?_, fun b xs q => ?_⟩
  · by_cases hb : b = d ∨ b = w ∨ b = c
    · simp only [if_pos hb] at q
      cases q
    · simp only [if_neg hb] at q
      exact q
  · have hb : ¬ (b = d ∨ b = w ∨ b = c) := by
      rintro (z | z | z) <;> subst z
      · rw [h1] at q; cases q
      · rw [h2] at q; cases q
      · rw [h3] at q; cases q
    simp only [if_neg hb]
    exact e _ _ (s _ _ q)
  · have hb : ¬ (b = d ∨ b = w ∨ b = c) := by
      rintro (z | z | z) <;> subst z
      · rw [D.hd] at q; cases q
      · rw [D.hw] at q; cases q
      · rw [D.hc] at q; cases q
    simp only [if_neg hb]
    exact r
  · have hb : ¬ (b = d ∨ b = w ∨ b = c) := by
      rintro (z | z | z) <;> subst z
      · rw [D1.hd] at q; cases q
      · rw [D1.hw] at q; cases q
      · rw [D1.hc] at q; cases q
    simp only [if_neg hb]
    exact q
/-- a list written: lambdas stay -/
theorem LamV.Is.put {X : Cx} {k : Nat} {v : V} {H : Hp} {t : XK → TE} {a : Addr} {xs : List V} {o : HO} (h : LamV.Is X k v H t) (e : H a = some (.lst xs)) : LamV.Is X k v (upd H a o) t := by
  obtain ⟨f, c', pm, ctv, params, body, scope, h1, h2, h3, h4⟩ := h
  have n1 : f ≠ a := fun z => by rw [z, e] at h3; cases h3
  have n2 : c' ≠ a := fun z => by rw [z, e] at h4; cases h4
  exact ⟨f, c', pm, ctv, params, body, scope, h1, h2, by rw [upd_ne n1]; exact h3, by rw [upd_ne n2]; exact h4⟩
theorem tabs_put {T : List (Addr × Str)} {V' : Hp} {a : Addr} {xs : List V} {o : HO} (t : LamX.Tabs T V') (e : V' a = some (.lst xs)) : LamX.Tabs T (upd V' a o) := fun p hp => by
  obtain ⟨ps, a1, a2, a3⟩ := t p hp
  refine ⟨ps, ?_, a2, fun pos cv hc => ?_⟩
  · rw [upd_ne fun z => by rw [z, e] at a1; cases a1]
    exact a1
  · obtain ⟨c', e1, e2⟩ := a3 pos cv hc
    refine ⟨c', e1, ?_⟩
    rw [upd_ne fun z => by rw [z, e] at e2; cases e2]
    exact e2
abbrev refQ : Str := (("_law_refused_right" : Str) ++ ".<locals>.") ++ "<lambda>"
/-- the errors that the law looks at -/
structure EuF (K : PySem.W.Frag) (mg : Str → Option Value) (CS CB CN CR : Addr) : Prop where
  gS : mg "StopError" = some (.ref CS)
  gB : mg "BadUnits" = some (.ref CB)
  gN : mg "NoUnit" = some (.ref CN)
  gR : mg "UsesRing" = some (.ref CR)
  xB : PySem.W.exmOne K (.ref CB) (.ref CS) = some true
  xN : PySem.W.exmOne K (.ref CN) (.ref CS) = some true
  xR : PySem.W.exmOne K (.ref CR) (.ref CS) = some true
  rB : ExcR K CB
  rN : ExcR K CN
  rR : ExcR K CR
  iB : PySem.W.kitOne K (.ref CB) (.ref CB) = some true
  iN : PySem.W.kitOne K (.ref CN) (.ref CN) = some true
  iR : PySem.W.kitOne K (.ref CR) (.ref CR) = some true
  nB : PySem.W.findIn K (.ref CB) "at" = some none
  nN : PySem.W.findIn K (.ref CN) "name" = some none
  nR : PySem.W.findIn K (.ref CR) "ring" = some none
/-- a def of the package called by place and by name -/
def CalR (P : Program) (w : World) (K : PySem.W.Frag) (mg : Str → Option Value) (base : Heap) (k : Nat) (x : Str) (ps : List Str) (sp : Sp) : Prop :=
  ∃ (f : Addr) (fd : FuncData), mg x = some (.ref f) ∧ PySem.W.keepIn K (.ref f) = true ∧ Binds K fd ps [] ∧ KBn K fd ps 0 ps (fun _ ws => ws) (fun _ zs => zs) ∧ FnOk P w K mg base (L2.CX P w) k f fd ps sp
def spRefR (T : List (Addr × Str)) : Sp := fun vs H Q _ => ∃ (t : Nat) (V0 : Hp) (d a : Addr) (ps : List V) (ms : List (Nat × List Nat)), vs = [.ref d, .ref a] ∧ Dw t V0 H d ∧ t + 100 < T40 ∧ V0 a = some (.lst ps) ∧ PrA V0 ps ms ∧ Pm ms ∧ LamX.Tabs T V0 ∧
  ∀ V' H', Dw (t + 100) V' H' d → LamX.ExtN V0 V' → LamX.Tabs T V' → Q (.bl true) H'
section
variable {P : Program} {w : World} {K : PySem.W.Frag} {mg : Str → Option Value} {base : Heap}
theorem sc__law_refused_right : FnScope ["_law_draw", "_law_pairs", "_law_trees_here", "_law_odd", "_law_error", "_law_at", "_law_wrong", "_law_bad", "_law_works", "_law_work", "_law_name", "_law_uses", "_law_some", "_law_tree"] ["_law_draw", "_law_pairs"] (defScope s_law_refused_right) := ⟨rfl, rfl, rfl, by decide +kernel, rfl, by decide +kernel, by decide +kernel⟩
theorem ok_lref {f c0 PT CS CB CN CR fC : Addr} {fd fdC : FuncData} (F : FnP K "_law_refused_right" s_law_refused_right f fd) (hc0 : fd.code = .ref c0) (TB : LamX.TabB base mg c0 PT) {T : List (Addr × Str)} (hmT : (PT, refQ) ∈ T) (huT : ∀ p ∈ T, p.1 = PT → p.2 = refQ) (E11 : EuF K mg CS CB CN CR) (FC : FnP K "_law_caught" s_law_caught fC fdC) (gC : mg "_law_caught" = some (.ref fC))
    (c__law_take : Cal P w K mg base 2 "_law_take" ["_law_draw", "_law_many"] spTake) (c__law_pick : Cal P w K mg base 3 "_law_pick" ["_law_draw", "_law_some"] (spPick K)) (c__law_trees : Cal P w K mg base 1 "_law_trees" ["_law_pairs"] spTrees)
    (c_order : CalR P w K mg base 5 "order_of" ["units"] (spOrd K CB CN CR)) (c_users : CalR P w K mg base 5 "users_of" ["units", "name"] (spUse K CB CN)) (G : NkF K mg) (tup : mg "tuple" = none) (lis : mg "list" = none) (m_repr : mg "repr" = none) (S : SmD K) : FnG P w K mg base 8 f fd ["_law_draw", "_law_pairs"] (spRefR T) := by
  obtain ⟨f__law_take, fd__law_take, g__law_take, k__law_take, b__law_take, G__law_take⟩ := c__law_take
  obtain ⟨f__law_pick, fd__law_pick, g__law_pick, k__law_pick, b__law_pick, G__law_pick⟩ := c__law_pick
  obtain ⟨f__law_trees, fd__law_trees, g__law_trees, k__law_trees, b__law_trees, G__law_trees⟩ := c__law_trees
  obtain ⟨fO, fdO, gO, kO, bO, kbO, GO⟩ := c_order
  obtain ⟨fU, fdU, gU, kU, bU, kbU, GU⟩ := c_users
  have gS := E11.gS
  refine FunD.okGC F sc__law_refused_right (fun vs H Q E h => ?_) (fun c A outer s H vs Q E hcode hgd hr h => ?_)
  · obtain ⟨t, V0, d, a, ps, ms, rfl, _⟩ := h
    rfl
  · rw [hc0] at hcode
    cases hcode
    obtain ⟨t, V0, d, a, ps, ms, rfl, hD, ht, ea, hA, hM, hT, k⟩ := h
    have nd := sc__law_refused_right.nd
    have hu := hu_of hr
    apply Exists.intro
    apply And.intro
    case left =>
     apply PSs.nox
     apply pss_cons
     · exact (ps_set (i := 2) nd rfl (.inr rfl) (pe_call G__law_trees (hr.mono (by decide)) rfl g__law_trees k__law_trees b__law_trees .nil pass0 (pa_cons (pv 1) pa_nil)))
     apply pss_cons
     · exact (ps_set (i := 3) nd rfl (.inr rfl) (pe_call G__law_pick (hr.mono (by decide)) rfl g__law_pick k__law_pick b__law_pick .nil pass0 (pa_cons (pv 0) (pa_cons (pe_lst (pa_cons pe_non (pa_cons pe_int (pa_cons pe_str (pa_cons (pe_lst pa_nil) (pa_cons (pe_tup pa_nil) (pa_cons pe_dnewK (pa_cons (pe_ix ix_tup (pe_ix ix_list (pv 2) pe_int (fun _ _ => rfl)) pe_int (fun _ _ => rfl)) pa_nil)))))))) pa_nil))))
     apply pss_cons
     · exact (ps_set (i := 4) nd rfl (.inl rfl) (pe_caught (T := T) FC gC gS rfl TB rfl hmT huT hr (LamX.lamS_by (sc := defScope s_law_refused_right) (by decide +kernel)) rfl (fun _ _ _ _ _ => rfl) (fun A outer s H E f c1 hr1 => pe_call GO hr1 rfl gO kO bO .nil (passes_call (takes_of rfl rfl rfl rfl) (fun _ _ _ _ h => h)) (pa_cons (pv 3) pa_nil))))
     apply pss_cons
     · exact (ps_if (PW.pt (pw_or (pt_not (pt_val (pe_callB call_isiX (by rfl) G.isi (by decide +kernel) (pa_cons (pv 4) (pa_cons (pe_glob (v := .ref CB) (by rfl) E11.gB rfl) pa_nil))))) (pw_or1 (pt_cmpR op_notN (pe_exF (pv 4)) pe_non (nomark _))))) (pss_one (ps_ret pe_bl)) pss_nil)
     apply pss_cons
     · exact (ps_set (i := 5) nd rfl (.inr rfl) (pe_call G__law_take (hr.mono (by decide)) rfl g__law_take k__law_take b__law_take .nil pass0 (pa_cons (pv 0) (pa_cons (pe_op op_add (pe_callB call_len (by rfl) G.len PySem.boot_len (pa_cons (pv 2) pa_nil)) pe_int) pa_nil))))
     apply pss_cons
     · exact (ps_set (i := 6) nd rfl (.inl rfl) (pe_lst (pa_cons pe_non (pa_cons pe_int (pa_cons (pe_tup pa_nil) (pa_cons (pe_callTy call_list_of (by rfl) lis (by decide +kernel) (pa_cons (pe_ix ix_list (pv 2) pe_int (fun _ _ => rfl)) pa_nil)) (pa_cons (pe_slice sl_tup (pe_ix ix_list (pv 2) pe_int (fun _ _ => rfl)) po_none (po_some pe_int)) (pa_cons (pe_tup (pa_cons pe_str (pa_cons pe_str (pa_cons (pe_tup pa_nil) (pa_cons (pe_tup pa_nil) (pa_cons (pe_tup pa_nil) pa_nil)))))) (pa_cons (pe_tup (pa_cons pe_str (pa_cons pe_str (pa_cons (pe_lst (pa_cons pe_str pa_nil)) (pa_cons (pe_tup pa_nil) (pa_cons (pe_tup pa_nil) pa_nil)))))) pa_nil)))))))))
     apply C8.pss_cut
     · exact (ps_set (i := 7) nd rfl (.inr rfl) (pe_ifExp (PW.pt (pw_or (pt_cmpR op_eq (pv 5) pe_int (nomark _)) (pw_or1 (pt_cmpR op_eq (pe_call G__law_take (hr.mono (by decide)) rfl g__law_take k__law_take b__law_take .nil pass0 (pa_cons (pv 0) (pa_cons pe_int pa_nil))) pe_int (nomark _))))) (pe_call G__law_pick (hr.mono (by decide)) rfl g__law_pick k__law_pick b__law_pick .nil pass0 (pa_cons (pv 0) (pa_cons (pv 6) pa_nil))) (pe_ix ix_list (pv 2) pe_int (fun _ _ => rfl))))
     apply pss_cons
     · exact (ps_set (i := 8) nd rfl (.inl rfl) (pe_lst (pa_cons (LamV.pe_mk (k := 5) (T := T) TB rfl hmT huT rfl ⟨LamX.lamS_by (sc := defScope s_law_refused_right) (by decide +kernel), fun _ _ _ _ _ => rfl, fun A outer s H E f c1 hr1 => pe_call GO hr1 rfl gO kO bO .nil (passes_call (takes_of rfl rfl rfl rfl) (fun _ _ _ _ h => h)) (pa_cons (pe_op op_cat (pe_op op_cat (pe_slice (sl_listK (K := K)) (pv 2) po_none (po_some (pv 5))) (pe_lst (pa_cons (pv 7) pa_nil))) (pe_slice (sl_listK (K := K)) (pv 2) (po_some (pv 5)) po_none)) pa_nil)⟩) pa_nil)))
     apply pss_cons
     · exact (ps_expr (pe_bm PySem.F.plainAttrs_list PySem.F.slot_list_append PySem.F.type_list_append mt_append (pv 8) (pa_cons (LamV.pe_mk (k := 5) (T := T) TB rfl hmT huT rfl ⟨LamX.lamS_by (sc := defScope s_law_refused_right) (by decide +kernel), fun _ _ _ _ _ => rfl, fun A outer s H E f c1 hr1 => pe_call GU hr1 rfl gU kU bU .nil (passes_call (takes_of rfl rfl rfl rfl) (fun _ _ _ _ h => h)) (pa_cons (pe_op op_cat (pe_slice (sl_listK (K := K)) (pv 2) po_none (po_some (pv 5))) (pe_lst (pa_cons (pv 7) pa_nil))) (pa_cons pe_int pa_nil))⟩) pa_nil)))
     apply pss_cons
     · apply ps_for PassesOwn.never rfl
       · exact (pi_list (pv 8))
       · exact (pg_name (i := 9) nd rfl (Or.inl rfl))
       · apply pss_cons
         · exact (ps_set (i := 4) nd rfl (.inl rfl) (pe_caughtV (i := 9) FC gC gS rfl hr rfl (Or.inl rfl)))
         apply pss_one
         exact (ps_if (PW.pt (pw_or (pt_not (pt_val (pe_callB call_isiX (by rfl) G.isi (by decide +kernel) (pa_cons (pv 4) (pa_cons (pe_glob (v := .ref CB) (by rfl) E11.gB rfl) pa_nil))))) (pw_or1 (pt_cmpR op_ne (pe_exF (pv 4)) (pv 5) (nomark _))))) (pss_one (ps_ret pe_bl)) pss_nil)
     apply pss_cons
     · exact (ps_asg (pe_ix ix_list (pv 1) (pe_op op_sub (pv 5) pe_int) (fun _ _ => rfl)) (pg_tup rfl (pgs_cons (pg_name (i := 10) nd rfl (Or.inr rfl)) (pgs_cons (pg_name (i := 11) nd rfl (Or.inr rfl)) pgs_nil))))
     apply pss_cons
     · exact (ps_set (i := 12) nd rfl (.inr rfl) (pe_lc (own := [("_law_tree", 13)]) (g := gName 13) rfl nd (pi_list (pv 2)) (blkOk_by (own := [("_law_tree", 13)]) (N := ["_law_draw", "_law_pairs", "_law_trees_here", "_law_odd", "_law_error", "_law_at", "_law_wrong", "_law_bad", "_law_works", "_law_work", "_law_name", "_law_uses", "_law_some", "_law_tree"]) (sc := defScope s_law_refused_right) (by decide +kernel)) (fun _ _ _ _ _ => (pg_name (i := 13) nd rfl (Or.inl rfl))) (fun _ _ _ _ _ => pts_nil) (fun _ _ _ _ _ => (pe_ifExp (pt_cmpR op_ne (pe_ix (ix_seqK (K := K)) (pv 13) pe_int (fun _ _ => rfl)) (pv 10) (nomark _)) (pv 13) (pe_tup (pa_cons pe_str (pa_cons (pv 10) (pa_cons (pe_op (op_catAK (K := K)) (pe_tup (pa_cons pe_str pa_nil)) (pe_slice (sl_tupAK (K := K)) (pv 11) po_none (po_some pe_int))) (pa_cons (pe_tup pa_nil) (pa_cons (pe_tup pa_nil) pa_nil))))))))))
     apply pss_cons
     · exact (ps_set (i := 8) nd rfl (.inl rfl) (pe_lst (pa_cons (LamV.pe_mk (k := 5) (T := T) TB rfl hmT huT rfl ⟨LamX.lamS_by (sc := defScope s_law_refused_right) (by decide +kernel), fun _ _ _ _ _ => rfl, fun A outer s H E f c1 hr1 => pe_call GO hr1 rfl gO kO bO .nil (passes_call (takes_of rfl rfl rfl rfl) (fun _ _ _ _ h => h)) (pa_cons (pv 12) pa_nil)⟩) pa_nil)))
     apply pss_cons
     · exact (ps_expr (pe_bm PySem.F.plainAttrs_list PySem.F.slot_list_append PySem.F.type_list_append mt_append (pv 8) (pa_cons (LamV.pe_mk (k := 5) (T := T) TB rfl hmT huT rfl ⟨LamX.lamS_by (sc := defScope s_law_refused_right) (by decide +kernel), fun _ _ _ _ _ => rfl, fun A outer s H E f c1 hr1 => pe_callN0 GU hr1 rfl gU kU kbU (passes_call (takes_of rfl rfl rfl rfl) (fun _ _ _ _ h => h)) (pk_cons (pv 12) (pk_cons (pv 10) pk_nil))⟩) pa_nil)))
     apply pss_cons
     · apply ps_for PassesOwn.never rfl
       · exact (pi_list (pv 8))
       · exact (pg_name (i := 9) nd rfl (Or.inl rfl))
       · apply pss_cons
         · exact (ps_set (i := 4) nd rfl (.inl rfl) (pe_caughtV (i := 9) FC gC gS rfl hr rfl (Or.inl rfl)))
         apply pss_one
         exact (ps_if (PW.pt (pw_or (pt_not (pt_val (pe_callB call_isiX (by rfl) G.isi (by decide +kernel) (pa_cons (pv 4) (pa_cons (pe_glob (v := .ref CN) (by rfl) E11.gN rfl) pa_nil))))) (pw_or1 (pt_cmpR op_ne (pe_exF (pv 4)) pe_str (nomark _))))) (pss_one (ps_ret pe_bl)) pss_nil)
     apply pss_cons
     · exact (ps_set (i := 3) nd rfl (.inr rfl) (pe_call G__law_pick (hr.mono (by decide)) rfl g__law_pick k__law_pick b__law_pick .nil pass0 (pa_cons (pv 0) (pa_cons (pe_lst (pa_cons pe_str (pa_cons pe_non (pa_cons pe_int (pa_cons (pe_tup (pa_cons (pv 10) pa_nil)) (pa_cons pe_str pa_nil)))))) pa_nil))))
     apply pss_cons
     · exact (ps_set (i := 4) nd rfl (.inl rfl) (pe_caught (T := T) FC gC gS rfl TB rfl hmT huT hr (LamX.lamS_by (sc := defScope s_law_refused_right) (by decide +kernel)) rfl (fun _ _ _ _ _ => rfl) (fun A outer s H E f c1 hr1 => pe_call GU hr1 rfl gU kU bU .nil (passes_call (takes_of rfl rfl rfl rfl) (fun _ _ _ _ h => h)) (pa_cons (pv 2) (pa_cons (pv 3) pa_nil)))))
     apply pss_one
     exact (ps_ret (pe_and (pe_callB call_isiX (by rfl) G.isi (by decide +kernel) (pa_cons (pv 4) (pa_cons (pe_glob (v := .ref CN) (by rfl) E11.gN rfl) pa_nil))) (pe_one (pe_cmpR op_eq (pe_callB (call_reprA hgd (Room.u101 hr) S) (by rfl) m_repr (by decide +kernel) (pa_cons (pe_exF (pv 4)) pa_nil)) (pe_callB (call_reprA hgd (Room.u101 hr) S) (by rfl) m_repr (by decide +kernel) (pa_cons (pv 3) pa_nil)) (nomark _)))))
    case right =>
      have T0 : t + 100 < 1099511627776 := ht
      have eaP := ea
      have hNt := hM.nts
      refine ⟨_, rfl, a, ps, ms, rfl, hD.same _ _ ea, hA.same hD.same, by have := hM.len; omega, fun H1 r ts s1 nr er hT1 => ?_⟩
      obtain ⟨V1, D1, y1, gv1, tv1⟩ := hD.all s1
      have hTV : TrA V1 ts ms := hT1.tup tv1
      have er1 : V1 r = some (.lst ts) := gv1 _ _ nr er
      have pos := hM.pos
      obtain ⟨v0, hv0⟩ : ∃ v0, ts[0]? = some v0 := ⟨_, List.getElem?_eq_getElem (by rw [hT1.1]; omega)⟩
      obtain ⟨m0, hm0, p0, q0, e01, e02, rfl, hp0, hq0, he01, he02⟩ := hT1.2 0 v0 hv0
      refine ⟨_, rfl, (show 0 ≤ sizeLine by decide), fun q1 hq1 => ⟨(show 0 ≤ sizeLine by decide), fun q2 hq2 => fun q3 hq3 => ?_⟩⟩
      obtain ⟨V2, D2, y2, g2⟩ := D1.mk (o := .lst []) hq1
      obtain ⟨V3, D3, y3, g3⟩ := D2.mk (o := .tup []) hq2
      obtain ⟨V4, D4, y4, g4⟩ := D3.mk (o := .dK []) hq3
      have y14 := y2.trans (y3.trans y4)
      have s14 := (same_new (o := .lst []) hq1).trans ((same_new (o := .tup []) hq2).trans (same_new (o := .dK []) hq3))
      refine ⟨_, rfl, r, _, _, _, rfl, rfl, SqL.of (s14 _ _ er), atI_nat (j := 0) hv0, p0, _, _, _, rfl, rfl, SqT.of (s14 _ _ hp0), atI_nat (j := 1) rfl, (show 7 ≤ sizeLine by decide), fun q4 hq4 => ?_⟩
      obtain ⟨V5, D5, y5, g5⟩ := D4.mk (o := .lst [.non, .int 5, .str "ab", .ref q1, .ref q2, .ref q3, nmV m0.1]) hq4
      refine ⟨t, V5, d, .ref q4, _, rfl, D5, by show t < 1099511627776; omega, .lst (SqL.of g5), (show 0 < 7 by decide), (show 7 < 100000 by decide), fun v H6 hv D6 => ?_⟩
      have hT6 : LamX.Tabs T V5 := hT.ext (y1.trans (y14.trans y5))
      have odd : ∀ H7, LamX.ExtN V5 H7 → ∀ Q' E', flE "at" CB .non H7 E' → spOrd K CB CN CR [v] H7 Q' E' := fun H7 s7 Q' E' hE => by
        refine ⟨v, rfl, ?_⟩
        simp only [List.mem_cons, List.not_mem_nil, or_false] at hv
        rcases hv with rfl | rfl | rfl | rfl | rfl | rfl | rfl
        · exact .inl ⟨.non, hE⟩
        · exact .inl ⟨.int 5, hE⟩
        · exact .inl ⟨.str _, hE⟩
        · exact .inr ⟨q1, [], [], rfl, .inl (s7 _ _ (y5 _ _ (y4 _ _ (y3 _ _ g2))) (fun _ z => by cases z)), ⟨rfl, fun i x e => by simp at e⟩, by decide, .inl (.inl ⟨rfl, hE⟩)⟩
        · exact .inr ⟨q2, [], [], rfl, .inr (s7 _ _ (y5 _ _ (y4 _ _ g3)) (fun _ z => by cases z)), ⟨rfl, fun i x e => by simp at e⟩, by decide, .inl (.inl ⟨rfl, hE⟩)⟩
        · exact .inl ⟨.dic (s7 _ _ (y5 _ _ g4) (fun _ z => by cases z)), hE⟩
        · exact .inl ⟨.str _, hE⟩
      refine ⟨hT6.ext D6.same, fun H7 x7 T7 => ?_⟩
      obtain ⟨V7, D7, x57, vis⟩ := D6.ext x7
      have T7V := tabs_vis vis T7
      refine ⟨_, rfl, odd H7 ((LamX.ExtN.of D6.same).trans x7) _ _ fun H8 dx s8 e8 n8 => ⟨E11.xB, fun ea hea => ?_⟩⟩
      have s89 := same_new (o := ExH (.ref CB) ea (some dx)) hea
      have e9 := s89 _ _ e8
      have ex9 : (upd H8 ea (ExH (.ref CB) ea (some dx))) ea = some (ExH (.ref CB) ea (some dx)) := upd_same
      have s79 := s8.trans s89
      generalize upd H8 ea (ExH (.ref CB) ea (some dx)) = H9 at e9 ex9 s79 ⊢
      have xat : ExAt H9 ea CB := .inr (.inr ⟨some dx, ex9, fun dx' e => by cases e; exact ⟨_, e9⟩⟩)
      obtain ⟨V9, D9, y9, gv9⟩ := D7.grow s79
      refine ⟨_, rfl, ea, CB, .ref CB, .ref CB, true, rfl, .own CB, E11.rB, xat, E11.iB, _, rfl, iteN1 ?_⟩
      refine ⟨_, rfl, ea, CB, dx, _, .non, rfl, E11.rB, E11.nB, .inr ⟨ex9, e9⟩, rfl, rfl, _, rfl, ?_⟩
      rw [show (!decide (V.non = V.non)) = false by rw [decide_eq_true rfl]; rfl]
      refine iteF ?_
      have xx : LamX.ExtN V1 V9 := (LamX.ExtN.of (y14.trans y5)).trans (x57.trans (LamX.ExtN.of y9))
      have er9 : V9 r = some (.lst ts) := xx _ _ er1 (fun _ z => by cases z)
      have hT9 : TrA V9 ts ms := hTV.tup fun b xs e => xx _ _ e (fun _ z => by cases z)
      have T9V := T7V.ext y9
      have lts := hT1.1
      have l6 := hM.len
      refine ⟨_, rfl, _, rfl, _, _, rfl, .inl ⟨_, SqL.of (D9.same _ _ er9), rfl⟩, _, _, rfl, rfl, t + 1, V9, d, _, rfl, D9, by show t + 1 < 1099511627776; omega, by omega, by omega, fun at0 H10 a0 a1 D10 => ?_⟩
      obtain ⟨k1, rfl⟩ := Int.eq_ofNat_of_zero_le a0
      have hp9 : V9 p0 = some (.tup [.str "unit", nmV m0.1, .ref q0, .ref e01, .ref e02]) := xx _ _ (tv1 _ _ hp0) (fun _ z => by cases z)
      refine ⟨(show 0 ≤ sizeLine by decide), fun w1 hw1 => ?_⟩
      obtain ⟨W1, F1, z1, u1⟩ := D10.mk (o := .tup []) hw1
      refine ⟨_, rfl, r, _, _, _, rfl, rfl, SqL.of (F1.same _ _ (z1 _ _ er9)), atI_nat (j := 0) hv0, p0, _, rfl, .inr (SqT.of (F1.same _ _ (z1 _ _ hp9))), fun w2 hw2 => ?_⟩
      obtain ⟨W2, F2, z2, u2⟩ := F1.mk (o := .lst [.str "unit", nmV m0.1, .ref q0, .ref e01, .ref e02]) hw2
      have z12 := z1.trans z2
      refine ⟨_, rfl, r, _, _, _, rfl, rfl, SqL.of (F2.same _ _ (z12 _ _ er9)), atI_nat (j := 0) hv0, ?_⟩
      refine ⟨_, rfl, p0, _, rfl, SqT.of (F2.same _ _ (z12 _ _ hp9)), (show ¬ (HT.sIx 5 0 none = 0 ∧ HT.sIx 5 5 (some 4) = 5) by decide), fun w3 hw3 => ?_⟩
      rw [show (4 : Int) = ((4 : Nat) : Int) from rfl, cutV_take]
      obtain ⟨W3, F3, z3, u3⟩ := F2.mk (o := .tup (List.take 4 [.str "unit", nmV m0.1, .ref q0, .ref e01, .ref e02])) hw3
      have u3 : W3 w3 = some (.tup [.str "unit", nmV m0.1, .ref q0, .ref e01]) := u3
      refine ⟨(show 0 ≤ sizeLine by decide), fun a1 h1 => ⟨(show 0 ≤ sizeLine by decide), fun a2 h2 => ⟨(show 0 ≤ sizeLine by decide), fun a3 h3 => ⟨(show 5 ≤ sizeLine by decide), fun w4 hw4 => ?_⟩⟩⟩⟩
      obtain ⟨W4, F4, z4, _⟩ := F3.mk (o := .tup []) h1
      obtain ⟨W5, F5, z5, _⟩ := F4.mk (o := .tup []) h2
      obtain ⟨W6, F6, z6, _⟩ := F5.mk (o := .tup []) h3
      obtain ⟨W7, F7, z7, u7⟩ := F6.mk (o := .tup [.str "unit", .str "if", .ref a1, .ref a2, .ref a3]) hw4
      refine ⟨(show 1 ≤ sizeLine by decide), fun b1 g1 => ⟨(show 0 ≤ sizeLine by decide), fun b2 g2 => ⟨(show 0 ≤ sizeLine by decide), fun b3 g3 => ⟨(show 5 ≤ sizeLine by decide), fun w5 hw5 => ?_⟩⟩⟩⟩
      obtain ⟨W8, F8, z8, u8⟩ := F7.mk (o := .lst [.str "ab"]) g1
      obtain ⟨W9, F9, z9, _⟩ := F8.mk (o := .tup []) g2
      obtain ⟨Wa, Fa, za, _⟩ := F9.mk (o := .tup []) g3
      obtain ⟨Wb, Fb, zb, ub⟩ := Fa.mk (o := .tup [.str "unit", .str "x", .ref b1, .ref b2, .ref b3]) hw5
      refine ⟨(show 7 ≤ sizeLine by decide), fun wl hwl => ?_⟩
      obtain ⟨Wc, Fc, zc, uc⟩ := Fb.mk (o := .lst [.non, .int 5, .ref w1, .ref w2, .ref w3, .ref w4, .ref w5]) hwl
      have zz : Same V9 Wc := z12.trans (z3.trans (z4.trans (z5.trans (z6.trans (z7.trans (z8.trans (z9.trans (za.trans (zb.trans zc)))))))))
      have bad : ∀ x ∈ ([.non, .int 5, .ref w1, .ref w2, .ref w3, .ref w4, .ref w5] : List V), UtX K Wc x none := by
        have k2 := z3.trans (z4.trans (z5.trans (z6.trans (z7.trans (z8.trans (z9.trans (za.trans (zb.trans zc))))))))
        have k3 := z4.trans (z5.trans (z6.trans (z7.trans (z8.trans (z9.trans (za.trans (zb.trans zc)))))))
        have k7 := z8.trans (z9.trans (za.trans (zb.trans zc)))
        have k8 := z9.trans (za.trans (zb.trans zc))
        intro x hx
        simp only [List.mem_cons, List.not_mem_nil, or_false] at hx
        rcases hx with rfl | rfl | rfl | rfl | rfl | rfl | rfl
        · exact .non .non
        · exact .non (.int 5)
        · exact .emp ((z2.trans k2) _ _ u1)
        · exact .non (.lst (k2 _ _ u2))
        · exact .odd (k3 _ _ u3) (by simp)
        · exact .bad (k7 _ _ u7) ⟨by decide +kernel, by decide +kernel⟩ (.inl (by decide +kernel))
        · exact .bad (zc _ _ ub) ⟨by decide +kernel, by decide +kernel⟩ (.inr (.lst (k8 _ _ u8)))
      clear hw1 hw2 hw3 hw4 hw5 hwl h1 h2 h3 g1 g2 g3 F1 F2 F3 F4 F5 F6 F7 F8 F9 Fa Fb
      have xd : LamX.ExtN V1 Wc := xx.trans (LamX.ExtN.of zz)
      have erd : Wc r = some (.lst ts) := zz _ _ er9
      have hTd : TrA Wc ts ms := hT9.same zz
      have Td := T9V.ext zz
      generalize upd _ wl _ = Hd at Fc ⊢
      refine ⟨fun σ H' => ∃ (bv : V) (Ve : Hp) (t9 : Nat) (o : Option (Str × List Str)), σ = [some (.ref d), some (.ref a), some (.ref r), some v, some (.ref ea), some (.int (k1 : Int)), some (.ref wl), some bv, none, none, none, none, none, none] ∧ Dw t9 Ve H' d ∧ t9 ≤ t + 4 ∧ Same Wc Ve ∧ UtX K Ve bv o ∧ (o = none ∨ (1 ≤ k1 ∧ ∃ p, o = some p ∧ p.1 = nm m0.1)), ?_, ?_⟩
      · have pick : ∀ (He : Hp) (t9 : Nat), Dw t9 Wc He d → t9 ≤ t + 3 → ∀ (Q' : VK), (∀ bv H', bv ∈ ([.non, .int 5, .ref w1, .ref w2, .ref w3, .ref w4, .ref w5] : List V) → Dw (t9 + 1) Wc H' d → Q' bv H') → spPick K [.ref d, .ref wl] He Q' (fun _ _ _ => False) := fun He t9 De tl Q' k' =>
          ⟨t9, Wc, d, .ref wl, _, rfl, De, by show t9 < 1099511627776; omega, .lst (SqL.of uc), (show 0 < 7 by decide), (show 7 < 100000 by decide), fun v H' hv D' => k' v H' hv D'⟩
        refine ⟨_, rfl, rfl, _, rfl, ?_⟩
        by_cases c0 : k1 = 0
        · rw [decide_eq_true (show V.int (k1 : Int) = V.int 0 by rw [c0]; rfl)]
          refine iteT (iteT ⟨_, rfl, _, rfl, pick _ _ Fc (by omega) _ fun bv H' hb D' => ⟨bv, Wc, _, none, rfl, D', by omega, Same.refl _, bad bv hb, .inl rfl⟩⟩)
        rw [decide_eq_false (show ¬ V.int (k1 : Int) = V.int 0 from fun z => c0 (by injection z with z; omega))]
        refine iteF ⟨_, rfl, t + 2, Wc, d, 2, rfl, Fc, by show t + 2 < 1099511627776; omega, by decide, by decide, fun k2 H11 _ _ D11 => ⟨rfl, _, rfl, ?_⟩⟩
        by_cases c2 : k2 = 0
        · rw [decide_eq_true (show V.int k2 = V.int 0 by rw [c2])]
          exact iteT ⟨_, rfl, _, rfl, pick _ _ D11 (by omega) _ fun bv H' hb D' => ⟨bv, Wc, _, none, rfl, D', by omega, Same.refl _, bad bv hb, .inl rfl⟩⟩
        · rw [decide_eq_false (fun z => c2 (by injection z))]
          obtain ⟨m1, hm1, tv⟩ := hTd.2 0 _ hv0
          have em : m1 = m0 := by
            rw [hm0] at hm1
            injection hm1 with e
            exact e.symm
          subst em
          have mm := List.mem_of_getElem? hm0
          refine iteF ⟨_, rfl, r, _, _, _, rfl, rfl, SqL.of (D11.same _ _ erd), atI_nat (j := 0) hv0, _, Wc, t + 3, some (nm m1.1, m1.2.map nm), rfl, D11, by omega, Same.refl _, tv.ut (hM.lt m1 mm).1 (hM.sub m1 mm).1 (hM.names8 mm), .inr ⟨by omega, _, rfl, rfl⟩⟩
      rintro σ He ⟨bv, Ve, t9, o, rfl, De, tl9, ye, hbv, ho⟩
      have Te := Td.ext ye
      refine ⟨Te.ext De.same, fun lv1 H1a x1 T1 is1 => ⟨(show 1 ≤ sizeLine by decide), fun WL hWL => ?_⟩⟩
      obtain ⟨Vf, Df, xf, visf⟩ := De.ext x1
      obtain ⟨Vg, Dg, yg, eg⟩ := Df.mk (o := .lst [lv1]) hWL
      have Tg := (tabs_vis visf T1).ext yg
      have is1 := is1.ext (LamX.ExtN.of (same_new (o := .lst [lv1]) hWL))
      refine ⟨_, rfl, .inl ⟨rfl, _, SqL.of (Dg.same _ _ eg)⟩, Tg.ext Dg.same, fun lv2 H2a x2 T2 is2 => ?_⟩
      obtain ⟨Vh, Dh, xh, vish⟩ := Dg.ext x2
      have is1 := is1.ext x2
      have eh := xh _ _ eg (fun _ z => by cases z)
      have Th := tabs_vis vish T2
      refine ⟨WL, _, _, rfl, rfl, Dh.same _ _ eh, (show 1 < sizeLine by decide), ?_⟩
      have Di := Dh.set (o' := .lst ([lv1] ++ [lv2])) eh
      have is1 := is1.put (o := .lst ([lv1] ++ [lv2])) (Dh.same _ _ eh)
      have is2 := is2.put (o := .lst ([lv1] ++ [lv2])) (Dh.same _ _ eh)
      have ei : (upd Vh WL (.lst ([lv1] ++ [lv2]))) WL = some (.lst [lv1, lv2]) := upd_same
      have Ti : LamX.Tabs T (upd Vh WL (.lst ([lv1] ++ [lv2]))) := fun p hp => by
        obtain ⟨ps, a1, a2, a3⟩ := Th p hp
        refine ⟨ps, ?_, a2, fun pos cv hc => ?_⟩
        · rw [upd_ne fun z => by rw [z, eh] at a1; cases a1]
          exact a1
        · obtain ⟨c', e1, e2⟩ := a3 pos cv hc
          refine ⟨c', e1, ?_⟩
          rw [upd_ne fun z => by rw [z, eh] at e2; cases e2]
          exact e2
      have xei : LamX.ExtN Ve (upd Vh WL (.lst ([lv1] ++ [lv2]))) := fun b o' e n => by
        have nW : Vf WL = none := Df.same.free hWL
        have bf := xf b o' e n
        have : b ≠ WL := ne_of_none bf nW
        rw [upd_ne this]
        exact xh _ _ (yg _ _ bf) n
      generalize upd Vh WL (.lst ([lv1] ++ [lv2])) = Vi at Di ei Ti xei
      generalize upd H2a WL (.lst ([lv1] ++ [lv2])) = Hi at Di is1 is2 ⊢
      have key1 := fun (H' : Hp) (s : Same Hi H') => is1.ext (LamX.ExtN.of s)
      have key2 := fun (H' : Hp) (s : Same Hi H') => is2.ext (LamX.ExtN.of s)
      have eri : Vi r = some (.lst ts) := xei _ _ (ye _ _ erd) (fun _ z => by cases z)
      have hTi : TrA Vi ts ms := hTd.tup fun b xs e => xei _ _ (ye _ _ e) (fun _ z => by cases z)
      have hbi := hbv.ext xei
      have hUi := hTi.ut (K := K) hM
      have lps := hA.length
      refine ⟨_, rfl, WL, rfl, ⟨_, SqL.of (Di.same _ _ ei)⟩, ?_⟩
      refine for_it walk_list (fun j σ H' => ∃ (V' : Hp) (v4 v9 : Option V), σ = [some (.ref d), some (.ref a), some (.ref r), some v, v4, some (.int (k1 : Int)), some (.ref wl), some bv, some (.ref WL), v9, none, none, none, none] ∧ Dw t9 V' H' d ∧ Same Hi H' ∧ Same Vi V') ⟨Vi, _, _, rfl, Di, Same.refl _, Same.refl _⟩ (fun j σ H' _ ⟨V', _, _, _, D', _, y'⟩ => SqL.of (D'.same _ _ (y' _ _ ei))) ?_ ?_
      · rintro j x σ Hx H' hj ⟨V', v4, v9, rfl, D', s', y'⟩ ⟨rfl, hx⟩
        have er' := D'.same _ _ (y' _ _ eri)
        have hU' := (hUi.same y').same D'.same
        have hb' := (hbi.same y').same D'.same
        have jx : (j = 0 ∧ x = lv1) ∨ (j = 1 ∧ x = lv2) := by
          match j, hx with
          | 0, h => exact .inl ⟨rfl, (Option.some.inj h).symm⟩
          | 1, h => exact .inr ⟨rfl, (Option.some.inj h).symm⟩
          | n + 2, h => simp at h
        have lN : ((ms.map (·.1)).map fun n => some (uOf (usF ms) n)).length = ms.length := by rw [List.length_map, List.length_map]
        have k6 : k1 ≤ ms.length := by omega
        have ltk : (ts.take k1).length ≤ 6 := by rw [List.length_take]; omega
        have ldr : (ts.drop k1).length ≤ 6 := by rw [List.length_drop]; omega
        rcases jx with ⟨rfl, rfl⟩ | ⟨rfl, rfl⟩
        refine give_caught rfl (key1 H' s') ?_
        refine ⟨_, rfl, _, rfl, _, rfl, r, _, rfl, SqL.of er', fun p1 hp1 => ?_⟩
        rw [cutV_take]
        have s1 := same_new (o := .lst (ts.take k1)) hp1
        have e1 : (upd H' p1 (.lst (ts.take k1))) p1 = some (.lst (ts.take k1)) := upd_same
        generalize upd H' p1 (.lst (ts.take k1)) = H1 at s1 e1 ⊢
        refine ⟨_, rfl, (show 1 ≤ sizeLine by decide), fun p2 hp2 => ?_⟩
        have s2 := same_new (o := .lst [bv]) hp2
        have e2 : (upd H1 p2 (.lst [bv])) p2 = some (.lst [bv]) := upd_same
        generalize upd H1 p2 (.lst [bv]) = H2 at s2 e2 ⊢
        refine ⟨p1, p2, _, _, rfl, rfl, s2 _ _ e1, e2, Nat.le_trans (show (ts.take k1).length + 1 ≤ 7 by omega) (by decide), fun p3 hp3 => ?_⟩
        have s3 := same_new (o := .lst (ts.take k1 ++ [bv])) hp3
        have e3 : (upd H2 p3 (.lst (ts.take k1 ++ [bv]))) p3 = some (.lst (ts.take k1 ++ [bv])) := upd_same
        generalize upd H2 p3 (.lst (ts.take k1 ++ [bv])) = H3 at s3 e3 ⊢
        have s03 := s1.trans (s2.trans s3)
        refine ⟨_, rfl, _, rfl, _, rfl, r, _, rfl, SqL.of (s03 _ _ er'), fun p4 hp4 => ?_⟩
        rw [cutV_drop]
        have s4 := same_new (o := .lst (ts.drop k1)) hp4
        have e4 : (upd H3 p4 (.lst (ts.drop k1))) p4 = some (.lst (ts.drop k1)) := upd_same
        generalize upd H3 p4 (.lst (ts.drop k1)) = H4 at s4 e4 ⊢
        refine ⟨p3, p4, _, _, rfl, rfl, s4 _ _ e3, e4, Nat.le_trans (show (ts.take k1 ++ [bv]).length + (ts.drop k1).length ≤ 13 by rw [List.length_append]; show (ts.take k1).length + 1 + _ ≤ 13; omega) (by decide), fun p5 hp5 => ?_⟩
        have s05 := s03.trans (s4.trans (same_new (o := .lst ((ts.take k1 ++ [bv]) ++ ts.drop k1)) hp5))
        dsimp only [tNil]
        refine ⟨_, rfl, .inr ⟨p5, _, _, rfl, .inl upd_same, (((hU'.take k1).join (.single hb')).join (hU'.drop k1)).same s05, ?_, .inl (.inr ⟨by simp, .inl ⟨k1, bad_cut hM k6 _ hm0 ho, fun H8 dx s8 e8 n8 => ⟨E11.xB, fun ea hea => ?_⟩⟩⟩)⟩⟩
        · rw [List.length_append, List.length_append, List.length_take, List.length_drop, lN]
          show min k1 ms.length + 1 + (ms.length - k1) ≤ 1000
          omega
        have sH8 : Same H' H8 := s05.trans s8
        rotate_left 1
        refine give_caught rfl (key2 H' s') ?_
        refine ⟨_, rfl, _, rfl, _, rfl, r, _, rfl, SqL.of er', fun p1 hp1 => ?_⟩
        rw [cutV_take]
        have s1 := same_new (o := .lst (ts.take k1)) hp1
        have e1 : (upd H' p1 (.lst (ts.take k1))) p1 = some (.lst (ts.take k1)) := upd_same
        generalize upd H' p1 (.lst (ts.take k1)) = H1 at s1 e1 ⊢
        refine ⟨_, rfl, (show 1 ≤ sizeLine by decide), fun p2 hp2 => ?_⟩
        have s2 := same_new (o := .lst [bv]) hp2
        have e2 : (upd H1 p2 (.lst [bv])) p2 = some (.lst [bv]) := upd_same
        generalize upd H1 p2 (.lst [bv]) = H2 at s2 e2 ⊢
        refine ⟨p1, p2, _, _, rfl, rfl, s2 _ _ e1, e2, Nat.le_trans (show (ts.take k1).length + 1 ≤ 7 by omega) (by decide), fun p3 hp3 => ?_⟩
        have s05 := s1.trans (s2.trans (same_new (o := .lst (ts.take k1 ++ [bv])) hp3))
        dsimp only [tNil]
        refine ⟨_, _, rfl, .inr ⟨p3, _, _, rfl, .inl upd_same, ((hU'.take k1).join (.single hb')).same s05, ?_, .inl (.inr ⟨by simp, .inl ⟨k1, by have := bad_cut hM k6 [] hm0 ho; rwa [List.append_nil] at this, fun H8 dx s8 e8 n8 => ⟨E11.xB, fun ea hea => ?_⟩⟩⟩)⟩⟩
        · rw [List.length_append, List.length_take, lN]
          show min k1 ms.length + 1 ≤ 1000
          omega
        have sH8 : Same H' H8 := s05.trans s8
        all_goals
          have s89 := same_new (o := ExH (.ref CB) ea (some dx)) hea
          have e9 := s89 _ _ e8
          have ex9 : (upd H8 ea (ExH (.ref CB) ea (some dx))) ea = some (ExH (.ref CB) ea (some dx)) := upd_same
          have s79 := sH8.trans s89
          generalize upd H8 ea (ExH (.ref CB) ea (some dx)) = H9 at e9 ex9 s79 ⊢
          have xat : ExAt H9 ea CB := .inr (.inr ⟨some dx, ex9, fun dx' e => by cases e; exact ⟨_, e9⟩⟩)
          obtain ⟨V9, D9, y9, gv9⟩ := D'.grow s79
          refine ⟨_, rfl, ea, CB, .ref CB, .ref CB, true, rfl, .own CB, E11.rB, xat, E11.iB, _, rfl, iteN1 ?_⟩
          refine ⟨_, rfl, ea, CB, dx, _, .int (k1 : Int), rfl, E11.rB, E11.nB, .inr ⟨ex9, e9⟩, rfl, _, rfl, rfl, _, rfl, ?_⟩
          rw [show (!decide (V.int (k1 : Int) = V.int (k1 : Int))) = false by rw [decide_eq_true rfl]; rfl]
          refine iteF ?_
          exact ⟨V9, _, _, rfl, D9, s'.trans s79, y'.trans y9⟩
      · rintro σ H' ⟨V', v4, v9, rfl, D', s', y'⟩
        have xV : LamX.ExtN V0 V' := (LamX.ExtN.of y1).trans (xd.trans ((LamX.ExtN.of ye).trans (xei.trans (LamX.ExtN.of y'))))
        have ea' : V' a = some (.lst ps) := xV _ _ eaP (fun _ z => by cases z)
        have er' := y' _ _ eri
        have hT' : TrA V' ts ms := hTi.same y'
        have T' := Ti.ext y'
        obtain ⟨jq, vq, hjq, hat⟩ := atI_prev (xs := ps) (k := k1) (by omega) (by omega)
        obtain ⟨mq, hmq, pq, qq, rfl, hpq, hqq⟩ := hA.at hjq
        have mqI := List.mem_of_getElem? hmq
        have hpq' : V' pq = some (.tup [nmV mq.1, .ref qq]) := xV _ _ hpq (fun _ z => by cases z)
        have hqq' : V' qq = some (.tup (mq.2.map nmV)) := xV _ _ hqq (fun _ z => by cases z)
        refine ⟨_, rfl, _, rfl, _, _, rfl, rfl, a, ps, _, _, rfl, rfl, SqL.of (D'.same _ _ ea'), hat, pq, _, rfl, SqT.of (D'.same _ _ hpq'), rfl, _, _, rfl, _, _, rfl, rfl, ?_⟩
        refine ⟨_, rfl, r, rfl, ⟨_, SqL.of (D'.same _ _ er')⟩, fun LS hLS => ?_⟩
        have nLS : V' LS = none := D'.same.free hLS
        have mq8 := (hM.lt mq mqI).1
        refine lc_list (K := K) (a := r) (xs := ts) (fun j H' => ∃ (Vc : Hp) (us : List V), Dw t9 Vc H' d ∧ Same V' Vc ∧ Vc LS = some (.lst us) ∧ TrA Vc us ((ms.take j).map (spoil mq))) ⟨upd V' LS (.lst []), [], D'.new hLS, same_new nLS, upd_same, rfl, fun i v e => by simp at e⟩ (fun j H' _ ⟨Vc, us, Dc, yc, _, _⟩ => SqL.of (Dc.same _ _ (yc _ _ er'))) ?_ ?_
        · rintro j y Hj hy ⟨Vc, us, Dc, yc, eL, T⟩
          obtain ⟨m, hm, tv⟩ := hT'.2 _ _ hy
          have mI := List.mem_of_getElem? hm
          have tvc := tv.tup fun b xs e => yc _ _ e
          obtain ⟨p, q, e1, e2, rfl, f1, f2, f3, f4⟩ := id tvc
          refine ⟨rfl, yesIf ?_⟩
          have m8 := (hM.lt m mI).1
          have l1 := T.1
          rw [List.length_map] at l1
          have l2 := List.length_take_le' j ms
          have lus : us.length < sizeLine := Nat.lt_of_le_of_lt (show us.length ≤ 6 by omega) (by decide)
          have fin : ∀ (Hn Vn : Hp) (vn : V), Dw t9 Vn Hn d → Same Vc Vn → TrV Vn vn (spoil mq m) → ∃ acc, Hn LS = some (.lst acc) ∧ acc.length < sizeLine ∧ ∃ (Vc : Hp) (us : List V), Dw t9 Vc (upd Hn LS (.lst (acc ++ [vn]))) d ∧ Same V' Vc ∧ Vc LS = some (.lst us) ∧ TrA Vc us ((ms.take (j + 1)).map (spoil mq)) := fun Hn Vn vn Dn yn tn => by
            have eLn := yn _ _ eL
            refine ⟨us, Dn.same _ _ eLn, lus, upd Vn LS (.lst (us ++ [vn])), us ++ [vn], Dn.set eLn, same_sub (yc.trans yn) nLS, upd_same, ?_⟩
            rw [take_snoc2 hm, List.map_append]
            exact ((T.same yn).snoc tn).tup fun b xs e => by
              have : b ≠ LS := fun z => by rw [z, eLn] at e; cases e
              rw [upd_ne this]
              exact e
          refine ⟨_, rfl, .inr (.inl ⟨p, _, _, _, rfl, rfl, SqT.of (Dc.same _ _ f1), atI_nat (j := 1) rfl, _, rfl, rfl, _, rfl, ?_⟩)⟩
          by_cases c : m.1 = mq.1
          rotate_left
          · rw [show (!decide (nmV m.1 = nmV mq.1)) = true by rw [decide_eq_false (fun z => c (nm_inj m8 mq8 (by injection z)))]; rfl]
            refine iteT ⟨_, rfl, fin Hj Vc (.ref p) Dc (Same.refl _) ?_⟩
            unfold spoil
            rw [if_neg c]
            exact tvc
          · rw [show (!decide (nmV m.1 = nmV mq.1)) = false by rw [c, decide_eq_true rfl]; rfl]
            refine iteF ⟨_, rfl, (show 1 ≤ sizeLine by decide), fun pa hpa => ?_⟩
            obtain ⟨Va, Da, ya, fa⟩ := Dc.mk (o := .tup [.str "notthere"]) hpa
            refine ⟨_, rfl, _, rfl, slA_take (n := 4) (Da.same _ _ ((yc.trans ya) _ _ hqq')) fun pb Hb sb eb => ?_⟩
            obtain ⟨Vb, Db, yb, _, tb⟩ := Da.all sb
            refine catA_any (Db.same _ _ (yb _ _ fa)) eb ?_ fun pc Hc sc ec => ?_
            · rw [List.length_take]
              exact Nat.le_trans (show 1 + min 4 _ ≤ 5 by omega) (by decide)
            obtain ⟨Vcc, Dcc, ycc, _, tc⟩ := Db.all sc
            have fc := tc _ _ ec
            refine ⟨(show 0 ≤ sizeLine by decide), fun pd hpd => ⟨(show 0 ≤ sizeLine by decide), fun pe hpe => ⟨(show 5 ≤ sizeLine by decide), fun pf hpf => ?_⟩⟩⟩
            obtain ⟨Vd, Dd, yd, fd2⟩ := Dcc.mk (o := .tup []) hpd
            obtain ⟨Vee, De2, ye2, fe⟩ := Dd.mk (o := .tup []) hpe
            obtain ⟨Vf2, Df2, yf2, ff⟩ := De2.mk (o := .tup [.str "unit", nmV mq.1, .ref pc, .ref pd, .ref pe]) hpf
            refine fin _ Vf2 (.ref pf) Df2 (ya.trans (yb.trans (ycc.trans (yd.trans (ye2.trans yf2))))) ?_
            unfold spoil
            rw [if_pos c]
            refine ⟨pf, pc, pd, pe, rfl, ff, ?_, yf2 _ _ (ye2 _ _ fd2), yf2 _ _ fe⟩
            rw [(yd.trans (ye2.trans yf2)) _ _ fc, ← List.map_take]
            rfl
        rintro Hc ⟨Vc, us, Dc, yc, eLS, hTS⟩
        rw [lts, List.take_length] at hTS
        have Tc := T'.ext yc
        refine ⟨Tc.ext Dc.same, fun mv1 Hca x1 T1 is1 => ⟨(show 1 ≤ sizeLine by decide), fun WM hWM => ?_⟩⟩
        obtain ⟨Vf, Df, xf, visf⟩ := Dc.ext x1
        obtain ⟨Vg, Dg, yg, eg⟩ := Df.mk (o := .lst [mv1]) hWM
        have Tg := (tabs_vis visf T1).ext yg
        have is1 := is1.ext (LamX.ExtN.of (same_new (o := .lst [mv1]) hWM))
        refine ⟨_, rfl, .inl ⟨rfl, _, SqL.of (Dg.same _ _ eg)⟩, Tg.ext Dg.same, fun mv2 Hcb x2 T2 is2 => ?_⟩
        obtain ⟨Vh, Dh, xh, vish⟩ := Dg.ext x2
        have is1 := is1.ext x2
        have eh := xh _ _ eg (fun _ z => by cases z)
        have Th := tabs_vis vish T2
        refine ⟨WM, _, _, rfl, rfl, Dh.same _ _ eh, (show 1 < sizeLine by decide), ?_⟩
        have Dj := Dh.set (o' := .lst ([mv1] ++ [mv2])) eh
        have is1 := is1.put (o := .lst ([mv1] ++ [mv2])) (Dh.same _ _ eh)
        have is2 := is2.put (o := .lst ([mv1] ++ [mv2])) (Dh.same _ _ eh)
        have ej : (upd Vh WM (.lst ([mv1] ++ [mv2]))) WM = some (.lst [mv1, mv2]) := upd_same
        have Tj := tabs_put (o := .lst ([mv1] ++ [mv2])) Th eh
        have xej : LamX.ExtN Vc (upd Vh WM (.lst ([mv1] ++ [mv2]))) := fun b o' e n => by
          have nW : Vf WM = none := Df.same.free hWM
          have bf := xf b o' e n
          have : b ≠ WM := ne_of_none bf nW
          rw [upd_ne this]
          exact xh _ _ (yg _ _ bf) n
        generalize upd Vh WM (.lst ([mv1] ++ [mv2])) = Vj at Dj ej Tj xej
        generalize upd Hcb WM (.lst ([mv1] ++ [mv2])) = Hj at Dj is1 is2 ⊢
        have keyA := fun (H' : Hp) (s : Same Hj H') => is1.ext (LamX.ExtN.of s)
        have keyB := fun (H' : Hp) (s : Same Hj H') => is2.ext (LamX.ExtN.of s)
        have eLSj : Vj LS = some (.lst us) := xej _ _ eLS (fun _ z => by cases z)
        have hTSj : TrA Vj us (ms.map (spoil mq)) := hTS.tup fun b xs e => xej _ _ e (fun _ z => by cases z)
        have hUS := hTSj.utS (K := K) hM mqI
        have erj : Vj r = some (.lst ts) := xej _ _ (yc _ _ er') (fun _ z => by cases z)
        have hTj : TrA Vj ts ms := hT'.tup fun b xs e => xej _ _ (yc _ _ e) (fun _ z => by cases z)
        have lus := hTSj.1
        rw [List.length_map] at lus
        refine ⟨_, rfl, WM, rfl, ⟨_, SqL.of (Dj.same _ _ ej)⟩, ?_⟩
        refine for_it walk_list (fun j σ H' => ∃ (V' : Hp) (v4 v9 : Option V), σ = [some (.ref d), some (.ref a), some (.ref r), some v, v4, some (.int (k1 : Int)), some (.ref wl), some bv, some (.ref WM), v9, some (nmV mq.1), some (.ref qq), some (.ref LS), none] ∧ Dw t9 V' H' d ∧ Same Hj H' ∧ Same Vj V') ⟨Vj, _, _, rfl, Dj, Same.refl _, Same.refl _⟩ (fun j σ H' _ ⟨V', _, _, _, D', _, y'⟩ => SqL.of (D'.same _ _ (y' _ _ ej))) ?_ ?_
        · rintro j x σ Hx H2 hj ⟨V2, w4, w9, rfl, D2, s2, y2⟩ ⟨rfl, hx⟩
          have eS2 := D2.same _ _ (y2 _ _ eLSj)
          have hU2 := (hUS.same y2).same D2.same
          have jx : (j = 0 ∧ x = mv1) ∨ (j = 1 ∧ x = mv2) := by
            match j, hx with
            | 0, h => exact .inl ⟨rfl, (Option.some.inj h).symm⟩
            | 1, h => exact .inr ⟨rfl, (Option.some.inj h).symm⟩
            | n + 2, h => simp at h
          have lU : ((ms.map (spoil mq)).map fun m => some (uS m)).length ≤ 1000 := by
            rw [List.length_map, List.length_map]
            omega
          rcases jx with ⟨rfl, rfl⟩ | ⟨rfl, rfl⟩
          refine give_caught rfl (keyA H2 s2) ?_
          refine ⟨_, rfl, ?_⟩
          dsimp only [tNil]
          refine ⟨_, rfl, .inr ⟨LS, _, _, rfl, .inl eS2, hU2, lU, .inl (spoil_need hM mqI fun H8 dx s8 e8 n8 => ⟨E11.xN, fun ea hea => ?_⟩)⟩⟩
          rotate_left 1
          refine give_caught rfl (keyB H2 s2) ?_
          refine ⟨_, rfl, _, rfl, rfl, rfl, ?_⟩
          refine ⟨_, _, rfl, .inr ⟨LS, _, _, rfl, .inl eS2, hU2, lU, .inl (spoil_need hM mqI fun H8 dx s8 e8 n8 => ⟨E11.xN, fun ea hea => ?_⟩)⟩⟩
          all_goals
            have s89 := same_new (o := ExH (.ref CN) ea (some dx)) hea
            have e9 := s89 _ _ e8
            have ex9 : (upd H8 ea (ExH (.ref CN) ea (some dx))) ea = some (ExH (.ref CN) ea (some dx)) := upd_same
            have s79 := s8.trans s89
            generalize upd H8 ea (ExH (.ref CN) ea (some dx)) = H9 at e9 ex9 s79 ⊢
            have xat : ExAt H9 ea CN := .inr (.inr ⟨some dx, ex9, fun dx' e => by cases e; exact ⟨_, e9⟩⟩)
            obtain ⟨V9, D9, y9, gv9⟩ := D2.grow s79
            refine ⟨_, rfl, ea, CN, .ref CN, .ref CN, true, rfl, .own CN, E11.rN, xat, E11.iN, _, rfl, iteN1 ?_⟩
            refine ⟨_, rfl, ea, CN, dx, _, .str "notthere", rfl, E11.rN, E11.nN, .inr ⟨ex9, e9⟩, rfl, rfl, _, rfl, ?_⟩
            rw [show (!decide (V.str "notthere" = V.str "notthere")) = false by rw [decide_eq_true rfl]; rfl]
            refine iteF ?_
            exact ⟨V9, _, _, rfl, D9, s2.trans s79, y2.trans y9⟩
        rintro σ H2 ⟨V2, w4, w9, rfl, D2, s2, y2⟩
        have er2 := y2 _ _ erj
        have hT2 := hTj.same y2
        have T2 := Tj.ext y2
        refine ⟨_, rfl, _, rfl, (show 1 ≤ sizeLine by decide), fun pt hpt => ⟨(show 5 ≤ sizeLine by decide), fun q hq => ?_⟩⟩
        obtain ⟨Va, Da, ya, fa⟩ := D2.mk (o := .tup [nmV mq.1]) hpt
        obtain ⟨Vb, Db, yb, fb⟩ := Da.mk (o := .lst [.str "notthere", .non, .int 5, .ref pt, .str ""]) hq
        refine ⟨t9, Vb, d, .ref q, _, rfl, Db, by show t9 < 1099511627776; omega, .lst (SqL.of fb), (show 0 < 5 by decide), (show 5 < 100000 by decide), fun ov H3 hov D3 => ?_⟩
        have T3 := T2.ext (ya.trans yb)
        refine ⟨T3.ext D3.same, fun H7 x7 T7 => ?_⟩
        obtain ⟨V7, D7, x37, vis⟩ := D3.ext x7
        have pt7 : V7 pt = some (.tup [nmV mq.1]) := x37 _ _ (yb _ _ fa) (fun _ z => by cases z)
        have er7 : V7 r = some (.lst ts) := x37 _ _ ((ya.trans yb) _ _ er2) (fun _ z => by cases z)
        have hT7 : TrA V7 ts ms := hT2.tup fun b xs e => x37 _ _ ((ya.trans yb) _ _ e) (fun _ z => by cases z)
        have hod : ∃ od ∈ oddD mq.1, ∀ H', Same H7 H' → Dp K H' ov od ∧ Dx K H' ov od := by
          simp only [List.mem_cons, List.not_mem_nil, or_false] at hov
          rcases hov with rfl | rfl | rfl | rfl | rfl
          · exact ⟨.str "notthere", by simp [oddD], fun H' _ => ⟨.str _, .str _⟩⟩
          · exact ⟨.none, by simp [oddD], fun H' _ => ⟨.non, .non⟩⟩
          · exact ⟨.int 5, by simp [oddD], fun H' _ => ⟨.int _, .int _⟩⟩
          · exact ⟨.tuple [.str (nm mq.1)], by simp [oddD], fun H' s => ⟨.tup (SqT.of (s _ _ (D7.same _ _ pt7))) (.cons (.str _) .nil), .tup (SqT.of (s _ _ (D7.same _ _ pt7))) (.cons (.str _) .nil)⟩⟩
          · exact ⟨.str "", by simp [oddD], fun H' _ => ⟨.str _, .str _⟩⟩
        obtain ⟨od, hodm, hodd⟩ := hod
        have sh := List.all_eq_true.mp (odd_sh mq.1 mq8) od hodm
        simp only [Bool.and_eq_true, decide_eq_true_eq] at sh
        obtain ⟨sh1, sh2, sh3, sh4⟩ := sh
        refine ⟨_, rfl, _, rfl, ?_⟩
        dsimp only [tNil]
        refine ⟨_, ov, rfl, .inr ⟨r, ts, _, rfl, .inl (D7.same _ _ er7), (hT7.ut hM).same D7.same, by rw [List.length_map, List.length_map]; omega, .inr ⟨ms.map (·.1), usF ms, rfl, hM.ne, hM.nts, .inl ⟨od, fun H' s => (hodd H' s).1, sh1, fun n hn => ?_, fun H8 dx s8 e8 n8 => ⟨E11.xN, fun ea hea => ?_⟩⟩⟩⟩⟩
        · obtain ⟨m, hm, rfl⟩ := List.mem_map.mp hn
          obtain ⟨a1, a2⟩ := hM.lt m hm
          have := List.all_eq_true.mp (odd_ne mq.1 mq8 m.1 a1 a2) od hodm
          simpa using this
        have s89 := same_new (o := ExH (.ref CN) ea (some dx)) hea
        have e9 := s89 _ _ e8
        have ex9 : (upd H8 ea (ExH (.ref CN) ea (some dx))) ea = some (ExH (.ref CN) ea (some dx)) := upd_same
        have s79 := s8.trans s89
        generalize upd H8 ea (ExH (.ref CN) ea (some dx)) = H9 at e9 ex9 s79 ⊢
        have xat : ExAt H9 ea CN := .inr (.inr ⟨some dx, ex9, fun dx' e => by cases e; exact ⟨_, e9⟩⟩)
        obtain ⟨V9, D9, y9, gv9⟩ := D7.grow s79
        have dx9 := (hodd H9 s79).2
        refine ⟨_, rfl, ea, CN, .ref CN, .ref CN, true, rfl, .own CN, E11.rN, xat, E11.iN, true, rfl, ?_⟩
        refine iteT ⟨_, rfl, ea, CN, dx, _, ov, rfl, E11.rN, E11.nN, .inr ⟨ex9, e9⟩, rfl, ov, od, rfl, dx9, sh2, sh3, Nat.le_trans sh4 (by decide), _, rfl, ov, od, rfl, dx9, sh2, sh3, Nat.le_trans sh4 (by decide), rfl, ?_⟩
        rw [decide_eq_true rfl]
        exact k V9 H9 (D9.mono (by omega)) (xV.trans ((LamX.ExtN.of yc).trans (xej.trans ((LamX.ExtN.of (y2.trans (ya.trans yb))).trans (x37.trans (LamX.ExtN.of y9)))))) ((tabs_vis vis T7).ext y9)
end
/-! ## data shown -/
structure RpB (k n : Nat) (d : PyData) : Prop where
  sh : d.showable = true
  dp : d.depth ≤ k
  ln : d.shown.length ≤ n
  lay : d.canLay0 = true
theorem RpB.mono {k n k' n' : Nat} {d : PyData} (h : RpB k n d) (hk : k ≤ k') (hn : n ≤ n') : RpB k' n' d := ⟨h.sh, Nat.le_trans h.dp hk, Nat.le_trans h.ln hn, h.lay⟩
theorem RpB.ok {k n : Nat} {d : PyData} (h : RpB k n d) (hk : k ≤ 64) (hn : n ≤ 16777216) : d.showable = true ∧ d.depth ≤ 100 ∧ d.shown.length ≤ sizeLine := ⟨h.sh, Nat.le_trans h.dp (Nat.le_trans hk (by decide)), by rw [sizeLine_eq]; exact Nat.le_trans h.ln hn⟩
theorem RpB.shp {k n : Nat} {d : PyData} (h : RpB k n d) (hk : k ≤ 64) : SeqAt.shaped d = true := by
  unfold SeqAt.shaped
  rw [h.lay, Bool.true_and]
  exact decide_eq_true (Nat.le_trans h.dp hk)
theorem rpb_str {z : Str} {m : Nat} (h : ∀ c ∈ z.cps.toList, c < 128) (hm : z.length ≤ m) : RpB 0 (10 * m + 2) (.str z) := by
  refine ⟨by simp only [PyData.showable], by simp only [PyData.depth]; decide, ?_, ?_⟩
  rotate_left
  · simp only [PyData.canLay0, PyData.strOk]
    rw [← Array.all_toList]
    exact List.all_eq_true.mpr fun c hc => decide_eq_true (Nat.lt_of_lt_of_le (h c hc) (by decide))
  rw [PyData.shown_str]
  have := PySem.StrLaws.reprText_len z fun c hc => Nat.lt_of_lt_of_le (h c hc) (by decide)
  omega
theorem rpb_int {a : Int} (ha : a.natAbs < 2 ^ 700) : RpB 0 702 (.int a) := by
  have k : a.natAbs.log2 < 701 := by
    by_cases h0 : a.natAbs = 0
    · rw [h0]; decide
    · exact Nat.lt_of_lt_of_le ((Nat.log2_lt h0).2 ha) (by decide)
  refine ⟨?_, by simp only [PyData.depth]; decide, ?_, by simp only [PyData.canLay0]⟩
  · simp only [PyData.showable, decide_eq_true_eq]
    exact Nat.lt_of_lt_of_le k (by decide)
  · rw [PyData.shown_int, ofString_length]
    exact int_text_length_le (by decide) k
theorem rpb_none : RpB 0 702 .none := ⟨by simp only [PyData.showable], by simp only [PyData.depth]; decide, by rw [PyData.shown_none]; decide +kernel, by simp only [PyData.canLay0]⟩
theorem rpb_bool (b : Bool) : RpB 0 702 (.bool b) := ⟨by simp only [PyData.showable], by simp only [PyData.depth]; decide, by cases b <;> decide +kernel, by simp only [PyData.canLay0]⟩
theorem rpb_all {k n : Nat} : ∀ {ds : List PyData}, (∀ d ∈ ds, RpB k n d) → PyData.showableAll ds = true ∧ PyData.depthAll ds ≤ k ∧ PyData.canLayAll0 ds = true ∧ ((PyData.shownAll ds).map (·.length)).sum ≤ ds.length * n
  | [], _ => ⟨by simp only [PyData.showableAll], by simp only [PyData.depthAll]; exact Nat.zero_le _, by simp only [PyData.canLayAll0], by rw [PyData.shownAll_nil]; exact Nat.zero_le _⟩
  | d :: ds, h => by
    have hd := h d (List.mem_cons_self ..)
    obtain ⟨a, b, c, e⟩ := rpb_all (ds := ds) fun x hx => h x (List.mem_cons_of_mem _ hx)
    refine ⟨?_, ?_, ?_, ?_⟩
    · simp only [PyData.showableAll, Bool.and_eq_true]
      exact ⟨hd.sh, a⟩
    · simp only [PyData.depthAll]
      exact Nat.max_le.mpr ⟨hd.dp, b⟩
    · simp only [PyData.canLayAll0, Bool.and_eq_true]
      exact ⟨hd.lay, c⟩
    · rw [PyData.shownAll_cons, List.map_cons, List.sum_cons, List.length_cons, Nat.add_mul, Nat.one_mul, Nat.add_comm]
      exact Nat.add_le_add e hd.ln
theorem rpb_seq {k n m : Nat} {ds : List PyData} (h : ∀ d ∈ ds, RpB k n d) (hm : ds.length ≤ m) : RpB (k + 1) (m * (n + 2) + 4) (.list ds) ∧ RpB (k + 1) (m * (n + 2) + 4) (.tuple ds) := by
  obtain ⟨a, b, c, e⟩ := rpb_all h
  have j := PySem.StrLaws.join_length_le ", " (PyData.shownAll ds)
  have hs : (", " : Str).length = 2 := by decide +kernel
  rw [hs, PyData.shownAll_length] at j
  have hj : (Str.join ", " (PyData.shownAll ds)).length ≤ m * (n + 2) := by
    have h1 : ds.length * n ≤ m * n := Nat.mul_le_mul_right _ hm
    have h2 : ds.length * 2 ≤ m * 2 := Nat.mul_le_mul_right _ hm
    rw [Nat.mul_add]
    omega
  have t : ∀ q : String, q = ",)" ∨ q = ")" → ((q : String) : Str).length ≤ 2 := fun q hq => by
    rcases hq with rfl | rfl <;> decide +kernel
  refine ⟨⟨by simp only [PyData.showable]; exact a, by simp only [PyData.depth]; omega, ?_, by simp only [PyData.canLay0]; exact c⟩, ⟨by simp only [PyData.showable]; exact a, by simp only [PyData.depth]; omega, ?_, by simp only [PyData.canLay0]; exact c⟩⟩
  · rw [PyData.shown_list, Str.length_append, Str.length_append]
    have h3 : ("[" : Str).length = 1 := by decide +kernel
    have h4 : ("]" : Str).length = 1 := by decide +kernel
    omega
  · rw [PyData.shown_tuple, Str.length_append, Str.length_append]
    have h3 : ("(" : Str).length = 1 := by decide +kernel
    have h4 := t (if ds.length == 1 then ",)" else ")") (by split <;> simp)
    omega
theorem str_len (z : Str) : z.length = z.cps.toList.length := by simp [Str.length]
/-! ## k11's law: the dict of pairs; the first of the least rings -/
theorem merge_nodup : ∀ {more acc : List (Key × V)}, ((acc ++ more).map (·.1)).Nodup → mergeK acc more = acc ++ more
  | [], acc, _ => by simp [mergeK]
  | (k, v) :: more, acc, h => by
    have hn : valV acc k = none := by
      cases e : valV acc k with
      | none => rfl
      | some u =>
        have m := valV_in e
        rw [List.map_append] at h
        exact ((List.nodup_append.mp h).2.2 k m k (by simp) rfl).elim
    show mergeK (putK acc k v) more = _
    rw [putK_new _ hn, merge_nodup (acc := acc ++ [(k, v)]) (by simpa using h)]
    simp
theorem valV_at : ∀ {kvs : List (Key × V)}, (kvs.map (·.1)).Nodup → ∀ (i : Nat) (k : Key) (v : V), kvs[i]? = some (k, v) → valV kvs k = some v
  | [], _, i, k, v, h => by simp at h
  | p :: kvs, nd, i, k, v, h => by
    rw [List.map_cons, List.nodup_cons] at nd
    cases i with
    | zero =>
      have h : p = (k, v) := by simpa using h
      subst h
      exact valV_pos rfl
    | succ i =>
      have h : kvs[i]? = some (k, v) := by simpa using h
      have ne : ¬ p.1 = k := fun z => nd.1 (z ▸ List.mem_map.mpr ⟨(k, v), List.mem_of_getElem? h, rfl⟩)
      rw [valV_neg ne]
      exact valV_at nd.2 i k v h
theorem PrA.dict {K : PySem.W.Frag} {W : Hp} : ∀ {vs : List V} {ms : List (Nat × List Nat)}, PrA W vs ms → ∃ (as : List Addr) (kvs : List (Key × V)), vs = as.map V.ref ∧ (∀ H, Same W H → PySem.Paired (fun p kv => SqT K H p [kV kv.1, kv.2]) as kvs) ∧ kvs.map (·.1) = ms.map (fun m => keyN m.1) ∧
    ∀ (i : Nat) (m : Nat × List Nat), ms[i]? = some m → ∃ q, kvs[i]? = some (keyN m.1, .ref q) ∧ W q = some (.tup (m.2.map nmV))
  | _, _, .nil => ⟨[], [], rfl, fun _ _ => .nil, rfl, fun i m h => by simp at h⟩
  | _, _, .cons (m := m) h t => by
    obtain ⟨as, kvs, e1, e2, e3, e4⟩ := PrA.dict (K := K) t
    obtain ⟨p, q, rfl, hp, hq⟩ := h
    refine ⟨p :: as, (keyN m.1, .ref q) :: kvs, by rw [e1]; rfl, fun H s => .cons (SqT.of (s _ _ hp)) (e2 H s), by rw [List.map_cons, List.map_cons, e3], fun i m' hm => ?_⟩
    cases i with
    | zero =>
      have hm : m = m' := by simpa using hm
      subst hm
      exact ⟨q, rfl, hq⟩
    | succ i => exact e4 i m' (by simpa using hm)
theorem keys_nodup {ms : List (Nat × List Nat)} (h : Pm ms) : (ms.map fun m => keyN m.1).Nodup := by
  have h1 := h.one
  have h8 := h.lt
  clear h
  induction ms with
  | nil => exact .nil
  | cons m ms ih =>
    rw [List.map_cons, List.nodup_cons] at h1 ⊢
    refine ⟨fun z => ?_, ih h1.2 fun x hx => h8 x (List.mem_cons_of_mem _ hx)⟩
    obtain ⟨m2, hm2, e⟩ := List.mem_map.mp z
    have := keyN_inj (h8 m2 (List.mem_cons_of_mem _ hm2)).1 (h8 m (List.mem_cons_self ..)).1 e
    exact h1.1 (this ▸ List.mem_map.mpr ⟨m2, hm2, rfl⟩)
theorem Pm.usD {W H : Hp} {D : Addr} {kvs : List (Key × V)} {ms : List (Nat × List Nat)} (h : Pm ms) (eD : H D = some (.dK kvs)) (s : Same W H) (hk : kvs.map (·.1) = ms.map fun m => keyN m.1) (hv : ∀ (i : Nat) (m : Nat × List Nat), ms[i]? = some m → ∃ q, kvs[i]? = some (keyN m.1, .ref q) ∧ W q = some (.tup (m.2.map nmV))) : UsD HO.tup H D (ms.map (·.1)) (usF ms) := by
  refine ⟨kvs, eD, by rw [hk, List.map_map]; rfl, fun n hn => ?_⟩
  obtain ⟨m, hm, rfl⟩ := List.mem_map.mp hn
  obtain ⟨i, hi, e⟩ := List.getElem_of_mem hm
  obtain ⟨q, h1, h2⟩ := hv i m (by rw [List.getElem?_eq_getElem hi, e])
  refine ⟨q, valV_at (by rw [hk]; exact keys_nodup h) i _ _ h1, ?_⟩
  rw [usF_at h.one m hm]
  exact s _ _ h2
theorem UtA.rev {K : PySem.W.Frag} {H : Hp} {xs : List V} {os : List (Option (Str × List Str))} (h : UtA K H xs os) : UtA K H xs.reverse os.reverse := by
  refine ⟨by rw [List.length_reverse, List.length_reverse]; exact h.1, fun i x e => ?_⟩
  have hi : i < xs.length := by
    have := (List.getElem?_eq_some_iff.mp e).1
    rwa [List.length_reverse] at this
  rw [List.getElem?_reverse hi] at e
  obtain ⟨o, h1, h2⟩ := h.2 _ x e
  refine ⟨o, ?_, h2⟩
  rw [List.getElem?_reverse (by rw [← h.1]; exact hi), ← h.1]
  exact h1
theorem Nts.rev {ns : List Nat} {us : Nat → List Nat} (h : Nts ns us) : Nts ns.reverse us := by
  refine ⟨(List.Perm.nodup_iff (List.reverse_perm ns)).mpr h.one, fun n hn => h.lt n (List.mem_reverse.mp hn), by rw [List.length_reverse]; exact h.len, fun n hn m hm => List.mem_reverse.mpr (h.sub n (List.mem_reverse.mp hn) m hm), fun n hn => h.ul n (List.mem_reverse.mp hn)⟩
namespace G11
theorem lexF_app : ∀ {l m u v : List Nat}, l.length = m.length → SrtN.lexF l m = true → SrtN.lexF (l ++ u) (m ++ v) = true
  | [], [], _, _, _, h => by cases h
  | [], _ :: _, _, _, h, _ => by cases h
  | _ :: _, [], _, _, h, _ => by cases h
  | a :: l, b :: m, u, v, hl, h => by
    rw [List.cons_append, List.cons_append]
    rcases SrtN.lexF_cons.mp h with h | ⟨h1, h2⟩
    · exact SrtN.lexF_cons.mpr (.inl h)
    · exact SrtN.lexF_cons.mpr (.inr ⟨h1, lexF_app (by simpa using hl) h2⟩)
theorem lexF_pre : ∀ (l : List Nat) {a b : Nat}, a < b → SrtN.lexF (l ++ [a]) (l ++ [b]) = true
  | [], a, b, h => SrtN.lexF_cons.mpr (.inl h)
  | x :: l, a, b, h => SrtN.lexF_cons.mpr (.inr ⟨rfl, lexF_pre l h⟩)
theorem lexR_F : ∀ {x y : List Nat}, x.length = y.length → lexR x y → SrtN.lexF x.reverse y.reverse = true
  | [], _, _, h => h.elim
  | _ :: _, [], h, _ => by cases h
  | a :: x, b :: y, hl, h => by
    rw [List.reverse_cons, List.reverse_cons]
    have hl : x.length = y.length := by simpa using hl
    rcases h with h | ⟨rfl, h⟩
    · exact lexF_app (by rw [List.length_reverse, List.length_reverse]; exact hl) (lexR_F hl h)
    · exact lexF_pre _ h
theorem best_first {us : Nat → List Nat} {ns P b z : List Nat} {F : List (List Nat)} {m : Nat} (B : Bst us P (some b)) (hP : ∀ x, x ∈ P ↔ x ∈ ns) (hF1 : ∀ w ∈ F, ∃ s ∈ ns, Ring us s w) (hF2 : ∀ s ∈ ns, ∀ q, Ring us s q → q ∈ F) (hm : ∀ w ∈ F, m ≤ w.length) (hz : z ∈ F) (hzm : z.length = m)
    (hfirst : ∀ y ∈ F, y.length = m → SrtN.lexF y.reverse z.reverse = false) : b = z := by
  obtain ⟨s, hs, hb⟩ := B.is b rfl
  have bF := hF2 s ((hP s).mp hs) b hb
  obtain ⟨s2, hs2, hr⟩ := hF1 z hz
  obtain ⟨b', e, hle⟩ := B.le s2 ((hP s2).mpr hs2) z hr
  cases e
  have l1 := sle_len hle
  have l2 := hm b bF
  have lb : b.length = m := by omega
  rcases hle with h | h
  · rcases h with h | ⟨_, h⟩
    · omega
    · have h1 := lexR_F (by omega) h
      rw [hfirst b bF lb] at h1
      cases h1
  · exact h
end G11
/-- names and ways as data -/
theorem dxAll_nm {K : PySem.W.Frag} {H : Hp} : ∀ l : List Nat, DxAll K H (l.map nmV) ((l.map nm).map PyData.str)
  | [] => .nil
  | _ :: l => .cons (.str _) (dxAll_nm l)
theorem nms_rp {R : List Nat} (h8 : ∀ x ∈ R, x < 8) (hl : R.length ≤ 7) : RpB 1 592 (.tuple ((R.map nm).map PyData.str)) := by
  refine (rpb_seq (k := 0) (n := 82) (m := 7) (fun d hd => ?_) (by rw [List.length_map, List.length_map]; exact hl)).2
  obtain ⟨z, hz, rfl⟩ := List.mem_map.mp hd
  obtain ⟨i, hi, rfl⟩ := List.mem_map.mp hz
  obtain ⟨a, b⟩ := nm_tx i (h8 i hi)
  exact rpb_str (m := 8) (fun c hc => of_decide_eq_true (List.all_eq_true.mp a c hc)) (by rw [str_len]; exact b)
theorem WyA.tup {H H' : Hp} (f : ∀ b xs, H b = some (.tup xs) → H' b = some (.tup xs)) : ∀ {ps : List Addr} {ws : List (List Nat)}, WyA H ps ws → WyA H' ps ws
  | _, _, .nil => .nil
  | _, _, .cons h t => .cons (f _ _ h) (WyA.tup f t)
theorem UsD.ext {c : List V → HO} (hc : ∀ xs ps, c xs ≠ .tbl ps) {H H' : Hp} {d : Addr} {ns : List Nat} {us : Nat → List Nat} (h : UsD c H d ns us) (s : LamX.ExtN H H') : UsD c H' d ns us := by
  obtain ⟨kvs, h1, h2, h3⟩ := h
  refine ⟨kvs, s _ _ h1 (fun _ z => by cases z), h2, fun n hn => ?_⟩
  obtain ⟨L, a, b⟩ := h3 n hn
  exact ⟨L, a, s _ _ b (hc _)⟩
theorem PrV.tup {W W' : Hp} (f : ∀ b xs, W b = some (.tup xs) → W' b = some (.tup xs)) {v : V} {m : Nat × List Nat} (h : PrV W v m) : PrV W' v m := by
  obtain ⟨p, q, a, b, c⟩ := h
  exact ⟨p, q, a, f _ _ b, f _ _ c⟩
/-- what stands at a turn of the law -/
structure LwS (T : List (Addr × Str)) (W : Hp) (r pd pt rr : Addr) (as : List Addr) (ts : List V) (ps : List Addr) (ms : List (Nat × List Nat)) (F : List (List Nat)) : Prop where
  t : LamX.Tabs T W
  er : W r = some (.lst (as.map V.ref))
  hA : PrA W (as.map V.ref) ms
  hU : UsD HO.tup W pd (ms.map (·.1)) (usF ms)
  ep : W pt = some (.lst ts)
  hT : TrA W ts ms
  err : W rr = some (.lst (ps.map V.ref))
  hW : WyA W ps F
theorem LwS.same {T : List (Addr × Str)} {W W' : Hp} {r pd pt rr : Addr} {as : List Addr} {ts : List V} {ps : List Addr} {ms : List (Nat × List Nat)} {F : List (List Nat)} (h : LwS T W r pd pt rr as ts ps ms F) (s : Same W W') : LwS T W' r pd pt rr as ts ps ms F :=
  ⟨h.t.ext s, s _ _ h.er, h.hA.same s, h.hU.same s, s _ _ h.ep, h.hT.same s, s _ _ h.err, h.hW.same s⟩
theorem LwS.put {T : List (Addr × Str)} {W : Hp} {r pd pt rr a : Addr} {xs : List V} {o : HO} {as : List Addr} {ts : List V} {ps : List Addr} {ms : List (Nat × List Nat)} {F : List (List Nat)} (h : LwS T W r pd pt rr as ts ps ms F) (e : W a = some (.lst xs)) (n1 : r ≠ a) (n2 : pt ≠ a) (n3 : rr ≠ a) : LwS T (upd W a o) r pd pt rr as ts ps ms F := by
  have tu : ∀ b xs, W b = some (.tup xs) → (upd W a o) b = some (.tup xs) := fun b xs q => by
    rw [upd_ne fun z => by rw [z, e] at q; cases q]
    exact q
  refine ⟨tabs_put h.t e, by rw [upd_ne n1]; exact h.er, h.hA.to fun v m k => k.tup tu, ?_, by rw [upd_ne n2]; exact h.ep, h.hT.tup tu, by rw [upd_ne n3]; exact h.err, h.hW.tup tu⟩
  obtain ⟨kvs, h1, h2, h3⟩ := h.hU
  refine ⟨kvs, by rw [upd_ne fun z => by rw [z, e] at h1; cases h1]; exact h1, h2, fun n hn => ?_⟩
  obtain ⟨L, p, q⟩ := h3 n hn
  exact ⟨L, p, tu _ _ q⟩
theorem dp_nms {K : PySem.W.Frag} {H : Hp} {a : Addr} {R : List Nat} (h : SqT K H a (R.map nmV)) : Dp K H (.ref a) (.tuple ((R.map nm).map PyData.str)) := by
  rw [← nmV_map] at h
  exact .tup h (dpAll_txt _)
theorem dx_nms {K : PySem.W.Frag} {H : Hp} {a : Addr} {R : List Nat} (h : SqT K H a (R.map nmV)) : Dx K H (.ref a) (.tuple ((R.map nm).map PyData.str)) := .tup h (dxAll_nm R)
theorem rp_one {d : PyData} {k n m : Nat} {ds : List PyData} (h : RpB k n d) (e : ∀ x ∈ ds, x = d) (hl : ds.length ≤ m) : RpB (k + 1) (m * (n + 2) + 4) (.list ds) := (rpb_seq (fun x hx => by rw [e x hx]; exact h) hl).1
theorem Dw.keep {t : Nat} {V0 H H1 : Hp} {d : Addr} (h : Dw t V0 H d) (e : Same H H1) : Dw t V0 H1 d := by
  obtain ⟨s, w, c, ws, cs, rest, turn, h1, h2, h3, ht, D⟩ := h
  exact ⟨s.trans e, w, c, ws, cs, rest, turn, h1, h2, h3, ht, D.same e⟩
theorem WyA.at {H : Hp} : ∀ {ps : List Addr} {ws : List (List Nat)} {i : Nat} {p : Addr}, WyA H ps ws → ps[i]? = some p → ∃ w, ws[i]? = some w ∧ H p = some (.tup (wayV w))
  | _, _, i, p, .nil, e => by simp at e
  | _, _, 0, p, .cons h t, e => by
    injection e with e
    subst e
    exact ⟨_, rfl, h⟩
  | _, _, i + 1, p, .cons h t, e => WyA.at t (i := i) e
section
variable {K : PySem.W.Frag} {x qual : Str} {params : Arguments} {body : List Stmt} {scope : Scope} {kws : List (Str × V)} {f : Addr} {fd : FuncData}
/-- two parameters by name, the second first -/
theorem FunD.kbindsR {a b : Str} (F : FunD K x qual params body scope [] kws f fd)
    (h : ∀ (kV doc pm : Value) (an : Option Addr) (cdv ct : Value) (u v : Value), bindArgs (PySem.W.fnOf x qual params body scope .none kV doc pm an cdv ct) ⟨[], [(b, u), (a, v)]⟩ = pure [(a, v), (b, u)]) : KBn K fd [a, b] 0 [b, a] (fun _ ws => ws.reverse) (fun _ zs => zs.reverse) := by
  obtain ⟨oc, od, dV, kV, doc, pm, an, cdv, ct, osl, rfl, lk, hcd, hD, hK⟩ := F.ex
  rcases hD with ⟨_, rfl⟩ | ⟨e, _⟩
  · refine ⟨fun s us ws X l1 l2 => ?_, fun _ r2 => r2.reverse⟩
    cases us with
    | nil =>
      match ws, l2 with
      | [u, v], _ => exact .of_eq (h kV doc pm an cdv ct u v)
    | cons a b => cases l1
  · exact absurd rfl e
end
/-! ## k11's law -/
abbrev lawQ : Str := (("law" : Str) ++ ".<locals>.") ++ "<lambda>"
structure LawF (P : Program) (w : World) (K : PySem.W.Frag) (mg : Str → Option Value) (base : Heap) (T : List (Addr × Str)) (CS CB CN CR : Addr) : Prop where
  G : NkF K mg
  tup : mg "tuple" = none
  dct : mg "dict" = none
  rng : mg "range" = none
  min : mg "min" = none
  srt : mg "sorted" = none
  rpr : mg "repr" = none
  S : SmD K
  E11 : EuF K mg CS CB CN CR
  begun : Cal P w K mg base 1 "_law_begun" ["_law_script"] (spBegun K)
  units : Cal P w K mg base 4 "_law_units" ["_law_draw"] spUnits
  trees : Cal P w K mg base 1 "_law_trees" ["_law_pairs"] spTrees
  rings : Cal P w K mg base 1 "_law_rings" ["_law_uses"] spRings
  lord : Cal P w K mg base 1 "_law_order" ["_law_uses"] spLOrd
  come : Cal P w K mg base 1 "_law_come" ["_law_uses", "_law_name"] spCome
  ord : CalR P w K mg base 5 "order_of" ["units"] (spOrd K CB CN CR)
  use : ∃ (f : Addr) (fd : FuncData), mg "users_of" = some (.ref f) ∧ PySem.W.keepIn K (.ref f) = true ∧ Binds K fd ["units", "name"] [] ∧ KBn K fd ["units", "name"] 0 ["name", "units"] (fun _ ws => ws.reverse) (fun _ zs => zs.reverse) ∧ FnOk P w K mg base (L2.CX P w) 5 f fd ["units", "name"] (spUse K CB CN)
  refr : ∃ (f : Addr) (fd : FuncData), mg "_law_refused_right" = some (.ref f) ∧ PySem.W.keepIn K (.ref f) = true ∧ Binds K fd ["_law_draw", "_law_pairs"] [] ∧ FnG P w K mg base 8 f fd ["_law_draw", "_law_pairs"] (spRefR T)
def spLaw (K : PySem.W.Frag) (T : List (Addr × Str)) : Sp := fun vs H Q _ => ∃ (a : Addr) (ns : List Int), vs = [.ref a] ∧ SqL K H a (ns.map V.int) ∧ ns.length ≤ 63 ∧ LamX.Tabs T H ∧ ∀ H', Q (.bl true) H'
section
variable {P : Program} {w : World} {K : PySem.W.Frag} {mg : Str → Option Value} {base : Heap}
theorem sc_law : FnScope ["_law_script", "_law_draw", "_law_turn", "_law_pairs", "_law_uses", "_law_trees_here", "_law_rings_here", "_law_told", "_law_error", "_law_least", "_law_ring", "_law_due", "_law_name"] ["_law_script"] (defScope s_law) := ⟨rfl, rfl, rfl, by decide +kernel, rfl, by decide +kernel, by decide +kernel⟩
theorem ok_law {f c0 PT CS CB CN CR fC : Addr} {fd fdC : FuncData} {T : List (Addr × Str)} (F : FnP K "law" s_law f fd) (hc0 : fd.code = .ref c0) (TB : LamX.TabB base mg c0 PT) (hmT : (PT, lawQ) ∈ T) (huT : ∀ p ∈ T, p.1 = PT → p.2 = lawQ) (FC : FnP K "_law_caught" s_law_caught fC fdC) (gC : mg "_law_caught" = some (.ref fC))
    (R : LawF P w K mg base T CS CB CN CR) : FnG P w K mg base 9 f fd ["_law_script"] (spLaw K T) := by
  obtain ⟨f__law_begun, fd__law_begun, g__law_begun, k__law_begun, b__law_begun, G__law_begun⟩ := R.begun
  obtain ⟨f__law_units, fd__law_units, g__law_units, k__law_units, b__law_units, G__law_units⟩ := R.units
  obtain ⟨f__law_trees, fd__law_trees, g__law_trees, k__law_trees, b__law_trees, G__law_trees⟩ := R.trees
  obtain ⟨f__law_rings, fd__law_rings, g__law_rings, k__law_rings, b__law_rings, G__law_rings⟩ := R.rings
  obtain ⟨f__law_order, fd__law_order, g__law_order, k__law_order, b__law_order, G__law_order⟩ := R.lord
  obtain ⟨f__law_come, fd__law_come, g__law_come, k__law_come, b__law_come, G__law_come⟩ := R.come
  obtain ⟨fO, fdO, gO, kO, bO, kbO, GO⟩ := R.ord
  obtain ⟨fU, fdU, gU, kU, bU, kbU, GU⟩ := R.use
  obtain ⟨fR, fdR, gR, kR, bR, GR⟩ := R.refr
  have G := R.G
  have tup := R.tup
  have m_dict := R.dct
  have rng := R.rng
  have m_min := R.min
  have m_sorted := R.srt
  have m_repr := R.rpr
  have S := R.S
  have E11 := R.E11
  have gS := E11.gS
  refine FunD.okGC F sc_law (fun vs H Q E h => ?_) (fun c A outer s H vs Q E hcode hgd hr h => ?_)
  · obtain ⟨a, ns, rfl, _⟩ := h
    rfl
  · rw [hc0] at hcode
    cases hcode
    obtain ⟨a, ns, rfl, hS, hl, hT, k⟩ := h
    have nd := sc_law.nd
    have hu := hu_of hr
    have hun : (A.deeper (PyProof.Rows.envOfC "law" (defScope s_law) s.heap.objs.size f (.ref c0))).units < cLine := Nat.lt_of_le_of_lt (Nat.le_add_right _ 64) hr.units
    apply Exists.intro
    apply And.intro
    case left =>
     apply PSs.nox
     apply pss_cons
     · exact (ps_set (i := 1) nd rfl (.inl rfl) (pe_call G__law_begun (hr.mono (by decide)) rfl g__law_begun k__law_begun b__law_begun .nil pass0 (pa_cons (pv 0) pa_nil)))
     apply pss_cons
     · apply ps_for PassesOwn.never rfl
       · exact (pi_range1 (by rfl) rng (pa_cons (pe_op op_add pe_int (pe_callB (call_min2 (by rfl)) (by rfl) m_min (by decide +kernel) (pa_cons (pe_callB call_len (by rfl) G.len PySem.boot_len (pa_cons (pv 0) pa_nil)) (pa_cons pe_int pa_nil)))) pa_nil))
       · exact (pg_name (i := 2) nd rfl (Or.inl rfl))
       · apply pss_cons
         · exact (ps_set (i := 3) nd rfl (.inl rfl) (pe_call G__law_units (hr.mono (by decide)) rfl g__law_units k__law_units b__law_units .nil pass0 (pa_cons (pv 1) pa_nil)))
         apply pss_cons
         · exact (ps_asg (pe_tup (pa_cons (pe_callTy (call_dictP rfl) (by rfl) m_dict (by decide +kernel) (pa_cons (pv 3) pa_nil)) (pa_cons (pe_call G__law_trees (hr.mono (by decide)) rfl g__law_trees k__law_trees b__law_trees .nil pass0 (pa_cons (pv 3) pa_nil)) pa_nil))) (pg_tup rfl (pgs_cons (pg_name (i := 4) nd rfl (Or.inl rfl)) (pgs_cons (pg_name (i := 5) nd rfl (Or.inr rfl)) pgs_nil))))
         apply pss_cons
         · exact (ps_asg (pe_tup (pa_cons (pe_call G__law_rings (hr.mono (by decide)) rfl g__law_rings k__law_rings b__law_rings .nil pass0 (pa_cons (pv 4) pa_nil)) (pa_cons (pe_lst pa_nil) pa_nil))) (pg_tup rfl (pgs_cons (pg_name (i := 6) nd rfl (Or.inl rfl)) (pgs_cons (pg_name (i := 7) nd rfl (Or.inr rfl)) pgs_nil))))
         apply C8.pss_cut
         · exact (ps_set (i := 8) nd rfl (.inl rfl) (pe_caught (T := T) FC gC gS rfl TB rfl hmT huT (hr.mono (show 7 ≤ 8 by decide)) (LamX.lamS_by (sc := defScope s_law) (by decide +kernel)) rfl (fun _ _ _ _ _ => rfl) (fun A outer s H E f c1 hr1 => by (show PE _ _ (tBM K "list" rAppend (tVar 7) (tCons (tCall (spOrd K CB CN CR) [] E (tCons (tVar 5) tNil)) tNil))); exact pe_bm PySem.F.plainAttrs_list PySem.F.slot_list_append PySem.F.type_list_append mt_append (pv 7) (pa_cons (pe_call GO hr1 rfl gO kO bO .nil (passes_call (takes_of rfl rfl rfl rfl) (fun _ _ _ _ h => h)) (pa_cons (pv 5) pa_nil)) pa_nil))))
         apply C8.pss_cut
         · exact (ps_if (pt_cmpR (op_eqEL hun) (pv 6) (pe_lst pa_nil) (nomark _)) (pss_one (ps_if (PW.pt (pw_or (pt_cmpR op_notN (pv 8) pe_non (nomark _)) (pw_or (pt_cmpR (op_neD hr.units) (pv 7) (pe_lst (pa_cons (pe_call G__law_order (hr.mono (by decide)) rfl g__law_order k__law_order b__law_order .nil pass0 (pa_cons (pv 4) pa_nil)) pa_nil)) (nomark _)) (pw_or1 (pt_cmpR (op_neD hr.units) (pe_callN0 GO (hr.mono (show 5 ≤ 8 by decide)) rfl gO kO kbO (passes_call LamX.takes0 (fun _ _ _ _ h => h)) (pk_cons (pe_callTy call_tuple_of (by rfl) tup (by decide +kernel) (pa_cons (pe_rev (pv 5) (po_some (pe_un un_neg pe_int))) pa_nil)) pk_nil)) (pe_ix ix_list (pv 7) pe_int (fun _ _ => rfl)) (nomark _)))))) (pss_one (ps_ret pe_bl)) pss_nil)) (pss_cons (ps_set (i := 9) nd rfl (.inr rfl) (pe_callB (cr_min (by rfl)) (by rfl) m_min (by decide +kernel) (pa_cons (pe_lc (own := [("_law_ring", 10)]) (g := gName 10) rfl nd (pi_list (pv 6)) (blkOk_by (own := [("_law_ring", 10)]) (N := ["_law_script", "_law_draw", "_law_turn", "_law_pairs", "_law_uses", "_law_trees_here", "_law_rings_here", "_law_told", "_law_error", "_law_least", "_law_ring", "_law_due", "_law_name"]) (sc := defScope s_law) (by decide +kernel)) (fun _ _ _ _ _ => (pg_name (i := 10) nd rfl (Or.inl rfl))) (fun _ _ _ _ _ => pts_nil) (fun _ _ _ _ _ => (pe_callB (call_lenK (K := K)) (by rfl) G.len PySem.boot_len (pa_cons (pv 10) pa_nil)))) pa_nil))) (pss_cons (ps_set (i := 11) nd rfl (.inl rfl) (pe_ix ix_list (pe_callB (SrtN.cr_sortedN (K := K)) (by rfl) m_sorted (by decide +kernel) (pa_cons (pe_lc (own := [("_law_ring", 10)]) (g := gName 10) rfl nd (pi_list (pv 6)) (blkOk_by (own := [("_law_ring", 10)]) (N := ["_law_script", "_law_draw", "_law_turn", "_law_pairs", "_law_uses", "_law_trees_here", "_law_rings_here", "_law_told", "_law_error", "_law_least", "_law_ring", "_law_due", "_law_name"]) (sc := defScope s_law) (by decide +kernel)) (fun _ _ _ _ _ => (pg_name (i := 10) nd rfl (Or.inl rfl))) (fun _ _ _ _ _ => pts_one (pt_cmpR op_eq (pe_callB (call_lenK (K := K)) (by rfl) G.len PySem.boot_len (pa_cons (pv 10) pa_nil)) (pv 9) (nomark _))) (fun _ _ _ _ _ => (pv 10))) pa_nil)) pe_int (fun _ _ => rfl))) (pss_one (ps_if (PW.pt (pw_or (pt_not (pt_val (pe_callB call_isiX (by rfl) G.isi (by decide +kernel) (pa_cons (pv 8) (pa_cons (pe_glob (v := .ref CR) (by rfl) E11.gR rfl) pa_nil))))) (pw_or1 (pt_cmpR op_ne (pe_callB (call_reprA hgd (Room.u101 hr) S) (by rfl) m_repr (by decide +kernel) (pa_cons (pe_exF (pv 8)) pa_nil)) (pe_callB (call_reprA hgd (Room.u101 hr) S) (by rfl) m_repr (by decide +kernel) (pa_cons (pv 11) pa_nil)) (nomark _))))) (pss_one (ps_ret pe_bl)) pss_nil)))))
         apply pss_cons
         · apply ps_lock
           apply ps_for PassesOwn.never rfl
           · exact (pi_keys (pv 4))
           · exact (pg_name (i := 12) nd rfl (Or.inl rfl))
           · apply pss_one
             exact (ps_if (pt_cmpR op_ne (pe_callB (call_reprA hgd (Room.u101 hr) S) (by rfl) m_repr (by decide +kernel) (pa_cons (pe_lst (pa_cons (pe_call GU (hr.mono (show 5 ≤ 8 by decide)) rfl gU kU bU .nil (passes_call LamX.takes0 (fun _ _ _ _ h => h)) (pa_cons (pv 5) (pa_cons (pv 12) pa_nil))) (pa_cons (pe_callN0 GU (hr.mono (show 5 ≤ 8 by decide)) rfl gU kU kbU (passes_call LamX.takes0 (fun _ _ _ _ h => h)) (pk_cons (pv 12) (pk_cons (pe_rev (pv 5) (po_some (pe_un un_neg pe_int))) pk_nil))) pa_nil))) pa_nil)) (pe_callB (call_reprA hgd (Room.u101 hr) S) (by rfl) m_repr (by decide +kernel) (pa_cons (pe_op op_rep (pe_lst (pa_cons (pe_call G__law_come (hr.mono (by decide)) rfl g__law_come k__law_come b__law_come .nil pass0 (pa_cons (pv 4) (pa_cons (pv 12) pa_nil))) pa_nil)) pe_int) pa_nil)) (nomark _)) (pss_one (ps_ret pe_bl)) pss_nil)
         apply pss_one
         exact (ps_if (pt_not (pt_val (pe_callG (E := C8.E0) GR hgd hr rfl gR kR bR .nil (pa_cons (pv 1) (pa_cons (pv 3) pa_nil))))) (pss_one (ps_ret pe_bl)) pss_nil)
     apply pss_one
     exact (ps_ret pe_bl)
    case right =>
      refine ⟨_, rfl, a, ns, rfl, hS, hl, fun H1 d D1 _ => ?_⟩
      refine ⟨_, rfl, _, _, rfl, .inl ⟨_, D1.same.seq hS, rfl⟩, _, _, rfl, ?_⟩
      obtain ⟨n, hn, n7⟩ : ∃ n : Int, (3 : Int) + (if (8 : Int) < (((ns.map V.int).length : Nat) : Int) then 8 else (((ns.map V.int).length : Nat) : Int)) = n ∧ 0 ≤ n ∧ n ≤ 11 := by
        rw [List.length_map]
        by_cases c : (8 : Int) < ((ns.length : Nat) : Int)
        · exact ⟨_, rfl, by rw [if_pos c]; decide⟩
        · exact ⟨_, rfl, by rw [if_neg c]; omega⟩
      refine ⟨_, _, rfl, rfl, n, congrArg (fun z => [V.int z]) hn, by omega, by omega, ?_⟩
      refine for_range (lo := 0) (n := n.toNat) (fun j σ H' => ∃ (V' : Hp) (v2 v3 v4 v5 v6 v7 v8 v9 v10 v11 v12 : Option V), σ = [some (.ref a), some (.ref d), v2, v3, v4, v5, v6, v7, v8, v9, v10, v11, v12] ∧ Dw (1000 * j) V' H' d ∧ LamX.Tabs T V') ⟨H, _, _, _, _, _, _, _, _, _, _, _, rfl, D1, hT⟩ ?_ ?_
      rotate_left
      · rintro σ H2 ⟨V2, v2, v3, v4, v5, v6, v7, v8, v9, v10, v11, v12, rfl, D2, _⟩
        exact k _
      rintro j σ H2 hj ⟨V2, v2, v3, v4, v5, v6, v7, v8, v9, v10, v11, v12, rfl, D2, T2⟩
      have hj : j < 11 := by omega
      refine ⟨_, rfl, 1000 * j, V2, d, rfl, D2, by show 1000 * j + 500 < 1099511627776; omega, fun H3 V3 r ys ms D3 y3 nr er hA hM => ?_⟩
      have T3 := T2.ext y3
      obtain ⟨as, kvs, rfl, hpr, hk, hv⟩ := hA.dict (K := K)
      have hNt := hM.nts
      refine ⟨_, rfl, r, as, kvs, rfl, SqL.of (D3.same _ _ er), hpr _ D3.same, fun pd hpd => ?_⟩
      rw [merge_nodup (acc := []) (by rw [List.nil_append, hk]; exact keys_nodup hM), List.nil_append]
      obtain ⟨V4, D4, y4, e4⟩ := D3.mk (o := .dK kvs) hpd
      have hU4 := hM.usD (H := V4) e4 y4 hk hv
      have er4 := y4 _ _ er
      refine ⟨_, rfl, r, _, ms, rfl, D4.same _ _ er4, (hA.same y4).same D4.same, by have := hM.len; omega, fun H5 pt ts s5 npt ept hTr => ?_⟩
      obtain ⟨V5, D5, y5, g5, t5⟩ := D4.all s5
      have ept5 : V5 pt = some (.lst ts) := g5 _ _ npt ept
      have hTr5 : TrA V5 ts ms := hTr.tup t5
      refine ⟨(show 2 ≤ sizeLine by decide), fun tp htp => ⟨tp, _, rfl, SqT.of upd_same, rfl, _, _, rfl, _, _, rfl, rfl, ?_⟩⟩
      obtain ⟨V6, D6, y6, _⟩ := D5.mk (o := .tup [.ref pd, .ref pt]) htp
      have hU6 := hU4.same (y5.trans y6)
      refine ⟨_, rfl, pd, ms.map (·.1), usF ms, rfl, hU6.same D6.same, hNt, fun H7 rr ps F s7 nrr err hW hF1 hF2 hFl => ?_⟩
      obtain ⟨V7, D7, y7, g7, t7⟩ := D6.all s7
      have err7 : V7 rr = some (.lst (ps.map V.ref)) := g7 _ _ nrr err
      have hW7 := hW.tup t7
      refine ⟨(show 0 ≤ sizeLine by decide), fun TL hTL => ⟨(show 2 ≤ sizeLine by decide), fun tq htq => ⟨tq, _, rfl, SqT.of upd_same, rfl, _, _, rfl, _, _, rfl, rfl, ?_⟩⟩⟩
      obtain ⟨V8, D8, y8, e8⟩ := D7.mk (o := .lst []) hTL
      obtain ⟨V9, D9, y9, _⟩ := D8.mk (o := .tup [.ref rr, .ref TL]) htq
      have y39 : Same V3 V9 := y4.trans (y5.trans (y6.trans (y7.trans (y8.trans y9))))
      have L9 : LwS T V9 r pd pt rr as ts ps ms F := ⟨T3.ext y39, y39 _ _ er, hA.same y39, hU6.same (y7.trans (y8.trans y9)), (y6.trans (y7.trans (y8.trans y9))) _ _ ept5, hTr5.same (y6.trans (y7.trans (y8.trans y9))), (y8.trans y9) _ _ err7, hW7.same (y8.trans y9)⟩
      have e9 := y9 _ _ e8
      have nT : V7 TL = none := D7.same.free hTL
      have n1 : r ≠ TL := ne_of_none ((y4.trans (y5.trans (y6.trans y7))) _ _ er) nT
      have n2 : pt ≠ TL := ne_of_none ((y6.trans y7) _ _ ept5) nT
      have n3 : rr ≠ TL := ne_of_none err7 nT
      generalize upd (upd H7 TL (.lst [])) tq (.tup [.ref rr, .ref TL]) = H9 at D9 ⊢
      clear D3 D4 D5 D6 D7 D8 y4 y5 y6 y7 y8 y9 e8 hW hW7 hTr hTr5 hU4 hU6 err err7 ept ept5 er4 T3 y39 hpr hk hv e4 g5 t5 g7 t7 hpd nr s5 npt nrr s7 hTL htq htp er hA nT
      have lN : ((ms.map (·.1)).map fun n => some (uOf (usF ms) n)).length = ms.length := by rw [List.length_map, List.length_map]
      have l6 := hM.len
      refine ⟨fun σ H' => ∃ (Vz : Hp) (e : V) (told : List V), σ = [some (.ref a), some (.ref d), some (.int (0 + (j : Int))), some (.ref r), some (.ref pd), some (.ref pt), some (.ref rr), some (.ref TL), some e, v9, v10, v11, v12] ∧ Dw (1000 * j + 500) Vz H' d ∧ LwS T Vz r pd pt rr as ts ps ms F ∧ Vz TL = some (.lst told) ∧
        ((e = .non ∧ ∃ (r1 : Addr) (Fo : List Nat), told = [.ref r1] ∧ Vz r1 = some (.tup (Fo.map nmV)) ∧ G11.Ord (ms.map (·.1)) (usF ms) Fo ∧ Fo.length = (ms.map (·.1)).length) ∨
         (∃ (ea dx : Addr) (v : V) (Pp : List Nat) (best : Option (List Nat)), e = .ref ea ∧ H' ea = some (ExH (.ref CR) ea (some dx)) ∧ H' dx = some (.xd [("ring", v)]) ∧ BestV H' v best ∧ G11.Bst (usF ms) Pp best ∧ (∀ x, x ∈ Pp ↔ x ∈ ms.map (·.1)) ∧ ∃ m q, G11.Ring (usF ms) m q ∧ m ∈ ms.map (·.1))), ?_, ?_⟩
      · refine ⟨L9.t.ext D9.same, fun Ha xa Ta => ?_⟩
        obtain ⟨Va, Da, xVa, vis⟩ := D9.ext xa
        have tups : ∀ b xs, V9 b = some (.tup xs) → Va b = some (.tup xs) := fun b xs e => xVa _ _ e (fun _ z => by cases z)
        have La : LwS T Va r pd pt rr as ts ps ms F := ⟨tabs_vis vis Ta, xVa _ _ L9.er (fun _ z => by cases z), L9.hA.to fun v m h => h.tup tups, L9.hU.ext (fun _ _ z => by cases z) xVa, xVa _ _ L9.ep (fun _ z => by cases z), L9.hT.tup tups, xVa _ _ L9.err (fun _ z => by cases z), L9.hW.tup tups⟩
        have eTa : Va TL = some (.lst []) := xVa _ _ e9 (fun _ z => by cases z)
        have hUt := La.hT.ut (K := K) hM
        refine ⟨_, rfl, .inl ⟨rfl, _, SqL.of (Da.same _ _ eTa)⟩, ?_⟩
        refine ⟨_, rfl, ?_⟩
        dsimp only [tNil]
        refine ⟨_, rfl, .inr ⟨pt, ts, _, rfl, .inl (Da.same _ _ La.ep), hUt.same Da.same, by omega, .inr ⟨ms.map (·.1), usF ms, rfl, hM.ne, hNt, fun Hb r1 Fo sb eb ho hl2 => ?_, fun Hb v Pp best sb hB hBst hPp hring => ?_⟩⟩⟩
        · obtain ⟨Vb, Db, yb, _, tb⟩ := Da.all sb
          have eTb := yb _ _ eTa
          refine ⟨TL, _, _, rfl, rfl, Db.same _ _ eTb, (show 0 < sizeLine by decide), _, rfl, ?_⟩
          refine ⟨upd Vb TL (.lst ([] ++ [.ref r1])), _, _, rfl, (Db.set eTb).mono (by omega), (La.same yb).put eTb n1 n2 n3, upd_same, .inl ⟨rfl, r1, Fo, rfl, ?_, ho, hl2⟩⟩
          rw [upd_ne fun z => by have q := tb _ _ eb; rw [z, eTb] at q; cases q]
          exact tb _ _ eb
        · intro H8 dx s8 e8 n8
          refine ⟨E11.xR, fun ea hea => ?_⟩
          have s89 := same_new (o := ExH (.ref CR) ea (some dx)) hea
          have ex9 : (upd H8 ea (ExH (.ref CR) ea (some dx))) ea = some (ExH (.ref CR) ea (some dx)) := upd_same
          have sA := sb.trans (s8.trans s89)
          obtain ⟨Vb, Db, yb, _, tb⟩ := Da.all sA
          exact ⟨Vb, _, _, rfl, Db.mono (by omega), La.same yb, yb _ _ eTa, .inr ⟨ea, dx, v, Pp, best, rfl, ex9, s89 _ _ e8, hB.same (s8.trans s89), hBst, hPp, hring⟩⟩
      rintro σ Hz ⟨Vz, e, told, rfl, Dz, Lz, eTz, hcase⟩
      refine ⟨fun σ H' => ∃ (Vy : Hp) (u9 u10 u11 : Option V), σ = [some (.ref a), some (.ref d), some (.int (0 + (j : Int))), some (.ref r), some (.ref pd), some (.ref pt), some (.ref rr), some (.ref TL), some e, u9, u10, u11, v12] ∧ Dw (1000 * j + 500) Vy H' d ∧ LwS T Vy r pd pt rr as ts ps ms F, ?_, ?_⟩
      · refine ⟨_, rfl, (show 0 ≤ sizeLine by decide), fun q hq => ⟨rr, q, _, rfl, rfl, SqL.of ((same_new hq) _ _ (Dz.same _ _ Lz.err)), SqL.of upd_same, _, rfl, ?_⟩⟩
        obtain ⟨Vq, Dq, yq, _⟩ := Dz.mk (o := .lst []) hq
        have Lq := Lz.same yq
        have eTq := yq _ _ eTz
        have sq := same_new (o := .lst []) hq
        generalize upd Hz q (.lst []) = Hq at Dq sq ⊢
        have hUt := Lq.hT.ut (K := K) hM
        rcases hcase with ⟨rfl, r1, Fo, rfl, e1, ho, hl2⟩ | ⟨ea, dx, v, Pp, best, rfl, ex, ed, hB, hBst, hPp, m0, q0, hr0, hm0⟩
        · have noR : ∀ m r, G11.Ring (usF ms) m r → m ∈ ms.map (·.1) → False := fun m r h1 h2 => ho.full hl2 hNt.one h1 h2
          have hps : ps = [] := by
            have hF0 : F = [] := by
              cases F with
              | nil => rfl
              | cons w F =>
                obtain ⟨s, hs, hr2⟩ := hF1 w (List.mem_cons_self ..)
                exact (noR s w hr2 hs).elim
            have h := Lz.hW.length
            rw [hF0] at h
            exact List.eq_nil_of_length_eq_zero h
          have hemp : (ps.map V.ref).isEmpty = true := by rw [hps]; rfl
          rw [hemp]
          refine iteT ?_
          refine ⟨_, rfl, rfl, _, rfl, ?_⟩
          rw [show (!decide (V.non = V.non)) = false by rw [decide_eq_true rfl]; rfl]
          refine iteF ?_
          have Fo8 : ∀ x ∈ Fo, x < 8 := fun x hx => hNt.lt x (ho.ok.2 x hx)
          have Fol : Fo.length ≤ 7 := by rw [hl2]; exact hNt.len
          have rF := nms_rp Fo8 Fol
          have rL := rp_one (m := 1) (ds := [.tuple ((Fo.map nm).map PyData.str)]) rF (fun x hx => List.mem_singleton.mp hx) (by simp)
          refine ⟨_, rfl, _, rfl, pd, ms.map (·.1), usF ms, rfl, Lq.hU.same Dq.same, hNt, noR, fun H4 r4 F4 s4 e4 ho4 hl4 => ⟨(show 1 ≤ sizeLine by decide), fun p5 hp5 => ?_⟩⟩
          have eF4 : F4 = Fo := ho4.det ho (by rw [hl4, hl2])
          subst eF4
          have s5 := same_new (o := .lst [.ref r4]) hp5
          have D4 := Dq.keep s4
          have D5 := D4.keep s5
          refine ⟨.list [.tuple ((F4.map nm).map PyData.str)], .list [.tuple ((F4.map nm).map PyData.str)], .lst (SqL.of (D5.same _ _ eTq)) (.cons (dp_nms (SqT.of (D5.same _ _ (yq _ _ e1)))) .nil), .lst (SqL.of upd_same) (.cons (dp_nms (SqT.of (s5 _ _ e4))) .nil), rL.shp (by decide), rL.shp (by decide), _, rfl, ?_⟩
          rw [SeqAt.eqv_refl _ rL.lay]
          refine iteF ?_
          generalize upd H4 p5 (.lst [.ref r4]) = H5 at D5 ⊢
          refine ⟨_, rfl, _, rfl, _, rfl, pt, ts, rfl, rfl, SqL.of (D5.same _ _ Lq.ep), fun p6 hp6 => ?_⟩
          have s6 := same_new (o := .lst ts.reverse) hp6
          have e6 : (upd H5 p6 (.lst ts.reverse)) p6 = some (.lst ts.reverse) := upd_same
          have D6 := D5.keep s6
          generalize upd H5 p6 (.lst ts.reverse) = H6 at D6 s6 e6 ⊢
          refine ⟨p6, _, rfl, .inl ⟨SqL.of e6, fun l hl7 => ?_⟩⟩
          have s7 := same_new (o := .tup ts.reverse) hl7
          have e7 : (upd H6 l (.tup ts.reverse)) l = some (.tup ts.reverse) := upd_same
          have D7 := D6.keep s7
          generalize upd H6 l (.tup ts.reverse) = H7 at D7 s7 e7 ⊢
          refine ⟨rfl, rfl, ?_⟩
          have ne2 : (ms.map (·.1)).reverse ≠ [] := fun z => hM.ne (List.reverse_eq_nil_iff.mp z)
          refine ⟨_, rfl, .inr ⟨l, ts.reverse, _, rfl, .inr e7, hUt.rev.same D7.same, by rw [List.length_reverse]; omega, .inr ⟨(ms.map (·.1)).reverse, usF ms, (List.map_reverse ..).symm, ne2, hNt.rev, fun H8 r8 F8 s8 e8 ho8 hl8 => ?_, fun H8 v8 P8 b8 _ _ _ _ ⟨m8, q8, hr8, hm8⟩ => (noR m8 q8 hr8 (List.mem_reverse.mp hm8)).elim⟩⟩⟩
          have eF8 : F8 = F4 := (ho8.same (N' := ms.map (·.1)) fun x => List.mem_reverse).det ho (by rw [hl8, List.length_reverse, hl2])
          subst eF8
          have D8 := D7.keep s8
          refine ⟨_, rfl, TL, _, _, _, rfl, rfl, SqL.of (D8.same _ _ eTq), atI_nat (j := 0) rfl, ?_⟩
          refine ⟨_, _, dp_nms (SqT.of e8), dp_nms (SqT.of (D8.same _ _ (yq _ _ e1))), rF.shp (by decide), rF.shp (by decide), _, rfl, ?_⟩
          rw [SeqAt.eqv_refl _ rF.lay]
          refine iteF ?_
          exact ⟨Vq, _, _, _, rfl, D8, Lq⟩
        · have dl := Lz.hW.length
          obtain ⟨s0, hs0P, b0⟩ : ∃ b, best = some b ∧ b ∈ F := by
            obtain ⟨b, e, _⟩ := hBst.le m0 ((hPp m0).mpr hm0) q0 hr0
            obtain ⟨s, hs, hr⟩ := hBst.is b e
            exact ⟨b, e, hF2 s ((hPp s).mp hs) b hr⟩
          subst hs0P
          have Fpos : 0 < F.length := List.length_pos_of_mem b0
          have hemp : (ps.map V.ref).isEmpty = false := by
            cases ps with
            | nil => rw [List.length_nil] at dl; omega
            | cons p ps => rfl
          rw [hemp]
          refine iteF ?_
          have w8 : ∀ w ∈ F, ∀ x ∈ w, x < 8 := fun w hw x hx => by
            obtain ⟨s, hs, hr⟩ := hF1 w hw
            exact hNt.lt x (hr.way.in_nodes hs hNt.sub x hx)
          have wpos : ∀ w ∈ F, 0 < w.length := fun w hw => by
            obtain ⟨s, hs, hr⟩ := hF1 w hw
            exact List.length_pos_iff.mpr hr.way.ne
          have w7 : ∀ w ∈ F, w.length ≤ 7 := fun w hw => by
            obtain ⟨s, hs, hr⟩ := hF1 w hw
            have := G11.sub_len hr.one (hr.way.in_nodes hs hNt.sub)
            have := hNt.len
            omega
          refine ⟨_, rfl, rr, rfl, ⟨_, SqL.of (Dq.same _ _ Lq.err)⟩, fun LD hLD => ?_⟩
          refine lc_list (K := K) (a := rr) (xs := ps.map V.ref) (fun j H' => Same Hq H' ∧ H' LD = some (.lst (((F.take j).map fun w => (w.length : Int)).map V.int))) ⟨same_new hLD, upd_same⟩ (fun j H' _ h => SqL.of (h.1 _ _ (Dq.same _ _ Lq.err))) ?_ ?_
          · rintro j y H' hy ⟨sj, eL⟩
            obtain ⟨p, hp, rfl⟩ := map_at hy
            obtain ⟨w, hw, hpw⟩ := Lq.hW.at hp
            refine ⟨rfl, yesIf ⟨_, rfl, _, _, rfl, .inr ⟨_, SqT.of (sj _ _ (Dq.same _ _ hpw)), rfl⟩, _, eL, ?_, same_sub sj hLD, ?_⟩⟩
            · rw [List.length_map, List.length_map]
              have := List.length_take_le' j F
              exact Nat.lt_of_le_of_lt (show (F.take j).length ≤ 14680064 by omega) (by decide)
            · rw [upd_same, take_snoc2 hw, List.map_append, List.map_append, wayV_len]
              rfl
          rintro H4 ⟨s4, eL⟩
          rw [List.length_map, dl, List.take_length] at eL
          refine ⟨LD, _, rfl, SqL.of eL, by rw [List.length_map]; exact Fpos, fun m hm hle => ?_⟩
          obtain ⟨wm, hwm, rfl⟩ := List.mem_map.mp hm
          have hmin : ∀ w ∈ F, wm.length ≤ w.length := fun w hw => by
            have := hle (w.length : Int) (List.mem_map.mpr ⟨w, hw, rfl⟩)
            omega
          refine ⟨_, rfl, rr, rfl, ⟨_, SqL.of (s4 _ _ (Dq.same _ _ Lq.err))⟩, fun LE hLE => ?_⟩
          have D4 := Dq.keep s4
          refine lc_list (K := K) (a := rr) (xs := ps.map V.ref) (fun j H' => Same H4 H' ∧ ∃ qs : List Addr, H' LE = some (.lst (qs.map V.ref)) ∧ WyA H' qs ((F.take j).filter fun w => decide (w.length = wm.length))) ⟨same_new hLE, [], upd_same, .nil⟩ (fun j H' _ h => SqL.of (h.1 _ _ (D4.same _ _ Lq.err))) ?_ ?_
          · rintro j y H' hy ⟨sj, qs, eL5, W5⟩
            obtain ⟨p, hp, rfl⟩ := map_at hy
            obtain ⟨w, hw, hpw⟩ := Lq.hW.at hp
            have hpw' := sj _ _ (D4.same _ _ hpw)
            have ef : ((F.take (j + 1)).filter fun w => decide (w.length = wm.length)) = ((F.take j).filter fun w => decide (w.length = wm.length)) ++ (if w.length = wm.length then [w] else []) := by
              rw [take_snoc2 hw, List.filter_append]
              congr 1
              by_cases c : w.length = wm.length <;> simp [c]
            refine ⟨rfl, _, rfl, _, _, rfl, .inr ⟨_, SqT.of hpw', rfl⟩, _, rfl, rfl, _, rfl, ?_⟩
            rw [wayV_len]
            by_cases c : w.length = wm.length
            · rw [decide_eq_true (show V.int ((w.length : Nat) : Int) = V.int ((wm.length : Nat) : Int) by rw [c])]
              rw [if_pos c] at ef
              refine iteT ⟨_, rfl, _, eL5, ?_, same_sub sj hLE, qs ++ [p], ?_, ?_⟩
              · rw [List.length_map, W5.length]
                have h9 : ((F.take j).filter fun w => decide (w.length = wm.length)).length ≤ (F.take j).length := List.length_filter_le _ _
                have := List.length_take_le' j F
                exact Nat.lt_of_le_of_lt (show ((F.take j).filter fun w => decide (w.length = wm.length)).length ≤ 14680064 by omega) (by decide)
              · rw [upd_same, List.map_append]
                rfl
              · rw [ef]
                exact (W5.app (.cons hpw' .nil)).put eL5
            · rw [decide_eq_false (show ¬ V.int ((w.length : Nat) : Int) = V.int ((wm.length : Nat) : Int) from fun z => c (by injection z with z; omega))]
              rw [if_neg c, List.append_nil] at ef
              refine iteF ⟨sj, qs, eL5, ?_⟩
              rw [ef]
              exact W5
          rintro H5 ⟨s5, qs, eL5, W5⟩
          rw [List.length_map, dl, List.take_length] at W5
          have inG : ∀ w, w ∈ F.filter (fun w => decide (w.length = wm.length)) ↔ w ∈ F ∧ w.length = wm.length := fun w => by rw [List.mem_filter]; simp
          refine ⟨LE, qs, _, wm.length, rfl, SqL.of eL5, W5, fun w hw => ⟨((inG w).mp hw).2, w8 w ((inG w).mp hw).1⟩, wpos wm hwm, ?_, fun q0 qs2 z p eq0 hz hf hp => ?_⟩
          · intro z
            have := (inG wm).mpr ⟨hwm, rfl⟩
            rw [z] at this
            exact nomatch this
          have hzF := ((inG z).mp hz).1
          have eb : s0 = z := G11.best_first hBst hPp hF1 hF2 hmin hzF ((inG z).mp hz).2 fun y hy hl => hf y ((inG y).mpr ⟨hy, hl⟩)
          subst eb
          have s6 := same_new (o := .lst (V.ref q0 :: qs2.map V.ref)) hp
          have e6 : (upd H5 p (.lst (V.ref q0 :: qs2.map V.ref))) p = some (.lst (V.ref q0 :: qs2.map V.ref)) := upd_same
          have D6 := D4.keep (s5.trans s6)
          have eq6 := s6 _ _ eq0
          have sZ := sq.trans (s4.trans (s5.trans s6))
          generalize upd H5 p (.lst (V.ref q0 :: qs2.map V.ref)) = H6 at e6 D6 eq6 sZ ⊢
          refine ⟨p, _, _, _, rfl, rfl, SqL.of e6, atI_nat (j := 0) rfl, ?_⟩
          have ex6 := sZ _ _ ex
          have ed6 := sZ _ _ ed
          have xat : ExAt H6 ea CR := .inr (.inr ⟨some dx, ex6, fun dx' e => by cases e; exact ⟨_, ed6⟩⟩)
          obtain ⟨pv0, rfl, ev0⟩ := hB
          have rB := nms_rp (R := s0.reverse) (fun x hx => w8 s0 b0 x (List.mem_reverse.mp hx)) (by rw [List.length_reverse]; exact w7 s0 b0)
          have dB := rB.ok (by decide) (by decide)
          refine ⟨_, rfl, ea, CR, .ref CR, .ref CR, true, rfl, .own CR, E11.rR, xat, E11.iR, _, rfl, iteN1 ?_⟩
          refine ⟨_, rfl, ea, CR, dx, _, .ref pv0, rfl, E11.rR, E11.nR, .inr ⟨ex6, ed6⟩, rfl, _, _, rfl, dx_nms (R := s0.reverse) (SqT.of (sZ _ _ ev0)), dB.1, dB.2.1, dB.2.2, _, rfl, _, _, rfl, dx_nms (R := s0.reverse) (SqT.of eq6), dB.1, dB.2.1, dB.2.2, rfl, _, rfl, ?_⟩
          generalize PyData.shown (.tuple ((s0.reverse.map nm).map PyData.str)) = S
          rw [show (!decide (V.str S = V.str S)) = false by rw [decide_eq_true rfl]; rfl]
          refine iteF ?_
          exact ⟨Vq, _, _, _, rfl, D6, Lq⟩
      · rintro σ Hy ⟨Vy, u9, u10, u11, rfl, Dy, Ly⟩
        obtain ⟨kv2, hk1, hk2, hk3⟩ := Ly.hU
        have hk1y := Dy.same _ _ hk1
        refine ⟨pd, _, hk1y, trivial, fun od => ?_⟩
        refine ⟨_, rfl, pd, od, rfl, .inl ⟨kv2, upd_same, ?_⟩⟩
        have tupY : ∀ H' : Hp, (∀ b o, b ≠ pd → Hy b = some o → H' b = some o) → ∀ b xs, Vy b = some (.tup xs) → H' b = some (.tup xs) := fun H' f b xs e => f b _ (fun z => by rw [z, hk1] at e; cases e) (Dy.same _ _ e)
        have ptd : pt ≠ pd := fun z => by have q := Ly.ep; rw [z, hk1] at q; cases q
        have lk : kv2.length = (ms.map (·.1)).length := by
          have := congrArg List.length hk2
          rwa [List.length_map, List.length_map] at this
        refine for_it walk_keys (fun i σ H' => ∃ v12 : Option V, σ = [some (.ref a), some (.ref d), some (.int (0 + (j : Int))), some (.ref r), some (.ref pd), some (.ref pt), some (.ref rr), some (.ref TL), some e, u9, u10, u11, v12] ∧ H' pd = some (.frz od (.dK kv2)) ∧ ∀ b o, b ≠ pd → Hy b = some o → H' b = some o) ⟨v12, rfl, upd_same, fun b o n q => by rw [upd_ne n]; exact q⟩ (fun i σ H' _ ⟨_, _, h, _⟩ => h) ?_ ?_
        · rintro i x σ Hx H' hi ⟨w12, rfl, f1, f3⟩ ⟨rfl, kk, vv, hkv, rfl⟩
          obtain ⟨n, hn, rfl⟩ : ∃ n, (ms.map (·.1))[i]? = some n ∧ kk = keyN n := by
            have := congrArg (fun l => l[i]?) hk2
            rw [List.getElem?_map, List.getElem?_map, hkv] at this
            cases e : (ms.map (·.1))[i]? with
            | none => rw [e] at this; cases this
            | some n => rw [e] at this; injection this with this; exact ⟨n, rfl, this⟩
          have nN := List.mem_of_getElem? hn
          have ep' := f3 _ _ ptd (Dy.same _ _ Ly.ep)
          have hT' := Ly.hT.tup (tupY H' f3)
          have hUt := hT'.ut (K := K) hM
          refine ⟨_, rfl, _, rfl, ?_⟩
          dsimp only [tNil]
          refine ⟨_, _, rfl, .inr ⟨pt, ts, _, rfl, .inl ep', hUt, by omega, .inr ⟨ms.map (·.1), usF ms, rfl, hM.ne, hNt, .inr ⟨n, nN, rfl, fun Ha r1 R1 s1 e1 c1 => ?_⟩⟩⟩⟩
          refine ⟨_, rfl, _, rfl, _, rfl, _, rfl, pt, ts, rfl, rfl, SqL.of (s1 _ _ ep'), fun p2 hp2 => ?_⟩
          have s2 := same_new (o := .lst ts.reverse) hp2
          have e2 : (upd Ha p2 (.lst ts.reverse)) p2 = some (.lst ts.reverse) := upd_same
          generalize upd Ha p2 (.lst ts.reverse) = Hb at s2 e2 ⊢
          have ne2 : (ms.map (·.1)).reverse ≠ [] := fun z => hM.ne (List.reverse_eq_nil_iff.mp z)
          refine ⟨rfl, rfl, ?_⟩
          refine ⟨_, _, rfl, .inr ⟨p2, ts.reverse, _, rfl, .inl e2, hUt.rev.same (s1.trans s2), by rw [List.length_reverse]; omega, .inr ⟨(ms.map (·.1)).reverse, usF ms, (List.map_reverse ..).symm, ne2, hNt.rev, .inr ⟨n, List.mem_reverse.mpr nN, rfl, fun Hc r2 R2 s3 e3 c2 => ?_⟩⟩⟩⟩
          have eR : R2 = R1 := (c2.same (N' := ms.map (·.1)) fun x => List.mem_reverse).one c1
          subst eR
          have R8 : ∀ x ∈ R2, x < 8 := fun x hx => hNt.lt x ((c1.all x).mp hx).2.1
          have R7 : R2.length ≤ 7 := by
            have := G11.sub_len (l := R2) (N := ms.map (·.1)) (c1.asc.imp fun h => Nat.ne_of_lt h) (fun x hx => ((c1.all x).mp hx).2.1)
            have := hNt.len
            omega
          have rR := nms_rp R8 R7
          have rL := rp_one (m := 2) (ds := [.tuple ((R2.map nm).map PyData.str), .tuple ((R2.map nm).map PyData.str)]) rR (by simp) (by simp)
          have dL := rL.ok (by decide) (by decide)
          refine ⟨(show 2 ≤ sizeLine by decide), fun p3 hp3 => ?_⟩
          have s4 := same_new (o := .lst [.ref r1, .ref r2]) hp3
          have e4 : (upd Hc p3 (.lst [.ref r1, .ref r2])) p3 = some (.lst [.ref r1, .ref r2]) := upd_same
          have e14 := s4 _ _ (s3 _ _ (s2 _ _ e1))
          have e34 := s4 _ _ e3
          have s14 := s1.trans (s2.trans (s3.trans s4))
          generalize upd Hc p3 (.lst [.ref r1, .ref r2]) = Hd at s14 e4 e14 e34 ⊢
          refine ⟨_, _, rfl, .lst (SqL.of e4) (.cons (dx_nms (SqT.of e14)) (.cons (dx_nms (SqT.of e34)) .nil)), dL.1, dL.2.1, dL.2.2, ?_⟩
          refine ⟨_, rfl, _, rfl, pd, ms.map (·.1), usF ms, n, rfl, ⟨od, kv2, s14 _ _ f1, hk2, fun n2 hn2 => ?_⟩, hNt, nN, fun He r3 R3 s5 _ e5 c3 => ⟨(show 1 ≤ sizeLine by decide), fun p4 hp4 => ?_⟩⟩
          · obtain ⟨L, q1, q2⟩ := hk3 n2 hn2
            exact ⟨L, q1, s14 _ _ (tupY H' f3 _ _ q2)⟩
          have eR3 : R3 = R2 := c3.one c1
          subst eR3
          refine ⟨p4, 2, _, rfl, rfl, upd_same, by decide, by decide, (show 1 * 2 ≤ sizeLine by decide), fun p5 hp5 => ?_⟩
          have s6 := (same_new (o := .lst [.ref r3]) hp4).trans (same_new (o := .lst (List.replicate (Int.toNat 2) [V.ref r3]).flatten) hp5)
          have e6 : (upd (upd He p4 (.lst [.ref r3])) p5 (.lst (List.replicate (Int.toNat 2) [V.ref r3]).flatten)) p5 = some (.lst [.ref r3, .ref r3]) := upd_same
          have e56 := s6 _ _ e5
          have s46 := s14.trans (s5.trans s6)
          generalize upd (upd He p4 (.lst [.ref r3])) p5 (.lst (List.replicate (Int.toNat 2) [V.ref r3]).flatten) = Hf at e6 e56 s46 ⊢
          refine ⟨_, _, rfl, .lst (SqL.of e6) (.cons (dx_nms (SqT.of e56)) (.cons (dx_nms (SqT.of e56)) .nil)), dL.1, dL.2.1, dL.2.2, rfl, _, rfl, ?_⟩
          generalize PyData.shown (.list [.tuple ((R3.map nm).map PyData.str), .tuple ((R3.map nm).map PyData.str)]) = S
          rw [show (!decide (V.str S = V.str S)) = false by rw [decide_eq_true rfl]; rfl]
          refine iteF ⟨_, rfl, s46 _ _ f1, fun b o n q => s46 _ _ (f3 b o n q)⟩
        · rintro σ H' ⟨w12, rfl, f1, f3⟩
          refine ⟨f1, ?_⟩
          have sb : Same Hy (upd H' pd (.dK kv2)) := fun b o q => by
            by_cases z : b = pd
            · subst z
              rw [upd_same, ← q, hk1y]
            · rw [upd_ne z]
              exact f3 b o z q
          have D7 := Dy.keep sb
          generalize upd H' pd (.dK kv2) = H7 at D7 ⊢
          refine ⟨_, rfl, _, rfl, 1000 * j + 500, Vy, d, r, _, ms, rfl, D7, by show 1000 * j + 500 + 100 < 1099511627776; omega, Ly.er, Ly.hA, hM, Ly.t, fun V' H8 D8 x8 T8 => ?_⟩
          exact ⟨_, rfl, iteF ⟨V', _, _, _, _, _, _, _, _, _, _, _, rfl, D8.mono (by omega), T8⟩⟩
end
section
abbrev LW : PySem.W.OpenLaw := PySem.Challenge.rw_stopanywhere_k11_units_in_order_or_the_s
theorem nkF {K : PySem.W.Frag} {h : Heap} {mg : Str → Option Value} (X : K.In h) (G : h.Ns mainGlobals mg) (c : SaysZ fbL fnL csL K) : NkF K mg where
  isi := He.free_ok X G (fact_f_isinstance c)
  int := He.free_ok X G (fact_f_int c)
  str := He.free_ok X G (fact_f_str c)
  len := He.free_ok X G (fact_f_len c)
  bool := He.free_ok X G (fact_f_bool c)
theorem gkF {K : PySem.W.Frag} {h : Heap} {mg : Str → Option Value} (X : K.In h) (G : h.Ns mainGlobals mg) (c : SaysZ fbL fnL csL K) : GkF K mg where
  kept := ⟨_, He.glo_ok X G (fact_g_KEPT c), tupB_ok (fact_t_KEPT c)⟩
  small := He.str_ok X G (fact_s_SMALL c)
  isi := He.free_ok X G (fact_f_isinstance c)
  str := He.free_ok X G (fact_f_str c)
  len := He.free_ok X G (fact_f_len c)
theorem code_at {K : PySem.W.Frag} {x : Str} {params : Arguments} {body : List Stmt} {scope : Scope} {fd : FuncData} (F : FunD K x x params body scope [] [] (He.ga K x) fd) : fd.code = .ref (He.cT K (x, none)).1 := by
  obtain ⟨oc, od, dV, kV, doc, pm, an, cdv, ct, osl, rfl, lk, hcd, _, _⟩ := F.ex
  obtain ⟨cx, rfl⟩ := He.codeIn_ref hcd
  exact congrArg Value.ref (He.codeOf_eq (p := (x, none)) lk rfl).symm
theorem law_at {w : World} {K : PySem.W.Frag} {h : Heap} {mg : Str → Option Value} {fa : Addr} (X : K.In h) (G : h.Ns mainGlobals mg) (c : SaysZ fbL fnL csL K) (T : TabsZ tsL K h) (hfa : mg "law" = some (.ref fa)) : LawAtZ LW w 9 63 "_law_script" mg fa h := by
  have e := hfa.symm.trans (He.glo_ok X G (fact_g_law c))
  cases e
  obtain ⟨fd, F⟩ := def_law c
  have t1 := T ("_law_refused_right", none) (List.mem_cons_self ..)
  have t2 := T ("law", none) (List.mem_cons_of_mem _ (List.mem_singleton.mpr rfl))
  have tne : (He.cT K ("law", none)).2 ≠ (He.cT K ("_law_refused_right", none)).2 := of_decide_eq_true (fact_tabs_ne c)
  have two : ∀ {Pr : Addr × Addr → Prop}, Pr (He.cT K ("_law_refused_right", none)) → Pr (He.cT K ("law", none)) → ∀ p ∈ [He.cT K ("_law_refused_right", none), He.cT K ("law", none)], Pr p := fun {Pr} a b p hp => by
    rcases List.mem_cons.mp hp with e | hp
    · rw [e]; exact a
    · rw [List.mem_singleton.mp hp]; exact b
  refine ⟨K, fd, [He.cT K ("_law_refused_right", none), He.cT K ("law", none)], spLaw K [((He.cT K ("_law_refused_right", none)).2, refQ), ((He.cT K ("law", none)).2, lawQ)], X, two t1.1 t2.1, two t1.2.1 t2.2.1, two t1.2.2 t2.2.2, fun s u => F.bindsA (ps := ["_law_script"]) (fun _ _ _ _ _ _ us hl => match us, hl with | [_], _ => rfl) s [u] rfl, fun H a ns hl hH hS => ⟨a, ns, rfl, hS, hl, ?_, fun _ => rfl⟩, fun base KX GX hB => ?_⟩
  · intro p hp
    rcases List.mem_cons.mp hp with e | hp
    · rw [e]; exact LamX.TabS.nil (hH _ (List.mem_cons_self ..))
    · rw [List.mem_singleton.mp hp]; exact LamX.TabS.nil (hH _ (List.mem_cons_of_mem _ (List.mem_singleton.mpr rfl)))
  · have TB1 := hB _ (List.mem_cons_self ..)
    have TB2 := hB _ (List.mem_cons_of_mem _ (List.mem_singleton.mpr rfl))
    have nk := nkF X G c
    have gk := gkF X G c
    have su := He.free_ok X G (fact_f_super c)
    have iU : Ix1 LW.prog w K mg base "BadUnits" (He.ga K "BadUnits") "at" := by
      obtain ⟨iC, tI, cc, cda, fi, FI⟩ := supB_ok (P := LW.prog) (mg := mg) (d := i_BadUnits) (ini_BadUnits c) (fact_sup_BadUnits c) (by decide +kernel) su
      exact ⟨He.glo_ok X G (fact_g_BadUnits c), oexB_ok (fact_o_BadUnits c), _, fi, iC, tI, ok_BadUnits (P := LW.prog) (w := w) (base := base) FI (oexB_ok (fact_o_BadUnits c)) (He.eqO_ok (fact_a_BadUnits c)), FI.binds (fact_dfl_BadUnits c) fun _ _ _ _ _ us hl => match us, hl with | [_, _], _ => rfl⟩
    have iN : Ix1 LW.prog w K mg base "NoUnit" (He.ga K "NoUnit") "name" := by
      obtain ⟨iC, tI, cc, cda, fi, FI⟩ := supB_ok (P := LW.prog) (mg := mg) (d := i_NoUnit) (ini_NoUnit c) (fact_sup_NoUnit c) (by decide +kernel) su
      exact ⟨He.glo_ok X G (fact_g_NoUnit c), oexB_ok (fact_o_NoUnit c), _, fi, iC, tI, ok_NoUnit (P := LW.prog) (w := w) (base := base) FI (oexB_ok (fact_o_NoUnit c)) (He.eqO_ok (fact_a_NoUnit c)), FI.binds (fact_dfl_NoUnit c) fun _ _ _ _ _ us hl => match us, hl with | [_, _], _ => rfl⟩
    have iR : Ix1 LW.prog w K mg base "UsesRing" (He.ga K "UsesRing") "ring" := by
      obtain ⟨iC, tI, cc, cda, fi, FI⟩ := supB_ok (P := LW.prog) (mg := mg) (d := i_UsesRing) (ini_UsesRing c) (fact_sup_UsesRing c) (by decide +kernel) su
      exact ⟨He.glo_ok X G (fact_g_UsesRing c), oexB_ok (fact_o_UsesRing c), _, fi, iC, tI, ok_UsesRing (P := LW.prog) (w := w) (base := base) FI (oexB_ok (fact_o_UsesRing c)) (He.eqO_ok (fact_a_UsesRing c)), FI.binds (fact_dfl_UsesRing c) fun _ _ _ _ _ us hl => match us, hl with | [_, _], _ => rfl⟩
    have eu : EuF K mg (He.ga K "StopError") (He.ga K "BadUnits") (He.ga K "NoUnit") (He.ga K "UsesRing") := ⟨He.glo_ok X G (fact_g_StopError c), iU.g, iN.g, iR.g, He.exm_ok (fact_x_BadUnits c), He.exm_ok (fact_x_NoUnit c), He.exm_ok (fact_x_UsesRing c), excRB_ok (fact_r_BadUnits c), excRB_ok (fact_r_NoUnit c), excRB_ok (fact_r_UsesRing c), of_decide_eq_true (fact_k_BadUnits c), of_decide_eq_true (fact_k_NoUnit c), of_decide_eq_true (fact_k_UsesRing c), He.eqO_ok (fact_a_BadUnits c), He.eqO_ok (fact_a_NoUnit c), He.eqO_ok (fact_a_UsesRing c)⟩
    obtain ⟨f_is_name, F_is_name⟩ := def_is_name c
    obtain ⟨f_is_kind, F_is_kind⟩ := def_is_kind c
    obtain ⟨f_is_int, F_is_int⟩ := def_is_int c
    obtain ⟨f_is_row_of, F_is_row_of⟩ := def_is_row_of c
    obtain ⟨f_is_tagged, F_is_tagged⟩ := def_is_tagged c
    obtain ⟨f_is_expression, F_is_expression⟩ := def_is_expression c
    obtain ⟨f_is_branch, F_is_branch⟩ := def_is_branch c
    obtain ⟨f_is_statement, F_is_statement⟩ := def_is_statement c
    obtain ⟨f_is_block, F_is_block⟩ := def_is_block c
    obtain ⟨f_is_function, F_is_function⟩ := def_is_function c
    obtain ⟨f_is_variant, F_is_variant⟩ := def_is_variant c
    obtain ⟨f_is_declaration, F_is_declaration⟩ := def_is_declaration c
    obtain ⟨f_is_unit, F_is_unit⟩ := def_is_unit c
    obtain ⟨f_need_units, F_need_units⟩ := def_need_units c
    obtain ⟨f_least_ring, F_least_ring⟩ := def_least_ring c
    obtain ⟨f_order_of, F_order_of⟩ := def_order_of c
    obtain ⟨f_users_of, F_users_of⟩ := def_users_of c
    obtain ⟨f__law_begun, F__law_begun⟩ := def__law_begun c
    obtain ⟨f__law_mixed, F__law_mixed⟩ := def__law_mixed c
    obtain ⟨f__law_take, F__law_take⟩ := def__law_take c
    obtain ⟨f__law_pick, F__law_pick⟩ := def__law_pick c
    obtain ⟨f__law_caught, F__law_caught⟩ := def__law_caught c
    obtain ⟨f__law_shuffled, F__law_shuffled⟩ := def__law_shuffled c
    obtain ⟨f__law_units, F__law_units⟩ := def__law_units c
    obtain ⟨f__law_trees, F__law_trees⟩ := def__law_trees c
    obtain ⟨f__law_rings, F__law_rings⟩ := def__law_rings c
    obtain ⟨f__law_order, F__law_order⟩ := def__law_order c
    obtain ⟨f__law_come, F__law_come⟩ := def__law_come c
    obtain ⟨f__law_refused_right, F__law_refused_right⟩ := def__law_refused_right c
    have b_is_name : Binds K f_is_name ["thing"] [] := F_is_name.bindsN fun _ _ _ _ _ _ us hl => match us, hl with | [_], _ => rfl
    have b_is_kind : Binds K f_is_kind ["thing"] [] := F_is_kind.bindsN fun _ _ _ _ _ _ us hl => match us, hl with | [_], _ => rfl
    have b_is_int : Binds K f_is_int ["thing"] [] := F_is_int.bindsN fun _ _ _ _ _ _ us hl => match us, hl with | [_], _ => rfl
    have b_is_row_of : Binds K f_is_row_of ["thing", "judge", "least", "most"] [] := F_is_row_of.bindsN fun _ _ _ _ _ _ us hl => match us, hl with | [_, _, _, _], _ => rfl
    have b_is_tagged : Binds K f_is_tagged ["thing", "sizes"] [] := F_is_tagged.bindsN fun _ _ _ _ _ _ us hl => match us, hl with | [_, _], _ => rfl
    have b_is_expression : Binds K f_is_expression ["thing"] [] := F_is_expression.bindsN fun _ _ _ _ _ _ us hl => match us, hl with | [_], _ => rfl
    have b_is_branch : Binds K f_is_branch ["thing"] [] := F_is_branch.bindsN fun _ _ _ _ _ _ us hl => match us, hl with | [_], _ => rfl
    have b_is_statement : Binds K f_is_statement ["thing"] [] := F_is_statement.bindsN fun _ _ _ _ _ _ us hl => match us, hl with | [_], _ => rfl
    have b_is_block : Binds K f_is_block ["thing"] [] := F_is_block.bindsN fun _ _ _ _ _ _ us hl => match us, hl with | [_], _ => rfl
    have b_is_function : Binds K f_is_function ["thing"] [] := F_is_function.bindsN fun _ _ _ _ _ _ us hl => match us, hl with | [_], _ => rfl
    have b_is_variant : Binds K f_is_variant ["thing"] [] := F_is_variant.bindsN fun _ _ _ _ _ _ us hl => match us, hl with | [_], _ => rfl
    have b_is_declaration : Binds K f_is_declaration ["thing"] [] := F_is_declaration.bindsN fun _ _ _ _ _ _ us hl => match us, hl with | [_], _ => rfl
    have b_is_unit : Binds K f_is_unit ["thing"] [] := F_is_unit.bindsN fun _ _ _ _ _ _ us hl => match us, hl with | [_], _ => rfl
    have b_need_units : Binds K f_need_units ["units"] [] := F_need_units.bindsN fun _ _ _ _ _ _ us hl => match us, hl with | [_], _ => rfl
    have b_least_ring : Binds K f_least_ring ["uses"] [] := F_least_ring.bindsN fun _ _ _ _ _ _ us hl => match us, hl with | [_], _ => rfl
    have b_order_of : Binds K f_order_of ["units"] [] := F_order_of.bindsN fun _ _ _ _ _ _ us hl => match us, hl with | [_], _ => rfl
    have b_users_of : Binds K f_users_of ["units", "name"] [] := F_users_of.bindsN fun _ _ _ _ _ _ us hl => match us, hl with | [_, _], _ => rfl
    have b__law_begun : Binds K f__law_begun ["_law_script"] [] := F__law_begun.bindsN fun _ _ _ _ _ _ us hl => match us, hl with | [_], _ => rfl
    have b__law_mixed : Binds K f__law_mixed ["_law_draw"] [] := F__law_mixed.bindsN fun _ _ _ _ _ _ us hl => match us, hl with | [_], _ => rfl
    have b__law_take : Binds K f__law_take ["_law_draw", "_law_many"] [] := F__law_take.bindsN fun _ _ _ _ _ _ us hl => match us, hl with | [_, _], _ => rfl
    have b__law_pick : Binds K f__law_pick ["_law_draw", "_law_some"] [] := F__law_pick.bindsN fun _ _ _ _ _ _ us hl => match us, hl with | [_, _], _ => rfl
    have b__law_caught : Binds K f__law_caught ["_law_work"] [] := F__law_caught.bindsN fun _ _ _ _ _ _ us hl => match us, hl with | [_], _ => rfl
    have b__law_shuffled : Binds K f__law_shuffled ["_law_draw", "_law_some"] [] := F__law_shuffled.bindsN fun _ _ _ _ _ _ us hl => match us, hl with | [_, _], _ => rfl
    have b__law_units : Binds K f__law_units ["_law_draw"] [] := F__law_units.bindsN fun _ _ _ _ _ _ us hl => match us, hl with | [_], _ => rfl
    have b__law_trees : Binds K f__law_trees ["_law_pairs"] [] := F__law_trees.bindsN fun _ _ _ _ _ _ us hl => match us, hl with | [_], _ => rfl
    have b__law_rings : Binds K f__law_rings ["_law_uses"] [] := F__law_rings.bindsN fun _ _ _ _ _ _ us hl => match us, hl with | [_], _ => rfl
    have b__law_order : Binds K f__law_order ["_law_uses"] [] := F__law_order.bindsN fun _ _ _ _ _ _ us hl => match us, hl with | [_], _ => rfl
    have b__law_come : Binds K f__law_come ["_law_uses", "_law_name"] [] := F__law_come.bindsN fun _ _ _ _ _ _ us hl => match us, hl with | [_, _], _ => rfl
    have b__law_refused_right : Binds K f__law_refused_right ["_law_draw", "_law_pairs"] [] := F__law_refused_right.bindsN fun _ _ _ _ _ _ us hl => match us, hl with | [_, _], _ => rfl
    have kb_order_of := FunD.kbindsA F_order_of (ps := ["units"]) fun _ _ _ _ _ _ us hl => match us, hl with | [_], _ => rfl
    have kb_users_of := FunD.kbindsA F_users_of (ps := ["units", "name"]) fun _ _ _ _ _ _ us hl => match us, hl with | [_, _], _ => rfl
    have kr_users_of := FunD.kbindsR F_users_of (a := "units") (b := "name") fun _ _ _ _ _ _ _ _ => rfl
    have mi := He.free_ok X G (fact_f_int c)
    have o__law_begun := ok_begun (P := LW.prog) (w := w) (base := base) F__law_begun mi (He.free_ok X G (fact_f_abs c))
    have o__law_take := ok_take (P := LW.prog) (w := w) (base := base) F__law_take F__law_mixed (He.glo_ok X G (fact_g__law_mixed c)) mi
    have o__law_pick := ok_pick (P := LW.prog) (w := w) (base := base) F__law_pick (He.glo_ok X G (fact_g__law_take c)) F__law_take.kp b__law_take o__law_take (He.free_ok X G (fact_f_len c))
    have o_is_name := ok_is_name (P := LW.prog) (w := w) (mg := mg) (base := base) (CX := CX0) F_is_name gk
    have o_is_row_of := ok_row (P := LW.prog) (w := w) (mg := mg) (base := base) F_is_row_of o_is_name F_is_name.kp b_is_name nk (He.free_ok X G (fact_f_tuple c))
    have o_is_tagged := ok_tag (P := LW.prog) (w := w) (mg := mg) (base := base) (CX := CX0) F_is_tagged nk (He.free_ok X G (fact_f_tuple c))
    have o_is_unit := ok_unit (P := LW.prog) (w := w) (mg := mg) (base := base) (CX := CX0) F_is_unit ⟨_, _, He.glo_ok X G (fact_g_is_tagged c), F_is_tagged.kp, b_is_tagged, o_is_tagged⟩ ⟨_, _, He.glo_ok X G (fact_g_is_row_of c), F_is_row_of.kp, b_is_row_of, o_is_row_of⟩ (He.glo_ok X G (fact_g_is_name c)) F_is_name.kp b_is_name o_is_name (He.glo_ok X G (fact_g_is_declaration c)) (He.glo_ok X G (fact_g_is_function c))
    have o_need_units := ok_needU (P := LW.prog) (w := w) (mg := mg) (base := base) F_need_units ⟨_, _, He.glo_ok X G (fact_g_is_unit c), F_is_unit.kp, b_is_unit, o_is_unit⟩ nk iU iN (He.free_ok X G (fact_f_tuple c)) (He.free_ok X G (fact_f_list c)) (He.free_ok X G (fact_f_enumerate c))
    have o_least_ring := ok_ring (P := LW.prog) (w := w) (mg := mg) (base := base) F_least_ring nk (He.free_ok X G (fact_f_min c)) (He.free_ok X G (fact_f_sorted c))
    have o_order_of := ok_order (P := LW.prog) (w := w) (mg := mg) (base := base) F_order_of ⟨_, _, He.glo_ok X G (fact_g_need_units c), F_need_units.kp, b_need_units, o_need_units⟩ ⟨_, _, He.glo_ok X G (fact_g_least_ring c), F_least_ring.kp, b_least_ring, o_least_ring⟩ nk iR (He.free_ok X G (fact_f_tuple c)) (He.free_ok X G (fact_f_list c)) (He.free_ok X G (fact_f_all c)) (He.free_ok X G (fact_f_min c))
    have o_users_of := ok_users (P := LW.prog) (w := w) (mg := mg) (base := base) F_users_of ⟨_, _, He.glo_ok X G (fact_g_need_units c), F_need_units.kp, b_need_units, o_need_units⟩ nk iN (He.free_ok X G (fact_f_tuple c)) (He.free_ok X G (fact_f_sorted c))
    have o__law_shuffled := ok_lshuf (P := LW.prog) (w := w) (mg := mg) (base := base) F__law_shuffled ⟨_, _, He.glo_ok X G (fact_g__law_take c), F__law_take.kp, b__law_take, o__law_take⟩ nk (He.free_ok X G (fact_f_list c))
    have o__law_units := ok_lunits (P := LW.prog) (w := w) (mg := mg) (base := base) F__law_units ⟨_, _, He.glo_ok X G (fact_g__law_take c), F__law_take.kp, b__law_take, o__law_take⟩ ⟨_, _, He.glo_ok X G (fact_g__law_pick c), F__law_pick.kp, b__law_pick, o__law_pick⟩ ⟨_, _, He.glo_ok X G (fact_g__law_shuffled c), F__law_shuffled.kp, b__law_shuffled, o__law_shuffled⟩ nk (He.free_ok X G (fact_f_tuple c)) (He.free_ok X G (fact_f_enumerate c))
    have o__law_trees := ok_ltrees (P := LW.prog) (w := w) (mg := mg) (base := base) (CX := CX0) F__law_trees
    have o__law_rings := ok_lrings (P := LW.prog) (w := w) (mg := mg) (base := base) F__law_rings nk (He.free_ok X G (fact_f_sorted c))
    have o__law_order := ok_lorder (P := LW.prog) (w := w) (mg := mg) (base := base) F__law_order nk (He.free_ok X G (fact_f_tuple c)) (He.free_ok X G (fact_f_sorted c))
    have o__law_come := ok_lcome (P := LW.prog) (w := w) (mg := mg) (base := base) F__law_come nk (He.free_ok X G (fact_f_tuple c)) (He.free_ok X G (fact_f_sorted c)) (He.free_ok X G (fact_f_range c))
    have hm1 : ((He.cT K ("_law_refused_right", none)).2, refQ) ∈ [((He.cT K ("_law_refused_right", none)).2, refQ), ((He.cT K ("law", none)).2, lawQ)] := List.mem_cons_self ..
    have hm2 : ((He.cT K ("law", none)).2, lawQ) ∈ [((He.cT K ("_law_refused_right", none)).2, refQ), ((He.cT K ("law", none)).2, lawQ)] := List.mem_cons_of_mem _ (List.mem_singleton.mpr rfl)
    have hu1 : ∀ p ∈ [((He.cT K ("_law_refused_right", none)).2, refQ), ((He.cT K ("law", none)).2, lawQ)], p.1 = (He.cT K ("_law_refused_right", none)).2 → p.2 = refQ := fun p hp e => by
      rcases List.mem_cons.mp hp with z | hp
      · rw [z]
      · rw [List.mem_singleton.mp hp] at e
        exact absurd e tne
    have hu2 : ∀ p ∈ [((He.cT K ("_law_refused_right", none)).2, refQ), ((He.cT K ("law", none)).2, lawQ)], p.1 = (He.cT K ("law", none)).2 → p.2 = lawQ := fun p hp e => by
      rcases List.mem_cons.mp hp with z | hp
      · rw [z] at e
        exact absurd e.symm tne
      · rw [List.mem_singleton.mp hp]
    have o__law_refused_right := ok_lref (P := LW.prog) (w := w) (mg := mg) (base := base) F__law_refused_right (code_at F__law_refused_right) TB1 hm1 hu1 eu F__law_caught (He.glo_ok X G (fact_g__law_caught c)) ⟨_, _, He.glo_ok X G (fact_g__law_take c), F__law_take.kp, b__law_take, o__law_take⟩ ⟨_, _, He.glo_ok X G (fact_g__law_pick c), F__law_pick.kp, b__law_pick, o__law_pick⟩ ⟨_, _, He.glo_ok X G (fact_g__law_trees c), F__law_trees.kp, b__law_trees, o__law_trees⟩ ⟨_, _, He.glo_ok X G (fact_g_order_of c), F_order_of.kp, b_order_of, kb_order_of, o_order_of⟩ ⟨_, _, He.glo_ok X G (fact_g_users_of c), F_users_of.kp, b_users_of, kb_users_of, o_users_of⟩ nk (He.free_ok X G (fact_f_tuple c)) (He.free_ok X G (fact_f_list c)) (He.free_ok X G (fact_f_repr c)) (smdB_ok (fact_smd c))
    exact ok_law F (code_at F) TB2 hm2 hu2 F__law_caught (He.glo_ok X G (fact_g__law_caught c)) ⟨nk, (He.free_ok X G (fact_f_tuple c)), (He.free_ok X G (fact_f_dict c)), (He.free_ok X G (fact_f_range c)), (He.free_ok X G (fact_f_min c)), (He.free_ok X G (fact_f_sorted c)), (He.free_ok X G (fact_f_repr c)), smdB_ok (fact_smd c), eu, ⟨_, _, He.glo_ok X G (fact_g__law_begun c), F__law_begun.kp, b__law_begun, o__law_begun⟩, ⟨_, _, He.glo_ok X G (fact_g__law_units c), F__law_units.kp, b__law_units, o__law_units⟩, ⟨_, _, He.glo_ok X G (fact_g__law_trees c), F__law_trees.kp, b__law_trees, o__law_trees⟩, ⟨_, _, He.glo_ok X G (fact_g__law_rings c), F__law_rings.kp, b__law_rings, o__law_rings⟩, ⟨_, _, He.glo_ok X G (fact_g__law_order c), F__law_order.kp, b__law_order, o__law_order⟩, ⟨_, _, He.glo_ok X G (fact_g__law_come c), F__law_come.kp, b__law_come, o__law_come⟩, ⟨_, _, He.glo_ok X G (fact_g_order_of c), F_order_of.kp, b_order_of, kb_order_of, o_order_of⟩, ⟨_, _, He.glo_ok X G (fact_g_users_of c), F_users_of.kp, b_users_of, kr_users_of, o_users_of⟩, ⟨_, _, He.glo_ok X G (fact_g__law_refused_right c), F__law_refused_right.kp, b__law_refused_right, o__law_refused_right⟩⟩
end
end My
open PySem PySem.W PySem.Calls PyProof.Rows
set_option maxHeartbeats 0 in
theorem PySem.Challenge.cw_stopanywhere_k11_units_in_order_or_the_s_holds : PySem.Challenge.rw_stopanywhere_k11_units_in_order_or_the_s.Holds := by
  w_on; o_law
  refine HandSHeadRun.head_any (r := OpenLaw.row PySem.Challenge.rw_stopanywhere_k11_units_in_order_or_the_s) (q := view (OpenLaw.row PySem.Challenge.rw_stopanywhere_k11_units_in_order_or_the_s).prog [42]) (H := My.hk) (ob := My.ob) (M := 60000) (loose := My.looseL) (d := HandSHeadRun.topDef (OpenLaw.row PySem.Challenge.rw_stopanywhere_k11_units_in_order_or_the_s).prog 42) (kwd := []) My.ob_eq
    (by kernel_rfl) (fun s => by kernel_rfl) My.run (by kernel_rfl) (by kernel_rfl) (by kernel_rfl) (by rfl) (by first | assumption | decide +kernel) (by decide +kernel) ⟨rfl, rfl, rfl, rfl, rfl, by decide +kernel⟩ ?hw ?hc
  case hw => w_witness2
  case hc =>
    refine My.walk_ofZ (l := PySem.Challenge.rw_stopanywhere_k11_units_in_order_or_the_s) (n := 63) (k := 9) (x := "_law_script") rfl (by decide) (by kernel_rfl) ⟨rfl, by decide, by decide⟩ ?F
    intro w mg fa h Y G hmg0
    obtain ⟨K, KX, c, T⟩ := Y
    have hmg : mg ("law" : PySem.Str) = some (.ref fa) := by
      have e : (HandSHeadRun.topDef (OpenLaw.row PySem.Challenge.rw_stopanywhere_k11_units_in_order_or_the_s).prog 42).name = ("law" : PySem.Str) := by kernel_rfl
      rw [← e]
      exact hmg0
    exact My.law_at KX G c T hmg
