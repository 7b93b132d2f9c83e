import PyProof.Rows.All
import Wide.All
import OpenK.AllK
import Wide.FinOn
import KE.KStateDown
import KE.KExcSuper
import Lean
import HandS.ForMost
import HandS.More
import HandS.WordsExc
import HandS.Defaults
import HandS.Head0
import HandS.Head1
import HandS.Head2
import HandS.HeadEnd
import HandS.HeadHook1
import HandS.HeadHook2
import HandS.HeadHook4
import HandS.IsInst
import HandS.ExcIs
import HandS.ExcInit
import HandS.ExcValue
import HandS.Strs
import HandS.Lambda
import HandS.Wide
import HandS.Walk
import HandS.Zip
import PySem.Challenge.RW_stopanywhere_k24_errors_made_and_bases
set_option Elab.async false
set_option linter.all false
set_option maxRecDepth 100000
set_option maxHeartbeats 4000000
namespace My
open PySem L2
def top (i : Nat) : Stmt := PySem.Challenge.pw_stopanywhere_k24_errors_made_and_bases.main.body.getD i (.Pass ⟨0, 0, 0, 0⟩)
abbrev s_BadText___init__ : Stmt := inClass (top 4) 0
abbrev s_BadCount___init__ : Stmt := inClass (top 9) 0
abbrev s_BadUnits___init__ : Stmt := inClass (top 11) 0
abbrev s_NoUnit___init__ : Stmt := inClass (top 12) 0
abbrev s_UsesRing___init__ : Stmt := inClass (top 13) 0
abbrev s_NoFunction___init__ : Stmt := inClass (top 17) 0
abbrev s_Faulty___init__ : Stmt := inClass (top 18) 0
abbrev s_KindClash___init__ : Stmt := inClass (top 19) 0
abbrev s_TwoNames___init__ : Stmt := inClass (top 20) 0
abbrev s_NotNow___init__ : Stmt := inClass (top 24) 0
abbrev s_BadFunctions___init__ : Stmt := inClass (top 29) 0
abbrev s_Unknown___init__ : Stmt := inClass (top 30) 0
abbrev s_BadCodes___init__ : Stmt := inClass (top 32) 0
abbrev s_Refused___init__ : Stmt := inClass (top 38) 0
abbrev s_BadRows___init__ : Stmt := inClass (top 39) 0
abbrev s_BadSpans___init__ : Stmt := inClass (top 41) 0
abbrev s_BadPairs___init__ : Stmt := inClass (top 45) 0
abbrev s_BadChanges___init__ : Stmt := inClass (top 49) 0
abbrev s_NotTold___init__ : Stmt := inClass (top 55) 0
abbrev s_BadObject___init__ : Stmt := inClass (top 57) 0
abbrev s_BadObjects___init__ : Stmt := inClass (top 58) 0
abbrev s_TwoUnits___init__ : Stmt := inClass (top 59) 0
abbrev s_Missing___init__ : Stmt := inClass (top 62) 0
abbrev s_OtherFace___init__ : Stmt := inClass (top 63) 0
abbrev s_BadBits___init__ : Stmt := inClass (top 66) 0
abbrev s_BadInstruction___init__ : Stmt := inClass (top 67) 0
abbrev s_law_begun : Stmt := top 75
abbrev s_law_mixed : Stmt := top 76
abbrev s_law_take : Stmt := top 77
abbrev s_law_pick : Stmt := top 78
abbrev s_law_plain_errors : Stmt := top 79
abbrev s_law_told_errors : Stmt := top 80
abbrev s_law_classes : Stmt := top 81
abbrev s_law : Stmt := top 82

/-! ## the visible heap -/
/-- from the visible H0 (of H) to the visible H0' (of H') -/
structure Vs (H0 H H0' H' : Hp) : Prop where
  grow : Same H0 H0'
  sub : Same H0' H'
  old : ∀ b o, H0' b = some o → H0 b = some o ∨ H b = none
theorem Vs.refl {H0 H : Hp} (s : Same H0 H) : Vs H0 H H0 H := ⟨Same.refl _, s, fun _ _ e => .inl e⟩
theorem free_mono {H0 H : Hp} (s : Same H0 H) {p : Addr} (h : H p = none) : H0 p = none := s.free h
theorem same_upd {H0 H : Hp} (s : Same H0 H) (p : Addr) (o : HO) : Same (upd H0 p o) (upd H p o) := fun b u e => by
  by_cases hb : b = p
  · rw [hb, upd_same] at e ⊢; exact e
  · rw [upd_ne hb] at e ⊢; exact s b u e
theorem same_new {H : Hp} {p : Addr} {o : HO} (h : H p = none) : Same H (upd H p o) := fun b u e => by
  rw [upd_ne (ne_of_none e h)]; exact e
theorem same_sub {H0 H : Hp} (s : Same H0 H) {p : Addr} {o : HO} (h : H0 p = none) : Same H0 (upd H p o) := fun b u e => by
  rw [upd_ne (ne_of_none e h)]; exact s b u e

/-! ## draws -/
def kWide : Key := Sum.inr "wide"
def kCells : Key := Sum.inr "cells"
def kRest : Key := Sum.inr "rest"
def kTurn : Key := Sum.inr "turn"
def drK (w c : Addr) (rest turn : Int) : List (Key × V) := [(kWide, .ref w), (kCells, .ref c), (kRest, .int rest), (kTurn, .int turn)]
theorem ne_cw : ¬ kCells = kWide := by unfold kCells kWide; decide +kernel
theorem ne_rw : ¬ kRest = kWide := by unfold kRest kWide; decide +kernel
theorem ne_tw : ¬ kTurn = kWide := by unfold kTurn kWide; decide +kernel
theorem ne_rc : ¬ kRest = kCells := by unfold kRest kCells; decide +kernel
theorem ne_tc : ¬ kTurn = kCells := by unfold kTurn kCells; decide +kernel
theorem ne_tr : ¬ kTurn = kRest := by unfold kTurn kRest; decide +kernel
theorem dr_wide (w c : Addr) (r t : Int) : valV (drK w c r t) kWide = some (.ref w) := valV_pos rfl
theorem dr_cells (w c : Addr) (r t : Int) : valV (drK w c r t) kCells = some (.ref c) := by
  unfold drK; rw [valV_neg (Ne.symm ne_cw)]; exact valV_pos rfl
theorem dr_rest (w c : Addr) (r t : Int) : valV (drK w c r t) kRest = some (.int r) := by
  unfold drK; rw [valV_neg (Ne.symm ne_rw), valV_neg (Ne.symm ne_rc)]; exact valV_pos rfl
theorem dr_turn (w c : Addr) (r t : Int) : valV (drK w c r t) kTurn = some (.int t) := by
  unfold drK; rw [valV_neg (Ne.symm ne_tw), valV_neg (Ne.symm ne_tc), valV_neg (Ne.symm ne_tr)]; exact valV_pos rfl
theorem dr_putRest (w c : Addr) (r t x : Int) : putK (drK w c r t) kRest (.int x) = drK w c x t := by
  have e1 : ((drK w c r t).any fun kv => decide (kv.1 = kRest)) = true := by rw [valV_any, dr_rest]; rfl
  unfold putK
  rw [if_pos e1]
  unfold drK
  simp only [List.map_cons, List.map_nil]
  rw [if_neg (Ne.symm ne_rw), if_neg (Ne.symm ne_rc), if_pos True.intro, if_neg ne_tr]
theorem dr_putTurn (w c : Addr) (r t x : Int) : putK (drK w c r t) kTurn (.int x) = drK w c r x := by
  have e1 : ((drK w c r t).any fun kv => decide (kv.1 = kTurn)) = true := by rw [valV_any, dr_turn]; rfl
  unfold putK
  rw [if_pos e1]
  unfold drK
  simp only [List.map_cons, List.map_nil]
  rw [if_neg (Ne.symm ne_tw), if_neg (Ne.symm ne_tc), if_neg (Ne.symm ne_tr), if_pos True.intro]
theorem dr_made (w c : Addr) (r t : Int) : mergeK [] (drK w c r t) = drK w c r t := by
  have a1 : putK [] kWide (.ref w) = [(kWide, .ref w)] := putK_new _ valV_nil
  have a2 : putK [(kWide, .ref w)] kCells (.ref c) = [(kWide, .ref w), (kCells, .ref c)] := putK_new _ (by rw [valV_neg (Ne.symm ne_cw)]; exact valV_nil)
  have a3 : putK [(kWide, .ref w), (kCells, .ref c)] kRest (.int r) = [(kWide, .ref w), (kCells, .ref c), (kRest, .int r)] := putK_new _ (by rw [valV_neg (Ne.symm ne_rw), valV_neg (Ne.symm ne_rc)]; exact valV_nil)
  have a4 : putK [(kWide, .ref w), (kCells, .ref c), (kRest, .int r)] kTurn (.int t) = drK w c r t := putK_new _ (by rw [valV_neg (Ne.symm ne_tw), valV_neg (Ne.symm ne_tc), valV_neg (Ne.symm ne_tr)]; exact valV_nil)
  show putK (putK (putK (putK [] kWide (.ref w)) kCells (.ref c)) kRest (.int r)) kTurn (.int t) = drK w c r t
  rw [a1, a2, a3, a4]
/-- what the drawing dict at d holds, with its lists at w and c -/
structure DrD (H : Hp) (d w c : Addr) (ws cs : List Int) (rest turn : Int) : Prop where
  hd : H d = some (.dK (drK w c rest turn))
  hw : H w = some (.lst (ws.map V.int))
  hc : H c = some (.lst (cs.map V.int))
  wc : w ≠ c
  wl : ws.length ≤ 63
  wn : ∀ x ∈ ws, 0 ≤ x
  cl : cs.length ≤ 63
  rn : 0 ≤ rest
  tn : 0 ≤ turn
/-- H0 is seen of H, the drawing dict at d is not -/
def Dw (t : Nat) (H0 H : Hp) (d : Addr) : Prop := Same H0 H ∧ ∃ (w c : Addr) (ws cs : List Int) (rest turn : Int), H0 d = none ∧ H0 w = none ∧ H0 c = none ∧ turn ≤ t ∧ DrD H d w c ws cs rest turn
theorem Dw.same {t : Nat} {H0 H : Hp} {d : Addr} (h : Dw t H0 H d) : Same H0 H := h.1
theorem Dw.mono {t t' : Nat} {H0 H : Hp} {d : Addr} (h : Dw t H0 H d) (l : t ≤ t') : Dw t' H0 H d := by
  obtain ⟨s, w, c, ws, cs, rest, turn, h1, h2, h3, ht, D⟩ := h
  exact ⟨s, w, c, ws, cs, rest, turn, h1, h2, h3, by omega, D⟩
theorem DrD.updo {H : Hp} {d w c p : Addr} {o : HO} {ws cs : List Int} {rest turn : Int} (h : DrD H d w c ws cs rest turn) (n1 : p ≠ d) (n2 : p ≠ w) (n3 : p ≠ c) : DrD (upd H p o) d w c ws cs rest turn :=
  ⟨by rw [upd_ne (Ne.symm n1)]; exact h.hd, by rw [upd_ne (Ne.symm n2)]; exact h.hw, by rw [upd_ne (Ne.symm n3)]; exact h.hc, h.wc, h.wl, h.wn, h.cl, h.rn, h.tn⟩
theorem DrD.same {H H' : Hp} {d w c : Addr} {ws cs : List Int} {rest turn : Int} (h : DrD H d w c ws cs rest turn) (s : Same H H') : DrD H' d w c ws cs rest turn :=
  ⟨s _ _ h.hd, s _ _ h.hw, s _ _ h.hc, h.wc, h.wl, h.wn, h.cl, h.rn, h.tn⟩
/-- a new object -/
theorem Dw.new {t : Nat} {H0 H : Hp} {d p : Addr} {o : HO} (h : Dw t H0 H d) (hp : H p = none) : Dw t (upd H0 p o) (upd H p o) d := by
  obtain ⟨s, w, c, ws, cs, rest, turn, h1, h2, h3, ht, D⟩ := h
  have n1 : d ≠ p := ne_of_none D.hd hp
  have n2 : w ≠ p := ne_of_none D.hw hp
  have n3 : c ≠ p := ne_of_none D.hc hp
  exact ⟨same_upd s p o, w, c, ws, cs, rest, turn, by rw [upd_ne n1]; exact h1, by rw [upd_ne n2]; exact h2, by rw [upd_ne n3]; exact h3, ht, D.updo n1.symm n2.symm n3.symm⟩
/-- an object that is seen is changed -/
theorem Dw.set {t : Nat} {H0 H : Hp} {d p : Addr} {o o' : HO} (h : Dw t H0 H d) (hp : H0 p = some o) : Dw t (upd H0 p o') (upd H p o') d := by
  obtain ⟨s, w, c, ws, cs, rest, turn, h1, h2, h3, ht, D⟩ := h
  have n1 : p ≠ d := ne_of_none hp h1
  have n2 : p ≠ w := ne_of_none hp h2
  have n3 : p ≠ c := ne_of_none hp h3
  exact ⟨same_upd s p o', w, c, ws, cs, rest, turn, by rw [upd_ne n1.symm]; exact h1, by rw [upd_ne n2.symm]; exact h2, by rw [upd_ne n3.symm]; exact h3, ht, D.updo n1 n2 n3⟩
/-- behind what only adds -/
theorem Dw.go {t : Nat} {H0 H H0' H' : Hp} {d : Addr} (h : Dw t H0 H d) (v : Vs H0 H H0' H') (s : Same H H') : Dw t H0' H' d := by
  obtain ⟨_, w, c, ws, cs, rest, turn, h1, h2, h3, ht, D⟩ := h
  have f : ∀ {b : Addr} {o : HO}, H0 b = none → H b = some o → H0' b = none := fun {b o} e e2 => by
    cases q : H0' b with
    | none => rfl
    | some u =>
      rcases v.old b u q with z | z
      · rw [e] at z; cases z
      · rw [e2] at z; cases z
  exact ⟨v.sub, w, c, ws, cs, rest, turn, f h1 D.hd, f h2 D.hw, f h3 D.hc, ht, D.same s⟩
/-- less is seen -/
theorem Dw.less {t : Nat} {H0 H1 H : Hp} {d : Addr} (h : Dw t H0 H d) (s : Same H1 H0) : Dw t H1 H d := by
  obtain ⟨s0, w, c, ws, cs, rest, turn, h1, h2, h3, ht, D⟩ := h
  exact ⟨s.trans s0, w, c, ws, cs, rest, turn, s.free h1, s.free h2, s.free h3, ht, D⟩

/-- how many draws at most -/
abbrev T40 : Nat := 1099511627776
theorem dget_wide {H : Hp} {d w c : Addr} {r t : Int} (h : H d = some (.dK (drK w c r t))) : DGet H d (.str "wide") (some (.ref w)) := by
  have := DGet.k (k := kWide) h
  rw [dr_wide] at this
  exact this
theorem dget_cells {H : Hp} {d w c : Addr} {r t : Int} (h : H d = some (.dK (drK w c r t))) : DGet H d (.str "cells") (some (.ref c)) := by
  have := DGet.k (k := kCells) h
  rw [dr_cells] at this
  exact this
theorem dget_rest {H : Hp} {d w c : Addr} {r t : Int} (h : H d = some (.dK (drK w c r t))) : DGet H d (.str "rest") (some (.int r)) := by
  have := DGet.k (k := kRest) h
  rw [dr_rest] at this
  exact this
theorem dget_turn {H : Hp} {d w c : Addr} {r t : Int} (h : H d = some (.dK (drK w c r t))) : DGet H d (.str "turn") (some (.int t)) := by
  have := DGet.k (k := kTurn) h
  rw [dr_turn] at this
  exact this
theorem dput_rest {H : Hp} {d w c : Addr} {r t : Int} (x : Int) (h : H d = some (.dK (drK w c r t))) : DPut H d (.str "rest") (.int x) (upd H d (.dK (drK w c x t))) := by
  have := DPut.k (k := kRest) (v := .int x) h (by rw [sizeLine_eq]; exact (by decide : 4 < 16777216))
  rw [dr_putRest] at this
  exact this
theorem dput_turn {H : Hp} {d w c : Addr} {r t : Int} (x : Int) (h : H d = some (.dK (drK w c r t))) : DPut H d (.str "turn") (.int x) (upd H d (.dK (drK w c r x))) := by
  have := DPut.k (k := kTurn) (v := .int x) h (by rw [sizeLine_eq]; exact (by decide : 4 < 16777216))
  rw [dr_putTurn] at this
  exact this
theorem DrD.ne_dw {H : Hp} {d w c : Addr} {ws cs : List Int} {rest turn : Int} (h : DrD H d w c ws cs rest turn) : d ≠ w := ne_of h.hd h.hw (by intro z; cases z)
theorem DrD.ne_dc {H : Hp} {d w c : Addr} {ws cs : List Int} {rest turn : Int} (h : DrD H d w c ws cs rest turn) : d ≠ c := ne_of h.hd h.hc (by intro z; cases z)
theorem DrD.setD {H : Hp} {d w c : Addr} {ws cs : List Int} {rest turn r2 t2 : Int} (h : DrD H d w c ws cs rest turn) (h1 : 0 ≤ r2) (h2 : 0 ≤ t2) : DrD (upd H d (.dK (drK w c r2 t2))) d w c ws cs r2 t2 :=
  ⟨upd_same, by rw [upd_ne h.ne_dw.symm]; exact h.hw, by rw [upd_ne h.ne_dc.symm]; exact h.hc, h.wc, h.wl, h.wn, h.cl, h1, h2⟩
def spBegun (K : PySem.W.Frag) : Sp := fun vs H Q _ => ∃ (a : Addr) (ns : List Int), vs = [.ref a] ∧ SqL K H a (ns.map V.int) ∧ ns.length ≤ 63 ∧ ∀ (H' : Hp) (d : Addr), Dw 0 H H' d → H d = none → Q (.ref d) H'
def spMixed : Sp := fun vs H Q _ => ∃ (d w c : Addr) (ws cs : List Int) (rest turn : Int), vs = [.ref d] ∧ turn < T40 ∧ DrD H d w c ws cs rest turn ∧
  ∀ (n : Int) (H' : Hp), 0 ≤ n → DrD H' d w c ws cs rest (turn + 1) → (∀ b o, H b = some o → b ≠ d → H' b = some o) → Q (.int n) H'
def spTake : Sp := fun vs H Q _ => ∃ (t : Nat) (H0 : Hp) (d : Addr) (n : Int), vs = [.ref d, .int n] ∧ Dw t H0 H d ∧ t < T40 ∧ 0 < n ∧ n < 1152921504606846976 ∧
  ∀ (k : Int) (H' : Hp), 0 ≤ k → k < n → Dw (t + 1) H0 H' d → Q (.int k) H'
/-- what _law_pick picks from -/
inductive SomeV (K : PySem.W.Frag) (H : Hp) : V → List V → Prop where
  | lst {a : Addr} {xs : List V} (h : SqL K H a xs) : SomeV K H (.ref a) xs
  | tup {a : Addr} {xs : List V} (h : SqT K H a xs) : SomeV K H (.ref a) xs
  | str {z : Str} (h : z.length ≤ 100000) : SomeV K H (.str z) (z.cps.toList.map fun c => V.str ⟨#[c]⟩)
def spPick (K : PySem.W.Frag) : Sp := fun vs H Q _ => ∃ (t : Nat) (H0 : Hp) (d : Addr) (x : V) (xs : List V), vs = [.ref d, x] ∧ Dw t H0 H d ∧ t < T40 ∧ SomeV K H0 x xs ∧ 0 < xs.length ∧ xs.length < 100000 ∧
  ∀ (v : V) (H' : Hp), v ∈ xs → Dw (t + 1) H0 H' d → Q v H'
/-! ## own exceptions whose __init__ begins with super().__init__(text) -/
theorem lookup_app {α : Type} {x : Str} : ∀ {l m : List (Str × α)}, (l ++ m).lookup x = match l.lookup x with | some v => some v | none => m.lookup x
  | [], m => rfl
  | (y, v) :: l, m => by
    show (match x == y with | true => some v | false => (l ++ m).lookup x) = match (match x == y with | true => some v | false => l.lookup x) with | some v => some v | none => m.lookup x
    cases (x == y) with
    | true => rfl
    | false => exact lookup_app
theorem lookup_out {α : Type} {x : Str} : ∀ {l : List (Str × α)}, (∀ v, (x, v) ∉ l) → l.lookup x = none
  | [], _ => rfl
  | (y, v) :: l, h => by
    have e : (x == y) = false := by
      apply Bool.eq_false_iff.mpr
      intro q
      exact h v (by rw [eq_of_beq q]; exact List.mem_cons_self ..)
    show (match x == y with | true => some v | false => l.lookup x) = none
    rw [e]
    exact lookup_out fun w hw => h w (List.mem_cons_of_mem _ hw)
theorem rev_lookup {x : Str} {u : Value} : ∀ {ps : List Str} {us : List Value} {i : Nat}, ps.Nodup → ps[i]? = some x → us[i]? = some u → (ps.zip us).reverse.lookup x = some u
  | [], _, _, _, h, _ => by simp at h
  | _ :: _, [], _, _, _, h => by simp at h
  | p :: ps, v :: us, 0, nd, h1, h2 => by
    simp at h1 h2
    subst h1 h2
    show ((p, v) :: ps.zip us).reverse.lookup p = some v
    rw [List.reverse_cons, lookup_app, lookup_out]
    · show (match p == p with | true => some v | false => _) = some v
      rw [beq_self_eq_true]
    · intro w hw
      exact (List.nodup_cons.mp nd).1 (List.of_mem_zip (List.mem_reverse.mp hw)).1
  | p :: ps, v :: us, i + 1, nd, h1, h2 => by
    show ((p, v) :: ps.zip us).reverse.lookup x = some u
    rw [List.reverse_cons, lookup_app, rev_lookup (i := i) (List.nodup_cons.mp nd).2 (by simpa using h1) (by simpa using h2)]

/-- the context of such an __init__ behind its first statement -/
abbrev supEnv (qual : Str) (scope : Scope) (L f : Addr) (cd : Value) (cc : Addr) : Env := PySem.W.ksEnv qual scope L f cd cc
def cxS (CX : CXT) (P : Program) (w : World) (K : PySem.W.Frag) (mg : Str → Option Value) (base : Heap) (N : List Str) (qual : Str) (scope : Scope) (f : Addr) (cd : Value) (cc : Addr) (A : Around) (outer : List Env) (s : Shared) (H : Hp) (E : XK) : Cx where
  prog := P
  w := w
  K := K
  mg := mg
  base := base
  A := A.deeper (supEnv qual scope s.heap.objs.size f cd cc)
  N := N
  s_0 := s
  H_0 := H
  env := supEnv qual scope s.heap.objs.size f cd cc
  outer := outer
  stack := supEnv qual scope s.heap.objs.size f cd cc :: outer
  ex := []
  calm := true
  fn := fun _ => false
  pn := []
  xe := fun e s' => wpAny (model P w) (A.deeper (supEnv qual scope s.heap.objs.size f cd cc)) (leaving (supEnv qual scope s.heap.objs.size f cd cc) e) (fun _ s'' => CX outer H s E e s'') (fun e' s'' => CX outer H s E e' s'') s'
structure ScopeS (N : List Str) (sc : Scope) : Prop where
  kind : sc.kind = .function
  co : sc.isCoroutine = false
  gen : sc.isGenerator = false
  nd : N.Nodup
  par : ∀ x ∈ N, sc.names.lookup x = some .local
  free : ∀ y ∈ sc.names, y.2 ≠ .cell ∧ (y.2 = .free → y.1 = "__class__")
  cls : sc.names.lookup ("__class__" : Str) = some .free
  sup : sc.names.lookup ("super" : Str) = some .globalImplicit
section
variable {P : Program} {w : World} {K : PySem.W.Frag} {mg : Str → Option Value} {base : Heap}
theorem invS_start {CX : CXT} {N : List Str} {qual : Str} {scope : Scope} {f cc : Addr} {cd : Value} {A : Around} {outer : List Env} {s : Shared} {H : Hp} {E : XK} {us : List Value} {vs : List V} {h0 : Heap} {tk : Nat} {oc : Obj} {cv : Option Value}
    (S : ScopeS N scope) (hd : A.handled = none) (e0 : Env0 P w K mg base A outer s H) (hl : vs.length = N.length) (r : Vals vs us) (hcc : base.get? cc = some oc) (hcd : oc.data = .cell cv)
    (hns : h0.Ns s.heap.objs.size fun x => (N.zip us).reverse.lookup x) (hk : ∀ b o, s.heap.get? b = some o → h0.get? b = some o) :
    Inv (cxS CX P w K mg base N qual scope f cd cc A outer s H E) [] (vs.map some) H { s with heap := h0, toks := tk } := by
  have noA : ∀ b : Addr, b ∉ (cxS CX P w K mg base N qual scope f cd cc A outer s H E).ex := fun b z => absurd (show b ∈ ([] : List Addr) from z) (by simp)
  have one : ∀ {y : Str} {c : Addr}, List.lookup y [(("__class__" : Str), cc)] = some c → y = "__class__" ∧ c = cc := fun {y c} h => by
    have h2 : (match y == ("__class__" : Str) with | true => some cc | false => none) = some c := h
    cases q : (y == ("__class__" : Str)) with
    | true =>
      rw [q] at h2
      exact ⟨eq_of_beq q, (Option.some.inj h2).symm⟩
    | false =>
      rw [q] at h2
      cases h2
  have has : List.lookup ("__class__" : Str) [(("__class__" : Str), cc)] = some cc := by
    show (match ("__class__" : Str) == ("__class__" : Str) with | true => some cc | false => none) = some cc
    rw [beq_self_eq_true]
  refine ⟨⟨e0.mod, S.kind, rfl, rfl, Nat.le_refl _, fun y z c h1 h2 => ?_, fun y hy => ?_, fun y c z _ => ?_, fun _ => hd, Around.frames_deeper e0.frames, .inr ⟨rfl, rfl⟩, fun b z => absurd z (noA b), e0.bs, e0.bsz, fun b _ _ => noA b, fun b z => absurd z (noA b), e0.funs, e0.frf⟩,
    rfl, e0.bare, Un.kept hk, ⟨_, hns, fun i y v h1 h2 h3 => ?_⟩, fun y c h => ?_, e0.hok.fresh (Nat.le_refl _), fun y c h => ?_, fun p hp => absurd (show p ∈ ([] : List (Addr × Obj)) from hp) (by simp), e0.hok.kept hk, ?_⟩
  · rw [(one h1).1, (one h2).1]
  · have hy : scope.names.lookup y = some .cell ∨ scope.names.lookup y = some .free := hy
    rcases hy with hy | hy
    · exact absurd rfl (S.free _ (PySem.mem_of_lookup hy)).1
    · have e : y = "__class__" := (S.free _ (PySem.mem_of_lookup hy)).2 rfl
      exact ⟨cc, by rw [e]; exact has⟩
  · have z : false = true := z
    cases z
  · have h1 : N[i]? = some y := h1
    rw [List.getElem?_map] at h2
    cases e : vs[i]? with
    | none => rw [e] at h2; cases h2
    | some a =>
      rw [e] at h2
      cases h2
      obtain ⟨u, hu, rv⟩ := r.get e
      exact ⟨u, rv, .inl ⟨S.par y (List.mem_of_getElem? h1), rev_lookup S.nd h1 hu⟩⟩
  · rw [(one h).2]
    exact ⟨cv, oc, hk _ _ (e0.bs _ _ hcc).1, hcd⟩
  · rw [(one h).2]
    exact (e0.bs _ _ hcc).2
  · show (vs.map some).length = N.length
    rw [List.length_map, hl]

/-- the written part about such a class and its __init__ -/
structure SupF (P : Program) (K : PySem.W.Frag) (mg : Str → Option Value) (C f cc cda : Addr) (qual : Str) (params : Arguments) (body : List Stmt) (scope : Scope) (fd : FuncData) : Prop where
  ex : ∃ (oc : Value) (od : Option Addr) (dV kV doc pm ct : Value) (an : Option Addr) (osl : Array (Option Value)),
    fd = PySem.W.ksFn "__init__" qual params body scope dV kV doc pm an (.ref cda) ct cc ∧ K.lookup f = some ⟨oc, od, .func fd, osl⟩
  cd : PySem.W.codeIn K (.ref cda) qual = true
  co : ∃ (oc : Obj) (vs : Array Value) (file : Str) (tf : Tok), K.lookup cda = some oc ∧ oc.data = .fields vs ∧ vs[2]? = some (.str file tf) ∧ ((P.main.file : Str) == file) = true
  cell : ∃ oc : Obj, K.lookup cc = some oc ∧ oc.data = .cell (some (.ref C))
  top : (P.main.scope.names.lookup ("super" : Str)).isSome = false
  sub : PySem.W.mroIn K C (.ref C) = some true
  opq : PySem.W.nsIn K cStatics "thirdparty.any" = some none
  al : ∃ cd, PySem.W.clsIn K C = some cd ∧ PySem.W.alongIn K "__init__" ((cd.mro.dropWhile (· != .ref C)).drop 1) = some (some (.builtin "ValueError.__init__"))
  ve : PySem.W.subIn K (.ref C) (.type "ValueError") = some true
  su : mg "super" = none
/-- the first statement -/
abbrev supCall (p0 p1 p2 p3 p4 : Pos) (txt : Str) (kd : Nat) : Expr := .Call (.Attribute (.Call (.Name "super" p0) [] [] p1) "__init__" p2) [.Constant (.str txt) kd p3] [] p4
/-- what the evaluator's own text says there, by rfl at a written scope -/
structure SupE (qual : Str) (scope : Scope) (p0 p1 p2 p3 p4 p5 : Pos) (txt : Str) (kd : Nat) : Prop where
  hi : ∀ L f cd cc, interactive (supEnv qual scope L f cd cc) = false
  hs : ∀ L f cd cc, swapsWith (supCall p0 p1 p2 p3 p4 txt kd) none p5.line (supEnv qual scope L f cd cc) = pure false
  he : ∃ pl : Sem Bool, ∀ L f cd cc, eval (supCall p0 p1 p2 p3 p4 txt kd) (supEnv qual scope L f cd cc) = (do
      let ov ← attributeBase (.Call (.Name "super" p0) [] [] p1) "__init__" (supEnv qual scope L f cd cc) (eval (.Call (.Name "super" p0) [] [] p1) (supEnv qual scope L f cd cc))
      standAt p2.atName
      let (g, first) ← holding [ov] (getMethod ov "__init__" pl)
      callWith p4 g first (backTo p4 (starEach [.Constant (.str txt) kd p3] (supEnv qual scope L f cd cc))) [])
theorem super_init {CX : CXT} {N : List Str} {qual : Str} {params : Arguments} {body : List Stmt} {scope : Scope} {C f cc cda e : Addr} {fd : FuncData} {A : Around} {outer : List Env} {s : Shared} {H : Hp} {E : XK} {s0 : Shared} {H0 : Hp} {σ : St} {p0 p1 p2 p3 p4 p5 : Pos} {txt : Str} {kd : Nat} {ar : Arg}
    (F : SupF P K mg C f cc cda qual params body scope fd) (T : OexC K C) (S : ScopeS N scope) (SE : SupE qual scope p0 p1 p2 p3 p4 p5 txt kd) (hhd : (params.posonlyargs ++ params.args).head? = some ar) (hN : N[0]? = some ar.arg)
    (I : Inv (cxS CX P w K mg base N qual scope f (.ref cda) cc A outer s0 H0 E) [] σ H s) (hσ : σ[0]? = some (some (.ref e))) (he : H e = some (exo e C none)) {Q : Flow → Shared → Prop} {EE : Value → Shared → Prop}
    (h : ∀ s', Inv (cxS CX P w K mg base N qual scope f (.ref cda) cc A outer s0 H0 E) [] σ H s' → Q .next s') :
    PySem.wpAt (model P w) (A.deeper (supEnv qual scope s0.heap.objs.size f (.ref cda) cc)) (.func body (supEnv qual scope s0.heap.objs.size f (.ref cda) cc))
      (exec (.Expr (supCall p0 p1 p2 p3 p4 txt kd) p5) (supEnv qual scope s0.heap.objs.size f (.ref cda) cc)) Q EE s := by
  obtain ⟨oc, od, dV, kV, doc, pm, ct, an, osl, rfl, lk⟩ := F.ex
  obtain ⟨co, vs, file, tf, lco, dco, vs2, hfile⟩ := F.co
  obtain ⟨cel, lcel, dcel⟩ := F.cell
  obtain ⟨cdC, hcl, hal⟩ := F.al
  have X := I.kIn
  obtain ⟨t1, ho⟩ := exo_at I.hok he
  obtain ⟨oD, hD1, hD2⟩ : ∃ oD, s.heap.get? C = some oD ∧ oD.data = .cls cdC := by
    unfold PySem.W.clsIn at hcl
    split at hcl
    · rename_i c d cd' sl hoo
      cases hcl
      exact ⟨_, X _ _ hoo, rfl⟩
    · cases hcl
  have eC : e ≠ C := fun z => by
    rw [z] at ho
    rw [ho] at hD1
    cases hD1
    cases hD2
  obtain ⟨m, hns, hloc⟩ := I.loc
  have harl : scope.names.lookup ar.arg = some .local := S.par _ (List.mem_of_getElem? hN)
  obtain ⟨u, ru, lu⟩ := hloc 0 ar.arg (.ref e) hN hσ (.inl harl)
  cases (show u = Value.ref e from ru)
  have hm : m ar.arg = some (.ref e) := by
    rcases lu with ⟨_, z⟩ | ⟨z, _⟩
    · exact z
    · have z : scope.names.lookup ar.arg = some .cell ∨ scope.names.lookup ar.arg = some .free := z
      rw [harl] at z
      rcases z with z | z <;> cases z
  have J : PySem.W.InstAt s.heap e ({ cls := .ref C, dict := none, data := .fields #[.ref t1, .none, .none, .none, .bool false, .none] } : Obj) C none := ⟨ho, rfl, rfl, trivial⟩
  obtain ⟨pl, hev⟩ := SE.he
  refine PySem.ks_wpAt_Expr_any ?_ (SE.hi _ _ _ _) (SE.hs _ _ _ _)
  refine PySem.ks_wpAt_MethodCall (pl := pl) ?_ (hev _ _ _ _)
  refine PySem.ks_wpAt_super_base (env := supEnv qual scope s0.heap.objs.size f (.ref cda) cc) S.sup S.cls (by decide +kernel) rfl (X _ _ lk) rfl hhd rfl (X _ _ lco) dco vs2 hfile F.top ?_
  obtain ⟨mb, mb1, mb2⟩ := I.mod.blt
  refine PySem.W.ks_loadName_global S.kind S.sup (Calls.loadGlobal_builtin (env := supEnv qual scope s0.heap.objs.size f (.ref cda) cc) (I.mod.glob.keeps I.bk) F.su (mb1.keeps I.bk) ((mb2 _ (by decide)).trans (show bootBuiltins "super" = some (.type "super") by decide +kernel)) ⟨rfl, ?_⟩)
  refine wpAny_loadName_free S.kind S.cls rfl ⟨_, X _ _ lcel, dcel⟩ ?_
  refine wpAny_loadName_local S.kind harl hns hm ?_
  refine ks_wpAny_isType_cls hD1 hD2 ⟨rfl, ?_⟩
  obtain ⟨hp, g, d, t, os⟩ := s
  refine ks_wpAny_call_super hD1 hD2 ho rfl (fun c z => by cases z) (PySem.W.looks_mroIn X F.sub) (fun h' es k => ?_)
  have I1 : Inv (cxS CX P w K mg base N qual scope f (.ref cda) cc A outer s0 H0 E) [] σ H ⟨h', g, d, t, os⟩ := I.kept (t' := t) k
  have X1 := I1.kIn
  refine PySem.W.kxs_getMethod PySem.W.kxs_ValueError es (PySem.W.looks_opaque X1 F.opq) (l₀ := cdC.mro) (fun A Q E s k q => wpAny_bind ((PySem.W.looks_clsIn X1 hcl) A _ E s k (wpAny_pure q))) rfl X1 hal ((show PySem.W.InstAt h' e _ C none from ⟨k _ _ ho, rfl, rfl, trivial⟩).type.andThen (PySem.W.looks_subIn X1 F.ve)) eC (by decide +kernel) ?_
  have es2 : (h'.push (PySem.W.kxs_mw "ValueError.__init__" e)).get? h'.objs.size = some (PySem.W.kxs_mw "ValueError.__init__" e) := Heap.get?_push_at rfl rfl
  generalize h'.objs.size = u at es2
  have k2 : ∀ b o, h'.get? b = some o → (h'.push (PySem.W.kxs_mw "ValueError.__init__" e)).get? b = some o := fun b o q => Heap.get?_push_of_some _ q
  generalize h'.push (PySem.W.kxs_mw "ValueError.__init__" e) = h2 at es2 k2
  have I2 : Inv (cxS CX P w K mg base N qual scope f (.ref cda) cc A outer s0 H0 E) [] σ H ⟨h2, g, d, t + 1, os⟩ := I1.kept (t' := t + 1) k2
  have hee : ∀ env : Env, starEach [.Constant (.str txt) kd p3] env = (false, eval (.Constant (.str txt) kd p3) env) :: starEach [] env := fun env => rfl
  refine PySem.W.kxs_callWith (i := "ValueError.__init__") (x := e) (by rw [hee]; rfl) ?_
  rw [hee]
  refine Calls.evalArgs_plain (Calls.spliced_cons (Calls.Constant_str (pos := p3) (k := kd) (Calls.spliced_nil ?_)))
  refine ⟨es2, ?_⟩
  have he2 := k2 _ _ (k _ _ ho)
  obtain ⟨nm, q, N', bs, bm, sn, sub, ab, col, dd, k0, k1, k2', k3, k5, hC, hbm⟩ := T.cls
  have hC2 := I2.kIn _ _ hC
  refine wpAny_call (codeAny_of_tree ?_)
  show wpAny _ (A.deeper (supEnv qual scope s0.heap.objs.size f (.ref cda) cc)).in1 (callAny (.ref u) ⟨[.str txt _], []⟩) _ _ _
  simp only [callAny]
  refine wpAny_bind (wpAny_load es2 ?_)
  simp only [PySem.W.kxs_mw, show (Value.type "method-wrapper" == Value.type "method" || Value.type "method-wrapper" == Value.type "builtin_function_or_method" || Value.type "method-wrapper" == Value.type "method-wrapper") = true by decide, if_true]
  refine PySem.W.KFB.if_so (by decide) ?_
  refine wpAny_bind (PySem.W.check_bound_init PySem.F.excBase_ValueError.toExcCallFacts hC2 he2 rfl ?_)
  refine wpAny_bind (wpAny_pure (wpAny_pure ?_))
  refine ⟨plainId_quiet PySem.F.excBase_ValueError.init.plain _, codeAny_builtin PySem.F.excBase_ValueError.initEntry ?_⟩
  refine PySem.W.exc_init_tree (cls := .ref C) (t0 := t1) (dv := none) (c2 := .none) (c3 := .none) (b4 := .bool false) he2 (by rw [sizeLine_eq]; exact (by decide : 1 ≤ 16777216)) fun h3 k3 hx _ => ?_
  have I3 : Inv (cxS CX P w K mg base N qual scope f (.ref cda) cc A outer s0 H0 E) [] σ (upd H e (exo e C none)) ⟨h3, g, d, t + 1 + 1, os⟩ := I2.write (t' := t + 1 + 1) (x := e) (e := e) (o := exo e C none) (by rw [he]; exact True.intro) (.inl rfl) k3 ⟨_, hx⟩ (exo_ok hx)
  have eu : upd H e (exo e C none) = H := by
    funext b
    by_cases hb : b = e
    · rw [hb, upd_same, he]
    · rw [upd_ne hb]
  rw [eu] at I3
  exact h _ I3
end
section
variable {P : Program} {w : World} {K : PySem.W.Frag} {mg : Str → Option Value} {base : Heap}
/-- THE RULE for such an __init__: behind its first statement, by the rest of its body -/
theorem fn_super {CX : CXT} {k : Nat} {sp : Sp} {N : List Str} {qual : Str} {params : Arguments} {rest : List Stmt} {scope : Scope} {C f cc cda : Addr} {fd : FuncData} {p0 p1 p2 p3 p4 p5 : Pos} {txt : Str} {kd : Nat} {ar : Arg}
    (F : SupF P K mg C f cc cda qual params (.Expr (supCall p0 p1 p2 p3 p4 txt kd) p5 :: rest) scope fd) (T : OexC K C) (S : ScopeS N scope) (SE : SupE qual scope p0 p1 p2 p3 p4 p5 txt kd) (hhd : (params.posonlyargs ++ params.args).head? = some ar) (hN : N[0]? = some ar.arg)
    (len : ∀ vs H Q E, sp vs H Q E → vs.length = N.length) (first : ∀ vs H Q E, sp vs H Q E → ∃ e r, vs = .ref e :: r ∧ H e = some (exo e C none))
    (hbody : ∀ (A : Around) (outer : List Env) (s : Shared) (H : Hp) (vs : List V) (Q : VK) (E : XK), sp vs H Q E →
      ∃ t, PSs (cxS CX P w K mg base N qual scope f (.ref cda) cc A outer s H E) rest t ∧ t { nx := fun _ H' => Q .non H', rt := Q } (vs.map some) H) : FnOk P w K mg base CX (k + 1) f fd N sp := by
  refine ⟨len, fun A outer s H args us vs Q E hr e0 hb r hsp => ?_⟩
  have hl := len _ _ _ _ hsp
  obtain ⟨e, rv, rfl, he⟩ := first _ _ _ _ hsp
  have F' := F
  obtain ⟨oc, od, dV, kV, doc, pm, ct, an, osl, rfl, lk⟩ := F.ex
  obtain ⟨oc', lcel, dcel⟩ := F.cell
  have KX : K.In s.heap := e0.mod.kin.keeps fun b o e => (e0.bs b o e).1
  have lim : s.heap.NoLimit := e0.mod.nolimit.keeps fun b o e => (e0.bs b o e).1
  have hloc : ∀ x ∈ N.zip us, scope.names.lookup x.1 = some .local := fun ⟨n, v⟩ hy => S.par n (List.of_mem_zip hy).1
  refine PySem.ks_codeAny_call_defAt (binds := N.zip us) hr.depth (KX _ _ lk) rfl lim (PySem.W.codeRec_of KX F.cd) rfl hb (fun x hx => (S.free x hx).1) hloc (fun h0 hns hk => ?_) S.co S.gen S.kind
  have I := invS_start (CX := CX) (P := P) (w := w) (E := E) (f := f) (cd := .ref cda) (tk := s.toks + (N.zip us).length) (qual := qual) S hr.hd e0 hl r (e0.mod.kin _ _ lcel) dcel hns hk
  obtain ⟨t, ht, hq⟩ := hbody A outer s H _ Q E hsp
  refine PySem.ks_wpAt_execs_cons (super_init F' T S SE hhd hN I rfl he fun s' I' => wpAt_of_wpAny ?_)
  refine wpAny_mono (ht.run [] s' _ H _ I' hq) (fun fl s' hs => ?_) fun e s' hs => hs
  have fin : ∀ {σ' : St} {H' : Hp} {v : V} {u : Value}, Inv (cxS CX P w K mg base N qual scope f (.ref cda) cc A outer s H E) [] σ' H' s' → RelV v u → Q v H' → CE outer P w H s Q u s' :=
    fun {σ' H' v u} J rv q => ⟨v, H', J.os, J.bare, J.base, J.hok, rv, q⟩
  cases fl with
  | ret u =>
    obtain ⟨v, σ', H', J, rv, q⟩ := hs
    exact fin J rv q
  | next =>
    obtain ⟨σ', H', J, q⟩ := hs
    exact fin (v := V.non) (u := Value.none) J rfl q
  | brk =>
    obtain ⟨_, _, _, q⟩ := hs
    exact False.elim q
  | cont =>
    obtain ⟨_, _, _, q⟩ := hs
    exact False.elim q
end
/-- C(e, ..) as a value, C an own exception whose __init__ keeps sp -/
def tMkV (C : Addr) (sp : Sp) (E : XK) (ta : TA) : TE := fun σ H Q => ta σ H fun vs H1 => vs.length ≤ 1000 ∧ ∀ a, H1 a = none → sp (.ref a :: vs) (upd H1 a (exo a C none)) (fun v H2 => v = .non ∧ Q (.ref a) H2) E
theorem pe_mkS {X : Cx} {e : Expr} {es : List Expr} {ta : TA} {p pos : Pos} {CX : CXT} {x : Str} {C fI : Addr} {k : Nat} {fd : FuncData} {ps : List Str} {sp : Sp} {E : XK} (T : OexC X.K C) (iC : PySem.W.findIn X.K (.ref C) "__init__" = some (some (.ref fI))) (tI : PySem.W.typeIn X.K (.ref fI) = some (.type "function"))
    (F1 : FnOk X.prog X.w X.K X.mg X.base CX k fI fd ps sp) (hr : Room (k + 1) X.A) (hb : Binds X.K fd ps []) (hx : Passes CX X E) (hg : Gl X x) (hm : X.mg x = some (.ref C)) (ha : PA X (e :: es) ta)
    (hdb : (x == ("__debug__" : Str)) = false := by decide) (he : starEach (e :: es) X.env = (false, eval e X.env) :: starEach es X.env := by rfl) (hpl : (backTo pos (starEach es X.env)).any (·.1) = false := by rfl) :
    PE X (.Call (.Name x p) (e :: es) [] pos) (tMkV C sp E ta) := by
  refine ⟨fun pins s σ H Q I h => ?_⟩
  obtain ⟨nm, q, N, bs, bm, sn, sub, ab, col, dd, k0, k1, k2, k3, k5, hC, hbm⟩ := T.cls
  refine wpAny_Call_Name_kw (ld_glob I hg hm ?_ hdb)
  refine PySem.W.callWith_K (h₀ := X.base) I.ok.mod.kin T.kC (thn (ha.run pos pins s σ H _ I h) fun us s1 ⟨vs, H1, I1, r1, hz, q1⟩ => ⟨I1.kIn, ?_⟩) he hpl
  show wpAny _ _ (call (.ref C) us) _ _ _
  obtain ⟨hp, g, dr, tk, os⟩ := s1
  have hsz : hp.objs.size ≤ hp.objs.size + 1 := Nat.le_succ _
  have hn : H1 (hp.objs.size + 1) = none := I1.hok.fresh hsz
  have hq := q1 (hp.objs.size + 1) hn
  have kk : ∀ b o, hp.get? b = some o → ((hp.push (PySem.W.kdv_tup us)).push (PySem.HandSPX.excO C hp.objs.size)).get? b = some o := fun b o e => Heap.get?_push_of_some _ (Heap.get?_push_of_some _ e)
  have hget : ((hp.push (PySem.W.kdv_tup us)).push (PySem.HandSPX.excO C hp.objs.size)).get? (hp.objs.size + 1) = some (PySem.HandSPX.excO C hp.objs.size) := by heap_get
  have I2 : Inv X pins σ (upd H1 (hp.objs.size + 1) (exo (hp.objs.size + 1) C none)) ⟨(hp.push (PySem.W.kdv_tup us)).push (PySem.HandSPX.excO C hp.objs.size), g, dr, tk, os⟩ :=
    I1.laid (t' := tk) (a := hp.objs.size + 1) (o := exo (hp.objs.size + 1) C none) (h' := (hp.push (PySem.W.kdv_tup us)).push (PySem.HandSPX.excO C hp.objs.size)) kk hsz (exo_ok hget)
  have r2 : Vals (V.ref (hp.objs.size + 1) :: vs) (Value.ref (hp.objs.size + 1) :: us) := .cons rfl r1
  have hl : (Value.ref (hp.objs.size + 1) :: us).length = ps.length := by
    have e := r2.length
    rw [F1.len _ _ _ _ hq] at e
    exact e.symm
  have hus : us.length ≤ sizeLine := by
    rw [← Paired.length r1, sizeLine_eq]
    omega
  have hb' := hb ⟨(hp.push (PySem.W.kdv_tup us)).push (PySem.HandSPX.excO C hp.objs.size), g, dr, tk, os⟩ (Value.ref (hp.objs.size + 1) :: us) I2.kIn (by rw [List.append_nil]; exact hl)
  rw [List.append_nil] at hb'
  refine wpAny_call (PySem.HandSPX.call_own PySem.F.excBase_ValueError (fun Y => PySem.HandSPX.refsVE_contains Y bm hbm) (I1.kIn _ _ hC) (PySem.W.looks_findIn I1.kIn iC) (fun self => PySem.W.bind_fn I1.kIn self tI) hus
    (codeAny_mono (F1.run _ X.stack _ _ ⟨Value.ref (hp.objs.size + 1) :: us, []⟩ (Value.ref (hp.objs.size + 1) :: us) _ _ E (hr.make C us []) (I2.env0.make C us []) hb' r2 hq) fun r s' hq' => ?_))
  cases r with
  | error er => exact hx pins σ _ _ er s' I2 hq'
  | ok fl =>
    cases fl with
    | ret u =>
      obtain ⟨v, H', I3, rv, ev, q3⟩ := I2.after hq'
      subst ev
      exact ⟨rv, V.ref (hp.objs.size + 1), H', I3, rfl, q3⟩
    | next => exact False.elim hq'
    | brk => exact False.elim hq'
    | cont => exact False.elim hq'
/-! ## an exception that a clause has caught stays held -/
/-- an exception of the class cls, its dict d, stands at a -/
def ExH (cls : Value) (a : Addr) (d : Option Addr) : HO := .ext fun h => ∃ (oe : Obj) (vs : Array Value), h.get? a = some oe ∧ Zc cls d oe ∧ oe.data = .fields vs
theorem exH_ok {P : Program} {w : World} {H : Hp} {h : Heap} {a : Addr} {cls : Value} {d : Option Addr} {oe : Obj} {vs : Array Value} (e : h.get? a = some oe) (z : Zc cls d oe) (dd : oe.data = .fields vs) : ObjOk P w H h a (ExH cls a d) :=
  ⟨⟨oe, vs, e, z, dd⟩, ⟨oe, e⟩, fun _ _ ⟨o, v, q, r⟩ k => ⟨o, v, k o q, r⟩⟩
section
variable {X : Cx} {pins : List (Addr × Obj)} {σ : L2.St} {H : Hp} {s : Shared}
theorem inv_track {a : Addr} {o : HO} {ob : Obj} (I : Inv X pins σ H s) (n0 : X.s_0.heap.get? a = none) (na : H a = none) (nL : a ≠ X.env.locals) (ha : s.heap.get? a = some ob) (nc : ∀ v, ob.data ≠ .cell v)
    (np : ∀ p ∈ X.pn ++ pins, p.1 ≠ a) (ok : ObjOk X.prog X.w (upd H a o) s.heap a o) : Inv X pins σ (upd H a o) s := by
  have old : ∀ {b : Addr} {u : Obj}, X.s_0.heap.get? b = some u → b ≠ a := fun {b u} e z => by
    rw [z, n0] at e
    cases e
  have nec : ∀ x c, X.env.cells.lookup x = some c → c ≠ a := fun x c e z => by
    obtain ⟨v, oc, hoc, hd⟩ := I.cell x c e
    rw [z, ha] at hoc
    cases hoc
    exact nc v hd
  refine ⟨I.ok, I.os, I.bare, ⟨I.base.keep, I.base.slot, fun b u e n x => ?_, I.base.there, fun b xs e => ?_, fun b u v e => ?_, fun b ps e => ?_⟩, I.loc, I.cell, ?_, fun x c e => ?_, fun p hp => ?_, fun b u e => ?_, I.len⟩
  · rw [upd_ne (old e)]
    exact I.base.free b u e n x
  · rw [upd_ne (ne_of_none (I.base.tups b xs e) na)]
    exact I.base.tups b xs e
  · rw [upd_ne (ne_of_none (I.base.frzs b u v e) na)]
    exact I.base.frzs b u v e
  · obtain ⟨m, q⟩ := I.base.tbls b ps e
    exact ⟨m, by rw [upd_ne (ne_of_none q na)]; exact q⟩
  · rw [upd_ne nL.symm]
    exact I.free
  · rw [upd_ne (nec x c e)]
    exact I.freeC x c e
  · obtain ⟨h1, h2, h3⟩ := I.pin p hp
    exact ⟨h1, by rw [upd_ne (np p hp)]; exact h2, h3⟩
  · by_cases hb : b = a
    · subst hb
      rw [upd_same] at e
      cases e
      exact ok
    · rw [upd_ne hb] at e
      exact (I.hok b u e).stay (fun c v _ q => q) (fun c q => by rw [upd_ne (ne_of_none q na)]; exact q) fun c xs q => by rw [upd_ne (ne_of_none q na)]; exact q
end
/-- what the clause 'except x as n' wishes, behind which the exception stays held -/
def wHeld (K : PySem.W.Frag) (c : Value) (i : Nat) (ts : Addr → Value → Option Addr → TS) (Wout : WX) (D : Ends) : WX := fun cls d σ H =>
  ∃ b, PySem.W.exmOne K cls c = some b ∧ (b = true → ∀ a, H a = none → ts a cls d
    { nx := fun σ' H' => D.nx (σ'.set i none) (upd H' a (ExH cls a d)), rt := fun v H' => D.rt v (upd H' a (ExH cls a d)), bk := fun σ' H' => D.bk (σ'.set i none) (upd H' a (ExH cls a d)), ct := fun σ' H' => D.ct (σ'.set i none) (upd H' a (ExH cls a d)) } (σ.set i (some (.ref a))) H) ∧
    (b = false → Wout cls d σ H)
section
variable {X : Cx} {x n : Str} {c : Value} {i : Nat} {body suite : List Stmt} {b₀ : Stmt} {np pos pos' : Pos} {tb : WX → TS} {ts : Addr → Value → Option Addr → TS} {Wout : WX}
theorem ps_try_held (hex : X.ex = []) (hs : X.stack = X.env :: X.outer) (hf : X.env.frame = some X.env.locals) (hN : X.N.Nodup) (hi : X.N[i]? = some n) (hln : X.env.kindOf n = some .local) (hc : Names X x c) (tk : Takes X Wout)
    (hb : ∀ (W : WX) (pn : List (Addr × Obj)) (xe : Value → Shared → Prop), Takes (X.tr pn xe) W → PassesOwn (model X.prog X.w) X.A X.env xe → PSs (X.tr pn xe) body (tb W))
    (hsu : ∀ (a : Addr) (oe : Obj) (cls : Value) (d : Option Addr) (pn : List (Addr × Obj)), Zc cls d oe → (∃ vs, oe.data = .fields vs) → PSs (X.suite a ((a, oe) :: pn)) (b₀ :: suite) (ts a cls d)) :
    PS X (.Try body [.ExceptHandler (some (.Name x np)) (some n) (b₀ :: suite) pos'] [] [] pos) (fun D σ H => tb (wHeld X.K c i ts Wout D) D σ H) := by
  refine ⟨fun pins s σ H D I hw => ?_⟩
  have ok := I.ok
  have frames1 : X.A.frames = some (X.env :: X.outer) := ok.frames.trans (congrArg some hs)
  refine wpAny_Try_except ?_
  refine wpAny_mono ((hb (wHeld X.K c i ts Wout D) (X.pn ++ pins) (fun e s1 => wpAny (model X.prog X.w) X.A (noteFrame e X.env) (fun _ s2 => wpAny (model X.prog X.w) X.A (setFlight e none) (fun _ s3 =>
    wpAny (model X.prog X.w) X.A (handleBy e X.env [.ExceptHandler (some (.Name x np)) (some n) (b₀ :: suite) pos']) (SP X pins D) X.xe s3) X.xe s2) X.xe s1) (fun u s' air => ?_) PassesOwn.looking).run [] s σ H D (I.toTry _) hw) (fun f s1 hsp => ?_) (fun e s1 he => he)
  · obtain ⟨a, B, sI, pins', σ', H', cls, d, rfl, J0, nb, up, sky, na, os, ag, b, hb1, hyes, hno⟩ := air
    have J : Inv X pins σ' H' sI := J0.ofTry ok
    have skyE : Sky B (X.env :: X.outer) a (Zc cls d) X.env.locals s'.heap := hs ▸ sky
    show wpAny (model X.prog X.w) X.A (noteFrame (.ref a) X.env) _ _ _
    refine Sky.land Zc.steady frames1 hf skyE fun h3 fl3 up3 => ?_
    have J3 : Inv X pins σ' H' { s' with heap := h3 } := J.landed nb fl3.1 (up.trans up3) os ag
    obtain ⟨oe3, vs3, he3, hz3, hd3⟩ := fl3.there
    have nfr : a ∉ frs (X.env :: X.outer) := fun hm => by
      obtain ⟨_, o', e', hnf⟩ := fl3.2.2.1.mem hm
      rw [he3] at e'
      cases e'
      exact hnf _ hd3
    have nL : a ≠ X.env.locals := fun z => nfr (List.mem_filterMap.mpr ⟨X.env, List.mem_cons_self, hf.trans (congrArg some z.symm)⟩)
    have nF : a ∉ X.fs := fun hm => by
      obtain ⟨e, he, q⟩ := List.mem_filterMap.mp hm
      exact nfr (List.mem_filterMap.mpr ⟨e, List.mem_cons_of_mem _ he, q⟩)
    -- the exception is not of the state ahead
    have nI : sI.heap.get? a = none := by
      cases e : sI.heap.get? a with
      | none => rfl
      | some o =>
        have z := nb a o e (by rw [hs]; exact nfr)
        rw [fl3.2.1] at z
        cases z
    have n0 : X.s_0.heap.get? a = none := by
      cases e : X.s_0.heap.get? a with
      | none => rfl
      | some o =>
        obtain ⟨o', z⟩ := J.base.there a o e (by rw [hex]; exact fun q => nomatch q)
        rw [nI] at z
        cases z
    have np' : ∀ p ∈ X.pn ++ pins, p.1 ≠ a := fun p hp z => by
      have q := (J.pin p hp).1
      rw [z, nI] at q
      cases q
    have S3 := J3.suite he3 hd3 na nL nF
    refine wpAny_handleBy_cons (codeAny_handlers_test ?_) (by intro q; cases q)
    have looksT : PySem.W.Looks (model X.prog X.w) h3 (typeOf (.ref a)) cls := fun A Q E s k q => wpAny_typeOf_ref (k _ _ he3) (by rw [hz3.1]; exact q)
    have looksM := PySem.W.exm_one (M := model X.prog X.w) J3.kIn looksT hb1
    have named : ∀ {Q : Value → Shared → Prop} {E : Value → Shared → Prop}, Q c { s' with heap := h3 } → wpAny (model X.prog X.w) (X.A.mark (some (.ref a))) (eval (.Name x np) X.env) Q E { s' with heap := h3 } := fun {Q E} q => by
      obtain ⟨hg, hdbg, hm | ⟨hm, hv, hnn⟩⟩ := hc
      · exact ld_glob (X := X.suite a ((a, oe3) :: (X.pn ++ pins))) S3 hg hm q hdbg
      · exact ld_blt (X := X.suite a ((a, oe3) :: (X.pn ++ pins))) S3 hg hm hv q hnn hdbg
    refine named (looksM.here ?_)
    cases b with
    | true =>
      refine codeAny_handlers_suite_as (HandSPX.lands_againZ fl3 fun h4 fl4 up4 => ?_)
      have J4 : Inv X pins σ' H' { s' with heap := h4 } := J.landed nb fl4.1 ((up.trans up3).trans up4) os ag
      obtain ⟨oe4, vs4, he4, hz4, hd4⟩ := fl4.there
      have S4 := J4.suite he4 hd4 na nL nF
      refine store_ok (X := X.suite a ((a, oe4) :: (X.pn ++ pins))) (v := .ref a) S4 hN hi (.inl hln) rfl (fun s5 S5 => ?_) (.inr hln)
      refine wpAny_mono ((hsu a oe4 cls d (X.pn ++ pins) hz4 ⟨_, hd4⟩).run [] s5 _ H' _ S5 (hyes rfl a na)) (fun f s6 hsp => ?_) (fun _ _ z => False.elim z)
      have leave : ∀ {σ6 : L2.St} {H6 : Hp} {Q : Shared → Prop}, Inv (X.suite a ((a, oe4) :: (X.pn ++ pins))) [] σ6 H6 s6 → (∀ s7, Inv X pins (σ6.set i none) (upd H6 a (ExH cls a d)) s7 → Q s7) →
          wpAny (model X.prog X.w) X.A (do bindName X.env n .none; unbindBehindTheSuite X.env n pos') (fun _ s7 => Q s7) X.xe s6 := fun {σ6 H6 Q} S6 hq => by
        obtain ⟨g1, g2, _, _, g5⟩ := S6.pin (a, oe4) (List.mem_append_left _ List.mem_cons_self)
        exact gone_ok (inv_track (S6.unsuite ok) n0 g2 nL g1 g5 np' (exH_ok g1 hz4 hd4)) hN hi hln hq
      cases f with
      | next =>
        obtain ⟨σ6, H6, S6, q6⟩ := hsp
        exact leave S6 fun s7 J7 => ⟨_, _, J7, q6⟩
      | brk =>
        obtain ⟨σ6, H6, S6, q6⟩ := hsp
        exact leave S6 fun s7 J7 => ⟨_, _, J7, q6⟩
      | cont =>
        obtain ⟨σ6, H6, S6, q6⟩ := hsp
        exact leave S6 fun s7 J7 => ⟨_, _, J7, q6⟩
      | ret u =>
        obtain ⟨v6, σ6, H6, S6, r6, q6⟩ := hsp
        exact leave S6 fun s7 J7 => ⟨_, _, _, J7, r6, q6⟩
    | false =>
      show wpAny _ X.A (handleBy (.ref a) X.env []) _ _ _
      refine wpAny_handleBy_nil ?_
      obtain ⟨k1, k2, k3, oe, vs, T, oT, ts', he, hz, hd, h1, hr⟩ := id fl3
      unfold PySem.passOn
      refine wpAny_bind (wpAny_field he hd h1 ?_)
      rw [if_neg (show ¬ ((Value.ref T == Value.none) = true) from by simp)]
      have thrown : wpAny (model X.prog X.w) X.A (setFlight (.ref a) X.env.frame) (fun _ s4 => wpAny (model X.prog X.w) X.A (throw (.ref a) : Sem Flow) (SP X pins D) X.xe s4) X.xe { s' with heap := h3 } := by
        rw [hf]
        refine HandSPX.setFlight_upZ fl3 fun h4 hh4 up4 => wpAny_throw (tk _ _ ?_)
        exact ⟨a, B, sI, pins, σ', H', cls, d, rfl, J, nb, (up.trans up3).trans up4, .inr (.inr (hs ▸ hh4)), na, os, ag, hno rfl⟩
      first
        | exact wpAny_bind (wpAny_pure (wpAny_bind thrown))
        | exact wpAny_bind thrown
  · cases f with
    | next =>
      obtain ⟨σ', H', J', q⟩ := hsp
      exact wpAny_execs_nil ⟨σ', H', J'.ofTry ok, q⟩
    | brk =>
      obtain ⟨σ', H', J', q⟩ := hsp
      exact ⟨σ', H', J'.ofTry ok, q⟩
    | cont =>
      obtain ⟨σ', H', J', q⟩ := hsp
      exact ⟨σ', H', J'.ofTry ok, q⟩
    | ret u =>
      obtain ⟨v, σ', H', J', r, q⟩ := hsp
      exact ⟨v, σ', H', J'.ofTry ok, r, q⟩
end
/-! ## attributes and classes of exceptions that are held -/
/-- what the class at D says, for reads of its instances -/
structure ExcR (K : PySem.W.Frag) (D : Addr) : Prop where
  ga : PySem.W.findIn K (.ref D) "__getattribute__" = some (some (.builtin "BaseException.__getattribute__"))
  gt : PySem.W.findIn K (.ref D) "__getattr__" = some none
  sb : PySem.W.subIn K (.ref D) (.type "BaseException") = some true
  hd : PySem.W.hasDictIn K D = true
  kl : PySem.W.findIn K (.ref D) "__class__" = some (some (.builtin "object.__class__"))
  sp : PySem.W.specialIn K (.builtin "object.__class__") "__get__" = some (some (.builtin "getset_descriptor.__get__"))
  tk : PySem.W.takesIn K (.builtin "object.__class__") = some true
  ob : PySem.W.mroIn K D (.type "object") = some true
/-- an exception of the class at D stands at a -/
def ExAt (H : Hp) (a D : Addr) : Prop := (∃ d, H a = some (exo a D d) ∧ ∀ dx, d = some dx → ∃ fs, H dx = some (exd dx fs)) ∨ H a = some (ExO (.ref D) a) ∨ ∃ d, H a = some (ExH (.ref D) a d) ∧ ∀ dx, d = some dx → ∃ fs, H dx = some (.xd fs)
section
variable {X : Cx} {pins : List (Addr × Obj)} {σ : L2.St} {H : Hp} {s : Shared}
theorem exAt_inst {a D : Addr} (I : Inv X pins σ H s) (h : ExAt H a D) : ∃ ob od, PySem.W.InstAt s.heap a ob D od := by
  rcases h with ⟨d, h1, h2⟩ | h | ⟨d, h1, h2⟩
  · obtain ⟨t1, ho⟩ := exo_at I.hok h1
    cases d with
    | none => exact ⟨_, none, ho, rfl, rfl, trivial⟩
    | some dx =>
      obtain ⟨fs, h3⟩ := h2 dx rfl
      obtain ⟨mA, ⟨od, es, ep, hod, r⟩, _⟩ := exd_at I.hok h3
      exact ⟨_, some od, ho, rfl, rfl, hod⟩
  · have x : ObjOk X.prog X.w H s.heap a (ExO (.ref D) a) := I.hok a _ h
    obtain ⟨⟨oe, vs, e1, e2, e3, _⟩, _⟩ := x
    obtain ⟨oc, odd, oda, osl⟩ := oe
    obtain ⟨z1, z2⟩ := e2
    dsimp only at z1 z2 e3
    subst z1 z2 e3
    exact ⟨_, none, e1, rfl, rfl, trivial⟩
  · have x : ObjOk X.prog X.w H s.heap a (ExH (.ref D) a d) := I.hok a _ h1
    obtain ⟨⟨oe, vs, e1, e2, e3⟩, _⟩ := x
    obtain ⟨oc, odd, oda, osl⟩ := oe
    obtain ⟨z1, z2⟩ := e2
    dsimp only at z1 z2 e3
    subst z1 z2 e3
    cases odd with
    | none => exact ⟨_, none, e1, rfl, rfl, trivial⟩
    | some dx =>
      obtain ⟨fs, h3⟩ := h2 dx rfl
      obtain ⟨mA, ⟨od, es, ep, hod, r⟩, _⟩ : ∃ mA, s.heap.Ns1 dx mA ∧ ∀ f, RelO (fs.lookup f) (mA f) := I.hok dx _ h3
      exact ⟨_, some od, e1, rfl, rfl, hod⟩
end
open PySem.W in
theorem exc_class {prog : Program} {w : World} {A : Around} {E : Value → Shared → Prop} {s : Shared} {K : Frag} {x D : Addr} {ox : Obj} {od : Option Obj} {Q : Option Value → Shared → Prop} (C : ExcR K D)
    (X : K.In s.heap) (I : InstAt s.heap x ox D od) (h : Q (some (.ref D)) { s with toks := s.toks + 1 }) : wpAny (model prog w) A (getAttr? (.ref x) "__class__") Q E s := by
  obtain ⟨cdD, hcD⟩ : ∃ cd, clsIn K D = some cd := by
    obtain ⟨cd, q, _⟩ := any_some C.hd
    exact ⟨cd, q⟩
  have hfo : findObj K D od "__class__" = some (.bind (.builtin "getset_descriptor.__get__") (.builtin "object.__class__")) := by
    unfold findObj
    rw [hcD, Option.bind_some, C.kl, Option.bind_some]
    simp [C.sp, C.tk]
  obtain ⟨hp, gs, dr, tk, os⟩ := s
  have lt := I.type (M := model prog w)
  have lg := looks_findIn (M := model prog w) X C.ga
  have lh := looks_findIn (M := model prog w) X C.gt
  have lf := looks_find (M := model prog w) X I hfo
  have lb : Looks (model prog w) hp (isInstance (.ref x) (.type "BaseException")) true := lt.andThen (looks_subIn X C.sb)
  have z2 : (onTheHeap (Value.ref D) && Value.builtin "BaseException.__getattribute__" == Value.builtin "object.__getattribute__") = false := by
    rw [show (Value.builtin "BaseException.__getattribute__" == Value.builtin "object.__getattribute__") = false by decide +kernel] <;> rfl
  unfold getAttr? getAttrBy? getAttrBy
  refine wpAny_bind (wpAny_mkText (wpAny_bind (wpAny_attempt (wpAny_holding (wpAny_bind (lt.at (wpAny_bind (lg.at ?_))))))))
  show wpAny _ _ (if (onTheHeap (Value.ref D) && Value.builtin "BaseException.__getattribute__" == Value.builtin "object.__getattribute__") = true then _ else _) _ _ _
  rw [z2, if_neg Bool.false_ne_true]
  unfold getAttrByItsOwn hookBefore
  refine wpAny_bind ?_
  rw [if_pos (show onTheHeap (Value.ref D) = true from rfl)]
  refine lh.at (wpAny_bind (wpAny_attempt (wpAny_holding ?_)))
  unfold callGetattribute
  rw [show (false && onTheHeap (Value.builtin "BaseException.__getattribute__")) = false from rfl, if_neg Bool.false_ne_true]
  unfold boundAndCalled
  rw [PySem.F.excAttr_ValueError.ga.bind (.ref x)]
  refine wpAny_bind (wpAny_pure ?_)
  show wpAny _ _ (call (.builtin "BaseException.__getattribute__") [.ref x, .str "__class__" tk]) _ _ _
  refine wpAny_call (codeAny_call_builtin PySem.F.excAttr_ValueError.ga.plain PySem.F.entry_bexc_ga ?_)
  refine @check_slot (model prog w) _ _ ⟨hp, gs, dr, tk + 1, os⟩ "BaseException.__getattribute__" "BaseException" "__getattribute__" (.ref x) [.str "__class__" tk] [] _ (by decide +kernel) (by decide +kernel) lb (PySem.F.args_bexc_ga (.ref x) (.str "__class__" tk)) ?_
  unfold Builtin.«object.__getattribute__»
  refine wpAny_bind (wpAny_of_eq (a := ((Value.ref x : Value), [Value.str "__class__" tk])) (by first | rfl | (simp only [slotArgs]; rfl)) ?_)
  refine wpAny_bind (wpAny_pure (wpAny_bind (lt.at (wpAny_bind (lf.at ?_)))))
  show wpAny _ _ (holding [Value.builtin "object.__class__"] (call (.builtin "getset_descriptor.__get__") [.builtin "object.__class__", .ref x, .ref D]) >>= ret) _ _ _
  refine wpAny_bind (wpAny_holding (wpAny_call (class_get (s := ⟨hp, gs, dr, tk + 1, os⟩) (ox := ox) (od := od) X I C.ob ?_)))
  refine wpAny_pure ?_
  show wpAny _ _ (handedOut (.ref D)) _ _ _
  rw [handedOut_of (v := .ref D) rfl]
  exact wpAny_pure (wpAny_pure h)
open PySem.W in
theorem kitx_held {K : Frag} {x D : Addr} (C : ExcR K D) : KitX K (.ref x) (.ref D) (fun h => ∃ ox od, InstAt h x ox D od) where
  ty := fun _ _ _ ⟨_, _, I⟩ => I.type
  it := fun _ _ X _ => by
    obtain ⟨cdD, hcD, _⟩ := any_some C.hd
    unfold clsIn at hcD
    split at hcD
    · rename_i c' d' cd' sl' ho
      intro A' Q' E' s' k q
      unfold isType loadHead
      exact wpAny_bind (wpAny_loadPart (k _ _ (X _ _ ho)) (wpAny_pure q))
    · cases hcD
  ne := fun h tp dd its n sl X htp => by
    obtain ⟨cdD, hcD, _⟩ := any_some C.hd
    refine Bool.eq_false_iff.mpr fun q => ?_
    have e : D = tp := Value.ref.inj (beq_iff_eq.mp q)
    subst e
    unfold clsIn at hcD
    split at hcD
    · rename_i c' d' cd' sl' ho
      have z := (X _ _ ho).symm.trans htp
      cases z
    · cases hcD
  ca := fun X ⟨_, _, I⟩ k => exc_class C X I k
/-- isinstance(e, c), e an exception that is held -/
def rIsiX (K : PySem.W.Frag) : List V → Hp → VK → Prop := fun xs H Q => ∃ (a D : Addr) (c : V) (u : Value) (b : Bool), xs = [.ref a, c] ∧ ClsV c u ∧ ExcR K D ∧ ExAt H a D ∧ PySem.W.kitOne K (.ref D) u = some b ∧ Q (.bl b) H
theorem call_isiX {X : Cx} : CallR X (.builtin "isinstance") (rIsiX X.K) := by
  intro pins s σ H xs us Q I r h
  obtain ⟨a, D, c, u, b, rfl, k, C, ea, e, q⟩ := h
  obtain ⟨u1, u2, rfl, r1, r2⟩ := vals2 r
  have e2 := k.eq r2
  subst e2
  cases (show u1 = Value.ref a from r1)
  obtain ⟨ob, od, J⟩ := exAt_inst I ea
  exact PySem.W.kia_one (kitx_held C) I.kIn ⟨_, _, J⟩ e (fun z => nomatch z) fun tk => ⟨.bl b, H, I.tok tk, rfl, q⟩
/-- e.f, e an exception that is held, f a field of its own dict -/
def tExF (K : PySem.W.Frag) (te : TE) (f : Str) : TE := fun σ H Q => te σ H fun x H1 => ∃ (a D dx : Addr) (fs : List (Str × V)) (v : V), x = .ref a ∧ ExcR K D ∧ PySem.W.findIn K (.ref D) f = some none ∧ ((H1 a = some (exo a D (some dx)) ∧ H1 dx = some (exd dx fs)) ∨ (H1 a = some (ExH (.ref D) a (some dx)) ∧ H1 dx = some (.xd fs))) ∧ fs.lookup f = some v ∧ Q v H1
theorem pe_exF {X : Cx} {e : Expr} {te : TE} {f : Str} {pos : Pos} (he : PE X e te) (hb : attributeBase e f X.env (eval e X.env) = eval e X.env := by rfl) : PE X (.Attribute e f pos) (tExF X.K te f) := by
  refine ⟨fun pins s σ H Q I h => ?_⟩
  refine attr_of hb (thn (he.run pins s σ H _ I h) fun u s1 hh => ?_)
  obtain ⟨x, H1, I1, rx, a, D, dx, fs, v, ex, C, no, st, l, q⟩ := hh
  subst ex
  cases (show u = Value.ref a from rx)
  have key : ∃ (ob : Obj) (mA : Str → Option Value), s1.heap.Ns1 dx mA ∧ (∀ f, RelO (fs.lookup f) (mA f)) ∧ s1.heap.get? a = some ob ∧ ob.cls = .ref D ∧ PySem.W.notCls ob = true ∧ ob.dict = some dx := by
    rcases st with ⟨ea, ed⟩ | ⟨ea, ed⟩
    · obtain ⟨t1, ho⟩ := exo_at I1.hok ea
      obtain ⟨mA, hns, hr⟩ := exd_at I1.hok ed
      exact ⟨_, mA, hns, hr, ho, rfl, rfl, rfl⟩
    · have x : ObjOk X.prog X.w H1 s1.heap a (ExH (.ref D) a (some dx)) := I1.hok a _ ea
      obtain ⟨⟨oe, vs, e1, e2, e3⟩, _⟩ := x
      obtain ⟨mA, hns, hr⟩ : ∃ mA, s1.heap.Ns1 dx mA ∧ ∀ f, RelO (fs.lookup f) (mA f) := I1.hok dx _ ed
      exact ⟨oe, mA, hns, hr, e1, e2.1, by unfold PySem.W.notCls; rw [e3] <;> rfl, e2.2⟩
  obtain ⟨ob, mA, hns, hr, ho, oc, onc, odx⟩ := key
  obtain ⟨od, hod, hlk⟩ := lookIn_ns hns
  have rl := hr f
  rw [l] at rl
  cases hm : mA f with
  | none =>
    rw [hm] at rl
    exact rl.elim
  | some y =>
    rw [hm] at rl
    have J : PySem.W.InstAt s1.heap a ob D (some od) := ⟨ho, oc, onc, by rw [odx]; exact hod⟩
    exact PySem.HandSPX.exc_get I1.kIn J C.ga C.gt C.sb (PySem.W.findObj_own C.hd no rfl (by rw [hlk, hm])) (handed_of rl) ⟨v, H1, I1.tok _, rl, q⟩
/-! ## defs that are called where no repr runs -/
structure FnG (P : Program) (w : World) (K : PySem.W.Frag) (mg : Str → Option Value) (base : Heap) (k : Nat) (f : Addr) (fd : FuncData) (ps : List Str) (sp : Sp) : Prop where
  len : ∀ vs H Q E, sp vs H Q E → vs.length = ps.length
  run : ∀ (A : Around) (outer : List Env) (s : Shared) (H : Hp) (args : Args) (us : List Value) (vs : List V) (Q : VK) (E : XK), A.guards = some [] → Room k A → Env0 P w K mg base A outer s H → BindsTo s fd args (ps.zip us) → Vals vs us → sp vs H Q E →
    codeAny (model P w) A (.call (.ref f) args) (CR CX0 outer P w H s Q E) s
section
variable {P : Program} {w : World} {K : PySem.W.Frag} {mg : Str → Option Value} {base : Heap} {x qual : Str} {params : Arguments} {body : List Stmt} {scope : Scope} {dvs : List V} {kws : List (Str × V)} {f : Addr} {fd : FuncData}
theorem FunD.okG {N ps : List Str} {k : Nat} {sp : Sp} (F : FunD K x qual params body scope dvs kws f fd) (S : FnScope N ps scope) (len : ∀ vs H Q E, sp vs H Q E → vs.length = ps.length)
    (hbody : ∀ (cdv : Value) (A : Around) (outer : List Env) (s : Shared) (H : Hp) (vs : List V) (Q : VK) (E : XK), (A.deeper (PyProof.Rows.envOfC qual scope s.heap.objs.size f cdv)).guards = some [] → Room k (A.deeper (PyProof.Rows.envOfC qual scope s.heap.objs.size f cdv)) → sp vs H Q E →
      ∃ t, PSs (cxOf CX0 P w K mg base N qual scope f cdv A outer s H E) body t ∧ t { nx := fun _ H' => Q .non H', rt := Q } (start N vs) H) : FnG P w K mg base (k + 1) f fd ps sp := by
  obtain ⟨oc, od, dV, kV, doc, pm, an, cdv, ct, osl, rfl, lk, hcd, _, _⟩ := F.ex
  refine ⟨len, fun A outer s H args us vs Q E hg hr e0 hb r hsp => ?_⟩
  have hlen := len _ _ _ _ hsp
  have kin : K.In s.heap := e0.mod.kin.keeps fun b o e => (e0.bs b o e).1
  have nol : s.heap.NoLimit := e0.mod.nolimit.keeps fun b o e => (e0.bs b o e).1
  have kinds : ∀ y ∈ ps.zip us, scope.names.lookup y.1 = some .local ∨ (scope.names.lookup y.1 = some .cell ∧ ((cellsFrom (s.heap.objs.size + 1) scope.names []).lookup y.1).isSome = true) := fun ⟨n, v⟩ hy => by
    rcases S.par n (List.of_mem_zip hy).1 with q | q
    · exact .inl q
    · exact .inr ⟨q, PySem.W.cellsFrom_some _ _ _ (.inl q)⟩
  refine codeAny_call_function hr.depth (kin _ _ lk) rfl S.co S.gen rfl (PySem.W.codeRec_of kin hcd) (hb _ _ _ _ ?_)
  refine wpAny_newFunctionEnv_cells S.kind kinds fun env he s1 ic => ?_
  subst he
  refine ⟨nol.keeps ic.toInCall.keep, codeAny_func ?_⟩
  obtain ⟨t, ht, hq⟩ := hbody cdv A outer s H vs Q E hg (hr.deeper _) hsp
  have I : Inv (cxOf CX0 P w K mg base N qual scope f cdv A outer s H E) [] (start N vs) H s1 := inv_start S hr.hd e0 hlen r ic
  refine wpAny_mono (ht.run [] s1 (start N vs) H _ I hq) (fun fl s' hs => ?_) fun e s' hs => hs
  cases fl with
  | ret u =>
    obtain ⟨v, σ', H', J, rv, q⟩ := hs
    exact ⟨v, H', J.os, J.bare, J.base, J.hok, rv, q⟩
  | next =>
    obtain ⟨σ', H', J, q⟩ := hs
    exact ⟨V.non, H', J.os, J.bare, J.base, J.hok, rfl, q⟩
  | brk =>
    obtain ⟨_, _, _, q⟩ := hs
    exact q.elim
  | cont =>
    obtain ⟨_, _, _, q⟩ := hs
    exact q.elim
end
section
variable {X : Cx} {k : Nat} {f : Addr} {fd : FuncData} {ps : List Str} {sp : Sp} {E : XK} {x : Str} {p pos : Pos} {e : Expr} {es : List Expr} {t : TA} {ds : List Value} {dvs : List V}
theorem run_fnG {pins : List (Addr × Obj)} {σ : L2.St} {H : Hp} {s : Shared} {Q : VK} {us : List Value} {vs : List V} (F : FnG X.prog X.w X.K X.mg X.base k f fd ps sp) (hg : X.A.guards = some []) (hr : Room k X.A) (hb : Binds X.K fd ps ds) (hd : Vals dvs ds)
    (I : Inv X pins σ H s) (r : Vals vs us) (h : sp (vs ++ dvs) H Q E) : wpAny (model X.prog X.w) X.A (call (.ref f) us) (EP X pins σ Q) X.xe s := by
  have rr : Vals (vs ++ dvs) (us ++ ds) := r.append hd
  have hlen : (us ++ ds).length = ps.length := by
    rw [← rr.length]
    exact F.len _ _ _ _ h
  refine wpAny_call (codeAny_mono (F.run X.A X.stack s H ⟨us, []⟩ (us ++ ds) (vs ++ dvs) Q E hg hr I.env0 (hb s us I.kIn hlen) rr h) fun r s' hq => ?_)
  cases r with
  | error e => exact False.elim hq
  | ok fl =>
    cases fl with
    | ret u => exact I.after hq
    | next => exact hq.elim
    | brk => exact hq.elim
    | cont => exact hq.elim
theorem pe_callG (F : FnG X.prog X.w X.K X.mg X.base k f fd ps sp) (hgd : X.A.guards = some []) (hr : Room k X.A) (hg : Gl X x) (hm : X.mg x = some (.ref f)) (hk : PySem.W.keepIn X.K (.ref f) = true) (hb : Binds X.K fd ps ds) (hd : Vals dvs ds)
    (ha : PA X (e :: es) t) (hdb : (x == ("__debug__" : Str)) = false := by decide) (he : starEach (e :: es) X.env = (false, eval e X.env) :: starEach es X.env := by rfl) (hpl : (backTo pos (starEach es X.env)).any (·.1) = false := by rfl) :
    PE X (.Call (.Name x p) (e :: es) [] pos) (tCall sp dvs E t) :=
  ⟨fun pins s σ H Q I h => wpAny_Call_Name_kw (ld_glob I hg hm (PySem.W.callWith_K (h₀ := X.base) I.ok.mod.kin hk (thn (ha.run pos pins s σ H _ I h) fun us s1 ⟨vs, H1, I1, r, q⟩ => ⟨I1.kIn, run_fnG F hgd hr hb hd I1 r q⟩) he hpl) hdb)⟩
end
/-! ## repr of data, where no repr runs -/
def keyD : Key → PyData
  | .inl i => .int i
  | .inr x => .str x
mutual
inductive Dx (K : PySem.W.Frag) (H : Hp) : V → PyData → Prop
  | non : Dx K H .non .none
  | bl (b : Bool) : Dx K H (.bl b) (.bool b)
  | int (i : Int) : Dx K H (.int i) (.int i)
  | str (x : Str) : Dx K H (.str x) (.str x)
  | lst {a : Addr} {xs : List V} {ds : List PyData} : SqL K H a xs → DxAll K H xs ds → Dx K H (.ref a) (.list ds)
  | tup {a : Addr} {xs : List V} {ds : List PyData} : SqT K H a xs → DxAll K H xs ds → Dx K H (.ref a) (.tuple ds)
  | dic {a : Addr} {kvs : List (Key × V)} {ds : List PyData} : H a = some (.dK kvs) → DxAll K H (kvs.map (·.2)) ds → Dx K H (.ref a) (.dict ((kvs.map fun kv => keyD kv.1).zip ds))
inductive DxAll (K : PySem.W.Frag) (H : Hp) : List V → List PyData → Prop
  | nil : DxAll K H [] []
  | cons {v : V} {vs : List V} {d : PyData} {ds : List PyData} : Dx K H v d → DxAll K H vs ds → DxAll K H (v :: vs) (d :: ds)
end
/-- the modules' table is a dict of the written part -/
def SmD (K : PySem.W.Frag) : Prop := ∃ o : Obj, K.lookup sysModules = some o ∧ o.cls = .type "dict"
theorem DxAll.length {K : PySem.W.Frag} {H : Hp} : ∀ {vs : List V} {ds : List PyData}, DxAll K H vs ds → vs.length = ds.length
  | _, _, .nil => rfl
  | _, _, .cons _ t => by rw [List.length_cons, List.length_cons, t.length]
section
variable {X : Cx} {pins : List (Addr × Obj)} {σ : L2.St} {H : Hp} {s : Shared}
theorem keys_read {P : Program} {w : World} : ∀ {es : List DictEntry} {vs : List (Key × Value)} {kvs : List (Key × V)} {h : Heap}, Pairs (mixKind P w) es vs → KV kvs vs → ∃ as, ReadsAll h (es.map (·.key)) (kvs.map fun kv => keyD kv.1) as ∧ as = []
  | _, _, _, h, .nil, .nil => ⟨[], .nil, rfl⟩
  | e :: es, kv :: vs, p :: kvs, h, .cons k1 _ t, .cons r t2 => by
    obtain ⟨as, q, rfl⟩ := keys_read (h := h) t t2
    obtain ⟨c1, e1, e2⟩ := e
    obtain ⟨kk, vv⟩ := p
    have ek : kv.1 = kk := r.1.symm
    rw [ek] at k1
    have kd : Reads h e1 (keyD kk) [] := by
      rcases keyIs_shape k1 with ⟨i, tt, rfl, z⟩ | ⟨x, tt, rfl, z⟩
      · have z : e1 = Value.int i tt := z
        subst z
        exact Reads.int i tt
      · have z : e1 = Value.str x tt := z
        subst z
        exact Reads.str x tt
    exact ⟨_, ReadsAll.cons kd q, rfl⟩
theorem vals_read {P : Program} {w : World} : ∀ {es : List DictEntry} {vs : List (Key × Value)} {kvs : List (Key × V)}, Pairs (mixKind P w) es vs → KV kvs vs → Vals (kvs.map (·.2)) (es.map (·.val))
  | _, _, _, .nil, .nil => .nil
  | e :: es, kv :: vs, p :: kvs, .cons _ e1 t, .cons r t2 => by
    refine .cons ?_ (vals_read t t2)
    show RelV p.2 e.val
    rw [e1]
    exact r.2
theorem zip_fst {α β : Type} : ∀ {l : List α} {m : List β}, l.length = m.length → (l.zip m).map (·.1) = l
  | [], _, _ => rfl
  | a :: l, b :: m, h => by
    show a :: (l.zip m).map (·.1) = a :: l
    rw [zip_fst (Nat.succ.inj h)]
theorem zip_snd {α β : Type} : ∀ {l : List α} {m : List β}, l.length = m.length → (l.zip m).map (·.2) = m
  | [], [], _ => rfl
  | a :: l, b :: m, h => by
    show b :: (l.zip m).map (·.2) = b :: m
    rw [zip_snd (Nat.succ.inj h)]
mutual
theorem Dx.reads (I : Inv X pins σ H s) (S : SmD X.K) : ∀ {d : PyData} {v : V} {u : Value}, Dx X.K H v d → RelV v u → ∃ as, Reads s.heap u d as ∧ sysModules ∉ as
  | _, _, _, .non, r => by
    cases r
    exact ⟨_, Reads.none, by simp⟩
  | _, _, _, .bl b, r => by
    cases r
    exact ⟨_, Reads.bool b, by simp⟩
  | _, _, _, .int i, r => by
    obtain ⟨t, rfl⟩ := r
    exact ⟨_, Reads.int i t, by simp⟩
  | _, _, _, .str x, r => by
    obtain ⟨t, rfl⟩ := r
    exact ⟨_, Reads.str x t, by simp⟩
  | _, _, _, .lst hs ha, r => by
    cases r
    obtain ⟨its, rv, ⟨o, n, ho, hc, _, hd⟩, _⟩ := I.list hs
    obtain ⟨as, hr, hn⟩ := DxAll.reads I S ha rv
    refine ⟨_, Reads.list ho hc hd hr, fun z => ?_⟩
    rcases List.mem_cons.mp z with z | z
    · obtain ⟨om, hm, hmc⟩ := S
      have h2 := I.kIn _ _ hm
      rw [z, ho] at h2
      cases h2
      rw [hc] at hmc
      exact absurd hmc (by decide)
    · exact hn z
  | _, _, _, .tup hs ha, r => by
    cases r
    obtain ⟨its, rv, ⟨o, ho, hc, n, hd⟩, _⟩ := I.tuple hs
    obtain ⟨as, hr, hn⟩ := DxAll.reads I S ha rv
    exact ⟨_, Reads.tuple ho hc hd hr, hn⟩
  | _, _, _, .dic (a := a) (kvs := kvs) (ds := ds) hk ha, r => by
    cases r
    obtain ⟨hz, hsm, vs, rk, o, es, ep, ho, hx, hd, _, hp, _⟩ : kvs.length ≤ sizeLine ∧ (a == sysModules) = false ∧ ∃ vs, KV kvs vs ∧ s.heap.DictOf (mixKind X.prog X.w) a vs := I.hok _ _ hk
    obtain ⟨as, h1, rfl⟩ := keys_read (h := s.heap) hp rk
    obtain ⟨bs, h2, hn⟩ := DxAll.reads I S ha (vals_read hp rk)
    have hl : (kvs.map fun kv => keyD kv.1).length = ds.length := by rw [List.length_map, ← ha.length, List.length_map]
    refine ⟨_, Reads.dict (kvs := (kvs.map fun kv => keyD kv.1).zip ds) ho hx.1 hd (by rw [zip_fst hl]; exact h1) (by rw [zip_snd hl]; exact h2), fun z => ?_⟩
    rcases List.mem_cons.mp z with z | z
    · rw [z] at hsm
      simp at hsm
    · exact hn (by simpa using z)
theorem DxAll.reads (I : Inv X pins σ H s) (S : SmD X.K) : ∀ {ds : List PyData} {vs : List V} {us : List Value}, DxAll X.K H vs ds → Vals vs us → ∃ as, ReadsAll s.heap us ds as ∧ sysModules ∉ as
  | _, _, _, .nil, r => by
    cases r
    exact ⟨_, ReadsAll.nil, by simp⟩
  | _, _, _, .cons h1 h2, r => by
    cases r with
    | cons r1 r2 =>
      obtain ⟨as, q1, n1⟩ := Dx.reads I S h1 r1
      obtain ⟨bs, q2, n2⟩ := DxAll.reads I S h2 r2
      exact ⟨_, ReadsAll.cons q1 q2, fun z => (List.mem_append.mp z).elim n1 n2⟩
end
end
/-- repr(x), x a list, tuple or dict of data -/
def rRepr (K : PySem.W.Frag) : List V → Hp → VK → Prop := fun xs H Q => ∃ (a : Addr) (d : PyData), xs = [.ref a] ∧ Dx K H (.ref a) d ∧ d.showable = true ∧ d.depth ≤ 100 ∧ d.shown.length ≤ sizeLine ∧ Q (.str d.shown) H
theorem call_reprX {X : Cx} (hg : X.A.guards = some []) (hu : X.A.units + 101 < cLine) (S : SmD X.K) : CallR X (.builtin "repr") (rRepr X.K) := by
  intro pins s σ H xs us Q I r h
  obtain ⟨a, d, rfl, hd, hs, hdp, hz, q⟩ := h
  obtain ⟨u, rfl, ru⟩ := vals1 r
  obtain ⟨as, hr, hn⟩ := hd.reads I S ru
  cases (show u = Value.ref a from ru)
  exact repr_of_reads' hr hs (fun _ => hn) hg (by omega) (fun _ _ e => e) (fun h' t tk hk => ⟨.str d.shown, H, I.kept (t' := tk) hk, ⟨_, rfl⟩, q⟩) hz
/-! ## the head's facts, by tables of tests on the written part -/
open PySem.W in
def oexB (K : Frag) (C : Addr) : Bool := (match K.lookup C with
  | some ⟨.type "type", _, .cls cd, sl⟩ => (match cd.mro, sl.toList with
    | .ref C' :: bm, [_, _, _, _, some (.builtin n), _] => C' == C && (n == "ValueError.__new__" && (!cd.hasDel && (cd.hasDict && PySem.HandSPX.refsVE bm)))
    | _, _ => false)
  | _ => false) && (He.eqO (findIn K (.ref C) "__setattr__") (some (some (.builtin "object.__setattr__"))) && (decide (subIn K (.ref C) (.type "BaseException") = some true) && (decide (typeIn K (.ref C) = some (.type "type")) && keepIn K (.ref C))))
theorem oexB_ok {K : PySem.W.Frag} {C : Addr} (h : oexB K C = true) : OexC K C := by
  obtain ⟨h1, h2⟩ := He.ba h
  obtain ⟨h3, h4⟩ := He.ba h2
  obtain ⟨h5, h6⟩ := He.ba h4
  obtain ⟨h7, h8⟩ := He.ba h6
  refine ⟨?_, He.eqO_ok h3, of_decide_eq_true h5, of_decide_eq_true h7, h8⟩
  split at h1
  · rename_i dd cd sl ho
    split at h1
    · rename_i C' bm k0 k1 k2 k3 n k5 hm hs
      obtain ⟨e1, h1⟩ := He.ba h1
      obtain ⟨e2, h1⟩ := He.ba h1
      obtain ⟨e3, h1⟩ := He.ba h1
      obtain ⟨e4, e5⟩ := He.ba h1
      obtain ⟨nm, bs, mro, ns, qn, hd, sn, sub, ab, col, del⟩ := cd
      dsimp only at hm e3 e4
      have e1 : C' = C := eq_of_beq e1
      have e2 : n = "ValueError.__new__" := eq_of_beq e2
      have e3 : del = false := by simpa using e3
      subst hm e1 e2 e3 e4
      have hsl : sl = #[k0, k1, k2, k3, some (.builtin "ValueError.__new__"), k5] := by
        obtain ⟨l⟩ := sl
        simp only at hs
        rw [hs]
      subst hsl
      exact ⟨_, _, _, _, _, _, _, _, _, _, _, _, _, _, _, ho, e5⟩
    · cases h1
  · cases h1
open PySem.W in
def excRB (K : Frag) (D : Addr) : Bool := He.eqO (findIn K (.ref D) "__getattribute__") (some (some (.builtin "BaseException.__getattribute__"))) && (He.eqO (findIn K (.ref D) "__getattr__") (some none) && (decide (subIn K (.ref D) (.type "BaseException") = some true) &&
  (hasDictIn K D && (He.eqO (findIn K (.ref D) "__class__") (some (some (.builtin "object.__class__"))) && (He.eqO (specialIn K (.builtin "object.__class__") "__get__") (some (some (.builtin "getset_descriptor.__get__"))) &&
  (decide (takesIn K (.builtin "object.__class__") = some true) && decide (mroIn K D (.type "object") = some true)))))))
theorem excRB_ok {K : PySem.W.Frag} {D : Addr} (h : excRB K D = true) : ExcR K D := by
  obtain ⟨h1, h⟩ := He.ba h
  obtain ⟨h2, h⟩ := He.ba h
  obtain ⟨h3, h⟩ := He.ba h
  obtain ⟨h4, h⟩ := He.ba h
  obtain ⟨h5, h⟩ := He.ba h
  obtain ⟨h6, h⟩ := He.ba h
  obtain ⟨h7, h8⟩ := He.ba h
  exact ⟨He.eqO_ok h1, He.eqO_ok h2, of_decide_eq_true h3, h4, He.eqO_ok h5, He.eqO_ok h6, of_decide_eq_true h7, of_decide_eq_true h8⟩
/-- an __init__ of an own exception that begins with super() -/
structure DefS where
  cls : Str
  qual : Str
  params : Arguments
  body : List Stmt
  scope : Scope
abbrev FnSW : Type := Option (Str × Str × Arguments × FuncBody × Scope × Addr × List Str × Addr)
abbrev initAd (K : PySem.W.Frag) (C : Str) : Addr := He.ma K (He.ga K C) "__init__"
def fnSW (K : PySem.W.Frag) (C : Str) : FnSW := match K.lookup (initAd K C) with
  | some ⟨_, _, .func fd, _⟩ => some (fd.name, fd.qualname, fd.params, fd.body, fd.scope, fd.globals, fd.closure.map (·.1), fd.builtins)
  | _ => none
def DefS.val (d : DefS) : FnSW := some ("__init__", d.qual, d.params, .stmts d.body, d.scope, mainGlobals, ["__class__"], builtinsNs)
open PySem.W in
/-- what such an __init__ of the class C wants of the written part, the module's file given -/
def supB (file : Str) (K : Frag) (C : Str) (qual : Str) : Bool :=
  He.eqO (findIn K (.ref (He.ga K C)) "__init__") (some (some (.ref (initAd K C)))) && (decide (typeIn K (.ref (initAd K C)) = some (.type "function")) &&
  ((match K.lookup (initAd K C) with
    | some ⟨_, _, .func fd, _⟩ => (match fd.closure, fd.code with
      | [(_, cc)], .ref cda => (match K.lookup cc with
          | some ⟨_, _, .cell (some (.ref D)), _⟩ => D == He.ga K C
          | _ => false) && (codeIn K (.ref cda) qual && (match K.lookup cda with
          | some ⟨_, _, .fields vs, _⟩ => (match vs[2]? with
            | some (Value.str f _) => file == f
            | _ => false)
          | _ => false))
      | _, _ => false)
    | _ => false) && (decide (mroIn K (He.ga K C) (.ref (He.ga K C)) = some true) && (He.eqO (nsIn K cStatics "thirdparty.any") (some none) && (decide (subIn K (.ref (He.ga K C)) (.type "ValueError") = some true) &&
    (match clsIn K (He.ga K C) with
    | some cd => He.eqO (alongIn K "__init__" ((cd.mro.dropWhile (· != .ref (He.ga K C))).drop 1)) (some (some (.builtin "ValueError.__init__")))
    | none => false))))))
theorem supB_ok {P : Program} {K : PySem.W.Frag} {mg : Str → Option Value} {d : DefS} (hw : fnSW K d.cls = d.val) (h : supB P.main.file K d.cls d.qual = true) (top : (P.main.scope.names.lookup ("super" : Str)).isSome = false) (su : mg "super" = none) :
    PySem.W.findIn K (.ref (He.ga K d.cls)) "__init__" = some (some (.ref (initAd K d.cls))) ∧ PySem.W.typeIn K (.ref (initAd K d.cls)) = some (.type "function") ∧
    ∃ (cc cda : Addr) (fd : FuncData), SupF P K mg (He.ga K d.cls) (initAd K d.cls) cc cda d.qual d.params d.body d.scope fd := by
  obtain ⟨h1, h⟩ := He.ba h
  obtain ⟨h2, h⟩ := He.ba h
  obtain ⟨h3, h⟩ := He.ba h
  obtain ⟨h4, h⟩ := He.ba h
  obtain ⟨h5, h⟩ := He.ba h
  obtain ⟨h6, h7⟩ := He.ba h
  refine ⟨He.eqO_ok h1, of_decide_eq_true h2, ?_⟩
  unfold fnSW at hw
  split at h3
  · rename_i oc od fd osl lk
    rw [lk] at hw
    split at h3
    · rename_i nm cc cda hclo hcod
      obtain ⟨h8, h3⟩ := He.ba h3
      obtain ⟨h9, h10⟩ := He.ba h3
      have e2 : (some (fd.name, fd.qualname, fd.params, fd.body, fd.scope, fd.globals, fd.closure.map (·.1), fd.builtins) : FnSW) = d.val := hw
      unfold DefS.val at e2
      simp only [Option.some.injEq, Prod.mk.injEq] at e2
      obtain ⟨g1, g2, g3, g4, g5, g6, g7, g8⟩ := e2
      rw [hclo] at g7
      have g7 : nm = "__class__" := by simpa using g7
      refine ⟨cc, cda, fd, ?_⟩
      have hcell : ∃ oc : Obj, K.lookup cc = some oc ∧ oc.data = .cell (some (.ref (He.ga K d.cls))) := by
        split at h8
        · rename_i a b D c hl
          have e : D = He.ga K d.cls := eq_of_beq h8
          exact ⟨_, hl, by rw [← e]⟩
        · cases h8
      have hco : ∃ (oc : Obj) (vs : Array Value) (file : Str) (tf : Tok), K.lookup cda = some oc ∧ oc.data = .fields vs ∧ vs[2]? = some (.str file tf) ∧ ((P.main.file : Str) == file) = true := by
        split at h10
        · rename_i a b vs c hl
          split at h10
          · rename_i f t hv
            exact ⟨_, vs, f, t, hl, rfl, hv, h10⟩
          · cases h10
        · cases h10
      have hal : ∃ cd, PySem.W.clsIn K (He.ga K d.cls) = some cd ∧ PySem.W.alongIn K "__init__" ((cd.mro.dropWhile (· != .ref (He.ga K d.cls))).drop 1) = some (some (.builtin "ValueError.__init__")) := by
        split at h7
        · rename_i cd hc
          exact ⟨cd, hc, He.eqO_ok h7⟩
        · cases h7
      obtain ⟨n1, n2, n3, n4, n5, n6, n7, n8, n9, n10, n11, n12, n13, n14, n15⟩ := fd
      dsimp only at g1 g2 g3 g4 g5 g6 g8 hclo hcod
      subst g1 g2 g3 g4 g5 g6 g8 hclo hcod g7
      exact ⟨⟨oc, od, n8, n9, n10, n11, n14, n12, osl, rfl, lk⟩, h9, hco, hcell, top, of_decide_eq_true h4, He.eqO_ok h5, hal, of_decide_eq_true h6, su⟩
    · cases h3
  · cases h3
/-! ### the Hook -/
abbrev AlZ : Type := Bool × List He.FnW × List FnSW
def obsZ (fb : List (PySem.W.Frag → Bool)) (fn : List He.DefD) (cs : List DefS) (K : PySem.W.Frag) : AlZ := ((fb.all fun f => f K) && fn.all fun d => d.ok K, fn.map fun d => He.fnW K d.at_, cs.map fun d => fnSW K d.cls)
def valZ (fn : List He.DefD) (cs : List DefS) : AlZ := (true, fn.map He.DefD.val, cs.map DefS.val)
def SaysZ (fb : List (PySem.W.Frag → Bool)) (fn : List He.DefD) (cs : List DefS) (K : PySem.W.Frag) : Prop := obsZ fb fn cs K = valZ fn cs
/-- a def whose lambdas are made: its code object, the table in it -/
def tabB (g : Addr → Option Obj) (K : PySem.W.Frag) (p : He.Defn) : Bool := (match g (He.cT K p).2 with
  | some o => He.emptyTab o
  | none => false) && (match K.lookup (He.cT K p).1 with
  | some ⟨.type c, _, .fields vs, _⟩ => decide (c = "code") && (decide (vs[11]? = some (.ref (He.cT K p).2)) && ((match vs.getD 18 .none, vs.getD 7 .none, vs.getD 9 .none, vs.getD 10 .none with
      | .str _ _, .int _ _, .bool _, .int _ _ => true
      | _, _, _, _ => false) && decide ((He.cT K p).1 ≠ (He.cT K p).2)))
  | _ => false)
theorem tabB_ok {h : Heap} {K : PySem.W.Frag} (X : K.In h) {p : He.Defn} (e : tabB h.get? K p = true) : h.get? (He.cT K p).2 = some { cls := .none, data := .fields #[] } ∧ PySem.W.CodeHd h (He.cT K p).1 (He.cT K p).2 := by
  obtain ⟨h1, h2⟩ := He.ba e
  refine ⟨?_, ?_⟩
  · split at h1
    · rename_i o ho
      rw [ho, He.emptyTab_eq h1]
    · cases h1
  · split at h2
    · rename_i c dd vs sl lk
      obtain ⟨q1, h2⟩ := He.ba h2
      obtain ⟨q2, h2⟩ := He.ba h2
      obtain ⟨q3, q4⟩ := He.ba h2
      have e2 := of_decide_eq_true q2
      have e3 : vs.getD 11 .none = .ref (He.cT K p).2 := by
        rw [Array.getD_eq_getD_getElem?, e2] <;> rfl
      split at q3
      · rename_i f tf fl tg b i tt z1 z2 z3 z4
        exact ⟨_, vs, f, tf, fl, tg, b, i, tt, X _ _ lk, congrArg Value.type (of_decide_eq_true q1), rfl, e2, e3, z1, z2, z3, z4, of_decide_eq_true q4⟩
      · cases q3
    · cases h2
def obsZG (n : Nat) (fb : List (PySem.W.Frag → Bool)) (fn : List He.DefD) (cs : List DefS) (ts : List He.Defn) (g : Addr → Option Obj) : Bool × AlZ := (ts.all fun p => tabB g (He.frT g (He.asD g n ++ [cStatics, sysModules])) p, obsZ fb fn cs (He.frT g (He.asD g n ++ [cStatics, sysModules])))
def TabsZ (ts : List He.Defn) (K : PySem.W.Frag) (h : Heap) : Prop := ∀ p ∈ ts, h.get? (He.cT K p).2 = some { cls := .none, data := .fields #[] } ∧ K.lookup (He.cT K p).2 = none ∧ PySem.W.CodeHd h (He.cT K p).1 (He.cT K p).2
def hookZ (n : Nat) (fb : List (PySem.W.Frag → Bool)) (fn : List He.DefD) (cs : List DefS) (ts : List He.Defn) : PySem.W.Hook where
  α := Bool × AlZ
  obs := fun s => obsZG n fb fn cs ts s.heap.get?
  val := fun _ => (true, valZ fn cs)
  says := fun _ h => ∃ K : PySem.W.Frag, K.In h ∧ SaysZ fb fn cs K ∧ TabsZ ts K h
  of := fun _ s e => by
    refine ⟨_, He.frT_in, congrArg Prod.snd e, fun p hp => ?_⟩
    have q := List.all_eq_true.mp (show (ts.all fun p => tabB s.heap.get? (He.frT s.heap.get? (He.asD s.heap.get? n ++ [cStatics, sysModules])) p) = true from congrArg Prod.fst e) p hp
    obtain ⟨h1, h2⟩ := tabB_ok He.frT_in q
    exact ⟨h1, He.frT_none h1 rfl, h2⟩
  keeps := fun _ _ _ ⟨K, hK, c, t⟩ k => ⟨K, PySem.W.Frag.In.keeps hK k, c, fun p hp => ⟨k _ _ (t p hp).1, (t p hp).2.1, (t p hp).2.2.keeps k⟩⟩
theorem obsZG_eq {n : Nat} {fb : List (PySem.W.Frag → Bool)} {fn : List He.DefD} {cs : List DefS} {ts : List He.Defn} {g : Addr → Option Obj} {s : Shared} (h : ∀ a, g a = s.heap.get? a) : obsZG n fb fn cs ts g = (hookZ n fb fn cs ts).obs s := by
  have e : g = s.heap.get? := funext h
  rw [e] <;> rfl
section
variable {fb : List (PySem.W.Frag → Bool)} {fn : List He.DefD} {cs : List DefS} {K : PySem.W.Frag}
theorem SaysZ.all (c : SaysZ fb fn cs K) : ∀ f ∈ fb, f K = true :=
  List.all_eq_true.mp (He.ba (show ((fb.all fun f => f K) && fn.all fun d => d.ok K) = true from congrArg (fun z : AlZ => z.1) c)).1
theorem SaysZ.fact (c : SaysZ fb fn cs K) (i : Nat) {f : PySem.W.Frag → Bool} (h : fb[i]? = some f := by rfl) : f K = true := c.all f (List.mem_of_getElem? h)
theorem SaysZ.def_ (c : SaysZ fb fn cs K) (i : Nat) {d : He.DefD} (h : fn[i]? = some d := by rfl) : ∃ fd, FunD K d.name d.qual d.params d.body d.scope (d.dvs K) (d.kws K) (He.fAd K d.at_) fd := by
  have c2 := (He.ba (show ((fb.all fun f => f K) && fn.all fun d => d.ok K) = true from congrArg (fun z : AlZ => z.1) c)).2
  have e : fn.map (fun d => He.fnW K d.at_) = fn.map He.DefD.val := congrArg (fun z : AlZ => z.2.1) c
  have e2 : (fn.map fun d => He.fnW K d.at_)[i]? = (fn.map He.DefD.val)[i]? := by rw [e]
  rw [List.getElem?_map, List.getElem?_map, h] at e2
  exact He.DefD.funD (Option.some.inj e2) (List.all_eq_true.mp c2 d (List.mem_of_getElem? h))
theorem SaysZ.ini (c : SaysZ fb fn cs K) {d : DefS} (h : d ∈ cs) : fnSW K d.cls = d.val := by
  have e : cs.map (fun d => fnSW K d.cls) = cs.map DefS.val := congrArg (fun z : AlZ => z.2.2) c
  obtain ⟨i, hi⟩ := List.mem_iff_getElem?.mp h
  have e2 : (cs.map fun d => fnSW K d.cls)[i]? = (cs.map DefS.val)[i]? := by rw [e]
  rw [List.getElem?_map, List.getElem?_map, hi] at e2
  exact Option.some.inj e2
end
def errL : List Str := (["BadTree", "BadWord", "BadText", "BadPlace", "BadNames", "BadTexts", "BadName", "BadCount", "BadUnit", "BadUnits", "NoUnit", "UsesRing", "BadFaces", "BadPoint", "BadPath", "NoFunction", "Faulty", "KindClash", "TwoNames", "BadProgram", "BadArguments", "BadMost", "NotNow", "BadMoment"] : List Str) ++ (["BadChosen", "BadScope", "BadKinds", "BadFunctions", "Unknown", "BadCode", "BadCodes", "BadSpot", "BadState", "BadWalk", "BadBlock", "BadStep", "Refused", "BadRows", "BadSlots", "BadSpans", "BadRoom", "BadPrices", "NotStraight", "BadPairs", "BadHelpers", "BadPlaces", "BadPaper", "BadChanges"] : List Str) ++ (["BadWaiting", "BadHeap", "BadWords", "BadAddresses", "BadDepth", "NotTold", "BadRegisters", "BadObject", "BadObjects", "TwoUnits", "BadOrder", "OtherRegisters", "Missing", "OtherFace", "BadBundle", "BadNumber", "BadBits", "BadInstruction", "BadOrders", "BadLong", "BadLeap", "BadLayout", "BadImage", "BadAddress"] : List Str)
def plnL : List Str := (["BadTree", "BadWord", "BadPlace", "BadNames", "BadTexts", "BadName", "BadUnit", "BadFaces", "BadPoint", "BadPath", "BadProgram", "BadArguments", "BadMost", "BadMoment", "BadChosen", "BadScope", "BadKinds", "BadCode", "BadSpot", "BadState", "BadWalk", "BadBlock", "BadStep", "BadSlots"] : List Str) ++ (["BadRoom", "BadPrices", "NotStraight", "BadHelpers", "BadPlaces", "BadPaper", "BadWaiting", "BadHeap", "BadWords", "BadAddresses", "BadDepth", "BadRegisters", "BadOrder", "OtherRegisters", "BadBundle", "BadNumber", "BadOrders", "BadLong", "BadLeap", "BadLayout", "BadImage", "BadAddress"] : List Str)
def ownL : List Str := (["BadText", "BadCount", "BadUnits", "NoUnit", "UsesRing", "NoFunction", "Faulty", "KindClash", "TwoNames", "NotNow", "BadFunctions", "Unknown", "BadCodes", "Refused", "BadRows", "BadSpans", "BadPairs", "BadChanges", "NotTold", "BadObject", "BadObjects", "TwoUnits", "Missing", "OtherFace"] : List Str) ++ (["BadBits", "BadInstruction"] : List Str)
def ownN : List (List Str) := [["line", "column", "wanted"], ["count"], ["at"], ["name"], ["ring"], ["name"], ["fault", "unit"], ["clash", "unit"], ["name"], ["word"], ["name"], ["name"], ["at"], ["why"], ["at"], ["at"], ["at"], ["at"], ["name"], ["at"], ["name"], ["name"], ["unit"], ["unit"], ["at"], ["at"]]
def d__law_begun : He.DefD := ⟨("_law_begun", none), "_law_begun", "_law_begun", defArgs s_law_begun, defBody s_law_begun, defScope s_law_begun, [], []⟩
def d__law_mixed : He.DefD := ⟨("_law_mixed", none), "_law_mixed", "_law_mixed", defArgs s_law_mixed, defBody s_law_mixed, defScope s_law_mixed, [], []⟩
def d__law_take : He.DefD := ⟨("_law_take", none), "_law_take", "_law_take", defArgs s_law_take, defBody s_law_take, defScope s_law_take, [], []⟩
def d__law_pick : He.DefD := ⟨("_law_pick", none), "_law_pick", "_law_pick", defArgs s_law_pick, defBody s_law_pick, defScope s_law_pick, [], []⟩
def d__law_plain_errors : He.DefD := ⟨("_law_plain_errors", none), "_law_plain_errors", "_law_plain_errors", defArgs s_law_plain_errors, defBody s_law_plain_errors, defScope s_law_plain_errors, [], []⟩
def d__law_told_errors : He.DefD := ⟨("_law_told_errors", none), "_law_told_errors", "_law_told_errors", defArgs s_law_told_errors, defBody s_law_told_errors, defScope s_law_told_errors, [], []⟩
def d__law_classes : He.DefD := ⟨("_law_classes", none), "_law_classes", "_law_classes", defArgs s_law_classes, defBody s_law_classes, defScope s_law_classes, [], []⟩
def d_law : He.DefD := ⟨("law", none), "law", "law", defArgs s_law, defBody s_law, defScope s_law, [], []⟩
def i_BadText : DefS := ⟨"BadText", "BadText.__init__", defArgs s_BadText___init__, defBody s_BadText___init__, defScope s_BadText___init__⟩
def i_BadCount : DefS := ⟨"BadCount", "BadCount.__init__", defArgs s_BadCount___init__, defBody s_BadCount___init__, defScope s_BadCount___init__⟩
def i_BadUnits : DefS := ⟨"BadUnits", "BadUnits.__init__", defArgs s_BadUnits___init__, defBody s_BadUnits___init__, defScope s_BadUnits___init__⟩
def i_NoUnit : DefS := ⟨"NoUnit", "NoUnit.__init__", defArgs s_NoUnit___init__, defBody s_NoUnit___init__, defScope s_NoUnit___init__⟩
def i_UsesRing : DefS := ⟨"UsesRing", "UsesRing.__init__", defArgs s_UsesRing___init__, defBody s_UsesRing___init__, defScope s_UsesRing___init__⟩
def i_NoFunction : DefS := ⟨"NoFunction", "NoFunction.__init__", defArgs s_NoFunction___init__, defBody s_NoFunction___init__, defScope s_NoFunction___init__⟩
def i_Faulty : DefS := ⟨"Faulty", "Faulty.__init__", defArgs s_Faulty___init__, defBody s_Faulty___init__, defScope s_Faulty___init__⟩
def i_KindClash : DefS := ⟨"KindClash", "KindClash.__init__", defArgs s_KindClash___init__, defBody s_KindClash___init__, defScope s_KindClash___init__⟩
def i_TwoNames : DefS := ⟨"TwoNames", "TwoNames.__init__", defArgs s_TwoNames___init__, defBody s_TwoNames___init__, defScope s_TwoNames___init__⟩
def i_NotNow : DefS := ⟨"NotNow", "NotNow.__init__", defArgs s_NotNow___init__, defBody s_NotNow___init__, defScope s_NotNow___init__⟩
def i_BadFunctions : DefS := ⟨"BadFunctions", "BadFunctions.__init__", defArgs s_BadFunctions___init__, defBody s_BadFunctions___init__, defScope s_BadFunctions___init__⟩
def i_Unknown : DefS := ⟨"Unknown", "Unknown.__init__", defArgs s_Unknown___init__, defBody s_Unknown___init__, defScope s_Unknown___init__⟩
def i_BadCodes : DefS := ⟨"BadCodes", "BadCodes.__init__", defArgs s_BadCodes___init__, defBody s_BadCodes___init__, defScope s_BadCodes___init__⟩
def i_Refused : DefS := ⟨"Refused", "Refused.__init__", defArgs s_Refused___init__, defBody s_Refused___init__, defScope s_Refused___init__⟩
def i_BadRows : DefS := ⟨"BadRows", "BadRows.__init__", defArgs s_BadRows___init__, defBody s_BadRows___init__, defScope s_BadRows___init__⟩
def i_BadSpans : DefS := ⟨"BadSpans", "BadSpans.__init__", defArgs s_BadSpans___init__, defBody s_BadSpans___init__, defScope s_BadSpans___init__⟩
def i_BadPairs : DefS := ⟨"BadPairs", "BadPairs.__init__", defArgs s_BadPairs___init__, defBody s_BadPairs___init__, defScope s_BadPairs___init__⟩
def i_BadChanges : DefS := ⟨"BadChanges", "BadChanges.__init__", defArgs s_BadChanges___init__, defBody s_BadChanges___init__, defScope s_BadChanges___init__⟩
def i_NotTold : DefS := ⟨"NotTold", "NotTold.__init__", defArgs s_NotTold___init__, defBody s_NotTold___init__, defScope s_NotTold___init__⟩
def i_BadObject : DefS := ⟨"BadObject", "BadObject.__init__", defArgs s_BadObject___init__, defBody s_BadObject___init__, defScope s_BadObject___init__⟩
def i_BadObjects : DefS := ⟨"BadObjects", "BadObjects.__init__", defArgs s_BadObjects___init__, defBody s_BadObjects___init__, defScope s_BadObjects___init__⟩
def i_TwoUnits : DefS := ⟨"TwoUnits", "TwoUnits.__init__", defArgs s_TwoUnits___init__, defBody s_TwoUnits___init__, defScope s_TwoUnits___init__⟩
def i_Missing : DefS := ⟨"Missing", "Missing.__init__", defArgs s_Missing___init__, defBody s_Missing___init__, defScope s_Missing___init__⟩
def i_OtherFace : DefS := ⟨"OtherFace", "OtherFace.__init__", defArgs s_OtherFace___init__, defBody s_OtherFace___init__, defScope s_OtherFace___init__⟩
def i_BadBits : DefS := ⟨"BadBits", "BadBits.__init__", defArgs s_BadBits___init__, defBody s_BadBits___init__, defScope s_BadBits___init__⟩
def i_BadInstruction : DefS := ⟨"BadInstruction", "BadInstruction.__init__", defArgs s_BadInstruction___init__, defBody s_BadInstruction___init__, defScope s_BadInstruction___init__⟩
def fnL : List He.DefD := [d__law_begun, d__law_mixed, d__law_take, d__law_pick, d__law_plain_errors, d__law_told_errors, d__law_classes, d_law]
def csL : List DefS := [i_BadText, i_BadCount, i_BadUnits, i_NoUnit, i_UsesRing, i_NoFunction, i_Faulty, i_KindClash, i_TwoNames, i_NotNow, i_BadFunctions, i_Unknown, i_BadCodes, i_Refused, i_BadRows, i_BadSpans, i_BadPairs, i_BadChanges, i_NotTold, i_BadObject, i_BadObjects, i_TwoUnits, i_Missing, i_OtherFace, i_BadBits, i_BadInstruction]
abbrev gloB (x : Str) (K : PySem.W.Frag) : Bool := (He.Fa.glo x).ok K
abbrev freeB (x : Str) (K : PySem.W.Frag) : Bool := (He.Fa.free x).ok K
abbrev noatB (x f : Str) (K : PySem.W.Frag) : Bool := (He.Fa.noat x f).ok K
def mainFile : Str := PySem.Challenge.pw_stopanywhere_k24_errors_made_and_bases.main.file
def smdB (K : PySem.W.Frag) : Bool := match K.lookup sysModules with | some ⟨.type n, _, _, _⟩ => decide (n = "dict") | _ => false
theorem smdB_ok {K : PySem.W.Frag} (h : smdB K = true) : SmD K := by
  unfold smdB at h
  split at h
  · rename_i n a b c e
    exact ⟨_, e, congrArg Value.type (of_decide_eq_true h)⟩
  · cases h
abbrev excN (x : Str) (K : PySem.W.Frag) : Bool := PySem.W.excIn K (He.ga K x) He.veBase "ValueError.__new__"
abbrev oexN (x : Str) (K : PySem.W.Frag) : Bool := oexB K (He.ga K x)
abbrev excR (x : Str) (K : PySem.W.Frag) : Bool := excRB K (He.ga K x)
abbrev supN (d : DefS) (K : PySem.W.Frag) : Bool := supB mainFile K d.cls d.qual
def dflB (x : Str) (K : PySem.W.Frag) : Bool := match K.lookup (initAd K x) with | some ⟨_, _, .func fd, _⟩ => (match fd.defaults with | .none => true | _ => false) | _ => false
theorem dflB_ok {K : PySem.W.Frag} {x : Str} (h : dflB x K = true) {oc : Value} {od : Option Addr} {fd : FuncData} {osl : Array (Option Value)} (lk : K.lookup (initAd K x) = some ⟨oc, od, .func fd, osl⟩) : fd.defaults = .none := by
  unfold dflB at h
  rw [lk] at h
  dsimp only at h
  split at h
  · assumption
  · cases h
theorem SupF.binds {P : Program} {K : PySem.W.Frag} {mg : Str → Option Value} {C cc cda : Addr} {x qual : Str} {params : Arguments} {body : List Stmt} {scope : Scope} {fd : FuncData} {ps : List Str} (F : SupF P K mg C (initAd K x) cc cda qual params body scope fd) (hd : dflB x K = true)
    (h : ∀ (kV doc pm ct : Value) (an : Option Addr) (us : List Value), us.length = ps.length → bindArgs (PySem.W.ksFn "__init__" qual params body scope .none kV doc pm an (.ref cda) ct cc) ⟨us, []⟩ = pure (ps.zip us)) : Binds K fd ps [] := by
  obtain ⟨oc, od, dV, kV, doc, pm, ct, an, osl, rfl, lk⟩ := F.ex
  have e : dV = .none := dflB_ok hd lk
  subst e
  exact .all (h kV doc pm ct an)
def strOf : Value → Option Str
  | .str z _ => some z
  | _ => none
def tupB (x : Str) (ss : List Str) (K : PySem.W.Frag) : Bool := match K.lookup (He.ga K x) with | some ⟨.type c, _, .seq its _, _⟩ => decide (c = "tuple") && (decide (its.size ≤ sizeLine) && decide (its.toList.map strOf = ss.map some)) | _ => false
theorem strOf_vals : ∀ {us : List Value} {ss : List Str}, us.map strOf = ss.map some → Vals (ss.map V.str) us
  | [], [], _ => .nil
  | [], _ :: _, h => by cases h
  | _ :: _, [], h => by cases h
  | u :: us, z :: ss, h => by
    simp only [List.map_cons, List.cons.injEq] at h
    refine .cons ?_ (strOf_vals h.2)
    cases u with
    | str y t =>
      have e : y = z := by injection h.1
      subst e
      exact ⟨t, rfl⟩
    | _ => cases h.1
theorem tupB_ok {x : Str} {ss : List Str} {K : PySem.W.Frag} (h : tupB x ss K = true) (H : Hp) : SqT K H (He.ga K x) (ss.map V.str) := by
  unfold tupB at h
  split at h
  · rename_i c d its n sl lk
    obtain ⟨h1, h⟩ := He.ba h
    obtain ⟨h2, h3⟩ := He.ba h
    exact .inr ⟨_, its, n, lk, congrArg Value.type (of_decide_eq_true h1), rfl, of_decide_eq_true h2, strOf_vals (of_decide_eq_true h3)⟩
  · cases h
def rowB (K : PySem.W.Frag) (x : Str) : Bool := (match PySem.W.clsIn K (He.ga K x) with
  | some cd => decide (cd.mro = [.ref (He.ga K x), .ref (He.ga K "StopError"), .type "ValueError", .type "Exception", .type "BaseException", .type "object"])
  | none => false) && decide (PySem.W.typeIn K (.ref (He.ga K x)) = some (.type "type"))
def incB : List Nat → Bool
  | a :: b :: r => decide (a < b) && incB (b :: r)
  | _ => true
theorem inc_lt : ∀ {l : List Nat} {a : Nat}, incB (a :: l) = true → ∀ b ∈ l, a < b
  | [], _, _, _, h => nomatch h
  | c :: r, a, e, b, h => by
    obtain ⟨h1, h2⟩ := He.ba (show (decide (a < c) && incB (c :: r)) = true from e)
    have h1 : a < c := of_decide_eq_true h1
    rcases List.mem_cons.mp h with rfl | h
    · exact h1
    · exact Nat.lt_trans h1 (inc_lt h2 b h)
theorem inc_nodup : ∀ {l : List Nat}, incB l = true → l.Nodup
  | [], _ => List.nodup_nil
  | [a], _ => List.nodup_cons.mpr ⟨by simp, List.nodup_nil⟩
  | a :: b :: r, e => List.nodup_cons.mpr ⟨fun h => Nat.lt_irrefl a (inc_lt e a h), inc_nodup (He.ba (show (decide (a < b) && incB (b :: r)) = true from e)).2⟩
def fGl (K : PySem.W.Frag) : Bool := ((("StopError" : Str) :: errL) : List Str).all fun x => gloB x K
def fOx1 (K : PySem.W.Frag) : Bool := (errL.take 36).all fun x => oexN x K
def fOx2 (K : PySem.W.Frag) : Bool := (errL.drop 36).all fun x => oexN x K
def fEr1 (K : PySem.W.Frag) : Bool := (errL.take 36).all fun x => excR x K
def fEr2 (K : PySem.W.Frag) : Bool := (errL.drop 36).all fun x => excR x K
def fPl (K : PySem.W.Frag) : Bool := plnL.all fun x => excN x K
def fNa (K : PySem.W.Frag) : Bool := (ownL.zip ownN).all fun p => p.2.all fun f => noatB p.1 f K
def fRow (K : PySem.W.Frag) : Bool := errL.all fun x => rowB K x
def fInc (K : PySem.W.Frag) : Bool := incB (((("StopError" : Str) :: errL) : List Str).map fun x => He.ga K x)
def fStop (K : PySem.W.Frag) : Bool := (PySem.W.clsIn K (He.ga K "StopError")).isSome && decide (PySem.W.typeIn K (.ref (He.ga K "StopError")) = some (.type "type"))
def fSup (K : PySem.W.Frag) : Bool := csL.all fun d => supN d K
def fDfl (K : PySem.W.Frag) : Bool := ownL.all fun x => dflB x K
def fb0 : List (PySem.W.Frag → Bool) := [smdB, gloB "_law_begun", gloB "_law_mixed", gloB "_law_take", gloB "_law_pick", gloB "_law_plain_errors", gloB "_law_told_errors", gloB "_law_classes", gloB "law", freeB "ValueError", freeB "abs", freeB "enumerate", freeB "int", freeB "isinstance", freeB "len", freeB "repr", freeB "set", freeB "super"]
def fb1 : List (PySem.W.Frag → Bool) := [fGl, fInc, fStop, fDfl]
def fb2 : List (PySem.W.Frag → Bool) := [fOx1]
def fb3 : List (PySem.W.Frag → Bool) := [fOx2]
def fb4 : List (PySem.W.Frag → Bool) := [fEr1]
def fb5 : List (PySem.W.Frag → Bool) := [fEr2]
def fb6 : List (PySem.W.Frag → Bool) := [fPl, fNa]
def fb7 : List (PySem.W.Frag → Bool) := [fRow]
def fb8 : List (PySem.W.Frag → Bool) := [fSup]
def fbL : List (PySem.W.Frag → Bool) := fb0 ++ fb1 ++ fb2 ++ fb3 ++ fb4 ++ fb5 ++ fb6 ++ fb7 ++ fb8
def tsL : List He.Defn := []
/-- the written part: what the module's names lead to, one way, each once -/
def emF (g : Addr → Option Obj) (a : Addr) : List Addr := a :: (match g a with
  | some ⟨_, _, .func fd, _⟩ => He.refV fd.code ++ fd.closure.map (·.2)
  | _ => [])
def emC (g : Addr → Option Obj) (a : Addr) : List Addr := match g a with
  | some ⟨_, _, .cls cd, _⟩ => a :: cd.ns :: (match g cd.ns with
    | some ⟨_, _, .dict es _, _⟩ => es.toList.flatMap fun e => (He.refV e.val).flatMap (emF g)
    | _ => [])
  | _ => emF g a
def colG (g : Addr → Option Obj) : List Addr := mainGlobals :: cStatics :: sysModules :: (match g mainGlobals with
  | some ⟨_, _, .dict es _, _⟩ => es.toList.flatMap fun e => (He.refV e.val).flatMap (emC g)
  | _ => [])
abbrev hk : PySem.W.Hook where
  α := AlZ
  obs := fun s => obsZ fbL fnL csL (He.frG s.heap.get? (colG s.heap.get?))
  val := fun _ => valZ fnL csL
  says := fun _ h => ∃ K : PySem.W.Frag, K.In h ∧ SaysZ fbL fnL csL K
  of := fun _ _ e => ⟨_, He.frG_in, e⟩
  keeps := fun _ _ _ ⟨K, hK, c⟩ k => ⟨K, PySem.W.Frag.In.keeps hK k, c⟩
def looseL : List PySem.Str := (["StopError", "BadTree", "BadWord", "BadText", "BadPlace", "BadNames", "BadTexts", "BadName", "BadCount", "BadUnit", "BadUnits", "NoUnit", "UsesRing", "BadFaces", "BadPoint", "BadPath", "NoFunction", "Faulty", "KindClash", "TwoNames", "BadProgram", "BadArguments", "BadMost", "NotNow", "BadMoment", "BadChosen", "BadScope", "BadKinds", "BadFunctions", "Unknown"] : List PySem.Str) ++ (["BadCode", "BadCodes", "BadSpot", "BadState", "BadWalk", "BadBlock", "BadStep", "Refused", "BadRows", "BadSlots", "BadSpans", "BadRoom", "BadPrices", "NotStraight", "BadPairs", "BadHelpers", "BadPlaces", "BadPaper", "BadChanges", "BadWaiting", "BadHeap", "BadWords", "BadAddresses", "BadDepth", "NotTold", "BadRegisters", "BadObject", "BadObjects", "TwoUnits", "BadOrder"] : List PySem.Str) ++ (["OtherRegisters", "Missing", "OtherFace", "BadBundle", "BadNumber", "BadBits", "BadInstruction", "BadOrders", "BadLong", "BadLeap", "BadLayout", "BadImage", "BadAddress", "_law_begun", "_law_mixed", "_law_take", "_law_pick", "_law_plain_errors", "_law_told_errors", "_law_classes"] : List PySem.Str)
abbrev Rw : PySem.W.OpenRow := PySem.W.OpenLaw.row PySem.Challenge.rw_stopanywhere_k24_errors_made_and_bases
noncomputable abbrev EndS (w : World) (os : OsState) : Option PySem.W.SharedT := HandSHeadRun.endF (HandSHeadRun.stepQ (HandSHeadRun.denQ HandSHeadRun.tabQ) Rw.prog w) 17100 Rw.prog w os
def KS (s : PySem.W.SharedT) : PySem.W.Frag := He.frG (HandSHeadRun.getT s) (colG (HandSHeadRun.getT s))
def ob (s : PySem.W.SharedT) : AlZ := obsZ fbL fnL csL (KS s)
theorem ob_eq (s : PySem.W.SharedT) : ob s = hk.obs s.abs := by
  show obsZ fbL fnL csL (He.frG (HandSHeadRun.getT s) (colG (HandSHeadRun.getT s))) = obsZ fbL fnL csL (He.frG s.abs.heap.get? (colG s.abs.heap.get?))
  rw [show HandSHeadRun.getT s = s.abs.heap.get? from funext (HandSHeadRun.getT_eq s)]
/-! one kernel run for each group of the tests: the memory of a run is given back before the next -/
set_option maxHeartbeats 0 in
theorem run_0 (w : World) : HandSHeadRun.RunEq Rw (PySem.W.view Rw.prog [82]) PySem.W.Hook.none (fun _ => ()) 17100 looseL w := by
  intro os
  kernel_rfl
set_option maxHeartbeats 0 in
theorem run_n (w : World) (os : OsState) : (EndS w os).map (fun s => (fnL.all (fun d => d.ok (KS s)), fnL.map fun d => He.fnW (KS s) d.at_)) = some (true, fnL.map He.DefD.val) := by
  kernel_rfl
set_option maxHeartbeats 0 in
theorem run_c (w : World) (os : OsState) : (EndS w os).map (fun s => csL.map fun d => fnSW (KS s) d.cls) = some (csL.map DefS.val) := by
  kernel_rfl
set_option maxHeartbeats 0 in
theorem run_f0 (w : World) (os : OsState) : (EndS w os).map (fun s => fb0.all fun f => f (KS s)) = some true := by
  kernel_rfl
set_option maxHeartbeats 0 in
theorem run_f1 (w : World) (os : OsState) : (EndS w os).map (fun s => fb1.all fun f => f (KS s)) = some true := by
  kernel_rfl
set_option maxHeartbeats 0 in
theorem run_f2 (w : World) (os : OsState) : (EndS w os).map (fun s => fb2.all fun f => f (KS s)) = some true := by
  kernel_rfl
set_option maxHeartbeats 0 in
theorem run_f3 (w : World) (os : OsState) : (EndS w os).map (fun s => fb3.all fun f => f (KS s)) = some true := by
  kernel_rfl
set_option maxHeartbeats 0 in
theorem run_f4 (w : World) (os : OsState) : (EndS w os).map (fun s => fb4.all fun f => f (KS s)) = some true := by
  kernel_rfl
set_option maxHeartbeats 0 in
theorem run_f5 (w : World) (os : OsState) : (EndS w os).map (fun s => fb5.all fun f => f (KS s)) = some true := by
  kernel_rfl
set_option maxHeartbeats 0 in
theorem run_f6 (w : World) (os : OsState) : (EndS w os).map (fun s => fb6.all fun f => f (KS s)) = some true := by
  kernel_rfl
set_option maxHeartbeats 0 in
theorem run_f7 (w : World) (os : OsState) : (EndS w os).map (fun s => fb7.all fun f => f (KS s)) = some true := by
  kernel_rfl
set_option maxHeartbeats 0 in
theorem run_f8 (w : World) (os : OsState) : (EndS w os).map (fun s => fb8.all fun f => f (KS s)) = some true := by
  kernel_rfl
theorem run (w : World) : HandSHeadRun.RunEq Rw (PySem.W.view Rw.prog [82]) hk ob 17100 looseL w := by
  intro os
  have h0 : Option.map _ (EndS w os) = _ := run_0 w os
  have hn := run_n w os
  have hc := run_c w os
  have f0 := run_f0 w os
  have f1 := run_f1 w os
  have f2 := run_f2 w os
  have f3 := run_f3 w os
  have f4 := run_f4 w os
  have f5 := run_f5 w os
  have f6 := run_f6 w os
  have f7 := run_f7 w os
  have f8 := run_f8 w os
  show Option.map _ (EndS w os) = _
  revert h0 hn hc f0 f1 f2 f3 f4 f5 f6 f7 f8
  generalize EndS w os = E
  intro h0 hn hc f0 f1 f2 f3 f4 f5 f6 f7 f8
  cases E with
  | none => cases hn
  | some s =>
    simp only [Option.map_some] at h0
    replace h0 := Option.some.inj h0
    simp only [Option.map_some, Option.some.injEq, Prod.mk.injEq] at hn hc f0 f1 f2 f3 f4 f5 f6 f7 f8 ⊢
    refine ⟨congrArg (fun z => z.1) h0, congrArg (fun z => z.2.1) h0, ?_⟩
    show ((fbL.all fun f => f (KS s)) && fnL.all fun d => d.ok (KS s), fnL.map fun d => He.fnW (KS s) d.at_, csL.map fun d => fnSW (KS s) d.cls) = (true, fnL.map He.DefD.val, csL.map DefS.val)
    rw [hn.1, hn.2, hc, Bool.and_true]
    have e : (fbL.all fun f => f (KS s)) = true := by
      unfold fbL
      simp only [List.all_append, Bool.and_eq_true]
      exact ⟨⟨⟨⟨⟨⟨⟨⟨f0, f1⟩, f2⟩, f3⟩, f4⟩, f5⟩, f6⟩, f7⟩, f8⟩
    rw [e]
section
variable {K : PySem.W.Frag}
theorem fact_smd (c : SaysZ fbL fnL csL K) : (smdB) K = true := c.fact 0
theorem fact_g__law_begun (c : SaysZ fbL fnL csL K) : (gloB "_law_begun") K = true := c.fact 1
theorem fact_g__law_mixed (c : SaysZ fbL fnL csL K) : (gloB "_law_mixed") K = true := c.fact 2
theorem fact_g__law_take (c : SaysZ fbL fnL csL K) : (gloB "_law_take") K = true := c.fact 3
theorem fact_g__law_pick (c : SaysZ fbL fnL csL K) : (gloB "_law_pick") K = true := c.fact 4
theorem fact_g__law_plain_errors (c : SaysZ fbL fnL csL K) : (gloB "_law_plain_errors") K = true := c.fact 5
theorem fact_g__law_told_errors (c : SaysZ fbL fnL csL K) : (gloB "_law_told_errors") K = true := c.fact 6
theorem fact_g__law_classes (c : SaysZ fbL fnL csL K) : (gloB "_law_classes") K = true := c.fact 7
theorem fact_g_law (c : SaysZ fbL fnL csL K) : (gloB "law") K = true := c.fact 8
theorem fact_f_ValueError (c : SaysZ fbL fnL csL K) : (freeB "ValueError") K = true := c.fact 9
theorem fact_f_abs (c : SaysZ fbL fnL csL K) : (freeB "abs") K = true := c.fact 10
theorem fact_f_enumerate (c : SaysZ fbL fnL csL K) : (freeB "enumerate") K = true := c.fact 11
theorem fact_f_int (c : SaysZ fbL fnL csL K) : (freeB "int") K = true := c.fact 12
theorem fact_f_isinstance (c : SaysZ fbL fnL csL K) : (freeB "isinstance") K = true := c.fact 13
theorem fact_f_len (c : SaysZ fbL fnL csL K) : (freeB "len") K = true := c.fact 14
theorem fact_f_repr (c : SaysZ fbL fnL csL K) : (freeB "repr") K = true := c.fact 15
theorem fact_f_set (c : SaysZ fbL fnL csL K) : (freeB "set") K = true := c.fact 16
theorem fact_f_super (c : SaysZ fbL fnL csL K) : (freeB "super") K = true := c.fact 17
theorem fact_fGl (c : SaysZ fbL fnL csL K) : (fGl) K = true := c.fact 18
theorem fact_fInc (c : SaysZ fbL fnL csL K) : (fInc) K = true := c.fact 19
theorem fact_fStop (c : SaysZ fbL fnL csL K) : (fStop) K = true := c.fact 20
theorem fact_fDfl (c : SaysZ fbL fnL csL K) : (fDfl) K = true := c.fact 21
theorem fact_fOx1 (c : SaysZ fbL fnL csL K) : (fOx1) K = true := c.fact 22
theorem fact_fOx2 (c : SaysZ fbL fnL csL K) : (fOx2) K = true := c.fact 23
theorem fact_fEr1 (c : SaysZ fbL fnL csL K) : (fEr1) K = true := c.fact 24
theorem fact_fEr2 (c : SaysZ fbL fnL csL K) : (fEr2) K = true := c.fact 25
theorem fact_fPl (c : SaysZ fbL fnL csL K) : (fPl) K = true := c.fact 26
theorem fact_fNa (c : SaysZ fbL fnL csL K) : (fNa) K = true := c.fact 27
theorem fact_fRow (c : SaysZ fbL fnL csL K) : (fRow) K = true := c.fact 28
theorem fact_fSup (c : SaysZ fbL fnL csL K) : (fSup) K = true := c.fact 29
theorem def__law_begun (c : SaysZ fbL fnL csL K) : ∃ fd, FunD K "_law_begun" "_law_begun" (defArgs s_law_begun) (defBody s_law_begun) (defScope s_law_begun) [] [] (He.ga K "_law_begun") fd := c.def_ 0 (d := d__law_begun) rfl
theorem def__law_mixed (c : SaysZ fbL fnL csL K) : ∃ fd, FunD K "_law_mixed" "_law_mixed" (defArgs s_law_mixed) (defBody s_law_mixed) (defScope s_law_mixed) [] [] (He.ga K "_law_mixed") fd := c.def_ 1 (d := d__law_mixed) rfl
theorem def__law_take (c : SaysZ fbL fnL csL K) : ∃ fd, FunD K "_law_take" "_law_take" (defArgs s_law_take) (defBody s_law_take) (defScope s_law_take) [] [] (He.ga K "_law_take") fd := c.def_ 2 (d := d__law_take) rfl
theorem def__law_pick (c : SaysZ fbL fnL csL K) : ∃ fd, FunD K "_law_pick" "_law_pick" (defArgs s_law_pick) (defBody s_law_pick) (defScope s_law_pick) [] [] (He.ga K "_law_pick") fd := c.def_ 3 (d := d__law_pick) rfl
theorem def__law_plain_errors (c : SaysZ fbL fnL csL K) : ∃ fd, FunD K "_law_plain_errors" "_law_plain_errors" (defArgs s_law_plain_errors) (defBody s_law_plain_errors) (defScope s_law_plain_errors) [] [] (He.ga K "_law_plain_errors") fd := c.def_ 4 (d := d__law_plain_errors) rfl
theorem def__law_told_errors (c : SaysZ fbL fnL csL K) : ∃ fd, FunD K "_law_told_errors" "_law_told_errors" (defArgs s_law_told_errors) (defBody s_law_told_errors) (defScope s_law_told_errors) [] [] (He.ga K "_law_told_errors") fd := c.def_ 5 (d := d__law_told_errors) rfl
theorem def__law_classes (c : SaysZ fbL fnL csL K) : ∃ fd, FunD K "_law_classes" "_law_classes" (defArgs s_law_classes) (defBody s_law_classes) (defScope s_law_classes) [] [] (He.ga K "_law_classes") fd := c.def_ 6 (d := d__law_classes) rfl
theorem def_law (c : SaysZ fbL fnL csL K) : ∃ fd, FunD K "law" "law" (defArgs s_law) (defBody s_law) (defScope s_law) [] [] (He.ga K "law") fd := c.def_ 7 (d := d_law) rfl
theorem ini_BadText (c : SaysZ fbL fnL csL K) : fnSW K "BadText" = (i_BadText).val := c.ini (d := i_BadText) (List.mem_of_getElem? (i := 0) rfl)
theorem ini_BadCount (c : SaysZ fbL fnL csL K) : fnSW K "BadCount" = (i_BadCount).val := c.ini (d := i_BadCount) (List.mem_of_getElem? (i := 1) rfl)
theorem ini_BadUnits (c : SaysZ fbL fnL csL K) : fnSW K "BadUnits" = (i_BadUnits).val := c.ini (d := i_BadUnits) (List.mem_of_getElem? (i := 2) rfl)
theorem ini_NoUnit (c : SaysZ fbL fnL csL K) : fnSW K "NoUnit" = (i_NoUnit).val := c.ini (d := i_NoUnit) (List.mem_of_getElem? (i := 3) rfl)
theorem ini_UsesRing (c : SaysZ fbL fnL csL K) : fnSW K "UsesRing" = (i_UsesRing).val := c.ini (d := i_UsesRing) (List.mem_of_getElem? (i := 4) rfl)
theorem ini_NoFunction (c : SaysZ fbL fnL csL K) : fnSW K "NoFunction" = (i_NoFunction).val := c.ini (d := i_NoFunction) (List.mem_of_getElem? (i := 5) rfl)
theorem ini_Faulty (c : SaysZ fbL fnL csL K) : fnSW K "Faulty" = (i_Faulty).val := c.ini (d := i_Faulty) (List.mem_of_getElem? (i := 6) rfl)
theorem ini_KindClash (c : SaysZ fbL fnL csL K) : fnSW K "KindClash" = (i_KindClash).val := c.ini (d := i_KindClash) (List.mem_of_getElem? (i := 7) rfl)
theorem ini_TwoNames (c : SaysZ fbL fnL csL K) : fnSW K "TwoNames" = (i_TwoNames).val := c.ini (d := i_TwoNames) (List.mem_of_getElem? (i := 8) rfl)
theorem ini_NotNow (c : SaysZ fbL fnL csL K) : fnSW K "NotNow" = (i_NotNow).val := c.ini (d := i_NotNow) (List.mem_of_getElem? (i := 9) rfl)
theorem ini_BadFunctions (c : SaysZ fbL fnL csL K) : fnSW K "BadFunctions" = (i_BadFunctions).val := c.ini (d := i_BadFunctions) (List.mem_of_getElem? (i := 10) rfl)
theorem ini_Unknown (c : SaysZ fbL fnL csL K) : fnSW K "Unknown" = (i_Unknown).val := c.ini (d := i_Unknown) (List.mem_of_getElem? (i := 11) rfl)
theorem ini_BadCodes (c : SaysZ fbL fnL csL K) : fnSW K "BadCodes" = (i_BadCodes).val := c.ini (d := i_BadCodes) (List.mem_of_getElem? (i := 12) rfl)
theorem ini_Refused (c : SaysZ fbL fnL csL K) : fnSW K "Refused" = (i_Refused).val := c.ini (d := i_Refused) (List.mem_of_getElem? (i := 13) rfl)
theorem ini_BadRows (c : SaysZ fbL fnL csL K) : fnSW K "BadRows" = (i_BadRows).val := c.ini (d := i_BadRows) (List.mem_of_getElem? (i := 14) rfl)
theorem ini_BadSpans (c : SaysZ fbL fnL csL K) : fnSW K "BadSpans" = (i_BadSpans).val := c.ini (d := i_BadSpans) (List.mem_of_getElem? (i := 15) rfl)
theorem ini_BadPairs (c : SaysZ fbL fnL csL K) : fnSW K "BadPairs" = (i_BadPairs).val := c.ini (d := i_BadPairs) (List.mem_of_getElem? (i := 16) rfl)
theorem ini_BadChanges (c : SaysZ fbL fnL csL K) : fnSW K "BadChanges" = (i_BadChanges).val := c.ini (d := i_BadChanges) (List.mem_of_getElem? (i := 17) rfl)
theorem ini_NotTold (c : SaysZ fbL fnL csL K) : fnSW K "NotTold" = (i_NotTold).val := c.ini (d := i_NotTold) (List.mem_of_getElem? (i := 18) rfl)
theorem ini_BadObject (c : SaysZ fbL fnL csL K) : fnSW K "BadObject" = (i_BadObject).val := c.ini (d := i_BadObject) (List.mem_of_getElem? (i := 19) rfl)
theorem ini_BadObjects (c : SaysZ fbL fnL csL K) : fnSW K "BadObjects" = (i_BadObjects).val := c.ini (d := i_BadObjects) (List.mem_of_getElem? (i := 20) rfl)
theorem ini_TwoUnits (c : SaysZ fbL fnL csL K) : fnSW K "TwoUnits" = (i_TwoUnits).val := c.ini (d := i_TwoUnits) (List.mem_of_getElem? (i := 21) rfl)
theorem ini_Missing (c : SaysZ fbL fnL csL K) : fnSW K "Missing" = (i_Missing).val := c.ini (d := i_Missing) (List.mem_of_getElem? (i := 22) rfl)
theorem ini_OtherFace (c : SaysZ fbL fnL csL K) : fnSW K "OtherFace" = (i_OtherFace).val := c.ini (d := i_OtherFace) (List.mem_of_getElem? (i := 23) rfl)
theorem ini_BadBits (c : SaysZ fbL fnL csL K) : fnSW K "BadBits" = (i_BadBits).val := c.ini (d := i_BadBits) (List.mem_of_getElem? (i := 24) rfl)
theorem ini_BadInstruction (c : SaysZ fbL fnL csL K) : fnSW K "BadInstruction" = (i_BadInstruction).val := c.ini (d := i_BadInstruction) (List.mem_of_getElem? (i := 25) rfl)
theorem fact_fOx (c : SaysZ fbL fnL csL K) : (errL.all fun x => oexN x K) = true := by
  have h1 : ((errL.take 36).all fun x => oexN x K) = true := fact_fOx1 c
  have h2 : ((errL.drop 36).all fun x => oexN x K) = true := fact_fOx2 c
  rw [← List.take_append_drop 36 errL, List.all_append, h1, h2]
  rfl
theorem fact_fEr (c : SaysZ fbL fnL csL K) : (errL.all fun x => excR x K) = true := by
  have h1 : ((errL.take 36).all fun x => excR x K) = true := fact_fEr1 c
  have h2 : ((errL.drop 36).all fun x => excR x K) = true := fact_fEr2 c
  rw [← List.take_append_drop 36 errL, List.all_append, h1, h2]
  rfl
end
abbrev FnP (K : PySem.W.Frag) (x : Str) (st : Stmt) (f : Addr) (fd : FuncData) : Prop := FunD K x x (defArgs st) (defBody st) (defScope st) [] [] f fd
section
variable {P : Program} {w : World} {K : PySem.W.Frag} {mg : Str → Option Value} {base : Heap}
theorem getI {ns : List Int} {i : Nat} {y : V} (h : (ns.map V.int)[i]? = some y) : ∃ z, ns[i]? = some z ∧ y = .int z := by
  rw [List.getElem?_map] at h
  cases e : ns[i]? with
  | none => rw [e] at h; cases h
  | some z => rw [e] at h; exact ⟨z, rfl, (Option.some.inj h).symm⟩
theorem sl_of {n : Nat} (h : n ≤ 100000) : n ≤ sizeLine := Nat.le_trans h (by decide)
theorem sc_mixed : FnScope ["_law_draw", "_law_turn", "_law_found", "_law_prime", "_law_blend", "_law_cell"] ["_law_draw"] (defScope s_law_mixed) := ⟨rfl, rfl, rfl, by decide +kernel, rfl, by decide +kernel, by decide +kernel⟩
theorem primes_ok {i : Nat} {y : V} (h : ([V.int 2147483629, V.int 2147483587, V.int 2147483579, V.int 2147483563] : List V)[i]? = some y) : ∃ z : Int, y = .int z ∧ 2147483563 ≤ z ∧ z ≤ 2147483629 := by
  match i, h with
  | 0, h => cases h; exact ⟨_, rfl, by decide, by decide⟩
  | 1, h => cases h; exact ⟨_, rfl, by decide, by decide⟩
  | 2, h => cases h; exact ⟨_, rfl, by decide, by decide⟩
  | 3, h => cases h; exact ⟨_, rfl, by decide, by decide⟩
  | n + 4, h => cases h
theorem ok_mixed {f : Addr} {fd : FuncData} (F : FnP K "_law_mixed" s_law_mixed f fd) (gI : mg "int" = none) : FnOk P w K mg base CX0 1 f fd ["_law_draw"] spMixed := by
  refine F.ok sc_mixed (fun vs H Q E h => ?_) (fun cdv A outer s H vs Q E hr h => ?_)
  · obtain ⟨d, w, c, ws, cs, rest, turn, rfl, _⟩ := h
    rfl
  · obtain ⟨d, w, c, ws, cs, rest, turn, rfl, hT, D, k⟩ := h
    have hu := hu_of hr
    have nd := sc_mixed.nd
    refine ⟨_, PSs.nox (pss_cons (ps_par (i := 1) (j := 2) rfl nd rfl rfl (by decide) rfl rfl (pa_cons (pe_op op_add (pe_dget hu (pv 0) pe_str (fun _ _ => rfl)) pe_int) (pa_cons pe_int pa_nil)) (by rfl))
      (pss_cons (ps_dput hu (pv 0) pe_str (pv 1) rfl)
      (pss_cons (ps_for PassesOwn.never rfl (pi_list (pe_lst (pa_cons pe_int (pa_cons pe_int (pa_cons pe_int (pa_cons pe_int pa_nil)))))) (pg_name (i := 3) nd rfl (Or.inl rfl))
        (pss_cons (ps_set (i := 4) nd rfl (Or.inl rfl) (pe_op op_add (pe_op op_mul pe_int (pv 1)) (pe_op op_fdivN (pv 3) pe_int)))
        (pss_cons (ps_for PassesOwn.never rfl (pi_list (pe_dget hu (pv 0) pe_str (fun _ _ => rfl))) (pg_name (i := 5) nd rfl (Or.inl rfl))
          (pss_one (ps_set (i := 4) nd rfl (Or.inl rfl) (pe_op op_modN (pe_callTy call_int1 (by rfl) gI (by decide +kernel) (pa_cons (pe_op op_add (pe_op op_add (pe_op op_mul (pv 4) pe_int) (pv 5)) (pv 1)) pa_nil)) (pv 3)))))
        (pss_one (ps_set (i := 2) nd rfl (Or.inl rfl) (pe_op op_add (pe_op op_mul (pv 2) pe_int) (pe_op op_modN (pe_callTy call_int1 (by rfl) gI (by decide +kernel) (pa_cons (pe_op op_pow (pv 4) pe_int) pa_nil)) (pv 3))))))))
      (pss_one (ps_ret (pv 2)))))), ?_⟩
    have T0 := D.tn
    refine ⟨_, rfl, d, _, rfl, dget_turn D.hd, _, _, rfl, rfl, _, _, rfl, ?_⟩
    refine ⟨_, rfl, _, rfl, d, _, rfl, dput_turn _ D.hd, ?_⟩
    have D1 := D.setD (t2 := turn + 1) D.rn (by omega)
    have K1 : ∀ b o, H b = some o → b ≠ d → (upd H d (.dK (drK w c rest (turn + 1)))) b = some o := fun b o e n => by rw [upd_ne n]; exact e
    generalize upd H d (.dK (drK w c rest (turn + 1))) = H1 at D1 K1
    refine ⟨sl_of (by decide), fun p hp => ⟨p, rfl, ⟨_, SqL.of upd_same⟩, ?_⟩⟩
    have ndp : d ≠ p := ne_of_none D1.hd hp
    have nwp : w ≠ p := ne_of_none D1.hw hp
    have ncp : c ≠ p := ne_of_none D1.hc hp
    refine for_list (K := K) (a := p) (xs := [V.int 2147483629, V.int 2147483587, V.int 2147483579, V.int 2147483563]) (fun i σ H' => ∃ (fnd : Int) (v3 v4 v5 : Option V), σ = [some (.ref d), some (.int (turn + 1)), some (.int fnd), v3, v4, v5] ∧ 0 ≤ fnd ∧ H' = upd H1 p (.lst [V.int 2147483629, V.int 2147483587, V.int 2147483579, V.int 2147483563]))
      ⟨0, none, none, none, rfl, by decide, rfl⟩ (fun i σ H' _ ⟨_, _, _, _, _, _, e⟩ => by rw [e]; exact SqL.of upd_same) ?_ ?_
    · rintro i y σ H' hi ⟨fnd, v3, v4, v5, rfl, hf, rfl⟩
      obtain ⟨z, rfl, z1, z2⟩ := primes_ok hi
      have z0 : z ≠ 0 := by omega
      have D2 := D1.updo (o := .lst [V.int 2147483629, V.int 2147483587, V.int 2147483579, V.int 2147483563]) ndp.symm nwp.symm ncp.symm
      refine ⟨_, rfl, _, _, rfl, rfl, .inl ⟨by decide, by decide⟩, _, rfl, _, _, rfl, rfl, ⟨by decide, by decide⟩, _, _, rfl, rfl, ?_⟩
      refine ⟨_, rfl, d, _, rfl, dget_cells D2.hd, c, rfl, ⟨_, SqL.of D2.hc⟩, ?_⟩
      have b0 : 0 ≤ 61441 * (turn + 1) + z.fdiv 19 := by
        rw [Int.fdiv_eq_ediv_of_nonneg _ (by decide)]
        omega
      have b1 : 61441 * (turn + 1) + z.fdiv 19 < 2 ^ 63 := by
        rw [Int.fdiv_eq_ediv_of_nonneg _ (by decide)]
        have : turn < 1099511627776 := hT
        omega
      refine for_list (K := K) (a := c) (xs := cs.map V.int) (fun j σ H' => ∃ (bl : Int) (v5 : Option V), σ = [some (.ref d), some (.int (turn + 1)), some (.int fnd), some (.int z), some (.int bl), v5] ∧ 0 ≤ bl ∧ bl < 2 ^ 63 ∧ H' = upd H1 p (.lst [V.int 2147483629, V.int 2147483587, V.int 2147483579, V.int 2147483563]))
        ⟨_, v5, rfl, b0, b1, rfl⟩ (fun j σ H' _ ⟨_, _, _, _, _, e⟩ => by rw [e]; exact SqL.of D2.hc) ?_ ?_
      · rintro j y σ H' hj ⟨bl, v6, rfl, h0, h1, rfl⟩
        obtain ⟨q, _, rfl⟩ := getI hj
        refine ⟨_, rfl, _, _, rfl, rfl, .inr ⟨by decide, by decide⟩, _, rfl, _, _, rfl, rfl, _, rfl, _, _, rfl, rfl, .inl ⟨_, rfl, ?_⟩⟩
        refine ⟨_, rfl, _, _, rfl, rfl, z0, ?_⟩
        have m0 := Int.fmod_nonneg_of_pos (bl * 48271 + q + (turn + 1)) (b := z) (by omega)
        have m1 := Int.fmod_lt_of_pos (bl * 48271 + q + (turn + 1)) (b := z) (by omega)
        exact ⟨_, _, rfl, m0, by omega, rfl⟩
      · rintro σ H' ⟨bl, v6, rfl, h0, h1, rfl⟩
        refine ⟨_, rfl, _, _, rfl, rfl, .inr ⟨by decide, by decide⟩, _, rfl, _, _, rfl, rfl, ⟨by decide, by decide, by omega⟩, .inl ⟨_, rfl, ?_⟩⟩
        refine ⟨_, rfl, _, _, rfl, rfl, z0, _, _, rfl, rfl, ?_⟩
        have m0 := Int.fmod_nonneg_of_pos (bl ^ Int.toNat 5) (b := z) (by omega)
        exact ⟨_, _, _, _, rfl, by omega, rfl⟩
    · rintro σ H' ⟨fnd, v3, v4, v5, rfl, hf, rfl⟩
      refine ⟨_, rfl, ?_⟩
      refine k _ _ hf (D1.updo ndp.symm nwp.symm ncp.symm) fun b o e n => ?_
      have e1 := K1 b o e n
      rw [upd_ne (ne_of_none e1 hp)]
      exact e1
end
section
variable {P : Program} {w : World} {K : PySem.W.Frag} {mg : Str → Option Value} {base : Heap}
theorem sc_take : FnScope ["_law_draw", "_law_many", "_law_found"] ["_law_draw", "_law_many"] (defScope s_law_take) := ⟨rfl, rfl, rfl, by decide +kernel, rfl, by decide +kernel, by decide +kernel⟩
theorem dpAll_ints {K : PySem.W.Frag} {H : Hp} : ∀ ns : List Int, DpAll K H (ns.map V.int) (ns.map PyData.int)
  | [] => .nil
  | n :: ns => .cons (.int n) (dpAll_ints ns)
theorem shaped_lst (ns : List Int) : SeqAt.shaped (.list (ns.map PyData.int)) = true := PySem.W.ke_shaped_ints ns
theorem eqv_nil (ns : List Int) : PyData.eqv (.list (ns.map PyData.int)) (.list []) = ns.isEmpty := by
  cases ns <;> simp [PyData.eqv, PyData.eqvAll]
theorem ok_take {f fM : Addr} {fd fdM : FuncData} (F : FnP K "_law_take" s_law_take f fd) (FM : FnP K "_law_mixed" s_law_mixed fM fdM) (gM : mg "_law_mixed" = some (.ref fM)) (gI : mg "int" = none) : FnOk P w K mg base CX0 2 f fd ["_law_draw", "_law_many"] spTake := by
  have GM : FnOk P w K mg base CX0 1 fM fdM ["_law_draw"] spMixed := ok_mixed FM gI
  have bM : Binds K fdM ["_law_draw"] [] := FM.bindsN fun _ _ _ _ _ _ us hl => match us, hl with | [_], _ => rfl
  refine F.ok sc_take (fun vs H Q E h => ?_) (fun cdv A outer s H vs Q E hr h => ?_)
  · obtain ⟨t, H0, d, n, rfl, _⟩ := h
    rfl
  · obtain ⟨t, H0, d, n, rfl, hD, ht, n0, n1, k⟩ := h
    have hu := hu_of hr
    have nd := sc_take.nd
    obtain ⟨sm, w, c, ws, cs, rest, turn, h1, h2, h3, htu, D⟩ := hD
    refine ⟨_, PSs.nox (pss_cons (ps_if (pt_cmpR op_eq (pe_dget hu (pv 0) pe_str (fun _ _ => rfl)) pe_int (nomark _))
       (pss_one (ps_dput hu (pv 0) pe_str (pe_ifExp (pt_cmpR (op_neD hr.units) (pe_dget hu (pv 0) pe_str (fun _ _ => rfl)) (pe_lst pa_nil) (nomark _))
          (pe_bm PySem.F.plainAttrs_list PySem.F.slot_list_pop PySem.F.type_list_pop mt_popAt (pe_dget hu (pv 0) pe_str (fun _ _ => rfl)) (pa_cons pe_int pa_nil))
          (pe_call GM hr rfl gM FM.kp bM .nil pass0 (pa_cons (pv 0) pa_nil))) rfl)) pss_nil)
      (pss_cons (ps_set (i := 2) nd rfl (.inl rfl) (pe_op op_modN (pe_callTy call_int1 (by rfl) gI (by decide +kernel) (pa_cons (pe_dget hu (pv 0) pe_str (fun _ _ => rfl)) pa_nil)) (pv 1)))
      (pss_cons (ps_dput hu (pv 0) pe_str (pe_op op_fdivW (pe_dget hu (pv 0) pe_str (fun _ _ => rfl)) (pv 1)) rfl)
      (pss_one (ps_ret (pv 2)))))), ?_⟩
    -- what follows the if
    have fin : ∀ (ws : List Int) (rest turn : Int) (H1 : Hp), turn ≤ (t + 1 : Nat) → Same H0 H1 → DrD H1 d w c ws cs rest turn →
        tSeq (tAsg (tOp (rI (fun _ j => j ≠ 0) fun i j => .int (i.fmod j)) (tCB (fun xs H Q => (∃ i, xs = [.int i] ∧ Q (.int i) H) ∨ ∃ k, xs = [.bl k] ∧ Q (.int (if k then 1 else 0)) H) (tCons (tDGet (tVar 0) (tC (.str "rest"))) tNil)) (tVar 1)) (gName 2))
          (tSeq (sDPut (tVar 0) (tC (.str "rest")) (tOp (rI CDivW fun i j => .int (i / j)) (tDGet (tVar 0) (tC (.str "rest"))) (tVar 1))) (tRet (tVar 2))) { nx := fun _ H' => Q .non H', rt := Q } [some (.ref d), some (.int n), none] H1 := by
      intro ws rest turn H1 hle sm1 D1
      refine ⟨_, rfl, d, _, rfl, dget_rest D1.hd, .inl ⟨_, rfl, _, rfl, _, _, rfl, rfl, by omega, ?_⟩⟩
      have r0 := D1.rn
      have q0 : 0 ≤ rest / n := Int.ediv_nonneg r0 (by omega)
      refine ⟨_, rfl, d, _, rfl, dget_rest D1.hd, _, rfl, _, _, rfl, rfl, wide_div n0 (b := 60) (by omega) (by decide) (by decide), _, rfl, d, _, rfl, dput_rest _ D1.hd, _, rfl, ?_⟩
      refine k _ _ (Int.fmod_nonneg_of_pos _ n0) (Int.fmod_lt_of_pos _ n0) ⟨same_sub sm1 h1, w, c, ws, cs, _, turn, h1, h2, h3, hle, D1.setD q0 D1.tn⟩
    refine ⟨_, rfl, d, _, rfl, dget_rest D.hd, rfl, _, rfl, ?_⟩
    by_cases e : rest = 0
    · subst e
      refine iteT ?_
      refine ⟨_, rfl, d, _, rfl, dget_wide D.hd, Nat.zero_le _, fun p hp => ?_⟩
      have ndp : d ≠ p := ne_of_none D.hd hp
      have nwp : w ≠ p := ne_of_none D.hw hp
      have ncp : c ≠ p := ne_of_none D.hc hp
      have D2 := D.updo (o := .lst []) ndp.symm nwp.symm ncp.symm
      refine ⟨_, _, .lst (SqL.of D2.hw) (dpAll_ints ws), .lst (SqL.of upd_same) .nil, shaped_lst ws, shaped_lst [], _, rfl, ?_⟩
      rw [eqv_nil]
      have sm2 : Same H0 (upd H p (.lst [])) := same_sub sm (sm.free hp)
      generalize upd H p (.lst []) = H2 at D2 sm2
      cases ws with
      | nil =>
        refine iteF ?_
        refine ⟨_, rfl, ?_⟩
        refine ⟨d, w, c, [], cs, 0, turn, rfl, by have : t < 1099511627776 := ht; show turn < 1099511627776; omega, D2, fun m H3 m0 D3 k3 => ?_⟩
        refine ⟨_, rfl, d, _, rfl, dput_rest _ D3.hd, ?_⟩
        have sm3 : Same H0 H3 := fun b o e => k3 b o (sm2 b o e) (ne_of_none e h1)
        exact fin _ _ _ _ (by omega) (same_sub sm3 h1) (D3.setD m0 D3.tn)
      | cons m ws =>
        refine iteT ?_
        refine ⟨_, rfl, d, _, rfl, dget_wide D2.hd, .inl ⟨rfl, _, SqL.of D2.hw⟩, w, _, 0, 0, .int m, rfl, rfl, D2.hw, by decide, by decide, ?_, rfl, ?_⟩
        · simp [seqIndex?]
        · have nwd := D2.ne_dw
          refine ⟨_, rfl, d, _, rfl, dput_rest _ (by rw [upd_ne nwd]; exact D2.hd), ?_⟩
          have m0 := D2.wn m (List.mem_cons_self ..)
          have l0 := D2.wl
          rw [List.length_cons] at l0
          have D3 : DrD (upd H2 w (.lst (ws.map V.int))) d w c ws cs 0 turn := ⟨by rw [upd_ne nwd]; exact D2.hd, upd_same, by rw [upd_ne D2.wc.symm]; exact D2.hc, D2.wc, by omega, fun x hx => D2.wn x (List.mem_cons_of_mem _ hx), D2.cl, by decide, D2.tn⟩
          exact fin _ _ _ _ (by omega) (same_sub (same_sub sm2 h2) h1) (D3.setD m0 D3.tn)
    · have e2 : decide (V.int rest = V.int 0) = false := decide_eq_false fun z => e (by injection z)
      rw [e2]
      refine iteF ?_
      exact fin _ _ _ _ (by omega) sm D
end
theorem Same.seqT {K : PySem.W.Frag} {H H' : Hp} {a : Addr} {xs : List V} (e : Same H H') (h : SqT K H a xs) : SqT K H' a xs := by
  rcases h with (h | ⟨o, h⟩) | h
  · exact .inl (.inl (e _ _ h))
  · exact .inl (.inr ⟨o, e _ _ h⟩)
  · exact .inr h
theorem yesIf {σ : L2.St} {H : Hp} {A B : Hp → Prop} (h : A H) : tYes σ H (fun b H3 => if b = true then A H3 else B H3) := by
  show if true = true then A H else B H
  exact iteT h
section
variable {P : Program} {w : World} {K : PySem.W.Frag} {mg : Str → Option Value} {base : Heap}
theorem sc_pick : FnScope ["_law_draw", "_law_some"] ["_law_draw", "_law_some"] (defScope s_law_pick) := ⟨rfl, rfl, rfl, by decide +kernel, rfl, by decide +kernel, by decide +kernel⟩
theorem toNat_get {xs : List V} {k : Int} (h0 : 0 ≤ k) (h1 : k < (xs.length : Int)) : ∃ v, v ∈ xs ∧ xs[k.toNat]? = some v := by
  have h : k.toNat < xs.length := by omega
  exact ⟨xs[k.toNat], List.getElem_mem h, List.getElem?_eq_getElem h⟩
theorem atI_int {α : Type} {xs : List α} {k : Int} {v : α} (h0 : 0 ≤ k) (h : xs[k.toNat]? = some v) : atI xs k = some v := by
  have e : ((k.toNat : Nat) : Int) = k := by omega
  rw [← e]
  exact atI_nat h
theorem ok_pick {f fT : Addr} {fd fdT : FuncData} (F : FnP K "_law_pick" s_law_pick f fd) (gT : mg "_law_take" = some (.ref fT)) (kT : PySem.W.keepIn K (.ref fT) = true) (bT : Binds K fdT ["_law_draw", "_law_many"] []) (GT : FnOk P w K mg base CX0 2 fT fdT ["_law_draw", "_law_many"] spTake) (gL : mg "len" = none) :
    FnOk P w K mg base CX0 3 f fd ["_law_draw", "_law_some"] (spPick K) := by
  refine F.ok sc_pick (fun vs H Q E h => ?_) (fun cdv A outer s H vs Q E hr h => ?_)
  · obtain ⟨t, H0, d, x, xs, rfl, _⟩ := h
    rfl
  · obtain ⟨t, H0, d, x, xs, rfl, hD, ht, hx, l0, l1, k⟩ := h
    refine ⟨_, PSs.nox (pss_one (ps_ret (pe_ix ix_seq (pv 1) (pe_call GT hr rfl gT kT bT .nil pass0 (pa_cons (pv 0) (pa_cons (pe_callB call_len (by rfl) gL PySem.boot_len (pa_cons (pv 1) pa_nil)) pa_nil))) (fun _ _ => rfl)))), ?_⟩
    have hl : LenV K x H xs.length := by
      cases hx with
      | lst h => exact .inl ⟨_, hD.same.seq h, rfl⟩
      | tup h => exact .inr ⟨_, Same.seqT hD.same h, rfl⟩
      | str h =>
        rw [List.length_map]
        exact ⟨sl_of h, rfl⟩
    refine ⟨_, rfl, _, rfl, _, rfl, _, _, rfl, hl, ?_⟩
    refine ⟨t, H0, d, xs.length, rfl, hD, ht, by omega, by omega, fun i H' i0 i1 hD' => ?_⟩
    obtain ⟨v, hv, hg⟩ := toNat_get i0 i1
    have q := k v H' hv hD'
    cases hx with
    | lst h => exact .inl ⟨_, _, _, _, rfl, rfl, hD'.same.seq h, atI_int i0 hg, q⟩
    | tup h => exact .inr (.inl ⟨_, _, _, _, rfl, rfl, Same.seqT hD'.same h, atI_int i0 hg, q⟩)
    | @str z h =>
      rw [List.getElem?_map] at hg
      cases e : z.cps.toList[i.toNat]? with
      | none => rw [e] at hg; cases hg
      | some c =>
        rw [e] at hg
        cases (Option.some.inj hg)
        exact .inr (.inr ⟨_, _, _, rfl, rfl, sl_of h, atI_int i0 e, q⟩)
theorem sc_begun : FnScope ["_law_script", "_law_wide", "_law_cell"] ["_law_script"] (defScope s_law_begun) := ⟨rfl, rfl, rfl, by decide +kernel, rfl, by decide +kernel, by decide +kernel⟩
theorem ok_begun {f : Addr} {fd : FuncData} (F : FnP K "_law_begun" s_law_begun f fd) (gI : mg "int" = none) (gA : mg "abs" = none) : FnOk P w K mg base CX0 1 f fd ["_law_script"] (spBegun K) := by
  refine F.ok sc_begun (fun vs H Q E h => ?_) (fun cdv A outer s H vs Q E hr h => ?_)
  · obtain ⟨a, ns, rfl, _⟩ := h
    rfl
  · obtain ⟨a, ns, rfl, hS, hl, k⟩ := h
    have hu := hu_of hr
    have nd := sc_begun.nd
    refine ⟨_, PSs.nox (pss_cons (ps_setLc (i := 1) (own := [("_law_cell", 2)]) (g := gName 2) rfl nd rfl rfl (sw_true rfl rfl rfl (by decide +kernel)) (pi_list (pv 0)) (blkOk_by (own := [("_law_cell", 2)]) (N := ["_law_script", "_law_wide", "_law_cell"]) (sc := defScope s_law_begun) (by decide +kernel))
        (fun _ _ _ _ _ => pg_name (i := 2) nd rfl (Or.inl rfl))
        (fun _ _ _ _ _ => pts_one (pt_cmpR op_ge (pe_callB call_abs (by rfl) gA (by decide +kernel) (pa_cons (pv 2) pa_nil)) (pe_op op_pow pe_int pe_int) (nomark _)))
        (fun _ _ _ _ _ => pe_op op_sub (pe_callB call_abs (by rfl) gA (by decide +kernel) (pa_cons (pv 2) pa_nil)) (pe_op op_pow pe_int pe_int)))
      (pss_one (ps_ret (pe_disp (pps_cons pe_str (pv 1) (pps_cons pe_str
        (pe_lc (own := [("_law_cell", 2)]) (g := gName 2) rfl nd (pi_list (pv 0)) (blkOk_by (own := [("_law_cell", 2)]) (N := ["_law_script", "_law_wide", "_law_cell"]) (sc := defScope s_law_begun) (by decide +kernel))
          (fun _ _ _ _ _ => pg_name (i := 2) nd rfl (Or.inl rfl)) (fun _ _ _ _ _ => pts_nil)
          (fun _ _ _ _ _ => pe_op op_modN (pe_callTy call_int1 (by rfl) gI (by decide +kernel) (pa_cons (pe_callB call_abs (by rfl) gA (by decide +kernel) (pa_cons (pv 2) pa_nil)) pa_nil)) pe_int))
        (pps_cons pe_str pe_int (pps_cons pe_str pe_int pps_nil)))) (by rfl) (by rfl) (fun z => by cases z) (by decide))))), ?_⟩
    refine ⟨_, rfl, a, rfl, ⟨_, hS⟩, fun D hD => ?_⟩
    have sD : ∀ o, Same H (upd H D o) := fun o => same_new hD
    refine lc_list (K := K) (a := a) (xs := ns.map V.int) (fun i H' => ∃ acc : List Int, H' = upd H D (.lst (acc.map V.int)) ∧ acc.length ≤ i ∧ ∀ x ∈ acc, 0 ≤ x) ⟨[], rfl, Nat.le_refl _, by simp⟩ (fun i H' _ ⟨acc, e, _⟩ => by rw [e]; exact (sD _).seq hS) ?_ ?_
    · rintro i x H' hi ⟨acc, rfl, hal, ha⟩
      obtain ⟨z, hz, rfl⟩ := getI hi
      have hil : i < ns.length := (List.getElem?_eq_some_iff.mp hz).1
      refine ⟨rfl, ?_⟩
      refine ⟨_, rfl, _, rfl, _, _, rfl, rfl, ⟨by decide, by decide, by decide⟩, _, _, rfl, rfl, _, rfl, ?_⟩
      refine ite2 (fun c => ?_) (fun c => ?_)
      · have c1 := of_decide_eq_true c
        refine ⟨_, rfl, _, rfl, _, _, rfl, rfl, ⟨by decide, by decide, by decide⟩, _, _, rfl, rfl, _, upd_same, ?_, acc ++ [(if z < 0 then -z else z) - 10 ^ Int.toNat 18], ?_, ?_, ?_⟩
        · rw [List.length_map]
          exact Nat.lt_of_lt_of_le (show acc.length < 64 by omega) (by decide)
        · rw [upd_upd, List.map_append]
          rfl
        · rw [List.length_append]
          exact Nat.succ_le_succ hal
        · intro x hx
          rcases List.mem_append.mp hx with h | h
          · exact ha x h
          · rw [List.mem_singleton.mp h]
            omega
      · exact ⟨acc, rfl, by omega, ha⟩
    · rintro H' ⟨ws, rfl, hwl, hw⟩
      rw [List.length_map] at hwl
      intro p hp
      have npD : p ≠ D := fun z => by rw [z, upd_same] at hp; cases hp
      have s1 : Same H (upd (upd H D (.lst (ws.map V.int))) p (.dK [])) := (sD _).trans (same_new hp)
      refine ⟨_, rfl, ?_⟩
      refine ⟨_, rfl, a, rfl, ⟨_, s1.seq hS⟩, fun D2 hD2 => ?_⟩
      have nDD : D ≠ D2 := fun z => by rw [← z, upd_ne npD.symm, upd_same] at hD2; cases hD2
      have npD2 : p ≠ D2 := fun z => by rw [← z, upd_same] at hD2; cases hD2
      refine lc_list (K := K) (a := a) (xs := ns.map V.int) (fun i H' => ∃ acc : List Int, H' = upd (upd (upd H D (.lst (ws.map V.int))) p (.dK [])) D2 (.lst (acc.map V.int)) ∧ acc.length ≤ i) ⟨[], rfl, Nat.le_refl _⟩ (fun i H' _ ⟨acc, e, _⟩ => by rw [e]; exact (s1.trans (same_new hD2)).seq hS) ?_ ?_
      · rintro i x H' hi ⟨acc, rfl, hal⟩
        obtain ⟨z, hz, rfl⟩ := getI hi
        have hil : i < ns.length := (List.getElem?_eq_some_iff.mp hz).1
        refine ⟨rfl, yesIf ?_⟩
        refine ⟨_, rfl, _, rfl, .inl ⟨_, rfl, _, _, rfl, rfl, (show (2147483629 : Int) ≠ 0 by decide), ?_⟩⟩
        refine ⟨_, upd_same, ?_, acc ++ [(if z < 0 then -z else z).fmod 2147483629], ?_, ?_⟩
        · rw [List.length_map]
          exact Nat.lt_of_lt_of_le (show acc.length < 64 by omega) (by decide)
        · rw [upd_upd, List.map_append]
          rfl
        · rw [List.length_append]
          exact Nat.succ_le_succ hal
      · rintro H' ⟨cs, rfl, hcl⟩
        rw [List.length_map] at hcl
        refine ⟨by rw [upd_ne npD2, upd_same], drK D D2 0 0, rfl, (show 4 ≤ 15 by decide), ?_⟩
        rw [dr_made]
        have hpn : H p = none := (sD _).free hp
        have hD2n : H D2 = none := s1.free hD2
        refine k _ p ⟨fun b o e => ?_, D, D2, ws, cs, 0, 0, hpn, hD, hD2n, Int.le_refl _, ⟨upd_same, ?_, ?_, nDD, by omega, hw, by omega, Int.le_refl _, Int.le_refl _⟩⟩ hpn
        · rw [upd_ne (ne_of_none e hpn), upd_ne (ne_of_none e hD2n), upd_ne (ne_of_none e hpn), upd_ne (ne_of_none e hD)]
          exact e
        · rw [upd_ne npD.symm, upd_ne nDD, upd_ne npD.symm, upd_same]
        · rw [upd_ne npD2.symm, upd_same]
end
structure PlnX (K : PySem.W.Frag) (mg : Str → Option Value) (x : Str) (C : Addr) : Prop where
  g : mg x = some (.ref C)
  x : PySem.W.excIn K C He.veBase "ValueError.__new__" = true
  o : OexC K C
/-! ## errors as values, in lists -/
theorem pe_weak {X : Cx} {e : Expr} {t t' : TE} (h : PE X e t) (k : ∀ σ H Q, t' σ H Q → t σ H Q) : PE X e t' := ⟨fun pins s σ H Q I q => h.run pins s σ H Q I (k σ H Q q)⟩
theorem pa_weak {X : Cx} {es : List Expr} {t t' : TA} (h : PA X es t) (k : ∀ σ H Q, t' σ H Q → t σ H Q) : PA X es t' := ⟨fun pos pins s σ H Q I q => h.run pos pins s σ H Q I (k σ H Q q)⟩
theorem ExAt.same {H H' : Hp} {a D : Addr} (e : Same H H') (h : ExAt H a D) : ExAt H' a D := by
  rcases h with ⟨d, h1, h2⟩ | h | ⟨d, h1, h2⟩
  · exact .inl ⟨d, e _ _ h1, fun dx q => let ⟨fs, z⟩ := h2 dx q; ⟨fs, e _ _ z⟩⟩
  · exact .inr (.inl (e _ _ h))
  · exact .inr (.inr ⟨d, e _ _ h1, fun dx q => let ⟨fs, z⟩ := h2 dx q; ⟨fs, e _ _ z⟩⟩)
inductive Ers (H : Hp) : List Addr → List Addr → Prop
  | nil : Ers H [] []
  | cons {a D : Addr} {as Ds : List Addr} : ExAt H a D → Ers H as Ds → Ers H (a :: as) (D :: Ds)
theorem Ers.same {H H' : Hp} (e : Same H H') : ∀ {as Ds : List Addr}, Ers H as Ds → Ers H' as Ds
  | _, _, .nil => .nil
  | _, _, .cons h t => .cons (h.same e) (t.same e)
theorem Ers.app {H : Hp} : ∀ {as Ds bs Es : List Addr}, Ers H as Ds → Ers H bs Es → Ers H (as ++ bs) (Ds ++ Es)
  | _, _, _, _, .nil, h => h
  | _, _, _, _, .cons h t, h2 => .cons h (t.app h2)
theorem Ers.length {H : Hp} : ∀ {as Ds : List Addr}, Ers H as Ds → as.length = Ds.length
  | _, _, .nil => rfl
  | _, _, .cons _ t => congrArg Nat.succ t.length
theorem Ers.get {H : Hp} : ∀ {as Ds : List Addr} {i : Nat} {a : Addr}, Ers H as Ds → as[i]? = some a → ∃ D, Ds[i]? = some D ∧ ExAt H a D
  | _, _, _, _, .nil, e => by simp at e
  | _, _, 0, _, .cons h _, e => by
    simp at e
    subst e
    exact ⟨_, rfl, h⟩
  | _, _, i + 1, _, .cons _ t, e => t.get (i := i) (by simpa using e)
def tEr (C : Addr) : TE := fun _ H Q => ∀ a H', Same H H' → ExAt H' a C → Q (.ref a) H'
def tErs (Ds : List Addr) : TA := fun _ H Q => ∀ as H', Same H H' → Ers H' as Ds → Q (as.map V.ref) H'
/-- isinstance(the first name, C) -/
def tIs (K : PySem.W.Frag) (C : Addr) : TE := fun σ H Q => ∃ a D, σ[0]? = some (some (.ref a)) ∧ ExcR K D ∧ ExAt H a D ∧ PySem.W.kitOne K (.ref D) (.ref C) = some (decide (C = D)) ∧ Q (.bl (decide (C = D))) H
def tIss (K : PySem.W.Frag) (Cs : List Addr) : TA := fun σ H Q => ∃ a D, σ[0]? = some (some (.ref a)) ∧ ExcR K D ∧ ExAt H a D ∧ (∀ C ∈ Cs, PySem.W.kitOne K (.ref D) (.ref C) = some (decide (C = D))) ∧ Q (Cs.map fun C => V.bl (decide (C = D))) H
section
variable {X : Cx}
theorem pa_ernil : PA X [] (tErs []) := pa_weak pa_nil fun _ H _ h => h [] H (Same.refl H) .nil
theorem pa_ercons {e : Expr} {es : List Expr} {D : Addr} {Ds : List Addr} (h : PE X e (tEr D)) (r : PA X es (tErs Ds)) (hs : starEach (e :: es) X.env = (false, eval e X.env) :: starEach es X.env := by rfl) : PA X (e :: es) (tErs (D :: Ds)) :=
  pa_weak (pa_cons h r hs) fun _ _ _ h a _ s1 x1 as H2 s2 x2 => h (a :: as) H2 (s1.trans s2) (.cons (x1.same s2) x2)
theorem pe_er1 {C : Addr} {x c : Str} {kd : Nat} {p p3 pos : Pos} (B : PlnX X.K X.mg x C) (hg : Gl X x) (hs : starEach [.Constant (.str c) kd p3] X.env = (false, eval (.Constant (.str c) kd p3) X.env) :: starEach [] X.env := by rfl) (hdb : (x == ("__debug__" : Str)) = false := by decide) :
    PE X (.Call (.Name x p) [.Constant (.str c) kd p3] [] pos) (tEr C) :=
  pe_weak (pe_exc1 PySem.F.excBase_ValueError B.x B.g B.o.kC hg pe_str hs hdb) fun _ _ _ h a ha => h a _ (same_new ha) (.inr (.inl upd_same))
theorem pe_is {C : Addr} {x y : Str} {p p1 p2 pos : Pos} (hy : X.N[0]? = some y) (vy : Vis X.env.scope y) (hi : Gl X "isinstance") (mi : X.mg "isinstance" = none) (gC : X.mg x = some (.ref C)) (hg : Gl X x) (dx : (x == ("__debug__" : Str)) = false)
    (dy : (y == ("__debug__" : Str)) = false) (dc : (y == ("__classdict__" : Str)) = false) (h1 : starEach [.Name y p1, .Name x p2] X.env = (false, eval (.Name y p1) X.env) :: starEach [.Name x p2] X.env := by rfl) (h2 : starEach [.Name x p2] X.env = (false, eval (.Name x p2) X.env) :: starEach [] X.env := by rfl) :
    PE X (.Call (.Name "isinstance" p) [.Name y p1, .Name x p2] [] pos) (tIs X.K C) :=
  pe_weak (pe_callB call_isiX hi mi (by decide +kernel) (pa_cons (pe_var (i := 0) hy vy dy dc) (pa_cons (pe_glob (v := .ref C) hg gC rfl dx) pa_nil h2) h1)) fun _ _ _ ⟨a, D, e, r, x, k, q⟩ => ⟨_, e, a, D, _, _, _, rfl, .own C, r, x, k, q⟩
theorem pa_isnil : PA X [] (tIss X.K []) := pa_weak pa_nil fun _ _ _ ⟨_, _, _, _, _, _, q⟩ => q
theorem pa_iscons {e : Expr} {es : List Expr} {C : Addr} {Cs : List Addr} (h : PE X e (tIs X.K C)) (r : PA X es (tIss X.K Cs)) (hs : starEach (e :: es) X.env = (false, eval e X.env) :: starEach es X.env := by rfl) : PA X (e :: es) (tIss X.K (C :: Cs)) :=
  pa_weak (pa_cons h r hs) fun _ _ _ ⟨a, D, e, r, x, k, q⟩ => ⟨a, D, e, r, x, k C (List.mem_cons_self ..), a, D, e, r, x, fun B hB => k B (List.mem_cons_of_mem _ hB), q⟩
end
/-! ## to which classes an error belongs -/
theorem nodup_inj {α : Type} {l : List α} (h : l.Nodup) {i j : Nat} {a : α} (hi : l[i]? = some a) (hj : l[j]? = some a) : i = j := by
  obtain ⟨i1, i2⟩ := List.getElem?_eq_some_iff.mp hi
  obtain ⟨j1, j2⟩ := List.getElem?_eq_some_iff.mp hj
  rcases Nat.lt_trichotomy i j with z | z | z
  · exact absurd (i2.trans j2.symm) (List.pairwise_iff_getElem.mp h i j i1 j1 z)
  · exact z
  · exact absurd (j2.trans i2.symm) (List.pairwise_iff_getElem.mp h j i j1 i1 z)
/-- what the head tells of the classes; c: where a class stands -/
structure ErF (K : PySem.W.Frag) (mg : Str → Option Value) (c : Str → Addr) : Prop where
  gl : ∀ x ∈ errL, mg x = some (.ref (c x))
  rd : ∀ D ∈ errL.map c, ExcR K D
  kit : ∀ D ∈ errL.map c, ∀ C ∈ errL.map c, PySem.W.kitOne K (.ref D) (.ref C) = some (decide (C = D))
  nd : (errL.map c).Nodup
  isi : mg "isinstance" = none
  enu : mg "enumerate" = none
/-- the j-th class's errors -/
def spCls (c : Str → Addr) : Sp := fun vs H Q _ => ∃ (a D : Addr) (j : Nat), vs = [.ref a] ∧ (errL.map c)[j]? = some D ∧ ExAt H a D ∧ ∀ H' L, Same H H' → H L = none → H' L = some (.lst [.int (j : Int)]) → Q (.ref L) H'
section
variable {P : Program} {w : World} {K : PySem.W.Frag} {mg : Str → Option Value} {base : Heap}
theorem sc__law_classes : FnScope ["_law_error", "_law_found", "_law_k", "_law_is_one"] ["_law_error"] (defScope s_law_classes) := ⟨rfl, rfl, rfl, by decide +kernel, rfl, by decide +kernel, by decide +kernel⟩
theorem ok_classes {CX : CXT} {f : Addr} {fd : FuncData} {c : Str → Addr} (F : FnP K "_law_classes" s_law_classes f fd) (R : ErF K mg c) : FnOk P w K mg base CX 1 f fd ["_law_error"] (spCls c) := by
  refine F.ok sc__law_classes (fun vs H Q E h => ?_) (fun cdv A outer s H vs Q E hr h => ?_)
  · obtain ⟨a, D, j, rfl, _⟩ := h
    rfl
  · obtain ⟨a, D, j, rfl, hj, hE, k⟩ := h
    have nd := sc__law_classes.nd
    have hD : D ∈ errL.map c := List.mem_of_getElem? hj
    have rD := R.rd D hD
    have kD := R.kit D hD
    apply Exists.intro
    apply And.intro
    case left =>
     apply PSs.nox
     apply C8.pss_cut
     · exact ps_set (i := 1) nd rfl (.inl rfl) (pe_lst (pa_iscons (pe_is (C := c "BadTree") rfl (.inl rfl) (by rfl) R.isi (R.gl "BadTree" (List.mem_of_getElem? (i := 0) rfl)) (by rfl) (by decide) (by decide) (by decide)) (pa_iscons (pe_is (C := c "BadWord") rfl (.inl rfl) (by rfl) R.isi (R.gl "BadWord" (List.mem_of_getElem? (i := 1) rfl)) (by rfl) (by decide) (by decide) (by decide)) (pa_iscons (pe_is (C := c "BadText") rfl (.inl rfl) (by rfl) R.isi (R.gl "BadText" (List.mem_of_getElem? (i := 2) rfl)) (by rfl) (by decide) (by decide) (by decide)) (pa_iscons (pe_is (C := c "BadPlace") rfl (.inl rfl) (by rfl) R.isi (R.gl "BadPlace" (List.mem_of_getElem? (i := 3) rfl)) (by rfl) (by decide) (by decide) (by decide)) (pa_iscons (pe_is (C := c "BadNames") rfl (.inl rfl) (by rfl) R.isi (R.gl "BadNames" (List.mem_of_getElem? (i := 4) rfl)) (by rfl) (by decide) (by decide) (by decide)) pa_isnil))))))
     apply C8.pss_cut
     · exact ps_set (i := 1) nd rfl (.inl rfl) (pe_op op_cat (pv 1) (pe_lst (pa_iscons (pe_is (C := c "BadTexts") rfl (.inl rfl) (by rfl) R.isi (R.gl "BadTexts" (List.mem_of_getElem? (i := 5) rfl)) (by rfl) (by decide) (by decide) (by decide)) (pa_iscons (pe_is (C := c "BadName") rfl (.inl rfl) (by rfl) R.isi (R.gl "BadName" (List.mem_of_getElem? (i := 6) rfl)) (by rfl) (by decide) (by decide) (by decide)) (pa_iscons (pe_is (C := c "BadCount") rfl (.inl rfl) (by rfl) R.isi (R.gl "BadCount" (List.mem_of_getElem? (i := 7) rfl)) (by rfl) (by decide) (by decide) (by decide)) (pa_iscons (pe_is (C := c "BadUnit") rfl (.inl rfl) (by rfl) R.isi (R.gl "BadUnit" (List.mem_of_getElem? (i := 8) rfl)) (by rfl) (by decide) (by decide) (by decide)) (pa_iscons (pe_is (C := c "BadUnits") rfl (.inl rfl) (by rfl) R.isi (R.gl "BadUnits" (List.mem_of_getElem? (i := 9) rfl)) (by rfl) (by decide) (by decide) (by decide)) pa_isnil)))))))
     apply C8.pss_cut
     · exact ps_set (i := 1) nd rfl (.inl rfl) (pe_op op_cat (pv 1) (pe_lst (pa_iscons (pe_is (C := c "NoUnit") rfl (.inl rfl) (by rfl) R.isi (R.gl "NoUnit" (List.mem_of_getElem? (i := 10) rfl)) (by rfl) (by decide) (by decide) (by decide)) (pa_iscons (pe_is (C := c "UsesRing") rfl (.inl rfl) (by rfl) R.isi (R.gl "UsesRing" (List.mem_of_getElem? (i := 11) rfl)) (by rfl) (by decide) (by decide) (by decide)) (pa_iscons (pe_is (C := c "BadFaces") rfl (.inl rfl) (by rfl) R.isi (R.gl "BadFaces" (List.mem_of_getElem? (i := 12) rfl)) (by rfl) (by decide) (by decide) (by decide)) (pa_iscons (pe_is (C := c "BadPoint") rfl (.inl rfl) (by rfl) R.isi (R.gl "BadPoint" (List.mem_of_getElem? (i := 13) rfl)) (by rfl) (by decide) (by decide) (by decide)) (pa_iscons (pe_is (C := c "BadPath") rfl (.inl rfl) (by rfl) R.isi (R.gl "BadPath" (List.mem_of_getElem? (i := 14) rfl)) (by rfl) (by decide) (by decide) (by decide)) pa_isnil)))))))
     apply C8.pss_cut
     · exact ps_set (i := 1) nd rfl (.inl rfl) (pe_op op_cat (pv 1) (pe_lst (pa_iscons (pe_is (C := c "NoFunction") rfl (.inl rfl) (by rfl) R.isi (R.gl "NoFunction" (List.mem_of_getElem? (i := 15) rfl)) (by rfl) (by decide) (by decide) (by decide)) (pa_iscons (pe_is (C := c "Faulty") rfl (.inl rfl) (by rfl) R.isi (R.gl "Faulty" (List.mem_of_getElem? (i := 16) rfl)) (by rfl) (by decide) (by decide) (by decide)) (pa_iscons (pe_is (C := c "KindClash") rfl (.inl rfl) (by rfl) R.isi (R.gl "KindClash" (List.mem_of_getElem? (i := 17) rfl)) (by rfl) (by decide) (by decide) (by decide)) (pa_iscons (pe_is (C := c "TwoNames") rfl (.inl rfl) (by rfl) R.isi (R.gl "TwoNames" (List.mem_of_getElem? (i := 18) rfl)) (by rfl) (by decide) (by decide) (by decide)) (pa_iscons (pe_is (C := c "BadProgram") rfl (.inl rfl) (by rfl) R.isi (R.gl "BadProgram" (List.mem_of_getElem? (i := 19) rfl)) (by rfl) (by decide) (by decide) (by decide)) pa_isnil)))))))
     apply C8.pss_cut
     · exact ps_set (i := 1) nd rfl (.inl rfl) (pe_op op_cat (pv 1) (pe_lst (pa_iscons (pe_is (C := c "BadArguments") rfl (.inl rfl) (by rfl) R.isi (R.gl "BadArguments" (List.mem_of_getElem? (i := 20) rfl)) (by rfl) (by decide) (by decide) (by decide)) (pa_iscons (pe_is (C := c "BadMost") rfl (.inl rfl) (by rfl) R.isi (R.gl "BadMost" (List.mem_of_getElem? (i := 21) rfl)) (by rfl) (by decide) (by decide) (by decide)) (pa_iscons (pe_is (C := c "NotNow") rfl (.inl rfl) (by rfl) R.isi (R.gl "NotNow" (List.mem_of_getElem? (i := 22) rfl)) (by rfl) (by decide) (by decide) (by decide)) (pa_iscons (pe_is (C := c "BadMoment") rfl (.inl rfl) (by rfl) R.isi (R.gl "BadMoment" (List.mem_of_getElem? (i := 23) rfl)) (by rfl) (by decide) (by decide) (by decide)) (pa_iscons (pe_is (C := c "BadChosen") rfl (.inl rfl) (by rfl) R.isi (R.gl "BadChosen" (List.mem_of_getElem? (i := 24) rfl)) (by rfl) (by decide) (by decide) (by decide)) pa_isnil)))))))
     apply C8.pss_cut
     · exact ps_set (i := 1) nd rfl (.inl rfl) (pe_op op_cat (pv 1) (pe_lst (pa_iscons (pe_is (C := c "BadScope") rfl (.inl rfl) (by rfl) R.isi (R.gl "BadScope" (List.mem_of_getElem? (i := 25) rfl)) (by rfl) (by decide) (by decide) (by decide)) (pa_iscons (pe_is (C := c "BadKinds") rfl (.inl rfl) (by rfl) R.isi (R.gl "BadKinds" (List.mem_of_getElem? (i := 26) rfl)) (by rfl) (by decide) (by decide) (by decide)) (pa_iscons (pe_is (C := c "BadFunctions") rfl (.inl rfl) (by rfl) R.isi (R.gl "BadFunctions" (List.mem_of_getElem? (i := 27) rfl)) (by rfl) (by decide) (by decide) (by decide)) (pa_iscons (pe_is (C := c "Unknown") rfl (.inl rfl) (by rfl) R.isi (R.gl "Unknown" (List.mem_of_getElem? (i := 28) rfl)) (by rfl) (by decide) (by decide) (by decide)) (pa_iscons (pe_is (C := c "BadCode") rfl (.inl rfl) (by rfl) R.isi (R.gl "BadCode" (List.mem_of_getElem? (i := 29) rfl)) (by rfl) (by decide) (by decide) (by decide)) pa_isnil)))))))
     apply C8.pss_cut
     · exact ps_set (i := 1) nd rfl (.inl rfl) (pe_op op_cat (pv 1) (pe_lst (pa_iscons (pe_is (C := c "BadCodes") rfl (.inl rfl) (by rfl) R.isi (R.gl "BadCodes" (List.mem_of_getElem? (i := 30) rfl)) (by rfl) (by decide) (by decide) (by decide)) (pa_iscons (pe_is (C := c "BadSpot") rfl (.inl rfl) (by rfl) R.isi (R.gl "BadSpot" (List.mem_of_getElem? (i := 31) rfl)) (by rfl) (by decide) (by decide) (by decide)) (pa_iscons (pe_is (C := c "BadState") rfl (.inl rfl) (by rfl) R.isi (R.gl "BadState" (List.mem_of_getElem? (i := 32) rfl)) (by rfl) (by decide) (by decide) (by decide)) (pa_iscons (pe_is (C := c "BadWalk") rfl (.inl rfl) (by rfl) R.isi (R.gl "BadWalk" (List.mem_of_getElem? (i := 33) rfl)) (by rfl) (by decide) (by decide) (by decide)) (pa_iscons (pe_is (C := c "BadBlock") rfl (.inl rfl) (by rfl) R.isi (R.gl "BadBlock" (List.mem_of_getElem? (i := 34) rfl)) (by rfl) (by decide) (by decide) (by decide)) pa_isnil)))))))
     apply C8.pss_cut
     · exact ps_set (i := 1) nd rfl (.inl rfl) (pe_op op_cat (pv 1) (pe_lst (pa_iscons (pe_is (C := c "BadStep") rfl (.inl rfl) (by rfl) R.isi (R.gl "BadStep" (List.mem_of_getElem? (i := 35) rfl)) (by rfl) (by decide) (by decide) (by decide)) (pa_iscons (pe_is (C := c "Refused") rfl (.inl rfl) (by rfl) R.isi (R.gl "Refused" (List.mem_of_getElem? (i := 36) rfl)) (by rfl) (by decide) (by decide) (by decide)) (pa_iscons (pe_is (C := c "BadRows") rfl (.inl rfl) (by rfl) R.isi (R.gl "BadRows" (List.mem_of_getElem? (i := 37) rfl)) (by rfl) (by decide) (by decide) (by decide)) (pa_iscons (pe_is (C := c "BadSlots") rfl (.inl rfl) (by rfl) R.isi (R.gl "BadSlots" (List.mem_of_getElem? (i := 38) rfl)) (by rfl) (by decide) (by decide) (by decide)) (pa_iscons (pe_is (C := c "BadSpans") rfl (.inl rfl) (by rfl) R.isi (R.gl "BadSpans" (List.mem_of_getElem? (i := 39) rfl)) (by rfl) (by decide) (by decide) (by decide)) pa_isnil)))))))
     apply C8.pss_cut
     · exact ps_set (i := 1) nd rfl (.inl rfl) (pe_op op_cat (pv 1) (pe_lst (pa_iscons (pe_is (C := c "BadRoom") rfl (.inl rfl) (by rfl) R.isi (R.gl "BadRoom" (List.mem_of_getElem? (i := 40) rfl)) (by rfl) (by decide) (by decide) (by decide)) (pa_iscons (pe_is (C := c "BadPrices") rfl (.inl rfl) (by rfl) R.isi (R.gl "BadPrices" (List.mem_of_getElem? (i := 41) rfl)) (by rfl) (by decide) (by decide) (by decide)) (pa_iscons (pe_is (C := c "NotStraight") rfl (.inl rfl) (by rfl) R.isi (R.gl "NotStraight" (List.mem_of_getElem? (i := 42) rfl)) (by rfl) (by decide) (by decide) (by decide)) (pa_iscons (pe_is (C := c "BadPairs") rfl (.inl rfl) (by rfl) R.isi (R.gl "BadPairs" (List.mem_of_getElem? (i := 43) rfl)) (by rfl) (by decide) (by decide) (by decide)) (pa_iscons (pe_is (C := c "BadHelpers") rfl (.inl rfl) (by rfl) R.isi (R.gl "BadHelpers" (List.mem_of_getElem? (i := 44) rfl)) (by rfl) (by decide) (by decide) (by decide)) pa_isnil)))))))
     apply C8.pss_cut
     · exact ps_set (i := 1) nd rfl (.inl rfl) (pe_op op_cat (pv 1) (pe_lst (pa_iscons (pe_is (C := c "BadPlaces") rfl (.inl rfl) (by rfl) R.isi (R.gl "BadPlaces" (List.mem_of_getElem? (i := 45) rfl)) (by rfl) (by decide) (by decide) (by decide)) (pa_iscons (pe_is (C := c "BadPaper") rfl (.inl rfl) (by rfl) R.isi (R.gl "BadPaper" (List.mem_of_getElem? (i := 46) rfl)) (by rfl) (by decide) (by decide) (by decide)) (pa_iscons (pe_is (C := c "BadChanges") rfl (.inl rfl) (by rfl) R.isi (R.gl "BadChanges" (List.mem_of_getElem? (i := 47) rfl)) (by rfl) (by decide) (by decide) (by decide)) (pa_iscons (pe_is (C := c "BadWaiting") rfl (.inl rfl) (by rfl) R.isi (R.gl "BadWaiting" (List.mem_of_getElem? (i := 48) rfl)) (by rfl) (by decide) (by decide) (by decide)) (pa_iscons (pe_is (C := c "BadHeap") rfl (.inl rfl) (by rfl) R.isi (R.gl "BadHeap" (List.mem_of_getElem? (i := 49) rfl)) (by rfl) (by decide) (by decide) (by decide)) pa_isnil)))))))
     apply C8.pss_cut
     · exact ps_set (i := 1) nd rfl (.inl rfl) (pe_op op_cat (pv 1) (pe_lst (pa_iscons (pe_is (C := c "BadWords") rfl (.inl rfl) (by rfl) R.isi (R.gl "BadWords" (List.mem_of_getElem? (i := 50) rfl)) (by rfl) (by decide) (by decide) (by decide)) (pa_iscons (pe_is (C := c "BadAddresses") rfl (.inl rfl) (by rfl) R.isi (R.gl "BadAddresses" (List.mem_of_getElem? (i := 51) rfl)) (by rfl) (by decide) (by decide) (by decide)) (pa_iscons (pe_is (C := c "BadDepth") rfl (.inl rfl) (by rfl) R.isi (R.gl "BadDepth" (List.mem_of_getElem? (i := 52) rfl)) (by rfl) (by decide) (by decide) (by decide)) (pa_iscons (pe_is (C := c "NotTold") rfl (.inl rfl) (by rfl) R.isi (R.gl "NotTold" (List.mem_of_getElem? (i := 53) rfl)) (by rfl) (by decide) (by decide) (by decide)) (pa_iscons (pe_is (C := c "BadRegisters") rfl (.inl rfl) (by rfl) R.isi (R.gl "BadRegisters" (List.mem_of_getElem? (i := 54) rfl)) (by rfl) (by decide) (by decide) (by decide)) pa_isnil)))))))
     apply C8.pss_cut
     · exact ps_set (i := 1) nd rfl (.inl rfl) (pe_op op_cat (pv 1) (pe_lst (pa_iscons (pe_is (C := c "BadObject") rfl (.inl rfl) (by rfl) R.isi (R.gl "BadObject" (List.mem_of_getElem? (i := 55) rfl)) (by rfl) (by decide) (by decide) (by decide)) (pa_iscons (pe_is (C := c "BadObjects") rfl (.inl rfl) (by rfl) R.isi (R.gl "BadObjects" (List.mem_of_getElem? (i := 56) rfl)) (by rfl) (by decide) (by decide) (by decide)) (pa_iscons (pe_is (C := c "TwoUnits") rfl (.inl rfl) (by rfl) R.isi (R.gl "TwoUnits" (List.mem_of_getElem? (i := 57) rfl)) (by rfl) (by decide) (by decide) (by decide)) (pa_iscons (pe_is (C := c "BadOrder") rfl (.inl rfl) (by rfl) R.isi (R.gl "BadOrder" (List.mem_of_getElem? (i := 58) rfl)) (by rfl) (by decide) (by decide) (by decide)) (pa_iscons (pe_is (C := c "OtherRegisters") rfl (.inl rfl) (by rfl) R.isi (R.gl "OtherRegisters" (List.mem_of_getElem? (i := 59) rfl)) (by rfl) (by decide) (by decide) (by decide)) pa_isnil)))))))
     apply C8.pss_cut
     · exact ps_set (i := 1) nd rfl (.inl rfl) (pe_op op_cat (pv 1) (pe_lst (pa_iscons (pe_is (C := c "Missing") rfl (.inl rfl) (by rfl) R.isi (R.gl "Missing" (List.mem_of_getElem? (i := 60) rfl)) (by rfl) (by decide) (by decide) (by decide)) (pa_iscons (pe_is (C := c "OtherFace") rfl (.inl rfl) (by rfl) R.isi (R.gl "OtherFace" (List.mem_of_getElem? (i := 61) rfl)) (by rfl) (by decide) (by decide) (by decide)) (pa_iscons (pe_is (C := c "BadBundle") rfl (.inl rfl) (by rfl) R.isi (R.gl "BadBundle" (List.mem_of_getElem? (i := 62) rfl)) (by rfl) (by decide) (by decide) (by decide)) (pa_iscons (pe_is (C := c "BadNumber") rfl (.inl rfl) (by rfl) R.isi (R.gl "BadNumber" (List.mem_of_getElem? (i := 63) rfl)) (by rfl) (by decide) (by decide) (by decide)) (pa_iscons (pe_is (C := c "BadBits") rfl (.inl rfl) (by rfl) R.isi (R.gl "BadBits" (List.mem_of_getElem? (i := 64) rfl)) (by rfl) (by decide) (by decide) (by decide)) pa_isnil)))))))
     apply C8.pss_cut
     · exact ps_set (i := 1) nd rfl (.inl rfl) (pe_op op_cat (pv 1) (pe_lst (pa_iscons (pe_is (C := c "BadInstruction") rfl (.inl rfl) (by rfl) R.isi (R.gl "BadInstruction" (List.mem_of_getElem? (i := 65) rfl)) (by rfl) (by decide) (by decide) (by decide)) (pa_iscons (pe_is (C := c "BadOrders") rfl (.inl rfl) (by rfl) R.isi (R.gl "BadOrders" (List.mem_of_getElem? (i := 66) rfl)) (by rfl) (by decide) (by decide) (by decide)) (pa_iscons (pe_is (C := c "BadLong") rfl (.inl rfl) (by rfl) R.isi (R.gl "BadLong" (List.mem_of_getElem? (i := 67) rfl)) (by rfl) (by decide) (by decide) (by decide)) (pa_iscons (pe_is (C := c "BadLeap") rfl (.inl rfl) (by rfl) R.isi (R.gl "BadLeap" (List.mem_of_getElem? (i := 68) rfl)) (by rfl) (by decide) (by decide) (by decide)) (pa_iscons (pe_is (C := c "BadLayout") rfl (.inl rfl) (by rfl) R.isi (R.gl "BadLayout" (List.mem_of_getElem? (i := 69) rfl)) (by rfl) (by decide) (by decide) (by decide)) pa_isnil)))))))
     apply C8.pss_cut
     · exact ps_set (i := 1) nd rfl (.inl rfl) (pe_op op_cat (pv 1) (pe_lst (pa_iscons (pe_is (C := c "BadImage") rfl (.inl rfl) (by rfl) R.isi (R.gl "BadImage" (List.mem_of_getElem? (i := 70) rfl)) (by rfl) (by decide) (by decide) (by decide)) (pa_iscons (pe_is (C := c "BadAddress") rfl (.inl rfl) (by rfl) R.isi (R.gl "BadAddress" (List.mem_of_getElem? (i := 71) rfl)) (by rfl) (by decide) (by decide) (by decide)) pa_isnil))))
     apply pss_one
     exact ps_ret (pe_lc (own := [("_law_k", 2), ("_law_is_one", 3)]) (g := gTup K 2 (gCons (gName 2) (gCons (gName 3) gNil))) rfl nd (pi_enum (by rfl) R.enu (pa_cons (pv 1) pa_nil)) (blkOk_by (own := [("_law_k", 2), ("_law_is_one", 3)]) (N := ["_law_error", "_law_found", "_law_k", "_law_is_one"]) (sc := defScope s_law_classes) (by decide +kernel))
       (fun _ _ _ _ _ => by exact pg_tup rfl (pgs_cons (pg_name (i := 2) nd rfl (Or.inl rfl)) (pgs_cons (pg_name (i := 3) nd rfl (Or.inl rfl)) pgs_nil))) (fun _ _ _ _ _ => pts_one (pt_val (pv 3))) (fun _ _ _ _ _ => pv 2))
    case right =>
      refine ⟨fun σ H' => ∃ L, σ = [some (.ref a), some (.ref L), none, none] ∧ Same H H' ∧ H L = none ∧ H' L = some (.lst (((errL.map c).take 5).map fun C => V.bl (decide (C = D)))), ⟨a, D, rfl, rD, hE, (fun C hC => kD C (List.mem_of_mem_drop (i := 0) (l := errL.map c) (List.mem_of_mem_take (i := 5) (l := (errL.map c).drop 0) hC))), (show 5 ≤ sizeLine by decide), fun L hL => ⟨L, rfl, same_new hL, hL, upd_same⟩⟩, ?_⟩
      rintro σ0 H0 ⟨L0, rfl, s0, n0, e0⟩
      refine ⟨fun σ H' => ∃ L, σ = [some (.ref a), some (.ref L), none, none] ∧ Same H H' ∧ H L = none ∧ H' L = some (.lst (((errL.map c).take 10).map fun C => V.bl (decide (C = D)))), ⟨_, rfl, a, D, rfl, rD, hE.same s0, (fun C hC => kD C (List.mem_of_mem_drop (i := 5) (l := errL.map c) (List.mem_of_mem_take (i := 5) (l := (errL.map c).drop 5) hC))), (show 5 ≤ sizeLine by decide), fun p hp => ⟨_, _, _, _, rfl, rfl, (same_new hp) _ _ e0, upd_same, (show 10 ≤ sizeLine by decide), fun q hq => ⟨q, rfl, (s0.trans (same_new hp)).trans (same_new hq), s0.free ((same_new hp).free hq), upd_same⟩⟩⟩, ?_⟩
      rintro σ1 H1 ⟨L1, rfl, s1, n1, e1⟩
      refine ⟨fun σ H' => ∃ L, σ = [some (.ref a), some (.ref L), none, none] ∧ Same H H' ∧ H L = none ∧ H' L = some (.lst (((errL.map c).take 15).map fun C => V.bl (decide (C = D)))), ⟨_, rfl, a, D, rfl, rD, hE.same s1, (fun C hC => kD C (List.mem_of_mem_drop (i := 10) (l := errL.map c) (List.mem_of_mem_take (i := 5) (l := (errL.map c).drop 10) hC))), (show 5 ≤ sizeLine by decide), fun p hp => ⟨_, _, _, _, rfl, rfl, (same_new hp) _ _ e1, upd_same, (show 15 ≤ sizeLine by decide), fun q hq => ⟨q, rfl, (s1.trans (same_new hp)).trans (same_new hq), s1.free ((same_new hp).free hq), upd_same⟩⟩⟩, ?_⟩
      rintro σ2 H2 ⟨L2, rfl, s2, n2, e2⟩
      refine ⟨fun σ H' => ∃ L, σ = [some (.ref a), some (.ref L), none, none] ∧ Same H H' ∧ H L = none ∧ H' L = some (.lst (((errL.map c).take 20).map fun C => V.bl (decide (C = D)))), ⟨_, rfl, a, D, rfl, rD, hE.same s2, (fun C hC => kD C (List.mem_of_mem_drop (i := 15) (l := errL.map c) (List.mem_of_mem_take (i := 5) (l := (errL.map c).drop 15) hC))), (show 5 ≤ sizeLine by decide), fun p hp => ⟨_, _, _, _, rfl, rfl, (same_new hp) _ _ e2, upd_same, (show 20 ≤ sizeLine by decide), fun q hq => ⟨q, rfl, (s2.trans (same_new hp)).trans (same_new hq), s2.free ((same_new hp).free hq), upd_same⟩⟩⟩, ?_⟩
      rintro σ3 H3 ⟨L3, rfl, s3, n3, e3⟩
      refine ⟨fun σ H' => ∃ L, σ = [some (.ref a), some (.ref L), none, none] ∧ Same H H' ∧ H L = none ∧ H' L = some (.lst (((errL.map c).take 25).map fun C => V.bl (decide (C = D)))), ⟨_, rfl, a, D, rfl, rD, hE.same s3, (fun C hC => kD C (List.mem_of_mem_drop (i := 20) (l := errL.map c) (List.mem_of_mem_take (i := 5) (l := (errL.map c).drop 20) hC))), (show 5 ≤ sizeLine by decide), fun p hp => ⟨_, _, _, _, rfl, rfl, (same_new hp) _ _ e3, upd_same, (show 25 ≤ sizeLine by decide), fun q hq => ⟨q, rfl, (s3.trans (same_new hp)).trans (same_new hq), s3.free ((same_new hp).free hq), upd_same⟩⟩⟩, ?_⟩
      rintro σ4 H4 ⟨L4, rfl, s4, n4, e4⟩
      refine ⟨fun σ H' => ∃ L, σ = [some (.ref a), some (.ref L), none, none] ∧ Same H H' ∧ H L = none ∧ H' L = some (.lst (((errL.map c).take 30).map fun C => V.bl (decide (C = D)))), ⟨_, rfl, a, D, rfl, rD, hE.same s4, (fun C hC => kD C (List.mem_of_mem_drop (i := 25) (l := errL.map c) (List.mem_of_mem_take (i := 5) (l := (errL.map c).drop 25) hC))), (show 5 ≤ sizeLine by decide), fun p hp => ⟨_, _, _, _, rfl, rfl, (same_new hp) _ _ e4, upd_same, (show 30 ≤ sizeLine by decide), fun q hq => ⟨q, rfl, (s4.trans (same_new hp)).trans (same_new hq), s4.free ((same_new hp).free hq), upd_same⟩⟩⟩, ?_⟩
      rintro σ5 H5 ⟨L5, rfl, s5, n5, e5⟩
      refine ⟨fun σ H' => ∃ L, σ = [some (.ref a), some (.ref L), none, none] ∧ Same H H' ∧ H L = none ∧ H' L = some (.lst (((errL.map c).take 35).map fun C => V.bl (decide (C = D)))), ⟨_, rfl, a, D, rfl, rD, hE.same s5, (fun C hC => kD C (List.mem_of_mem_drop (i := 30) (l := errL.map c) (List.mem_of_mem_take (i := 5) (l := (errL.map c).drop 30) hC))), (show 5 ≤ sizeLine by decide), fun p hp => ⟨_, _, _, _, rfl, rfl, (same_new hp) _ _ e5, upd_same, (show 35 ≤ sizeLine by decide), fun q hq => ⟨q, rfl, (s5.trans (same_new hp)).trans (same_new hq), s5.free ((same_new hp).free hq), upd_same⟩⟩⟩, ?_⟩
      rintro σ6 H6 ⟨L6, rfl, s6, n6, e6⟩
      refine ⟨fun σ H' => ∃ L, σ = [some (.ref a), some (.ref L), none, none] ∧ Same H H' ∧ H L = none ∧ H' L = some (.lst (((errL.map c).take 40).map fun C => V.bl (decide (C = D)))), ⟨_, rfl, a, D, rfl, rD, hE.same s6, (fun C hC => kD C (List.mem_of_mem_drop (i := 35) (l := errL.map c) (List.mem_of_mem_take (i := 5) (l := (errL.map c).drop 35) hC))), (show 5 ≤ sizeLine by decide), fun p hp => ⟨_, _, _, _, rfl, rfl, (same_new hp) _ _ e6, upd_same, (show 40 ≤ sizeLine by decide), fun q hq => ⟨q, rfl, (s6.trans (same_new hp)).trans (same_new hq), s6.free ((same_new hp).free hq), upd_same⟩⟩⟩, ?_⟩
      rintro σ7 H7 ⟨L7, rfl, s7, n7, e7⟩
      refine ⟨fun σ H' => ∃ L, σ = [some (.ref a), some (.ref L), none, none] ∧ Same H H' ∧ H L = none ∧ H' L = some (.lst (((errL.map c).take 45).map fun C => V.bl (decide (C = D)))), ⟨_, rfl, a, D, rfl, rD, hE.same s7, (fun C hC => kD C (List.mem_of_mem_drop (i := 40) (l := errL.map c) (List.mem_of_mem_take (i := 5) (l := (errL.map c).drop 40) hC))), (show 5 ≤ sizeLine by decide), fun p hp => ⟨_, _, _, _, rfl, rfl, (same_new hp) _ _ e7, upd_same, (show 45 ≤ sizeLine by decide), fun q hq => ⟨q, rfl, (s7.trans (same_new hp)).trans (same_new hq), s7.free ((same_new hp).free hq), upd_same⟩⟩⟩, ?_⟩
      rintro σ8 H8 ⟨L8, rfl, s8, n8, e8⟩
      refine ⟨fun σ H' => ∃ L, σ = [some (.ref a), some (.ref L), none, none] ∧ Same H H' ∧ H L = none ∧ H' L = some (.lst (((errL.map c).take 50).map fun C => V.bl (decide (C = D)))), ⟨_, rfl, a, D, rfl, rD, hE.same s8, (fun C hC => kD C (List.mem_of_mem_drop (i := 45) (l := errL.map c) (List.mem_of_mem_take (i := 5) (l := (errL.map c).drop 45) hC))), (show 5 ≤ sizeLine by decide), fun p hp => ⟨_, _, _, _, rfl, rfl, (same_new hp) _ _ e8, upd_same, (show 50 ≤ sizeLine by decide), fun q hq => ⟨q, rfl, (s8.trans (same_new hp)).trans (same_new hq), s8.free ((same_new hp).free hq), upd_same⟩⟩⟩, ?_⟩
      rintro σ9 H9 ⟨L9, rfl, s9, n9, e9⟩
      refine ⟨fun σ H' => ∃ L, σ = [some (.ref a), some (.ref L), none, none] ∧ Same H H' ∧ H L = none ∧ H' L = some (.lst (((errL.map c).take 55).map fun C => V.bl (decide (C = D)))), ⟨_, rfl, a, D, rfl, rD, hE.same s9, (fun C hC => kD C (List.mem_of_mem_drop (i := 50) (l := errL.map c) (List.mem_of_mem_take (i := 5) (l := (errL.map c).drop 50) hC))), (show 5 ≤ sizeLine by decide), fun p hp => ⟨_, _, _, _, rfl, rfl, (same_new hp) _ _ e9, upd_same, (show 55 ≤ sizeLine by decide), fun q hq => ⟨q, rfl, (s9.trans (same_new hp)).trans (same_new hq), s9.free ((same_new hp).free hq), upd_same⟩⟩⟩, ?_⟩
      rintro σ10 H10 ⟨L10, rfl, s10, n10, e10⟩
      refine ⟨fun σ H' => ∃ L, σ = [some (.ref a), some (.ref L), none, none] ∧ Same H H' ∧ H L = none ∧ H' L = some (.lst (((errL.map c).take 60).map fun C => V.bl (decide (C = D)))), ⟨_, rfl, a, D, rfl, rD, hE.same s10, (fun C hC => kD C (List.mem_of_mem_drop (i := 55) (l := errL.map c) (List.mem_of_mem_take (i := 5) (l := (errL.map c).drop 55) hC))), (show 5 ≤ sizeLine by decide), fun p hp => ⟨_, _, _, _, rfl, rfl, (same_new hp) _ _ e10, upd_same, (show 60 ≤ sizeLine by decide), fun q hq => ⟨q, rfl, (s10.trans (same_new hp)).trans (same_new hq), s10.free ((same_new hp).free hq), upd_same⟩⟩⟩, ?_⟩
      rintro σ11 H11 ⟨L11, rfl, s11, n11, e11⟩
      refine ⟨fun σ H' => ∃ L, σ = [some (.ref a), some (.ref L), none, none] ∧ Same H H' ∧ H L = none ∧ H' L = some (.lst (((errL.map c).take 65).map fun C => V.bl (decide (C = D)))), ⟨_, rfl, a, D, rfl, rD, hE.same s11, (fun C hC => kD C (List.mem_of_mem_drop (i := 60) (l := errL.map c) (List.mem_of_mem_take (i := 5) (l := (errL.map c).drop 60) hC))), (show 5 ≤ sizeLine by decide), fun p hp => ⟨_, _, _, _, rfl, rfl, (same_new hp) _ _ e11, upd_same, (show 65 ≤ sizeLine by decide), fun q hq => ⟨q, rfl, (s11.trans (same_new hp)).trans (same_new hq), s11.free ((same_new hp).free hq), upd_same⟩⟩⟩, ?_⟩
      rintro σ12 H12 ⟨L12, rfl, s12, n12, e12⟩
      refine ⟨fun σ H' => ∃ L, σ = [some (.ref a), some (.ref L), none, none] ∧ Same H H' ∧ H L = none ∧ H' L = some (.lst (((errL.map c).take 70).map fun C => V.bl (decide (C = D)))), ⟨_, rfl, a, D, rfl, rD, hE.same s12, (fun C hC => kD C (List.mem_of_mem_drop (i := 65) (l := errL.map c) (List.mem_of_mem_take (i := 5) (l := (errL.map c).drop 65) hC))), (show 5 ≤ sizeLine by decide), fun p hp => ⟨_, _, _, _, rfl, rfl, (same_new hp) _ _ e12, upd_same, (show 70 ≤ sizeLine by decide), fun q hq => ⟨q, rfl, (s12.trans (same_new hp)).trans (same_new hq), s12.free ((same_new hp).free hq), upd_same⟩⟩⟩, ?_⟩
      rintro σ13 H13 ⟨L13, rfl, s13, n13, e13⟩
      refine ⟨fun σ H' => ∃ L, σ = [some (.ref a), some (.ref L), none, none] ∧ Same H H' ∧ H L = none ∧ H' L = some (.lst (((errL.map c).take 72).map fun C => V.bl (decide (C = D)))), ⟨_, rfl, a, D, rfl, rD, hE.same s13, (fun C hC => kD C (List.mem_of_mem_drop (i := 70) (l := errL.map c) (List.mem_of_mem_take (i := 2) (l := (errL.map c).drop 70) hC))), (show 2 ≤ sizeLine by decide), fun p hp => ⟨_, _, _, _, rfl, rfl, (same_new hp) _ _ e13, upd_same, (show 72 ≤ sizeLine by decide), fun q hq => ⟨q, rfl, (s13.trans (same_new hp)).trans (same_new hq), s13.free ((same_new hp).free hq), upd_same⟩⟩⟩, ?_⟩
      rintro σ14 H14 ⟨L14, rfl, s14, n14, e14⟩
      rw [show (errL.map c).take 72 = errL.map c from rfl] at e14
      generalize hB : (errL.map c).map (fun C => V.bl (decide (C = D))) = bs at e14
      have bl : bs.length = 72 := by rw [← hB, List.length_map]; rfl
      have bg : ∀ i b, bs[i]? = some b → b = V.bl (decide (i = j)) := fun i b hb => by
        rw [← hB, List.getElem?_map] at hb
        cases e : (errL.map c)[i]? with
        | none => rw [e] at hb; cases hb
        | some C =>
          rw [e] at hb
          have hb : b = V.bl (decide (C = D)) := (Option.some.inj hb).symm
          rw [hb]
          congr 1
          apply decide_eq_decide.mpr
          constructor
          · intro z
            rw [z] at e
            exact nodup_inj R.nd e hj
          · intro z
            rw [z, hj] at e
            exact (Option.some.inj e).symm
      have jl : j < 72 := by
        obtain ⟨j1, _⟩ := List.getElem?_eq_some_iff.mp hj
        exact j1
      refine ⟨_, rfl, L14, bs, rfl, SqL.of e14, fun M hM => ?_⟩
      refine lc_it (walk_enum (K := K) (a := L14) (xs := bs)) (fun i H' => Same H14 H' ∧ H' M = some (.lst (if j < i then [.int (j : Int)] else []))) ⟨same_new hM, upd_same⟩ (fun i H' _ h => SqL.of (h.1 _ _ e14)) ?_ ?_
      · rintro i x H' H2 hi ⟨sm, em⟩ ⟨T, x1, x2, rfl, hT, rfl, hx1, hx2⟩
        cases hx1
        have hb := bg i x2 hx2
        generalize hbb : decide (i = j) = b at hb
        subst hb
        have sT := same_new (o := .tup [.int (i : Int), .bl b]) hT
        refine ⟨T, _, rfl, SqT.of upd_same, rfl, _, _, rfl, _, _, rfl, rfl, rfl, _, rfl, _, rfl, ?_⟩
        cases b with
        | true =>
          have c : i = j := of_decide_eq_true hbb
          subst c
          refine iteT ⟨_, rfl, [], ?_, (show 0 < sizeLine by decide), ?_, ?_⟩
          · rw [sT _ _ em, if_neg (Nat.lt_irrefl _)]
          · exact same_sub (sm.trans sT) hM
          · rw [upd_same, if_pos (Nat.lt_succ_self _)]
            rfl
        | false =>
          have c : ¬ i = j := of_decide_eq_false hbb
          refine iteF ⟨sm.trans sT, ?_⟩
          rw [sT _ _ em]
          by_cases c2 : j < i
          · rw [if_pos c2, if_pos (Nat.lt_succ_of_lt c2)]
          · rw [if_neg c2, if_neg (by omega)]
      · rintro H' ⟨sm, em⟩
        rw [bl, if_pos jl] at em
        exact k _ M (s14.trans sm) (s14.free hM) em
end
/-! ## the plain errors -/
def spPln (c : Str → Addr) : Sp := fun vs H Q _ => vs = [] ∧ ∀ H' L as, Same H H' → H L = none → H' L = some (.lst (as.map V.ref)) → Ers H' as (plnL.map c) → Q (.ref L) H'
section
variable {P : Program} {w : World} {K : PySem.W.Frag} {mg : Str → Option Value} {base : Heap}
theorem sc__law_plain_errors : FnScope ["_law_found"] [] (defScope s_law_plain_errors) := ⟨rfl, rfl, rfl, by decide +kernel, rfl, by decide +kernel, by decide +kernel⟩
theorem ok_plain {CX : CXT} {f : Addr} {fd : FuncData} {c : Str → Addr} (F : FnP K "_law_plain_errors" s_law_plain_errors f fd) (R : ∀ x ∈ plnL, PlnX K mg x (c x)) : FnOk P w K mg base CX 1 f fd [] (spPln c) := by
  refine F.ok sc__law_plain_errors (fun vs H Q E h => ?_) (fun cdv A outer s H vs Q E hr h => ?_)
  · obtain ⟨rfl, _⟩ := h
    rfl
  · obtain ⟨rfl, k⟩ := h
    have nd := sc__law_plain_errors.nd
    apply Exists.intro
    apply And.intro
    case left =>
     apply PSs.nox
     apply C8.pss_cut
     · exact ps_set (i := 0) nd rfl (.inl rfl) (pe_lst (pa_ercons (pe_er1 (C := c "BadTree") (R "BadTree" (List.mem_of_getElem? (i := 0) rfl)) (by rfl)) (pa_ercons (pe_er1 (C := c "BadWord") (R "BadWord" (List.mem_of_getElem? (i := 1) rfl)) (by rfl)) (pa_ercons (pe_er1 (C := c "BadPlace") (R "BadPlace" (List.mem_of_getElem? (i := 2) rfl)) (by rfl)) (pa_ercons (pe_er1 (C := c "BadNames") (R "BadNames" (List.mem_of_getElem? (i := 3) rfl)) (by rfl)) (pa_ercons (pe_er1 (C := c "BadTexts") (R "BadTexts" (List.mem_of_getElem? (i := 4) rfl)) (by rfl)) (pa_ercons (pe_er1 (C := c "BadName") (R "BadName" (List.mem_of_getElem? (i := 5) rfl)) (by rfl)) (pa_ercons (pe_er1 (C := c "BadUnit") (R "BadUnit" (List.mem_of_getElem? (i := 6) rfl)) (by rfl)) (pa_ercons (pe_er1 (C := c "BadFaces") (R "BadFaces" (List.mem_of_getElem? (i := 7) rfl)) (by rfl)) (pa_ercons (pe_er1 (C := c "BadPoint") (R "BadPoint" (List.mem_of_getElem? (i := 8) rfl)) (by rfl)) (pa_ercons (pe_er1 (C := c "BadPath") (R "BadPath" (List.mem_of_getElem? (i := 9) rfl)) (by rfl)) pa_ernil)))))))))))
     apply C8.pss_cut
     · exact ps_set (i := 0) nd rfl (.inl rfl) (pe_op op_cat (pv 0) (pe_lst (pa_ercons (pe_er1 (C := c "BadProgram") (R "BadProgram" (List.mem_of_getElem? (i := 10) rfl)) (by rfl)) (pa_ercons (pe_er1 (C := c "BadArguments") (R "BadArguments" (List.mem_of_getElem? (i := 11) rfl)) (by rfl)) (pa_ercons (pe_er1 (C := c "BadMost") (R "BadMost" (List.mem_of_getElem? (i := 12) rfl)) (by rfl)) (pa_ercons (pe_er1 (C := c "BadMoment") (R "BadMoment" (List.mem_of_getElem? (i := 13) rfl)) (by rfl)) (pa_ercons (pe_er1 (C := c "BadChosen") (R "BadChosen" (List.mem_of_getElem? (i := 14) rfl)) (by rfl)) (pa_ercons (pe_er1 (C := c "BadScope") (R "BadScope" (List.mem_of_getElem? (i := 15) rfl)) (by rfl)) (pa_ercons (pe_er1 (C := c "BadKinds") (R "BadKinds" (List.mem_of_getElem? (i := 16) rfl)) (by rfl)) (pa_ercons (pe_er1 (C := c "BadCode") (R "BadCode" (List.mem_of_getElem? (i := 17) rfl)) (by rfl)) (pa_ercons (pe_er1 (C := c "BadSpot") (R "BadSpot" (List.mem_of_getElem? (i := 18) rfl)) (by rfl)) pa_ernil)))))))))))
     apply C8.pss_cut
     · exact ps_set (i := 0) nd rfl (.inl rfl) (pe_op op_cat (pv 0) (pe_lst (pa_ercons (pe_er1 (C := c "BadState") (R "BadState" (List.mem_of_getElem? (i := 19) rfl)) (by rfl)) (pa_ercons (pe_er1 (C := c "BadWalk") (R "BadWalk" (List.mem_of_getElem? (i := 20) rfl)) (by rfl)) (pa_ercons (pe_er1 (C := c "BadBlock") (R "BadBlock" (List.mem_of_getElem? (i := 21) rfl)) (by rfl)) (pa_ercons (pe_er1 (C := c "BadStep") (R "BadStep" (List.mem_of_getElem? (i := 22) rfl)) (by rfl)) (pa_ercons (pe_er1 (C := c "BadSlots") (R "BadSlots" (List.mem_of_getElem? (i := 23) rfl)) (by rfl)) (pa_ercons (pe_er1 (C := c "BadRoom") (R "BadRoom" (List.mem_of_getElem? (i := 24) rfl)) (by rfl)) (pa_ercons (pe_er1 (C := c "BadPrices") (R "BadPrices" (List.mem_of_getElem? (i := 25) rfl)) (by rfl)) (pa_ercons (pe_er1 (C := c "NotStraight") (R "NotStraight" (List.mem_of_getElem? (i := 26) rfl)) (by rfl)) (pa_ercons (pe_er1 (C := c "BadHelpers") (R "BadHelpers" (List.mem_of_getElem? (i := 27) rfl)) (by rfl)) (pa_ercons (pe_er1 (C := c "BadPlaces") (R "BadPlaces" (List.mem_of_getElem? (i := 28) rfl)) (by rfl)) pa_ernil))))))))))))
     apply C8.pss_cut
     · exact ps_set (i := 0) nd rfl (.inl rfl) (pe_op op_cat (pv 0) (pe_lst (pa_ercons (pe_er1 (C := c "BadPaper") (R "BadPaper" (List.mem_of_getElem? (i := 29) rfl)) (by rfl)) (pa_ercons (pe_er1 (C := c "BadWaiting") (R "BadWaiting" (List.mem_of_getElem? (i := 30) rfl)) (by rfl)) (pa_ercons (pe_er1 (C := c "BadHeap") (R "BadHeap" (List.mem_of_getElem? (i := 31) rfl)) (by rfl)) (pa_ercons (pe_er1 (C := c "BadWords") (R "BadWords" (List.mem_of_getElem? (i := 32) rfl)) (by rfl)) (pa_ercons (pe_er1 (C := c "BadAddresses") (R "BadAddresses" (List.mem_of_getElem? (i := 33) rfl)) (by rfl)) (pa_ercons (pe_er1 (C := c "BadDepth") (R "BadDepth" (List.mem_of_getElem? (i := 34) rfl)) (by rfl)) (pa_ercons (pe_er1 (C := c "BadRegisters") (R "BadRegisters" (List.mem_of_getElem? (i := 35) rfl)) (by rfl)) (pa_ercons (pe_er1 (C := c "BadOrder") (R "BadOrder" (List.mem_of_getElem? (i := 36) rfl)) (by rfl)) (pa_ercons (pe_er1 (C := c "OtherRegisters") (R "OtherRegisters" (List.mem_of_getElem? (i := 37) rfl)) (by rfl)) pa_ernil)))))))))))
     apply C8.pss_cut
     · exact ps_set (i := 0) nd rfl (.inl rfl) (pe_op op_cat (pv 0) (pe_lst (pa_ercons (pe_er1 (C := c "BadBundle") (R "BadBundle" (List.mem_of_getElem? (i := 38) rfl)) (by rfl)) (pa_ercons (pe_er1 (C := c "BadNumber") (R "BadNumber" (List.mem_of_getElem? (i := 39) rfl)) (by rfl)) (pa_ercons (pe_er1 (C := c "BadOrders") (R "BadOrders" (List.mem_of_getElem? (i := 40) rfl)) (by rfl)) (pa_ercons (pe_er1 (C := c "BadLong") (R "BadLong" (List.mem_of_getElem? (i := 41) rfl)) (by rfl)) (pa_ercons (pe_er1 (C := c "BadLeap") (R "BadLeap" (List.mem_of_getElem? (i := 42) rfl)) (by rfl)) (pa_ercons (pe_er1 (C := c "BadLayout") (R "BadLayout" (List.mem_of_getElem? (i := 43) rfl)) (by rfl)) (pa_ercons (pe_er1 (C := c "BadImage") (R "BadImage" (List.mem_of_getElem? (i := 44) rfl)) (by rfl)) (pa_ercons (pe_er1 (C := c "BadAddress") (R "BadAddress" (List.mem_of_getElem? (i := 45) rfl)) (by rfl)) pa_ernil))))))))))
     apply pss_one
     exact ps_ret (pv 0)
    case right =>
      refine ⟨fun σ H' => ∃ L as, σ = [some (.ref L)] ∧ Same H H' ∧ H L = none ∧ H' L = some (.lst (as.map V.ref)) ∧ Ers H' as ((plnL.map c).take 10), fun as Hn sn xn => ⟨sl_of (by rw [List.length_map, xn.length]; exact (by decide : 10 ≤ 100000)), fun L hL => ⟨L, as, rfl, sn.trans (same_new hL), sn.free hL, upd_same, xn.same (same_new hL)⟩⟩, ?_⟩
      rintro σ0 H0 ⟨L0, as0, rfl, s0, n0, e0, x0⟩
      refine ⟨fun σ H' => ∃ L as, σ = [some (.ref L)] ∧ Same H H' ∧ H L = none ∧ H' L = some (.lst (as.map V.ref)) ∧ Ers H' as ((plnL.map c).take 19), ⟨_, rfl, fun bs Hn sn xn => ⟨sl_of (by rw [List.length_map, xn.length]; exact (by decide : 9 ≤ 100000)), fun p hp => ⟨_, _, _, _, rfl, rfl, (sn.trans (same_new hp)) _ _ e0, upd_same, sl_of (by rw [List.length_map, List.length_map, xn.length, x0.length]; exact (by decide : 10 + 9 ≤ 100000)), fun q hq => ⟨q, as0 ++ bs, rfl, ((s0.trans sn).trans (same_new hp)).trans (same_new hq), (s0.trans sn).free ((same_new hp).free hq), by rw [List.map_append]; exact upd_same, Ers.app (x0.same ((sn.trans (same_new hp)).trans (same_new hq))) (xn.same ((same_new hp).trans (same_new hq)))⟩⟩⟩⟩, ?_⟩
      rintro σ1 H1 ⟨L1, as1, rfl, s1, n1, e1, x1⟩
      refine ⟨fun σ H' => ∃ L as, σ = [some (.ref L)] ∧ Same H H' ∧ H L = none ∧ H' L = some (.lst (as.map V.ref)) ∧ Ers H' as ((plnL.map c).take 29), ⟨_, rfl, fun bs Hn sn xn => ⟨sl_of (by rw [List.length_map, xn.length]; exact (by decide : 10 ≤ 100000)), fun p hp => ⟨_, _, _, _, rfl, rfl, (sn.trans (same_new hp)) _ _ e1, upd_same, sl_of (by rw [List.length_map, List.length_map, xn.length, x1.length]; exact (by decide : 19 + 10 ≤ 100000)), fun q hq => ⟨q, as1 ++ bs, rfl, ((s1.trans sn).trans (same_new hp)).trans (same_new hq), (s1.trans sn).free ((same_new hp).free hq), by rw [List.map_append]; exact upd_same, Ers.app (x1.same ((sn.trans (same_new hp)).trans (same_new hq))) (xn.same ((same_new hp).trans (same_new hq)))⟩⟩⟩⟩, ?_⟩
      rintro σ2 H2 ⟨L2, as2, rfl, s2, n2, e2, x2⟩
      refine ⟨fun σ H' => ∃ L as, σ = [some (.ref L)] ∧ Same H H' ∧ H L = none ∧ H' L = some (.lst (as.map V.ref)) ∧ Ers H' as ((plnL.map c).take 38), ⟨_, rfl, fun bs Hn sn xn => ⟨sl_of (by rw [List.length_map, xn.length]; exact (by decide : 9 ≤ 100000)), fun p hp => ⟨_, _, _, _, rfl, rfl, (sn.trans (same_new hp)) _ _ e2, upd_same, sl_of (by rw [List.length_map, List.length_map, xn.length, x2.length]; exact (by decide : 29 + 9 ≤ 100000)), fun q hq => ⟨q, as2 ++ bs, rfl, ((s2.trans sn).trans (same_new hp)).trans (same_new hq), (s2.trans sn).free ((same_new hp).free hq), by rw [List.map_append]; exact upd_same, Ers.app (x2.same ((sn.trans (same_new hp)).trans (same_new hq))) (xn.same ((same_new hp).trans (same_new hq)))⟩⟩⟩⟩, ?_⟩
      rintro σ3 H3 ⟨L3, as3, rfl, s3, n3, e3, x3⟩
      refine ⟨fun σ H' => ∃ L as, σ = [some (.ref L)] ∧ Same H H' ∧ H L = none ∧ H' L = some (.lst (as.map V.ref)) ∧ Ers H' as ((plnL.map c).take 46), ⟨_, rfl, fun bs Hn sn xn => ⟨sl_of (by rw [List.length_map, xn.length]; exact (by decide : 8 ≤ 100000)), fun p hp => ⟨_, _, _, _, rfl, rfl, (sn.trans (same_new hp)) _ _ e3, upd_same, sl_of (by rw [List.length_map, List.length_map, xn.length, x3.length]; exact (by decide : 38 + 8 ≤ 100000)), fun q hq => ⟨q, as3 ++ bs, rfl, ((s3.trans sn).trans (same_new hp)).trans (same_new hq), (s3.trans sn).free ((same_new hp).free hq), by rw [List.map_append]; exact upd_same, Ers.app (x3.same ((sn.trans (same_new hp)).trans (same_new hq))) (xn.same ((same_new hp).trans (same_new hq)))⟩⟩⟩⟩, ?_⟩
      rintro σ4 H4 ⟨L4, as4, rfl, s4, n4, e4, x4⟩
      exact ⟨_, rfl, k H4 L4 as4 s4 n4 e4 x4⟩
end
/-! ## errors with attributes, made -/
/-- an own __init__ that keeps what it is given, by names -/
def spIn (C : Addr) (ns : List Str) : Sp := fun vs H Q _ => ∃ (e : Addr) (ls : List V), vs = .ref e :: ls ∧ ls.length = ns.length ∧ H e = some (exo e C none) ∧ ∀ dx, H dx = none → Q .non (upd (upd H dx (exd dx ((ns.zip ls).reverse))) e (exo e C (some dx)))
structure InX (P : Program) (w : World) (K : PySem.W.Frag) (mg : Str → Option Value) (base : Heap) (x : Str) (C : Addr) (ns : List Str) : Prop where
  g : mg x = some (.ref C)
  o : OexC K C
  r : ExcR K C
  na : ∀ f ∈ ns, PySem.W.findIn K (.ref C) f = some none
  i : ∃ (f : Addr) (fd : FuncData), PySem.W.findIn K (.ref C) "__init__" = some (some (.ref f)) ∧ PySem.W.typeIn K (.ref f) = some (.type "function") ∧ FnOk P w K mg base CX0 1 f fd ("self" :: ns) (spIn C ns) ∧ Binds K fd ("self" :: ns) []
/-- an argument list, its wish weakened -/
def taUp (ta : TA) : TA := fun σ H R => ∃ R' : List V → Hp → Prop, (∀ vs H1, R' vs H1 → R vs H1) ∧ ta σ H R'
theorem pa_up {X : Cx} {es : List Expr} {ta : TA} (h : PA X es ta) : PA X es (taUp ta) := ⟨fun pos pins s σ H Q I ⟨_, k, q⟩ => thn (h.run pos pins s σ H _ I q) fun _ _ ⟨xs, H2, I2, r2, q2⟩ => ⟨xs, H2, I2, r2, k _ _ q2⟩⟩
/-- such an error as a value -/
def tEx (C : Addr) (ns : List Str) (ta : TA) : TE := fun σ H Q => ta σ H fun vs H1 => vs.length = ns.length ∧ vs.length ≤ 1000 ∧ ∀ a dx H2, H1 a = none → H1 dx = none → Same H1 H2 → H2 a = some (exo a C (some dx)) → H2 dx = some (exd dx ((ns.zip vs).reverse)) → Q (.ref a) H2
theorem pe_mkN {X : Cx} {e : Expr} {es : List Expr} {ta : TA} {p pos : Pos} {x : Str} {C : Addr} {ns : List Str} (B : InX X.prog X.w X.K X.mg X.base x C ns) (hr : Room 2 X.A) (hx : Passes CX0 X (fun _ _ _ => False)) (hg : Gl X x) (ha : PA X (e :: es) ta)
    (hdb : (x == ("__debug__" : Str)) = false := by decide) (he : starEach (e :: es) X.env = (false, eval e X.env) :: starEach es X.env := by rfl) (hpl : (backTo pos (starEach es X.env)).any (·.1) = false := by rfl) :
    PE X (.Call (.Name x p) (e :: es) [] pos) (tEx C ns ta) := by
  obtain ⟨f, fd, iC, tI, F, b⟩ := B.i
  refine pe_weak (pe_mkS B.o iC tI F hr b hx hg B.g (pa_up ha) hdb he hpl) fun σ H Q h => ?_
  have key : ∀ (vs : List V) (H1 : Hp), (vs.length = ns.length ∧ vs.length ≤ 1000 ∧ ∀ a dx H2, H1 a = none → H1 dx = none → Same H1 H2 → H2 a = some (exo a C (some dx)) → H2 dx = some (exd dx ((ns.zip vs).reverse)) → Q (.ref a) H2) →
      (vs.length ≤ 1000 ∧ ∀ a, H1 a = none → spIn C ns (.ref a :: vs) (upd H1 a (exo a C none)) (fun v H2 => v = .non ∧ Q (.ref a) H2) (fun _ _ _ => False)) := fun vs H1 ⟨hl, hz, k⟩ => by
    refine ⟨hz, fun a na => ⟨a, vs, rfl, hl, upd_same, fun dx nx => ⟨rfl, ?_⟩⟩⟩
    have ne : dx ≠ a := fun z => by rw [z, upd_same] at nx; cases nx
    have n1 : H1 dx = none := by rw [upd_ne ne] at nx; exact nx
    refine k a dx _ na n1 (fun b o q => ?_) upd_same (by rw [upd_ne ne, upd_same])
    have m1 : b ≠ dx := ne_of_none q n1
    have m2 : b ≠ a := ne_of_none q na
    rw [upd_ne m2, upd_ne m1, upd_ne m2]
    exact q
  exact ⟨_, key, h⟩
/-! ## the own __init__s -/
section
variable {P : Program} {w : World} {K : PySem.W.Frag} {mg : Str → Option Value} {base : Heap}
theorem sc_i_BadText : ScopeS ["self", "line", "column", "wanted"] (defScope s_BadText___init__) := ⟨rfl, rfl, rfl, by decide +kernel, by decide +kernel, by decide +kernel, rfl, rfl⟩
theorem ok_i_BadText {f cc cda C : Addr} {fd : FuncData} (F : SupF P K mg C f cc cda "BadText.__init__" (defArgs s_BadText___init__) (defBody s_BadText___init__) (defScope s_BadText___init__) fd) (T : OexC K C) (na : ∀ f ∈ (["line", "column", "wanted"] : List Str), PySem.W.findIn K (.ref C) f = some none) :
    FnOk P w K mg base CX0 1 f fd ["self", "line", "column", "wanted"] (spIn C ["line", "column", "wanted"]) := by
  refine fn_super F T sc_i_BadText ⟨fun _ _ _ _ => rfl, fun _ _ _ _ => rfl, ⟨_, fun _ _ _ _ => rfl⟩⟩ rfl rfl (fun vs H Q E h => ?_) (fun vs H Q E h => ?_) (fun A outer s H vs Q E h => ?_)
  · obtain ⟨e, ls, rfl, hl, _⟩ := h
    exact congrArg Nat.succ hl
  · obtain ⟨e, ls, rfl, hl, he, _⟩ := h
    exact ⟨e, _, rfl, he⟩
  · obtain ⟨e, ls, rfl, hl, he, k⟩ := h
    obtain ⟨l, c, z, rfl⟩ : ∃ l c z, ls = [l, c, z] := match ls, hl with | [l, c, z], _ => ⟨l, c, z, rfl⟩
    refine ⟨_, PSs.nox (pss_cons (ps_ost (pv 0) (pv 1)) (pss_cons (ps_ost (pv 0) (pv 2)) (pss_one (ps_ost (pv 0) (pv 3))))), ?_⟩
    refine ⟨_, rfl, _, rfl, e, C, rfl, T, na "line" (List.mem_of_getElem? (i := 0) rfl), .inl ⟨he, fun dx hd hne => ?_⟩⟩
    refine ⟨_, rfl, _, rfl, e, C, rfl, T, na "column" (List.mem_of_getElem? (i := 1) rfl), .inr ⟨dx, [("line", l)], upd_same, by rw [upd_ne hne, upd_same], (show 1 ≤ 900 by decide), ?_⟩⟩
    refine ⟨_, rfl, _, rfl, e, C, rfl, T, na "wanted" (List.mem_of_getElem? (i := 2) rfl), .inr ⟨dx, [("column", c), ("line", l)], by rw [upd_ne hne.symm, upd_same], upd_same, (show 2 ≤ 900 by decide), ?_⟩⟩
    have qq := k dx hd
    have e0 : ∀ (o1 o2 o3 : HO), upd (upd (upd (upd H dx o1) e (exo e C (some dx))) dx o2) dx o3 = upd (upd H dx o3) e (exo e C (some dx)) := fun o1 o2 o3 => by
      funext b
      by_cases h1 : b = dx
      · subst h1
        rw [upd_same, upd_ne hne, upd_same]
      · rw [upd_ne h1, upd_ne h1]
        by_cases h2 : b = e
        · subst h2
          rw [upd_same, upd_same]
        · rw [upd_ne h2, upd_ne h1, upd_ne h2, upd_ne h1]
    show Q .non _
    rw [e0]
    exact qq
theorem sc_i_BadCount : ScopeS ["self", "count"] (defScope s_BadCount___init__) := ⟨rfl, rfl, rfl, by decide +kernel, by decide +kernel, by decide +kernel, rfl, rfl⟩
theorem ok_i_BadCount {f cc cda C : Addr} {fd : FuncData} (F : SupF P K mg C f cc cda "BadCount.__init__" (defArgs s_BadCount___init__) (defBody s_BadCount___init__) (defScope s_BadCount___init__) fd) (T : OexC K C) (na : ∀ f ∈ (["count"] : List Str), PySem.W.findIn K (.ref C) f = some none) :
    FnOk P w K mg base CX0 1 f fd ["self", "count"] (spIn C ["count"]) := by
  refine fn_super F T sc_i_BadCount ⟨fun _ _ _ _ => rfl, fun _ _ _ _ => rfl, ⟨_, fun _ _ _ _ => rfl⟩⟩ rfl rfl (fun vs H Q E h => ?_) (fun vs H Q E h => ?_) (fun A outer s H vs Q E h => ?_)
  · obtain ⟨e, ls, rfl, hl, _⟩ := h
    exact congrArg Nat.succ hl
  · obtain ⟨e, ls, rfl, hl, he, _⟩ := h
    exact ⟨e, _, rfl, he⟩
  · obtain ⟨e, ls, rfl, hl, he, k⟩ := h
    obtain ⟨l, rfl⟩ : ∃ l, ls = [l] := match ls, hl with | [l], _ => ⟨l, rfl⟩
    refine ⟨_, PSs.nox (pss_one (ps_ost (pv 0) (pv 1))), ?_⟩
    exact ⟨_, rfl, _, rfl, e, C, rfl, T, na "count" (List.mem_of_getElem? (i := 0) rfl), .inl ⟨he, fun dx hd _ => k dx hd⟩⟩
theorem sc_i_BadUnits : ScopeS ["self", "at"] (defScope s_BadUnits___init__) := ⟨rfl, rfl, rfl, by decide +kernel, by decide +kernel, by decide +kernel, rfl, rfl⟩
theorem ok_i_BadUnits {f cc cda C : Addr} {fd : FuncData} (F : SupF P K mg C f cc cda "BadUnits.__init__" (defArgs s_BadUnits___init__) (defBody s_BadUnits___init__) (defScope s_BadUnits___init__) fd) (T : OexC K C) (na : ∀ f ∈ (["at"] : List Str), PySem.W.findIn K (.ref C) f = some none) :
    FnOk P w K mg base CX0 1 f fd ["self", "at"] (spIn C ["at"]) := by
  refine fn_super F T sc_i_BadUnits ⟨fun _ _ _ _ => rfl, fun _ _ _ _ => rfl, ⟨_, fun _ _ _ _ => rfl⟩⟩ rfl rfl (fun vs H Q E h => ?_) (fun vs H Q E h => ?_) (fun A outer s H vs Q E h => ?_)
  · obtain ⟨e, ls, rfl, hl, _⟩ := h
    exact congrArg Nat.succ hl
  · obtain ⟨e, ls, rfl, hl, he, _⟩ := h
    exact ⟨e, _, rfl, he⟩
  · obtain ⟨e, ls, rfl, hl, he, k⟩ := h
    obtain ⟨l, rfl⟩ : ∃ l, ls = [l] := match ls, hl with | [l], _ => ⟨l, rfl⟩
    refine ⟨_, PSs.nox (pss_one (ps_ost (pv 0) (pv 1))), ?_⟩
    exact ⟨_, rfl, _, rfl, e, C, rfl, T, na "at" (List.mem_of_getElem? (i := 0) rfl), .inl ⟨he, fun dx hd _ => k dx hd⟩⟩
theorem sc_i_NoUnit : ScopeS ["self", "name"] (defScope s_NoUnit___init__) := ⟨rfl, rfl, rfl, by decide +kernel, by decide +kernel, by decide +kernel, rfl, rfl⟩
theorem ok_i_NoUnit {f cc cda C : Addr} {fd : FuncData} (F : SupF P K mg C f cc cda "NoUnit.__init__" (defArgs s_NoUnit___init__) (defBody s_NoUnit___init__) (defScope s_NoUnit___init__) fd) (T : OexC K C) (na : ∀ f ∈ (["name"] : List Str), PySem.W.findIn K (.ref C) f = some none) :
    FnOk P w K mg base CX0 1 f fd ["self", "name"] (spIn C ["name"]) := by
  refine fn_super F T sc_i_NoUnit ⟨fun _ _ _ _ => rfl, fun _ _ _ _ => rfl, ⟨_, fun _ _ _ _ => rfl⟩⟩ rfl rfl (fun vs H Q E h => ?_) (fun vs H Q E h => ?_) (fun A outer s H vs Q E h => ?_)
  · obtain ⟨e, ls, rfl, hl, _⟩ := h
    exact congrArg Nat.succ hl
  · obtain ⟨e, ls, rfl, hl, he, _⟩ := h
    exact ⟨e, _, rfl, he⟩
  · obtain ⟨e, ls, rfl, hl, he, k⟩ := h
    obtain ⟨l, rfl⟩ : ∃ l, ls = [l] := match ls, hl with | [l], _ => ⟨l, rfl⟩
    refine ⟨_, PSs.nox (pss_one (ps_ost (pv 0) (pv 1))), ?_⟩
    exact ⟨_, rfl, _, rfl, e, C, rfl, T, na "name" (List.mem_of_getElem? (i := 0) rfl), .inl ⟨he, fun dx hd _ => k dx hd⟩⟩
theorem sc_i_UsesRing : ScopeS ["self", "ring"] (defScope s_UsesRing___init__) := ⟨rfl, rfl, rfl, by decide +kernel, by decide +kernel, by decide +kernel, rfl, rfl⟩
theorem ok_i_UsesRing {f cc cda C : Addr} {fd : FuncData} (F : SupF P K mg C f cc cda "UsesRing.__init__" (defArgs s_UsesRing___init__) (defBody s_UsesRing___init__) (defScope s_UsesRing___init__) fd) (T : OexC K C) (na : ∀ f ∈ (["ring"] : List Str), PySem.W.findIn K (.ref C) f = some none) :
    FnOk P w K mg base CX0 1 f fd ["self", "ring"] (spIn C ["ring"]) := by
  refine fn_super F T sc_i_UsesRing ⟨fun _ _ _ _ => rfl, fun _ _ _ _ => rfl, ⟨_, fun _ _ _ _ => rfl⟩⟩ rfl rfl (fun vs H Q E h => ?_) (fun vs H Q E h => ?_) (fun A outer s H vs Q E h => ?_)
  · obtain ⟨e, ls, rfl, hl, _⟩ := h
    exact congrArg Nat.succ hl
  · obtain ⟨e, ls, rfl, hl, he, _⟩ := h
    exact ⟨e, _, rfl, he⟩
  · obtain ⟨e, ls, rfl, hl, he, k⟩ := h
    obtain ⟨l, rfl⟩ : ∃ l, ls = [l] := match ls, hl with | [l], _ => ⟨l, rfl⟩
    refine ⟨_, PSs.nox (pss_one (ps_ost (pv 0) (pv 1))), ?_⟩
    exact ⟨_, rfl, _, rfl, e, C, rfl, T, na "ring" (List.mem_of_getElem? (i := 0) rfl), .inl ⟨he, fun dx hd _ => k dx hd⟩⟩
theorem sc_i_NoFunction : ScopeS ["self", "name"] (defScope s_NoFunction___init__) := ⟨rfl, rfl, rfl, by decide +kernel, by decide +kernel, by decide +kernel, rfl, rfl⟩
theorem ok_i_NoFunction {f cc cda C : Addr} {fd : FuncData} (F : SupF P K mg C f cc cda "NoFunction.__init__" (defArgs s_NoFunction___init__) (defBody s_NoFunction___init__) (defScope s_NoFunction___init__) fd) (T : OexC K C) (na : ∀ f ∈ (["name"] : List Str), PySem.W.findIn K (.ref C) f = some none) :
    FnOk P w K mg base CX0 1 f fd ["self", "name"] (spIn C ["name"]) := by
  refine fn_super F T sc_i_NoFunction ⟨fun _ _ _ _ => rfl, fun _ _ _ _ => rfl, ⟨_, fun _ _ _ _ => rfl⟩⟩ rfl rfl (fun vs H Q E h => ?_) (fun vs H Q E h => ?_) (fun A outer s H vs Q E h => ?_)
  · obtain ⟨e, ls, rfl, hl, _⟩ := h
    exact congrArg Nat.succ hl
  · obtain ⟨e, ls, rfl, hl, he, _⟩ := h
    exact ⟨e, _, rfl, he⟩
  · obtain ⟨e, ls, rfl, hl, he, k⟩ := h
    obtain ⟨l, rfl⟩ : ∃ l, ls = [l] := match ls, hl with | [l], _ => ⟨l, rfl⟩
    refine ⟨_, PSs.nox (pss_one (ps_ost (pv 0) (pv 1))), ?_⟩
    exact ⟨_, rfl, _, rfl, e, C, rfl, T, na "name" (List.mem_of_getElem? (i := 0) rfl), .inl ⟨he, fun dx hd _ => k dx hd⟩⟩
theorem sc_i_Faulty : ScopeS ["self", "fault", "unit"] (defScope s_Faulty___init__) := ⟨rfl, rfl, rfl, by decide +kernel, by decide +kernel, by decide +kernel, rfl, rfl⟩
theorem ok_i_Faulty {f cc cda C : Addr} {fd : FuncData} (F : SupF P K mg C f cc cda "Faulty.__init__" (defArgs s_Faulty___init__) (defBody s_Faulty___init__) (defScope s_Faulty___init__) fd) (T : OexC K C) (na : ∀ f ∈ (["fault", "unit"] : List Str), PySem.W.findIn K (.ref C) f = some none) :
    FnOk P w K mg base CX0 1 f fd ["self", "fault", "unit"] (spIn C ["fault", "unit"]) := by
  refine fn_super F T sc_i_Faulty ⟨fun _ _ _ _ => rfl, fun _ _ _ _ => rfl, ⟨_, fun _ _ _ _ => rfl⟩⟩ rfl rfl (fun vs H Q E h => ?_) (fun vs H Q E h => ?_) (fun A outer s H vs Q E h => ?_)
  · obtain ⟨e, ls, rfl, hl, _⟩ := h
    exact congrArg Nat.succ hl
  · obtain ⟨e, ls, rfl, hl, he, _⟩ := h
    exact ⟨e, _, rfl, he⟩
  · obtain ⟨e, ls, rfl, hl, he, k⟩ := h
    obtain ⟨l, c, rfl⟩ : ∃ l c, ls = [l, c] := match ls, hl with | [l, c], _ => ⟨l, c, rfl⟩
    refine ⟨_, PSs.nox (pss_cons (ps_ost (pv 0) (pv 1)) (pss_one (ps_ost (pv 0) (pv 2)))), ?_⟩
    refine ⟨_, rfl, _, rfl, e, C, rfl, T, na "fault" (List.mem_of_getElem? (i := 0) rfl), .inl ⟨he, fun dx hd hne => ?_⟩⟩
    refine ⟨_, rfl, _, rfl, e, C, rfl, T, na "unit" (List.mem_of_getElem? (i := 1) rfl), .inr ⟨dx, [("fault", l)], upd_same, by rw [upd_ne hne, upd_same], (show 1 ≤ 900 by decide), ?_⟩⟩
    have qq := k dx hd
    have e0 : ∀ (o1 o2 : HO), upd (upd (upd H dx o1) e (exo e C (some dx))) dx o2 = upd (upd H dx o2) e (exo e C (some dx)) := fun o1 o2 => by
      funext b
      by_cases h1 : b = dx
      · subst h1
        rw [upd_same, upd_ne hne, upd_same]
      · rw [upd_ne h1]
        by_cases h2 : b = e
        · subst h2
          rw [upd_same, upd_same]
        · rw [upd_ne h2, upd_ne h1, upd_ne h2, upd_ne h1]
    show Q .non _
    rw [e0]
    exact qq
theorem sc_i_KindClash : ScopeS ["self", "clash", "unit"] (defScope s_KindClash___init__) := ⟨rfl, rfl, rfl, by decide +kernel, by decide +kernel, by decide +kernel, rfl, rfl⟩
theorem ok_i_KindClash {f cc cda C : Addr} {fd : FuncData} (F : SupF P K mg C f cc cda "KindClash.__init__" (defArgs s_KindClash___init__) (defBody s_KindClash___init__) (defScope s_KindClash___init__) fd) (T : OexC K C) (na : ∀ f ∈ (["clash", "unit"] : List Str), PySem.W.findIn K (.ref C) f = some none) :
    FnOk P w K mg base CX0 1 f fd ["self", "clash", "unit"] (spIn C ["clash", "unit"]) := by
  refine fn_super F T sc_i_KindClash ⟨fun _ _ _ _ => rfl, fun _ _ _ _ => rfl, ⟨_, fun _ _ _ _ => rfl⟩⟩ rfl rfl (fun vs H Q E h => ?_) (fun vs H Q E h => ?_) (fun A outer s H vs Q E h => ?_)
  · obtain ⟨e, ls, rfl, hl, _⟩ := h
    exact congrArg Nat.succ hl
  · obtain ⟨e, ls, rfl, hl, he, _⟩ := h
    exact ⟨e, _, rfl, he⟩
  · obtain ⟨e, ls, rfl, hl, he, k⟩ := h
    obtain ⟨l, c, rfl⟩ : ∃ l c, ls = [l, c] := match ls, hl with | [l, c], _ => ⟨l, c, rfl⟩
    refine ⟨_, PSs.nox (pss_cons (ps_ost (pv 0) (pv 1)) (pss_one (ps_ost (pv 0) (pv 2)))), ?_⟩
    refine ⟨_, rfl, _, rfl, e, C, rfl, T, na "clash" (List.mem_of_getElem? (i := 0) rfl), .inl ⟨he, fun dx hd hne => ?_⟩⟩
    refine ⟨_, rfl, _, rfl, e, C, rfl, T, na "unit" (List.mem_of_getElem? (i := 1) rfl), .inr ⟨dx, [("clash", l)], upd_same, by rw [upd_ne hne, upd_same], (show 1 ≤ 900 by decide), ?_⟩⟩
    have qq := k dx hd
    have e0 : ∀ (o1 o2 : HO), upd (upd (upd H dx o1) e (exo e C (some dx))) dx o2 = upd (upd H dx o2) e (exo e C (some dx)) := fun o1 o2 => by
      funext b
      by_cases h1 : b = dx
      · subst h1
        rw [upd_same, upd_ne hne, upd_same]
      · rw [upd_ne h1]
        by_cases h2 : b = e
        · subst h2
          rw [upd_same, upd_same]
        · rw [upd_ne h2, upd_ne h1, upd_ne h2, upd_ne h1]
    show Q .non _
    rw [e0]
    exact qq
theorem sc_i_TwoNames : ScopeS ["self", "name"] (defScope s_TwoNames___init__) := ⟨rfl, rfl, rfl, by decide +kernel, by decide +kernel, by decide +kernel, rfl, rfl⟩
theorem ok_i_TwoNames {f cc cda C : Addr} {fd : FuncData} (F : SupF P K mg C f cc cda "TwoNames.__init__" (defArgs s_TwoNames___init__) (defBody s_TwoNames___init__) (defScope s_TwoNames___init__) fd) (T : OexC K C) (na : ∀ f ∈ (["name"] : List Str), PySem.W.findIn K (.ref C) f = some none) :
    FnOk P w K mg base CX0 1 f fd ["self", "name"] (spIn C ["name"]) := by
  refine fn_super F T sc_i_TwoNames ⟨fun _ _ _ _ => rfl, fun _ _ _ _ => rfl, ⟨_, fun _ _ _ _ => rfl⟩⟩ rfl rfl (fun vs H Q E h => ?_) (fun vs H Q E h => ?_) (fun A outer s H vs Q E h => ?_)
  · obtain ⟨e, ls, rfl, hl, _⟩ := h
    exact congrArg Nat.succ hl
  · obtain ⟨e, ls, rfl, hl, he, _⟩ := h
    exact ⟨e, _, rfl, he⟩
  · obtain ⟨e, ls, rfl, hl, he, k⟩ := h
    obtain ⟨l, rfl⟩ : ∃ l, ls = [l] := match ls, hl with | [l], _ => ⟨l, rfl⟩
    refine ⟨_, PSs.nox (pss_one (ps_ost (pv 0) (pv 1))), ?_⟩
    exact ⟨_, rfl, _, rfl, e, C, rfl, T, na "name" (List.mem_of_getElem? (i := 0) rfl), .inl ⟨he, fun dx hd _ => k dx hd⟩⟩
theorem sc_i_NotNow : ScopeS ["self", "word"] (defScope s_NotNow___init__) := ⟨rfl, rfl, rfl, by decide +kernel, by decide +kernel, by decide +kernel, rfl, rfl⟩
theorem ok_i_NotNow {f cc cda C : Addr} {fd : FuncData} (F : SupF P K mg C f cc cda "NotNow.__init__" (defArgs s_NotNow___init__) (defBody s_NotNow___init__) (defScope s_NotNow___init__) fd) (T : OexC K C) (na : ∀ f ∈ (["word"] : List Str), PySem.W.findIn K (.ref C) f = some none) :
    FnOk P w K mg base CX0 1 f fd ["self", "word"] (spIn C ["word"]) := by
  refine fn_super F T sc_i_NotNow ⟨fun _ _ _ _ => rfl, fun _ _ _ _ => rfl, ⟨_, fun _ _ _ _ => rfl⟩⟩ rfl rfl (fun vs H Q E h => ?_) (fun vs H Q E h => ?_) (fun A outer s H vs Q E h => ?_)
  · obtain ⟨e, ls, rfl, hl, _⟩ := h
    exact congrArg Nat.succ hl
  · obtain ⟨e, ls, rfl, hl, he, _⟩ := h
    exact ⟨e, _, rfl, he⟩
  · obtain ⟨e, ls, rfl, hl, he, k⟩ := h
    obtain ⟨l, rfl⟩ : ∃ l, ls = [l] := match ls, hl with | [l], _ => ⟨l, rfl⟩
    refine ⟨_, PSs.nox (pss_one (ps_ost (pv 0) (pv 1))), ?_⟩
    exact ⟨_, rfl, _, rfl, e, C, rfl, T, na "word" (List.mem_of_getElem? (i := 0) rfl), .inl ⟨he, fun dx hd _ => k dx hd⟩⟩
theorem sc_i_BadFunctions : ScopeS ["self", "name"] (defScope s_BadFunctions___init__) := ⟨rfl, rfl, rfl, by decide +kernel, by decide +kernel, by decide +kernel, rfl, rfl⟩
theorem ok_i_BadFunctions {f cc cda C : Addr} {fd : FuncData} (F : SupF P K mg C f cc cda "BadFunctions.__init__" (defArgs s_BadFunctions___init__) (defBody s_BadFunctions___init__) (defScope s_BadFunctions___init__) fd) (T : OexC K C) (na : ∀ f ∈ (["name"] : List Str), PySem.W.findIn K (.ref C) f = some none) :
    FnOk P w K mg base CX0 1 f fd ["self", "name"] (spIn C ["name"]) := by
  refine fn_super F T sc_i_BadFunctions ⟨fun _ _ _ _ => rfl, fun _ _ _ _ => rfl, ⟨_, fun _ _ _ _ => rfl⟩⟩ rfl rfl (fun vs H Q E h => ?_) (fun vs H Q E h => ?_) (fun A outer s H vs Q E h => ?_)
  · obtain ⟨e, ls, rfl, hl, _⟩ := h
    exact congrArg Nat.succ hl
  · obtain ⟨e, ls, rfl, hl, he, _⟩ := h
    exact ⟨e, _, rfl, he⟩
  · obtain ⟨e, ls, rfl, hl, he, k⟩ := h
    obtain ⟨l, rfl⟩ : ∃ l, ls = [l] := match ls, hl with | [l], _ => ⟨l, rfl⟩
    refine ⟨_, PSs.nox (pss_one (ps_ost (pv 0) (pv 1))), ?_⟩
    exact ⟨_, rfl, _, rfl, e, C, rfl, T, na "name" (List.mem_of_getElem? (i := 0) rfl), .inl ⟨he, fun dx hd _ => k dx hd⟩⟩
theorem sc_i_Unknown : ScopeS ["self", "name"] (defScope s_Unknown___init__) := ⟨rfl, rfl, rfl, by decide +kernel, by decide +kernel, by decide +kernel, rfl, rfl⟩
theorem ok_i_Unknown {f cc cda C : Addr} {fd : FuncData} (F : SupF P K mg C f cc cda "Unknown.__init__" (defArgs s_Unknown___init__) (defBody s_Unknown___init__) (defScope s_Unknown___init__) fd) (T : OexC K C) (na : ∀ f ∈ (["name"] : List Str), PySem.W.findIn K (.ref C) f = some none) :
    FnOk P w K mg base CX0 1 f fd ["self", "name"] (spIn C ["name"]) := by
  refine fn_super F T sc_i_Unknown ⟨fun _ _ _ _ => rfl, fun _ _ _ _ => rfl, ⟨_, fun _ _ _ _ => rfl⟩⟩ rfl rfl (fun vs H Q E h => ?_) (fun vs H Q E h => ?_) (fun A outer s H vs Q E h => ?_)
  · obtain ⟨e, ls, rfl, hl, _⟩ := h
    exact congrArg Nat.succ hl
  · obtain ⟨e, ls, rfl, hl, he, _⟩ := h
    exact ⟨e, _, rfl, he⟩
  · obtain ⟨e, ls, rfl, hl, he, k⟩ := h
    obtain ⟨l, rfl⟩ : ∃ l, ls = [l] := match ls, hl with | [l], _ => ⟨l, rfl⟩
    refine ⟨_, PSs.nox (pss_one (ps_ost (pv 0) (pv 1))), ?_⟩
    exact ⟨_, rfl, _, rfl, e, C, rfl, T, na "name" (List.mem_of_getElem? (i := 0) rfl), .inl ⟨he, fun dx hd _ => k dx hd⟩⟩
theorem sc_i_BadCodes : ScopeS ["self", "at"] (defScope s_BadCodes___init__) := ⟨rfl, rfl, rfl, by decide +kernel, by decide +kernel, by decide +kernel, rfl, rfl⟩
theorem ok_i_BadCodes {f cc cda C : Addr} {fd : FuncData} (F : SupF P K mg C f cc cda "BadCodes.__init__" (defArgs s_BadCodes___init__) (defBody s_BadCodes___init__) (defScope s_BadCodes___init__) fd) (T : OexC K C) (na : ∀ f ∈ (["at"] : List Str), PySem.W.findIn K (.ref C) f = some none) :
    FnOk P w K mg base CX0 1 f fd ["self", "at"] (spIn C ["at"]) := by
  refine fn_super F T sc_i_BadCodes ⟨fun _ _ _ _ => rfl, fun _ _ _ _ => rfl, ⟨_, fun _ _ _ _ => rfl⟩⟩ rfl rfl (fun vs H Q E h => ?_) (fun vs H Q E h => ?_) (fun A outer s H vs Q E h => ?_)
  · obtain ⟨e, ls, rfl, hl, _⟩ := h
    exact congrArg Nat.succ hl
  · obtain ⟨e, ls, rfl, hl, he, _⟩ := h
    exact ⟨e, _, rfl, he⟩
  · obtain ⟨e, ls, rfl, hl, he, k⟩ := h
    obtain ⟨l, rfl⟩ : ∃ l, ls = [l] := match ls, hl with | [l], _ => ⟨l, rfl⟩
    refine ⟨_, PSs.nox (pss_one (ps_ost (pv 0) (pv 1))), ?_⟩
    exact ⟨_, rfl, _, rfl, e, C, rfl, T, na "at" (List.mem_of_getElem? (i := 0) rfl), .inl ⟨he, fun dx hd _ => k dx hd⟩⟩
theorem sc_i_Refused : ScopeS ["self", "why"] (defScope s_Refused___init__) := ⟨rfl, rfl, rfl, by decide +kernel, by decide +kernel, by decide +kernel, rfl, rfl⟩
theorem ok_i_Refused {f cc cda C : Addr} {fd : FuncData} (F : SupF P K mg C f cc cda "Refused.__init__" (defArgs s_Refused___init__) (defBody s_Refused___init__) (defScope s_Refused___init__) fd) (T : OexC K C) (na : ∀ f ∈ (["why"] : List Str), PySem.W.findIn K (.ref C) f = some none) :
    FnOk P w K mg base CX0 1 f fd ["self", "why"] (spIn C ["why"]) := by
  refine fn_super F T sc_i_Refused ⟨fun _ _ _ _ => rfl, fun _ _ _ _ => rfl, ⟨_, fun _ _ _ _ => rfl⟩⟩ rfl rfl (fun vs H Q E h => ?_) (fun vs H Q E h => ?_) (fun A outer s H vs Q E h => ?_)
  · obtain ⟨e, ls, rfl, hl, _⟩ := h
    exact congrArg Nat.succ hl
  · obtain ⟨e, ls, rfl, hl, he, _⟩ := h
    exact ⟨e, _, rfl, he⟩
  · obtain ⟨e, ls, rfl, hl, he, k⟩ := h
    obtain ⟨l, rfl⟩ : ∃ l, ls = [l] := match ls, hl with | [l], _ => ⟨l, rfl⟩
    refine ⟨_, PSs.nox (pss_one (ps_ost (pv 0) (pv 1))), ?_⟩
    exact ⟨_, rfl, _, rfl, e, C, rfl, T, na "why" (List.mem_of_getElem? (i := 0) rfl), .inl ⟨he, fun dx hd _ => k dx hd⟩⟩
theorem sc_i_BadRows : ScopeS ["self", "at"] (defScope s_BadRows___init__) := ⟨rfl, rfl, rfl, by decide +kernel, by decide +kernel, by decide +kernel, rfl, rfl⟩
theorem ok_i_BadRows {f cc cda C : Addr} {fd : FuncData} (F : SupF P K mg C f cc cda "BadRows.__init__" (defArgs s_BadRows___init__) (defBody s_BadRows___init__) (defScope s_BadRows___init__) fd) (T : OexC K C) (na : ∀ f ∈ (["at"] : List Str), PySem.W.findIn K (.ref C) f = some none) :
    FnOk P w K mg base CX0 1 f fd ["self", "at"] (spIn C ["at"]) := by
  refine fn_super F T sc_i_BadRows ⟨fun _ _ _ _ => rfl, fun _ _ _ _ => rfl, ⟨_, fun _ _ _ _ => rfl⟩⟩ rfl rfl (fun vs H Q E h => ?_) (fun vs H Q E h => ?_) (fun A outer s H vs Q E h => ?_)
  · obtain ⟨e, ls, rfl, hl, _⟩ := h
    exact congrArg Nat.succ hl
  · obtain ⟨e, ls, rfl, hl, he, _⟩ := h
    exact ⟨e, _, rfl, he⟩
  · obtain ⟨e, ls, rfl, hl, he, k⟩ := h
    obtain ⟨l, rfl⟩ : ∃ l, ls = [l] := match ls, hl with | [l], _ => ⟨l, rfl⟩
    refine ⟨_, PSs.nox (pss_one (ps_ost (pv 0) (pv 1))), ?_⟩
    exact ⟨_, rfl, _, rfl, e, C, rfl, T, na "at" (List.mem_of_getElem? (i := 0) rfl), .inl ⟨he, fun dx hd _ => k dx hd⟩⟩
theorem sc_i_BadSpans : ScopeS ["self", "at"] (defScope s_BadSpans___init__) := ⟨rfl, rfl, rfl, by decide +kernel, by decide +kernel, by decide +kernel, rfl, rfl⟩
theorem ok_i_BadSpans {f cc cda C : Addr} {fd : FuncData} (F : SupF P K mg C f cc cda "BadSpans.__init__" (defArgs s_BadSpans___init__) (defBody s_BadSpans___init__) (defScope s_BadSpans___init__) fd) (T : OexC K C) (na : ∀ f ∈ (["at"] : List Str), PySem.W.findIn K (.ref C) f = some none) :
    FnOk P w K mg base CX0 1 f fd ["self", "at"] (spIn C ["at"]) := by
  refine fn_super F T sc_i_BadSpans ⟨fun _ _ _ _ => rfl, fun _ _ _ _ => rfl, ⟨_, fun _ _ _ _ => rfl⟩⟩ rfl rfl (fun vs H Q E h => ?_) (fun vs H Q E h => ?_) (fun A outer s H vs Q E h => ?_)
  · obtain ⟨e, ls, rfl, hl, _⟩ := h
    exact congrArg Nat.succ hl
  · obtain ⟨e, ls, rfl, hl, he, _⟩ := h
    exact ⟨e, _, rfl, he⟩
  · obtain ⟨e, ls, rfl, hl, he, k⟩ := h
    obtain ⟨l, rfl⟩ : ∃ l, ls = [l] := match ls, hl with | [l], _ => ⟨l, rfl⟩
    refine ⟨_, PSs.nox (pss_one (ps_ost (pv 0) (pv 1))), ?_⟩
    exact ⟨_, rfl, _, rfl, e, C, rfl, T, na "at" (List.mem_of_getElem? (i := 0) rfl), .inl ⟨he, fun dx hd _ => k dx hd⟩⟩
theorem sc_i_BadPairs : ScopeS ["self", "at"] (defScope s_BadPairs___init__) := ⟨rfl, rfl, rfl, by decide +kernel, by decide +kernel, by decide +kernel, rfl, rfl⟩
theorem ok_i_BadPairs {f cc cda C : Addr} {fd : FuncData} (F : SupF P K mg C f cc cda "BadPairs.__init__" (defArgs s_BadPairs___init__) (defBody s_BadPairs___init__) (defScope s_BadPairs___init__) fd) (T : OexC K C) (na : ∀ f ∈ (["at"] : List Str), PySem.W.findIn K (.ref C) f = some none) :
    FnOk P w K mg base CX0 1 f fd ["self", "at"] (spIn C ["at"]) := by
  refine fn_super F T sc_i_BadPairs ⟨fun _ _ _ _ => rfl, fun _ _ _ _ => rfl, ⟨_, fun _ _ _ _ => rfl⟩⟩ rfl rfl (fun vs H Q E h => ?_) (fun vs H Q E h => ?_) (fun A outer s H vs Q E h => ?_)
  · obtain ⟨e, ls, rfl, hl, _⟩ := h
    exact congrArg Nat.succ hl
  · obtain ⟨e, ls, rfl, hl, he, _⟩ := h
    exact ⟨e, _, rfl, he⟩
  · obtain ⟨e, ls, rfl, hl, he, k⟩ := h
    obtain ⟨l, rfl⟩ : ∃ l, ls = [l] := match ls, hl with | [l], _ => ⟨l, rfl⟩
    refine ⟨_, PSs.nox (pss_one (ps_ost (pv 0) (pv 1))), ?_⟩
    exact ⟨_, rfl, _, rfl, e, C, rfl, T, na "at" (List.mem_of_getElem? (i := 0) rfl), .inl ⟨he, fun dx hd _ => k dx hd⟩⟩
theorem sc_i_BadChanges : ScopeS ["self", "at"] (defScope s_BadChanges___init__) := ⟨rfl, rfl, rfl, by decide +kernel, by decide +kernel, by decide +kernel, rfl, rfl⟩
theorem ok_i_BadChanges {f cc cda C : Addr} {fd : FuncData} (F : SupF P K mg C f cc cda "BadChanges.__init__" (defArgs s_BadChanges___init__) (defBody s_BadChanges___init__) (defScope s_BadChanges___init__) fd) (T : OexC K C) (na : ∀ f ∈ (["at"] : List Str), PySem.W.findIn K (.ref C) f = some none) :
    FnOk P w K mg base CX0 1 f fd ["self", "at"] (spIn C ["at"]) := by
  refine fn_super F T sc_i_BadChanges ⟨fun _ _ _ _ => rfl, fun _ _ _ _ => rfl, ⟨_, fun _ _ _ _ => rfl⟩⟩ rfl rfl (fun vs H Q E h => ?_) (fun vs H Q E h => ?_) (fun A outer s H vs Q E h => ?_)
  · obtain ⟨e, ls, rfl, hl, _⟩ := h
    exact congrArg Nat.succ hl
  · obtain ⟨e, ls, rfl, hl, he, _⟩ := h
    exact ⟨e, _, rfl, he⟩
  · obtain ⟨e, ls, rfl, hl, he, k⟩ := h
    obtain ⟨l, rfl⟩ : ∃ l, ls = [l] := match ls, hl with | [l], _ => ⟨l, rfl⟩
    refine ⟨_, PSs.nox (pss_one (ps_ost (pv 0) (pv 1))), ?_⟩
    exact ⟨_, rfl, _, rfl, e, C, rfl, T, na "at" (List.mem_of_getElem? (i := 0) rfl), .inl ⟨he, fun dx hd _ => k dx hd⟩⟩
theorem sc_i_NotTold : ScopeS ["self", "name"] (defScope s_NotTold___init__) := ⟨rfl, rfl, rfl, by decide +kernel, by decide +kernel, by decide +kernel, rfl, rfl⟩
theorem ok_i_NotTold {f cc cda C : Addr} {fd : FuncData} (F : SupF P K mg C f cc cda "NotTold.__init__" (defArgs s_NotTold___init__) (defBody s_NotTold___init__) (defScope s_NotTold___init__) fd) (T : OexC K C) (na : ∀ f ∈ (["name"] : List Str), PySem.W.findIn K (.ref C) f = some none) :
    FnOk P w K mg base CX0 1 f fd ["self", "name"] (spIn C ["name"]) := by
  refine fn_super F T sc_i_NotTold ⟨fun _ _ _ _ => rfl, fun _ _ _ _ => rfl, ⟨_, fun _ _ _ _ => rfl⟩⟩ rfl rfl (fun vs H Q E h => ?_) (fun vs H Q E h => ?_) (fun A outer s H vs Q E h => ?_)
  · obtain ⟨e, ls, rfl, hl, _⟩ := h
    exact congrArg Nat.succ hl
  · obtain ⟨e, ls, rfl, hl, he, _⟩ := h
    exact ⟨e, _, rfl, he⟩
  · obtain ⟨e, ls, rfl, hl, he, k⟩ := h
    obtain ⟨l, rfl⟩ : ∃ l, ls = [l] := match ls, hl with | [l], _ => ⟨l, rfl⟩
    refine ⟨_, PSs.nox (pss_one (ps_ost (pv 0) (pv 1))), ?_⟩
    exact ⟨_, rfl, _, rfl, e, C, rfl, T, na "name" (List.mem_of_getElem? (i := 0) rfl), .inl ⟨he, fun dx hd _ => k dx hd⟩⟩
theorem sc_i_BadObject : ScopeS ["self", "at"] (defScope s_BadObject___init__) := ⟨rfl, rfl, rfl, by decide +kernel, by decide +kernel, by decide +kernel, rfl, rfl⟩
theorem ok_i_BadObject {f cc cda C : Addr} {fd : FuncData} (F : SupF P K mg C f cc cda "BadObject.__init__" (defArgs s_BadObject___init__) (defBody s_BadObject___init__) (defScope s_BadObject___init__) fd) (T : OexC K C) (na : ∀ f ∈ (["at"] : List Str), PySem.W.findIn K (.ref C) f = some none) :
    FnOk P w K mg base CX0 1 f fd ["self", "at"] (spIn C ["at"]) := by
  refine fn_super F T sc_i_BadObject ⟨fun _ _ _ _ => rfl, fun _ _ _ _ => rfl, ⟨_, fun _ _ _ _ => rfl⟩⟩ rfl rfl (fun vs H Q E h => ?_) (fun vs H Q E h => ?_) (fun A outer s H vs Q E h => ?_)
  · obtain ⟨e, ls, rfl, hl, _⟩ := h
    exact congrArg Nat.succ hl
  · obtain ⟨e, ls, rfl, hl, he, _⟩ := h
    exact ⟨e, _, rfl, he⟩
  · obtain ⟨e, ls, rfl, hl, he, k⟩ := h
    obtain ⟨l, rfl⟩ : ∃ l, ls = [l] := match ls, hl with | [l], _ => ⟨l, rfl⟩
    refine ⟨_, PSs.nox (pss_one (ps_ost (pv 0) (pv 1))), ?_⟩
    exact ⟨_, rfl, _, rfl, e, C, rfl, T, na "at" (List.mem_of_getElem? (i := 0) rfl), .inl ⟨he, fun dx hd _ => k dx hd⟩⟩
theorem sc_i_BadObjects : ScopeS ["self", "name"] (defScope s_BadObjects___init__) := ⟨rfl, rfl, rfl, by decide +kernel, by decide +kernel, by decide +kernel, rfl, rfl⟩
theorem ok_i_BadObjects {f cc cda C : Addr} {fd : FuncData} (F : SupF P K mg C f cc cda "BadObjects.__init__" (defArgs s_BadObjects___init__) (defBody s_BadObjects___init__) (defScope s_BadObjects___init__) fd) (T : OexC K C) (na : ∀ f ∈ (["name"] : List Str), PySem.W.findIn K (.ref C) f = some none) :
    FnOk P w K mg base CX0 1 f fd ["self", "name"] (spIn C ["name"]) := by
  refine fn_super F T sc_i_BadObjects ⟨fun _ _ _ _ => rfl, fun _ _ _ _ => rfl, ⟨_, fun _ _ _ _ => rfl⟩⟩ rfl rfl (fun vs H Q E h => ?_) (fun vs H Q E h => ?_) (fun A outer s H vs Q E h => ?_)
  · obtain ⟨e, ls, rfl, hl, _⟩ := h
    exact congrArg Nat.succ hl
  · obtain ⟨e, ls, rfl, hl, he, _⟩ := h
    exact ⟨e, _, rfl, he⟩
  · obtain ⟨e, ls, rfl, hl, he, k⟩ := h
    obtain ⟨l, rfl⟩ : ∃ l, ls = [l] := match ls, hl with | [l], _ => ⟨l, rfl⟩
    refine ⟨_, PSs.nox (pss_one (ps_ost (pv 0) (pv 1))), ?_⟩
    exact ⟨_, rfl, _, rfl, e, C, rfl, T, na "name" (List.mem_of_getElem? (i := 0) rfl), .inl ⟨he, fun dx hd _ => k dx hd⟩⟩
theorem sc_i_TwoUnits : ScopeS ["self", "name"] (defScope s_TwoUnits___init__) := ⟨rfl, rfl, rfl, by decide +kernel, by decide +kernel, by decide +kernel, rfl, rfl⟩
theorem ok_i_TwoUnits {f cc cda C : Addr} {fd : FuncData} (F : SupF P K mg C f cc cda "TwoUnits.__init__" (defArgs s_TwoUnits___init__) (defBody s_TwoUnits___init__) (defScope s_TwoUnits___init__) fd) (T : OexC K C) (na : ∀ f ∈ (["name"] : List Str), PySem.W.findIn K (.ref C) f = some none) :
    FnOk P w K mg base CX0 1 f fd ["self", "name"] (spIn C ["name"]) := by
  refine fn_super F T sc_i_TwoUnits ⟨fun _ _ _ _ => rfl, fun _ _ _ _ => rfl, ⟨_, fun _ _ _ _ => rfl⟩⟩ rfl rfl (fun vs H Q E h => ?_) (fun vs H Q E h => ?_) (fun A outer s H vs Q E h => ?_)
  · obtain ⟨e, ls, rfl, hl, _⟩ := h
    exact congrArg Nat.succ hl
  · obtain ⟨e, ls, rfl, hl, he, _⟩ := h
    exact ⟨e, _, rfl, he⟩
  · obtain ⟨e, ls, rfl, hl, he, k⟩ := h
    obtain ⟨l, rfl⟩ : ∃ l, ls = [l] := match ls, hl with | [l], _ => ⟨l, rfl⟩
    refine ⟨_, PSs.nox (pss_one (ps_ost (pv 0) (pv 1))), ?_⟩
    exact ⟨_, rfl, _, rfl, e, C, rfl, T, na "name" (List.mem_of_getElem? (i := 0) rfl), .inl ⟨he, fun dx hd _ => k dx hd⟩⟩
theorem sc_i_Missing : ScopeS ["self", "unit"] (defScope s_Missing___init__) := ⟨rfl, rfl, rfl, by decide +kernel, by decide +kernel, by decide +kernel, rfl, rfl⟩
theorem ok_i_Missing {f cc cda C : Addr} {fd : FuncData} (F : SupF P K mg C f cc cda "Missing.__init__" (defArgs s_Missing___init__) (defBody s_Missing___init__) (defScope s_Missing___init__) fd) (T : OexC K C) (na : ∀ f ∈ (["unit"] : List Str), PySem.W.findIn K (.ref C) f = some none) :
    FnOk P w K mg base CX0 1 f fd ["self", "unit"] (spIn C ["unit"]) := by
  refine fn_super F T sc_i_Missing ⟨fun _ _ _ _ => rfl, fun _ _ _ _ => rfl, ⟨_, fun _ _ _ _ => rfl⟩⟩ rfl rfl (fun vs H Q E h => ?_) (fun vs H Q E h => ?_) (fun A outer s H vs Q E h => ?_)
  · obtain ⟨e, ls, rfl, hl, _⟩ := h
    exact congrArg Nat.succ hl
  · obtain ⟨e, ls, rfl, hl, he, _⟩ := h
    exact ⟨e, _, rfl, he⟩
  · obtain ⟨e, ls, rfl, hl, he, k⟩ := h
    obtain ⟨l, rfl⟩ : ∃ l, ls = [l] := match ls, hl with | [l], _ => ⟨l, rfl⟩
    refine ⟨_, PSs.nox (pss_one (ps_ost (pv 0) (pv 1))), ?_⟩
    exact ⟨_, rfl, _, rfl, e, C, rfl, T, na "unit" (List.mem_of_getElem? (i := 0) rfl), .inl ⟨he, fun dx hd _ => k dx hd⟩⟩
theorem sc_i_OtherFace : ScopeS ["self", "unit"] (defScope s_OtherFace___init__) := ⟨rfl, rfl, rfl, by decide +kernel, by decide +kernel, by decide +kernel, rfl, rfl⟩
theorem ok_i_OtherFace {f cc cda C : Addr} {fd : FuncData} (F : SupF P K mg C f cc cda "OtherFace.__init__" (defArgs s_OtherFace___init__) (defBody s_OtherFace___init__) (defScope s_OtherFace___init__) fd) (T : OexC K C) (na : ∀ f ∈ (["unit"] : List Str), PySem.W.findIn K (.ref C) f = some none) :
    FnOk P w K mg base CX0 1 f fd ["self", "unit"] (spIn C ["unit"]) := by
  refine fn_super F T sc_i_OtherFace ⟨fun _ _ _ _ => rfl, fun _ _ _ _ => rfl, ⟨_, fun _ _ _ _ => rfl⟩⟩ rfl rfl (fun vs H Q E h => ?_) (fun vs H Q E h => ?_) (fun A outer s H vs Q E h => ?_)
  · obtain ⟨e, ls, rfl, hl, _⟩ := h
    exact congrArg Nat.succ hl
  · obtain ⟨e, ls, rfl, hl, he, _⟩ := h
    exact ⟨e, _, rfl, he⟩
  · obtain ⟨e, ls, rfl, hl, he, k⟩ := h
    obtain ⟨l, rfl⟩ : ∃ l, ls = [l] := match ls, hl with | [l], _ => ⟨l, rfl⟩
    refine ⟨_, PSs.nox (pss_one (ps_ost (pv 0) (pv 1))), ?_⟩
    exact ⟨_, rfl, _, rfl, e, C, rfl, T, na "unit" (List.mem_of_getElem? (i := 0) rfl), .inl ⟨he, fun dx hd _ => k dx hd⟩⟩
theorem sc_i_BadBits : ScopeS ["self", "at"] (defScope s_BadBits___init__) := ⟨rfl, rfl, rfl, by decide +kernel, by decide +kernel, by decide +kernel, rfl, rfl⟩
theorem ok_i_BadBits {f cc cda C : Addr} {fd : FuncData} (F : SupF P K mg C f cc cda "BadBits.__init__" (defArgs s_BadBits___init__) (defBody s_BadBits___init__) (defScope s_BadBits___init__) fd) (T : OexC K C) (na : ∀ f ∈ (["at"] : List Str), PySem.W.findIn K (.ref C) f = some none) :
    FnOk P w K mg base CX0 1 f fd ["self", "at"] (spIn C ["at"]) := by
  refine fn_super F T sc_i_BadBits ⟨fun _ _ _ _ => rfl, fun _ _ _ _ => rfl, ⟨_, fun _ _ _ _ => rfl⟩⟩ rfl rfl (fun vs H Q E h => ?_) (fun vs H Q E h => ?_) (fun A outer s H vs Q E h => ?_)
  · obtain ⟨e, ls, rfl, hl, _⟩ := h
    exact congrArg Nat.succ hl
  · obtain ⟨e, ls, rfl, hl, he, _⟩ := h
    exact ⟨e, _, rfl, he⟩
  · obtain ⟨e, ls, rfl, hl, he, k⟩ := h
    obtain ⟨l, rfl⟩ : ∃ l, ls = [l] := match ls, hl with | [l], _ => ⟨l, rfl⟩
    refine ⟨_, PSs.nox (pss_one (ps_ost (pv 0) (pv 1))), ?_⟩
    exact ⟨_, rfl, _, rfl, e, C, rfl, T, na "at" (List.mem_of_getElem? (i := 0) rfl), .inl ⟨he, fun dx hd _ => k dx hd⟩⟩
theorem sc_i_BadInstruction : ScopeS ["self", "at"] (defScope s_BadInstruction___init__) := ⟨rfl, rfl, rfl, by decide +kernel, by decide +kernel, by decide +kernel, rfl, rfl⟩
theorem ok_i_BadInstruction {f cc cda C : Addr} {fd : FuncData} (F : SupF P K mg C f cc cda "BadInstruction.__init__" (defArgs s_BadInstruction___init__) (defBody s_BadInstruction___init__) (defScope s_BadInstruction___init__) fd) (T : OexC K C) (na : ∀ f ∈ (["at"] : List Str), PySem.W.findIn K (.ref C) f = some none) :
    FnOk P w K mg base CX0 1 f fd ["self", "at"] (spIn C ["at"]) := by
  refine fn_super F T sc_i_BadInstruction ⟨fun _ _ _ _ => rfl, fun _ _ _ _ => rfl, ⟨_, fun _ _ _ _ => rfl⟩⟩ rfl rfl (fun vs H Q E h => ?_) (fun vs H Q E h => ?_) (fun A outer s H vs Q E h => ?_)
  · obtain ⟨e, ls, rfl, hl, _⟩ := h
    exact congrArg Nat.succ hl
  · obtain ⟨e, ls, rfl, hl, he, _⟩ := h
    exact ⟨e, _, rfl, he⟩
  · obtain ⟨e, ls, rfl, hl, he, k⟩ := h
    obtain ⟨l, rfl⟩ : ∃ l, ls = [l] := match ls, hl with | [l], _ => ⟨l, rfl⟩
    refine ⟨_, PSs.nox (pss_one (ps_ost (pv 0) (pv 1))), ?_⟩
    exact ⟨_, rfl, _, rfl, e, C, rfl, T, na "at" (List.mem_of_getElem? (i := 0) rfl), .inl ⟨he, fun dx hd _ => k dx hd⟩⟩
end
/-! ## the told errors -/
mutual
theorem Dx.same {K : PySem.W.Frag} {H H' : Hp} (s : Same H H') : ∀ {d : PyData} {v : V}, Dx K H v d → Dx K H' v d
  | _, _, .non => .non
  | _, _, .bl b => .bl b
  | _, _, .int i => .int i
  | _, _, .str x => .str x
  | _, _, .lst h a => .lst (s.seq h) (DxAll.same s a)
  | _, _, .tup h a => .tup (Same.seqT s h) (DxAll.same s a)
  | _, _, .dic h a => .dic (s _ _ h) (DxAll.same s a)
theorem DxAll.same {K : PySem.W.Frag} {H H' : Hp} (s : Same H H') : ∀ {ds : List PyData} {vs : List V}, DxAll K H vs ds → DxAll K H' vs ds
  | _, _, .nil => .nil
  | _, _, .cons a b => .cons (Dx.same s a) (DxAll.same s b)
end
def someD : List PyData := [.none, .int 0, .int (-7), .str "x", .str "", .tuple [.int 1, .int 2], .list [.int 3], .dict [(.str "a", .int 4)], .bool true, .int (10 ^ 20)]
def okB (d : PyData) : Bool := d.showable && decide (d.depth ≤ 100) && decide (d.shown.length ≤ 100000)
theorem ok_d1 : ∀ d ∈ someD, okB (.list [d]) = true := by decide +kernel
theorem ok_d2 : ∀ d ∈ someD, ∀ e ∈ someD, okB (.list [d, e]) = true := by decide +kernel
theorem ok_d3 : ∀ d ∈ someD, ∀ e ∈ someD, okB (.list [d, e, .tuple [d, e]]) = true := by decide +kernel
/-- an error with what it keeps and what it should keep -/
def TdAt (K : PySem.W.Frag) (H : Hp) (t C : Addr) : Prop := ∃ (e m d : Addr) (dat : PyData), H t = some (.tup [.ref e, .ref m, .ref d]) ∧ ExAt H e C ∧ Dx K H (.ref m) dat ∧ Dx K H (.ref d) dat ∧ okB dat = true
theorem TdAt.same {K : PySem.W.Frag} {H H' : Hp} {t C : Addr} (s : Same H H') : TdAt K H t C → TdAt K H' t C :=
  fun ⟨e, m, d, dat, h1, h2, h3, h4, h5⟩ => ⟨e, m, d, dat, s _ _ h1, h2.same s, h3.same s, h4.same s, h5⟩
inductive Tds (K : PySem.W.Frag) (H : Hp) : List Addr → List Addr → Prop
  | nil : Tds K H [] []
  | cons {t C : Addr} {ts Cs : List Addr} : TdAt K H t C → Tds K H ts Cs → Tds K H (t :: ts) (C :: Cs)
theorem Tds.same {K : PySem.W.Frag} {H H' : Hp} (s : Same H H') : ∀ {ts Cs : List Addr}, Tds K H ts Cs → Tds K H' ts Cs
  | _, _, .nil => .nil
  | _, _, .cons a b => .cons (a.same s) (b.same s)
theorem Tds.app {K : PySem.W.Frag} {H : Hp} : ∀ {as Ds bs Es : List Addr}, Tds K H as Ds → Tds K H bs Es → Tds K H (as ++ bs) (Ds ++ Es)
  | _, _, _, _, .nil, h => h
  | _, _, _, _, .cons h t, h2 => .cons h (t.app h2)
theorem Tds.length {K : PySem.W.Frag} {H : Hp} : ∀ {as Ds : List Addr}, Tds K H as Ds → as.length = Ds.length
  | _, _, .nil => rfl
  | _, _, .cons _ t => congrArg Nat.succ t.length
theorem Tds.get {K : PySem.W.Frag} {H : Hp} : ∀ {as Ds : List Addr} {i : Nat} {a : Addr}, Tds K H as Ds → as[i]? = some a → ∃ D, Ds[i]? = some D ∧ TdAt K H a D
  | _, _, _, _, .nil, e => by simp at e
  | _, _, 0, _, .cons h _, e => by
    simp at e
    subst e
    exact ⟨_, rfl, h⟩
  | _, _, i + 1, _, .cons _ t, e => t.get (i := i) (by simpa using e)
theorem del_upd (H : Hp) (L : Addr) (o : HO) : del (upd H L o) L = del H L := by
  funext b
  by_cases h : b = L
  · rw [h, del_same, del_same]
  · rw [del_ne h, del_ne h, upd_ne h]
theorem del_sub (H : Hp) (L : Addr) : Same (del H L) H := fun b o e => by
  by_cases h : b = L
  · rw [h, del_same] at e; cases e
  · rw [del_ne h] at e; exact e
theorem del_grow {H H' : Hp} (s : Same H H') (L : Addr) : Same (del H L) (del H' L) := fun b o e => by
  by_cases h : b = L
  · rw [h, del_same] at e; cases e
  · rw [del_ne h] at e ⊢; exact s _ _ e
theorem del_new {H H' : Hp} {L : Addr} (s : Same H H') (n : H L = none) : Same H (del H' L) := fun b o e => by
  rw [del_ne (ne_of_none e n)]
  exact s _ _ e
theorem del_at {H : Hp} {a L : Addr} {o : HO} (h : H a = some o) (n : a ≠ L) : del H L a = some o := by rw [del_ne n]; exact h
/-- one turn: an error a (its dict dx) made in H2, the two lists m, d, the tuple t -/
theorem told_step {K : PySem.W.Frag} {H' H2 H3 : Hp} {L a dx m d t C : Addr} {fs : List (Str × V)} {ts Ds : List Addr} {o oL : HO} {xs ys : List V} {ds : List PyData} (eL : H' L = some oL) (x : Tds K (del H' L) ts Ds) (s : Same H' H2) (na : H' a = none) (nx : H' dx = none) (ea : H2 a = some (exo a C (some dx))) (ex : H2 dx = some (exd dx fs)) (s3 : Same H2 H3)
    (nm : H' m = none) (nd : H' d = none) (nt : H' t = none) (em : H3 m = some (.lst xs)) (ed : H3 d = some (.lst ys)) (et : H3 t = some (.tup [.ref a, .ref m, .ref d])) (hx : DxAll K (del H3 L) xs ds) (hy : DxAll K (del H3 L) ys ds) (ok : okB (.list ds) = true) :
    Tds K (del (upd H3 L o) L) (ts ++ [t]) (Ds ++ [C]) := by
  rw [del_upd]
  have ne : ∀ {b}, H' b = none → b ≠ L := fun h => (ne_of_none eL h).symm
  refine (x.same (del_grow (s.trans s3) L)).app (.cons ⟨a, m, d, .list ds, del_at et (ne nt), .inl ⟨some dx, del_at (s3 _ _ ea) (ne na), fun y hy => ?_⟩, .lst (SqL.of (del_at em (ne nm))) hx, .lst (SqL.of (del_at ed (ne nd))) hy, ok⟩ .nil)
  cases hy
  exact ⟨fs, del_at (s3 _ _ ex) (ne nx)⟩
def spTold (K : PySem.W.Frag) (c : Str → Addr) : Sp := fun vs H Q _ => ∃ (x y : V) (d1 d2 : PyData), vs = [x, y] ∧ Dx K H x d1 ∧ Dx K H y d2 ∧ d1 ∈ someD ∧ d2 ∈ someD ∧ ∀ H' L ts, Same H H' → H L = none → H' L = some (.lst (ts.map V.ref)) → Tds K H' ts (ownL.map c) → Q (.ref L) H'
section
variable {P : Program} {w : World} {K : PySem.W.Frag} {mg : Str → Option Value} {base : Heap}
theorem sc__law_told_errors : FnScope ["_law_one", "_law_other", "_law_found", "_law_error"] ["_law_one", "_law_other"] (defScope s_law_told_errors) := ⟨rfl, rfl, rfl, by decide +kernel, rfl, by decide +kernel, by decide +kernel⟩
theorem ok_told {f : Addr} {fd : FuncData} {c : Str → Addr} (F : FnP K "_law_told_errors" s_law_told_errors f fd) (R : ∀ (i : Nat) (x : Str) (ns : List Str), ownL[i]? = some x → ownN[i]? = some ns → InX P w K mg base x (c x) ns) : FnOk P w K mg base CX0 3 f fd ["_law_one", "_law_other"] (spTold K c) := by
  refine F.ok sc__law_told_errors (fun vs H Q E h => ?_) (fun cdv A outer s H vs Q E hr h => ?_)
  · obtain ⟨x, y, d1, d2, rfl, _⟩ := h
    rfl
  · obtain ⟨x, y, d1, d2, rfl, hx, hy, i1, i2, k⟩ := h
    have nd := sc__law_told_errors.nd
    apply Exists.intro
    apply And.intro
    case left =>
     apply PSs.nox
     apply C8.pss_cut
     · exact ps_set (i := 2) nd rfl (.inl rfl) (pe_lst pa_nil)
     apply pss_cons
     · exact ps_set (i := 3) nd rfl (.inl rfl) (pe_mkN (C := c "BadText") (ns := ["line", "column", "wanted"]) (R 0 "BadText" ["line", "column", "wanted"] rfl rfl) hr pass0 (by rfl) (pa_cons (pv 0) (pa_cons (pv 1) (pa_cons (pe_tup (pa_cons (pv 0) (pa_cons (pv 1) pa_nil))) pa_nil))))
     apply C8.pss_cut
     · exact ps_expr (pe_bm PySem.F.plainAttrs_list PySem.F.slot_list_append PySem.F.type_list_append mt_append (pv 2) (pa_cons (pe_tup (pa_cons (pv 3) (pa_cons (pe_lst (pa_cons (pe_exF (pv 3)) (pa_cons (pe_exF (pv 3)) (pa_cons (pe_exF (pv 3)) pa_nil)))) (pa_cons (pe_lst (pa_cons (pv 0) (pa_cons (pv 1) (pa_cons (pe_tup (pa_cons (pv 0) (pa_cons (pv 1) pa_nil))) pa_nil)))) pa_nil)))) pa_nil))
     apply pss_cons
     · exact ps_set (i := 3) nd rfl (.inl rfl) (pe_mkN (C := c "BadCount") (ns := ["count"]) (R 1 "BadCount" ["count"] rfl rfl) hr pass0 (by rfl) (pa_cons (pv 0) pa_nil))
     apply C8.pss_cut
     · exact ps_expr (pe_bm PySem.F.plainAttrs_list PySem.F.slot_list_append PySem.F.type_list_append mt_append (pv 2) (pa_cons (pe_tup (pa_cons (pv 3) (pa_cons (pe_lst (pa_cons (pe_exF (pv 3)) pa_nil)) (pa_cons (pe_lst (pa_cons (pv 0) pa_nil)) pa_nil)))) pa_nil))
     apply pss_cons
     · exact ps_set (i := 3) nd rfl (.inl rfl) (pe_mkN (C := c "BadUnits") (ns := ["at"]) (R 2 "BadUnits" ["at"] rfl rfl) hr pass0 (by rfl) (pa_cons (pv 0) pa_nil))
     apply C8.pss_cut
     · exact ps_expr (pe_bm PySem.F.plainAttrs_list PySem.F.slot_list_append PySem.F.type_list_append mt_append (pv 2) (pa_cons (pe_tup (pa_cons (pv 3) (pa_cons (pe_lst (pa_cons (pe_exF (pv 3)) pa_nil)) (pa_cons (pe_lst (pa_cons (pv 0) pa_nil)) pa_nil)))) pa_nil))
     apply pss_cons
     · exact ps_set (i := 3) nd rfl (.inl rfl) (pe_mkN (C := c "NoUnit") (ns := ["name"]) (R 3 "NoUnit" ["name"] rfl rfl) hr pass0 (by rfl) (pa_cons (pv 0) pa_nil))
     apply C8.pss_cut
     · exact ps_expr (pe_bm PySem.F.plainAttrs_list PySem.F.slot_list_append PySem.F.type_list_append mt_append (pv 2) (pa_cons (pe_tup (pa_cons (pv 3) (pa_cons (pe_lst (pa_cons (pe_exF (pv 3)) pa_nil)) (pa_cons (pe_lst (pa_cons (pv 0) pa_nil)) pa_nil)))) pa_nil))
     apply pss_cons
     · exact ps_set (i := 3) nd rfl (.inl rfl) (pe_mkN (C := c "UsesRing") (ns := ["ring"]) (R 4 "UsesRing" ["ring"] rfl rfl) hr pass0 (by rfl) (pa_cons (pv 0) pa_nil))
     apply C8.pss_cut
     · exact ps_expr (pe_bm PySem.F.plainAttrs_list PySem.F.slot_list_append PySem.F.type_list_append mt_append (pv 2) (pa_cons (pe_tup (pa_cons (pv 3) (pa_cons (pe_lst (pa_cons (pe_exF (pv 3)) pa_nil)) (pa_cons (pe_lst (pa_cons (pv 0) pa_nil)) pa_nil)))) pa_nil))
     apply pss_cons
     · exact ps_set (i := 3) nd rfl (.inl rfl) (pe_mkN (C := c "NoFunction") (ns := ["name"]) (R 5 "NoFunction" ["name"] rfl rfl) hr pass0 (by rfl) (pa_cons (pv 0) pa_nil))
     apply C8.pss_cut
     · exact ps_expr (pe_bm PySem.F.plainAttrs_list PySem.F.slot_list_append PySem.F.type_list_append mt_append (pv 2) (pa_cons (pe_tup (pa_cons (pv 3) (pa_cons (pe_lst (pa_cons (pe_exF (pv 3)) pa_nil)) (pa_cons (pe_lst (pa_cons (pv 0) pa_nil)) pa_nil)))) pa_nil))
     apply pss_cons
     · exact ps_set (i := 3) nd rfl (.inl rfl) (pe_mkN (C := c "Faulty") (ns := ["fault", "unit"]) (R 6 "Faulty" ["fault", "unit"] rfl rfl) hr pass0 (by rfl) (pa_cons (pv 0) (pa_cons (pv 1) pa_nil)))
     apply C8.pss_cut
     · exact ps_expr (pe_bm PySem.F.plainAttrs_list PySem.F.slot_list_append PySem.F.type_list_append mt_append (pv 2) (pa_cons (pe_tup (pa_cons (pv 3) (pa_cons (pe_lst (pa_cons (pe_exF (pv 3)) (pa_cons (pe_exF (pv 3)) pa_nil))) (pa_cons (pe_lst (pa_cons (pv 0) (pa_cons (pv 1) pa_nil))) pa_nil)))) pa_nil))
     apply pss_cons
     · exact ps_set (i := 3) nd rfl (.inl rfl) (pe_mkN (C := c "KindClash") (ns := ["clash", "unit"]) (R 7 "KindClash" ["clash", "unit"] rfl rfl) hr pass0 (by rfl) (pa_cons (pv 0) (pa_cons (pv 1) pa_nil)))
     apply C8.pss_cut
     · exact ps_expr (pe_bm PySem.F.plainAttrs_list PySem.F.slot_list_append PySem.F.type_list_append mt_append (pv 2) (pa_cons (pe_tup (pa_cons (pv 3) (pa_cons (pe_lst (pa_cons (pe_exF (pv 3)) (pa_cons (pe_exF (pv 3)) pa_nil))) (pa_cons (pe_lst (pa_cons (pv 0) (pa_cons (pv 1) pa_nil))) pa_nil)))) pa_nil))
     apply pss_cons
     · exact ps_set (i := 3) nd rfl (.inl rfl) (pe_mkN (C := c "TwoNames") (ns := ["name"]) (R 8 "TwoNames" ["name"] rfl rfl) hr pass0 (by rfl) (pa_cons (pv 0) pa_nil))
     apply C8.pss_cut
     · exact ps_expr (pe_bm PySem.F.plainAttrs_list PySem.F.slot_list_append PySem.F.type_list_append mt_append (pv 2) (pa_cons (pe_tup (pa_cons (pv 3) (pa_cons (pe_lst (pa_cons (pe_exF (pv 3)) pa_nil)) (pa_cons (pe_lst (pa_cons (pv 0) pa_nil)) pa_nil)))) pa_nil))
     apply pss_cons
     · exact ps_set (i := 3) nd rfl (.inl rfl) (pe_mkN (C := c "NotNow") (ns := ["word"]) (R 9 "NotNow" ["word"] rfl rfl) hr pass0 (by rfl) (pa_cons (pv 0) pa_nil))
     apply C8.pss_cut
     · exact ps_expr (pe_bm PySem.F.plainAttrs_list PySem.F.slot_list_append PySem.F.type_list_append mt_append (pv 2) (pa_cons (pe_tup (pa_cons (pv 3) (pa_cons (pe_lst (pa_cons (pe_exF (pv 3)) pa_nil)) (pa_cons (pe_lst (pa_cons (pv 0) pa_nil)) pa_nil)))) pa_nil))
     apply pss_cons
     · exact ps_set (i := 3) nd rfl (.inl rfl) (pe_mkN (C := c "BadFunctions") (ns := ["name"]) (R 10 "BadFunctions" ["name"] rfl rfl) hr pass0 (by rfl) (pa_cons (pv 0) pa_nil))
     apply C8.pss_cut
     · exact ps_expr (pe_bm PySem.F.plainAttrs_list PySem.F.slot_list_append PySem.F.type_list_append mt_append (pv 2) (pa_cons (pe_tup (pa_cons (pv 3) (pa_cons (pe_lst (pa_cons (pe_exF (pv 3)) pa_nil)) (pa_cons (pe_lst (pa_cons (pv 0) pa_nil)) pa_nil)))) pa_nil))
     apply pss_cons
     · exact ps_set (i := 3) nd rfl (.inl rfl) (pe_mkN (C := c "Unknown") (ns := ["name"]) (R 11 "Unknown" ["name"] rfl rfl) hr pass0 (by rfl) (pa_cons (pv 0) pa_nil))
     apply C8.pss_cut
     · exact ps_expr (pe_bm PySem.F.plainAttrs_list PySem.F.slot_list_append PySem.F.type_list_append mt_append (pv 2) (pa_cons (pe_tup (pa_cons (pv 3) (pa_cons (pe_lst (pa_cons (pe_exF (pv 3)) pa_nil)) (pa_cons (pe_lst (pa_cons (pv 0) pa_nil)) pa_nil)))) pa_nil))
     apply pss_cons
     · exact ps_set (i := 3) nd rfl (.inl rfl) (pe_mkN (C := c "BadCodes") (ns := ["at"]) (R 12 "BadCodes" ["at"] rfl rfl) hr pass0 (by rfl) (pa_cons (pv 0) pa_nil))
     apply C8.pss_cut
     · exact ps_expr (pe_bm PySem.F.plainAttrs_list PySem.F.slot_list_append PySem.F.type_list_append mt_append (pv 2) (pa_cons (pe_tup (pa_cons (pv 3) (pa_cons (pe_lst (pa_cons (pe_exF (pv 3)) pa_nil)) (pa_cons (pe_lst (pa_cons (pv 0) pa_nil)) pa_nil)))) pa_nil))
     apply pss_cons
     · exact ps_set (i := 3) nd rfl (.inl rfl) (pe_mkN (C := c "Refused") (ns := ["why"]) (R 13 "Refused" ["why"] rfl rfl) hr pass0 (by rfl) (pa_cons (pv 0) pa_nil))
     apply C8.pss_cut
     · exact ps_expr (pe_bm PySem.F.plainAttrs_list PySem.F.slot_list_append PySem.F.type_list_append mt_append (pv 2) (pa_cons (pe_tup (pa_cons (pv 3) (pa_cons (pe_lst (pa_cons (pe_exF (pv 3)) pa_nil)) (pa_cons (pe_lst (pa_cons (pv 0) pa_nil)) pa_nil)))) pa_nil))
     apply pss_cons
     · exact ps_set (i := 3) nd rfl (.inl rfl) (pe_mkN (C := c "BadRows") (ns := ["at"]) (R 14 "BadRows" ["at"] rfl rfl) hr pass0 (by rfl) (pa_cons (pv 0) pa_nil))
     apply C8.pss_cut
     · exact ps_expr (pe_bm PySem.F.plainAttrs_list PySem.F.slot_list_append PySem.F.type_list_append mt_append (pv 2) (pa_cons (pe_tup (pa_cons (pv 3) (pa_cons (pe_lst (pa_cons (pe_exF (pv 3)) pa_nil)) (pa_cons (pe_lst (pa_cons (pv 0) pa_nil)) pa_nil)))) pa_nil))
     apply pss_cons
     · exact ps_set (i := 3) nd rfl (.inl rfl) (pe_mkN (C := c "BadSpans") (ns := ["at"]) (R 15 "BadSpans" ["at"] rfl rfl) hr pass0 (by rfl) (pa_cons (pv 0) pa_nil))
     apply C8.pss_cut
     · exact ps_expr (pe_bm PySem.F.plainAttrs_list PySem.F.slot_list_append PySem.F.type_list_append mt_append (pv 2) (pa_cons (pe_tup (pa_cons (pv 3) (pa_cons (pe_lst (pa_cons (pe_exF (pv 3)) pa_nil)) (pa_cons (pe_lst (pa_cons (pv 0) pa_nil)) pa_nil)))) pa_nil))
     apply pss_cons
     · exact ps_set (i := 3) nd rfl (.inl rfl) (pe_mkN (C := c "BadPairs") (ns := ["at"]) (R 16 "BadPairs" ["at"] rfl rfl) hr pass0 (by rfl) (pa_cons (pv 0) pa_nil))
     apply C8.pss_cut
     · exact ps_expr (pe_bm PySem.F.plainAttrs_list PySem.F.slot_list_append PySem.F.type_list_append mt_append (pv 2) (pa_cons (pe_tup (pa_cons (pv 3) (pa_cons (pe_lst (pa_cons (pe_exF (pv 3)) pa_nil)) (pa_cons (pe_lst (pa_cons (pv 0) pa_nil)) pa_nil)))) pa_nil))
     apply pss_cons
     · exact ps_set (i := 3) nd rfl (.inl rfl) (pe_mkN (C := c "BadChanges") (ns := ["at"]) (R 17 "BadChanges" ["at"] rfl rfl) hr pass0 (by rfl) (pa_cons (pv 0) pa_nil))
     apply C8.pss_cut
     · exact ps_expr (pe_bm PySem.F.plainAttrs_list PySem.F.slot_list_append PySem.F.type_list_append mt_append (pv 2) (pa_cons (pe_tup (pa_cons (pv 3) (pa_cons (pe_lst (pa_cons (pe_exF (pv 3)) pa_nil)) (pa_cons (pe_lst (pa_cons (pv 0) pa_nil)) pa_nil)))) pa_nil))
     apply pss_cons
     · exact ps_set (i := 3) nd rfl (.inl rfl) (pe_mkN (C := c "NotTold") (ns := ["name"]) (R 18 "NotTold" ["name"] rfl rfl) hr pass0 (by rfl) (pa_cons (pv 0) pa_nil))
     apply C8.pss_cut
     · exact ps_expr (pe_bm PySem.F.plainAttrs_list PySem.F.slot_list_append PySem.F.type_list_append mt_append (pv 2) (pa_cons (pe_tup (pa_cons (pv 3) (pa_cons (pe_lst (pa_cons (pe_exF (pv 3)) pa_nil)) (pa_cons (pe_lst (pa_cons (pv 0) pa_nil)) pa_nil)))) pa_nil))
     apply pss_cons
     · exact ps_set (i := 3) nd rfl (.inl rfl) (pe_mkN (C := c "BadObject") (ns := ["at"]) (R 19 "BadObject" ["at"] rfl rfl) hr pass0 (by rfl) (pa_cons (pv 0) pa_nil))
     apply C8.pss_cut
     · exact ps_expr (pe_bm PySem.F.plainAttrs_list PySem.F.slot_list_append PySem.F.type_list_append mt_append (pv 2) (pa_cons (pe_tup (pa_cons (pv 3) (pa_cons (pe_lst (pa_cons (pe_exF (pv 3)) pa_nil)) (pa_cons (pe_lst (pa_cons (pv 0) pa_nil)) pa_nil)))) pa_nil))
     apply pss_cons
     · exact ps_set (i := 3) nd rfl (.inl rfl) (pe_mkN (C := c "BadObjects") (ns := ["name"]) (R 20 "BadObjects" ["name"] rfl rfl) hr pass0 (by rfl) (pa_cons (pv 0) pa_nil))
     apply C8.pss_cut
     · exact ps_expr (pe_bm PySem.F.plainAttrs_list PySem.F.slot_list_append PySem.F.type_list_append mt_append (pv 2) (pa_cons (pe_tup (pa_cons (pv 3) (pa_cons (pe_lst (pa_cons (pe_exF (pv 3)) pa_nil)) (pa_cons (pe_lst (pa_cons (pv 0) pa_nil)) pa_nil)))) pa_nil))
     apply pss_cons
     · exact ps_set (i := 3) nd rfl (.inl rfl) (pe_mkN (C := c "TwoUnits") (ns := ["name"]) (R 21 "TwoUnits" ["name"] rfl rfl) hr pass0 (by rfl) (pa_cons (pv 0) pa_nil))
     apply C8.pss_cut
     · exact ps_expr (pe_bm PySem.F.plainAttrs_list PySem.F.slot_list_append PySem.F.type_list_append mt_append (pv 2) (pa_cons (pe_tup (pa_cons (pv 3) (pa_cons (pe_lst (pa_cons (pe_exF (pv 3)) pa_nil)) (pa_cons (pe_lst (pa_cons (pv 0) pa_nil)) pa_nil)))) pa_nil))
     apply pss_cons
     · exact ps_set (i := 3) nd rfl (.inl rfl) (pe_mkN (C := c "Missing") (ns := ["unit"]) (R 22 "Missing" ["unit"] rfl rfl) hr pass0 (by rfl) (pa_cons (pv 0) pa_nil))
     apply C8.pss_cut
     · exact ps_expr (pe_bm PySem.F.plainAttrs_list PySem.F.slot_list_append PySem.F.type_list_append mt_append (pv 2) (pa_cons (pe_tup (pa_cons (pv 3) (pa_cons (pe_lst (pa_cons (pe_exF (pv 3)) pa_nil)) (pa_cons (pe_lst (pa_cons (pv 0) pa_nil)) pa_nil)))) pa_nil))
     apply pss_cons
     · exact ps_set (i := 3) nd rfl (.inl rfl) (pe_mkN (C := c "OtherFace") (ns := ["unit"]) (R 23 "OtherFace" ["unit"] rfl rfl) hr pass0 (by rfl) (pa_cons (pv 0) pa_nil))
     apply C8.pss_cut
     · exact ps_expr (pe_bm PySem.F.plainAttrs_list PySem.F.slot_list_append PySem.F.type_list_append mt_append (pv 2) (pa_cons (pe_tup (pa_cons (pv 3) (pa_cons (pe_lst (pa_cons (pe_exF (pv 3)) pa_nil)) (pa_cons (pe_lst (pa_cons (pv 0) pa_nil)) pa_nil)))) pa_nil))
     apply pss_cons
     · exact ps_set (i := 3) nd rfl (.inl rfl) (pe_mkN (C := c "BadBits") (ns := ["at"]) (R 24 "BadBits" ["at"] rfl rfl) hr pass0 (by rfl) (pa_cons (pv 0) pa_nil))
     apply C8.pss_cut
     · exact ps_expr (pe_bm PySem.F.plainAttrs_list PySem.F.slot_list_append PySem.F.type_list_append mt_append (pv 2) (pa_cons (pe_tup (pa_cons (pv 3) (pa_cons (pe_lst (pa_cons (pe_exF (pv 3)) pa_nil)) (pa_cons (pe_lst (pa_cons (pv 0) pa_nil)) pa_nil)))) pa_nil))
     apply pss_cons
     · exact ps_set (i := 3) nd rfl (.inl rfl) (pe_mkN (C := c "BadInstruction") (ns := ["at"]) (R 25 "BadInstruction" ["at"] rfl rfl) hr pass0 (by rfl) (pa_cons (pv 0) pa_nil))
     apply C8.pss_cut
     · exact ps_expr (pe_bm PySem.F.plainAttrs_list PySem.F.slot_list_append PySem.F.type_list_append mt_append (pv 2) (pa_cons (pe_tup (pa_cons (pv 3) (pa_cons (pe_lst (pa_cons (pe_exF (pv 3)) pa_nil)) (pa_cons (pe_lst (pa_cons (pv 0) pa_nil)) pa_nil)))) pa_nil))
     apply pss_one
     exact ps_ret (pv 2)
    case right =>
      refine ⟨fun σ H' => ∃ L ts er, σ = [some x, some y, some (.ref L), er] ∧ Same H H' ∧ H L = none ∧ H' L = some (.lst (ts.map V.ref)) ∧ Tds K (del H' L) ts ((ownL.map c).take 0), ⟨(show 0 ≤ sizeLine by decide), fun L hL => ⟨L, [], none, rfl, same_new hL, hL, upd_same, .nil⟩⟩, ?_⟩
      rintro σ0 H0 ⟨L, ts, er, rfl, s0, nL, eL, X0⟩
      have B := R 0 "BadText" ["line", "column", "wanted"] rfl rfl
      refine ⟨_, rfl, _, rfl, _, rfl, _, rfl, (show 2 ≤ sizeLine by decide), fun p hp => ⟨rfl, (show 3 ≤ 1000 by decide), fun a dx H2 na' ndx' s2 ea ed => ?_⟩⟩
      have na : H0 a = none := (same_new hp).free na'
      have ndx : H0 dx = none := (same_new hp).free ndx'
      have q2 : Same H0 H2 := (same_new hp).trans s2
      refine ⟨fun σ H' => ∃ L ts er, σ = [some x, some y, some (.ref L), er] ∧ Same H H' ∧ H L = none ∧ H' L = some (.lst (ts.map V.ref)) ∧ Tds K (del H' L) ts ((ownL.map c).take 1), ⟨_, rfl, .inl ⟨rfl, _, SqL.of (q2 _ _ eL)⟩, _, rfl, _, rfl, a, c "BadText", dx, _, x, rfl, B.r, B.na "line" (List.mem_of_getElem? (i := 0) rfl), .inl ⟨ea, ed⟩, rfl, _, rfl, a, c "BadText", dx, _, y, rfl, B.r, B.na "column" (List.mem_of_getElem? (i := 1) rfl), .inl ⟨ea, ed⟩, rfl, _, rfl, a, c "BadText", dx, _, .ref p, rfl, B.r, B.na "wanted" (List.mem_of_getElem? (i := 2) rfl), .inl ⟨ea, ed⟩, rfl, (show 3 ≤ sizeLine by decide), fun m hm => ?_⟩, ?_⟩
      · refine ⟨_, rfl, _, rfl, _, rfl, _, rfl, (show 2 ≤ sizeLine by decide), fun p2 hp2 => ⟨(show 3 ≤ sizeLine by decide), fun d hd => ⟨(show 3 ≤ sizeLine by decide), fun t ht => ⟨L, _, _, rfl, rfl, ((q2.trans (same_new hm)).trans ((same_new hp2).trans ((same_new hd).trans (same_new ht)))) _ _ eL, ?_, L, ts ++ [t], _, rfl, ?_, nL, ?_, ?_⟩⟩⟩⟩
        · rw [List.length_map, X0.length]
          exact (by decide : 0 < 16777216)
        · exact same_sub (s0.trans ((q2.trans (same_new hm)).trans ((same_new hp2).trans ((same_new hd).trans (same_new ht))))) nL
        · rw [upd_same, List.map_append]
          rfl
        · have s3 := (same_new (o := .lst [x, y, .ref p]) hm).trans ((same_new (o := .tup [x, y]) hp2).trans ((same_new (o := .lst [x, y, .ref p2]) hd).trans (same_new (o := .tup [.ref a, .ref m, .ref d]) ht)))
          have sx := del_new (s0.trans (q2.trans s3)) nL
          have n1 : p ≠ L := (ne_of_none eL hp).symm
          have n2 : p2 ≠ L := (ne_of_none eL (q2.free ((same_new hm).free hp2))).symm
          have t1 : Dx K (del _ L) (.ref p) (.tuple [d1, d2]) := .tup (SqT.of (del_at (s3 _ _ (s2 _ _ upd_same)) n1)) (.cons (hx.same sx) (.cons (hy.same sx) .nil))
          have t2 : Dx K (del _ L) (.ref p2) (.tuple [d1, d2]) := .tup (SqT.of (del_at (((same_new hd).trans (same_new ht)) _ _ upd_same) n2)) (.cons (hx.same sx) (.cons (hy.same sx) .nil))
          exact told_step eL X0 q2 na ndx ea ed s3 (q2.free hm) (q2.free ((same_new hm).free ((same_new hp2).free hd))) (q2.free ((same_new hm).free ((same_new hp2).free ((same_new hd).free ht)))) (((same_new hp2).trans ((same_new hd).trans (same_new ht))) _ _ upd_same) ((same_new ht) _ _ upd_same) upd_same (.cons (hx.same sx) (.cons (hy.same sx) (.cons t1 .nil))) (.cons (hx.same sx) (.cons (hy.same sx) (.cons t2 .nil))) (ok_d3 d1 i1 d2 i2)
      clear B q2 s2 ea ed na ndx na' ndx' hp s0 nL eL X0
      rintro σ0 H0 ⟨L, ts, er, rfl, s0, nL, eL, X0⟩
      have B := R 1 "BadCount" ["count"] rfl rfl
      refine ⟨_, rfl, rfl, (show 1 ≤ 1000 by decide), fun a dx H2 na ndx s2 ea ed => ?_⟩
      have q2 : Same H0 H2 := s2
      refine ⟨fun σ H' => ∃ L ts er, σ = [some x, some y, some (.ref L), er] ∧ Same H H' ∧ H L = none ∧ H' L = some (.lst (ts.map V.ref)) ∧ Tds K (del H' L) ts ((ownL.map c).take 2), ⟨_, rfl, .inl ⟨rfl, _, SqL.of (q2 _ _ eL)⟩, _, rfl, _, rfl, a, c "BadCount", dx, _, x, rfl, B.r, B.na "count" (List.mem_of_getElem? (i := 0) rfl), .inl ⟨ea, ed⟩, rfl, (show 1 ≤ sizeLine by decide), fun m hm => ?_⟩, ?_⟩
      · refine ⟨_, rfl, (show 1 ≤ sizeLine by decide), fun d hd => ⟨(show 3 ≤ sizeLine by decide), fun t ht => ⟨L, _, _, rfl, rfl, ((q2.trans (same_new hm)).trans ((same_new hd).trans (same_new ht))) _ _ eL, ?_, L, ts ++ [t], _, rfl, ?_, nL, ?_, ?_⟩⟩⟩
        · rw [List.length_map, X0.length]
          exact (by decide : 1 < 16777216)
        · exact same_sub (s0.trans ((q2.trans (same_new hm)).trans ((same_new hd).trans (same_new ht)))) nL
        · rw [upd_same, List.map_append]
          rfl
        · have s3 := (same_new (o := .lst [x]) hm).trans ((same_new (o := .lst [x]) hd).trans (same_new (o := .tup [.ref a, .ref m, .ref d]) ht))
          have sx := del_new (s0.trans (q2.trans s3)) nL
          exact told_step eL X0 q2 na ndx ea ed s3 (q2.free hm) (q2.free ((same_new hm).free hd)) (q2.free ((same_new hm).free ((same_new hd).free ht))) (((same_new hd).trans (same_new ht)) _ _ upd_same) ((same_new ht) _ _ upd_same) upd_same (.cons (hx.same sx) .nil) (.cons (hx.same sx) .nil) (ok_d1 d1 i1)
      clear B q2 s2 ea ed na ndx s0 nL eL X0
      rintro σ0 H0 ⟨L, ts, er, rfl, s0, nL, eL, X0⟩
      have B := R 2 "BadUnits" ["at"] rfl rfl
      refine ⟨_, rfl, rfl, (show 1 ≤ 1000 by decide), fun a dx H2 na ndx s2 ea ed => ?_⟩
      have q2 : Same H0 H2 := s2
      refine ⟨fun σ H' => ∃ L ts er, σ = [some x, some y, some (.ref L), er] ∧ Same H H' ∧ H L = none ∧ H' L = some (.lst (ts.map V.ref)) ∧ Tds K (del H' L) ts ((ownL.map c).take 3), ⟨_, rfl, .inl ⟨rfl, _, SqL.of (q2 _ _ eL)⟩, _, rfl, _, rfl, a, c "BadUnits", dx, _, x, rfl, B.r, B.na "at" (List.mem_of_getElem? (i := 0) rfl), .inl ⟨ea, ed⟩, rfl, (show 1 ≤ sizeLine by decide), fun m hm => ?_⟩, ?_⟩
      · refine ⟨_, rfl, (show 1 ≤ sizeLine by decide), fun d hd => ⟨(show 3 ≤ sizeLine by decide), fun t ht => ⟨L, _, _, rfl, rfl, ((q2.trans (same_new hm)).trans ((same_new hd).trans (same_new ht))) _ _ eL, ?_, L, ts ++ [t], _, rfl, ?_, nL, ?_, ?_⟩⟩⟩
        · rw [List.length_map, X0.length]
          exact (by decide : 2 < 16777216)
        · exact same_sub (s0.trans ((q2.trans (same_new hm)).trans ((same_new hd).trans (same_new ht)))) nL
        · rw [upd_same, List.map_append]
          rfl
        · have s3 := (same_new (o := .lst [x]) hm).trans ((same_new (o := .lst [x]) hd).trans (same_new (o := .tup [.ref a, .ref m, .ref d]) ht))
          have sx := del_new (s0.trans (q2.trans s3)) nL
          exact told_step eL X0 q2 na ndx ea ed s3 (q2.free hm) (q2.free ((same_new hm).free hd)) (q2.free ((same_new hm).free ((same_new hd).free ht))) (((same_new hd).trans (same_new ht)) _ _ upd_same) ((same_new ht) _ _ upd_same) upd_same (.cons (hx.same sx) .nil) (.cons (hx.same sx) .nil) (ok_d1 d1 i1)
      clear B q2 s2 ea ed na ndx s0 nL eL X0
      rintro σ0 H0 ⟨L, ts, er, rfl, s0, nL, eL, X0⟩
      have B := R 3 "NoUnit" ["name"] rfl rfl
      refine ⟨_, rfl, rfl, (show 1 ≤ 1000 by decide), fun a dx H2 na ndx s2 ea ed => ?_⟩
      have q2 : Same H0 H2 := s2
      refine ⟨fun σ H' => ∃ L ts er, σ = [some x, some y, some (.ref L), er] ∧ Same H H' ∧ H L = none ∧ H' L = some (.lst (ts.map V.ref)) ∧ Tds K (del H' L) ts ((ownL.map c).take 4), ⟨_, rfl, .inl ⟨rfl, _, SqL.of (q2 _ _ eL)⟩, _, rfl, _, rfl, a, c "NoUnit", dx, _, x, rfl, B.r, B.na "name" (List.mem_of_getElem? (i := 0) rfl), .inl ⟨ea, ed⟩, rfl, (show 1 ≤ sizeLine by decide), fun m hm => ?_⟩, ?_⟩
      · refine ⟨_, rfl, (show 1 ≤ sizeLine by decide), fun d hd => ⟨(show 3 ≤ sizeLine by decide), fun t ht => ⟨L, _, _, rfl, rfl, ((q2.trans (same_new hm)).trans ((same_new hd).trans (same_new ht))) _ _ eL, ?_, L, ts ++ [t], _, rfl, ?_, nL, ?_, ?_⟩⟩⟩
        · rw [List.length_map, X0.length]
          exact (by decide : 3 < 16777216)
        · exact same_sub (s0.trans ((q2.trans (same_new hm)).trans ((same_new hd).trans (same_new ht)))) nL
        · rw [upd_same, List.map_append]
          rfl
        · have s3 := (same_new (o := .lst [x]) hm).trans ((same_new (o := .lst [x]) hd).trans (same_new (o := .tup [.ref a, .ref m, .ref d]) ht))
          have sx := del_new (s0.trans (q2.trans s3)) nL
          exact told_step eL X0 q2 na ndx ea ed s3 (q2.free hm) (q2.free ((same_new hm).free hd)) (q2.free ((same_new hm).free ((same_new hd).free ht))) (((same_new hd).trans (same_new ht)) _ _ upd_same) ((same_new ht) _ _ upd_same) upd_same (.cons (hx.same sx) .nil) (.cons (hx.same sx) .nil) (ok_d1 d1 i1)
      clear B q2 s2 ea ed na ndx s0 nL eL X0
      rintro σ0 H0 ⟨L, ts, er, rfl, s0, nL, eL, X0⟩
      have B := R 4 "UsesRing" ["ring"] rfl rfl
      refine ⟨_, rfl, rfl, (show 1 ≤ 1000 by decide), fun a dx H2 na ndx s2 ea ed => ?_⟩
      have q2 : Same H0 H2 := s2
      refine ⟨fun σ H' => ∃ L ts er, σ = [some x, some y, some (.ref L), er] ∧ Same H H' ∧ H L = none ∧ H' L = some (.lst (ts.map V.ref)) ∧ Tds K (del H' L) ts ((ownL.map c).take 5), ⟨_, rfl, .inl ⟨rfl, _, SqL.of (q2 _ _ eL)⟩, _, rfl, _, rfl, a, c "UsesRing", dx, _, x, rfl, B.r, B.na "ring" (List.mem_of_getElem? (i := 0) rfl), .inl ⟨ea, ed⟩, rfl, (show 1 ≤ sizeLine by decide), fun m hm => ?_⟩, ?_⟩
      · refine ⟨_, rfl, (show 1 ≤ sizeLine by decide), fun d hd => ⟨(show 3 ≤ sizeLine by decide), fun t ht => ⟨L, _, _, rfl, rfl, ((q2.trans (same_new hm)).trans ((same_new hd).trans (same_new ht))) _ _ eL, ?_, L, ts ++ [t], _, rfl, ?_, nL, ?_, ?_⟩⟩⟩
        · rw [List.length_map, X0.length]
          exact (by decide : 4 < 16777216)
        · exact same_sub (s0.trans ((q2.trans (same_new hm)).trans ((same_new hd).trans (same_new ht)))) nL
        · rw [upd_same, List.map_append]
          rfl
        · have s3 := (same_new (o := .lst [x]) hm).trans ((same_new (o := .lst [x]) hd).trans (same_new (o := .tup [.ref a, .ref m, .ref d]) ht))
          have sx := del_new (s0.trans (q2.trans s3)) nL
          exact told_step eL X0 q2 na ndx ea ed s3 (q2.free hm) (q2.free ((same_new hm).free hd)) (q2.free ((same_new hm).free ((same_new hd).free ht))) (((same_new hd).trans (same_new ht)) _ _ upd_same) ((same_new ht) _ _ upd_same) upd_same (.cons (hx.same sx) .nil) (.cons (hx.same sx) .nil) (ok_d1 d1 i1)
      clear B q2 s2 ea ed na ndx s0 nL eL X0
      rintro σ0 H0 ⟨L, ts, er, rfl, s0, nL, eL, X0⟩
      have B := R 5 "NoFunction" ["name"] rfl rfl
      refine ⟨_, rfl, rfl, (show 1 ≤ 1000 by decide), fun a dx H2 na ndx s2 ea ed => ?_⟩
      have q2 : Same H0 H2 := s2
      refine ⟨fun σ H' => ∃ L ts er, σ = [some x, some y, some (.ref L), er] ∧ Same H H' ∧ H L = none ∧ H' L = some (.lst (ts.map V.ref)) ∧ Tds K (del H' L) ts ((ownL.map c).take 6), ⟨_, rfl, .inl ⟨rfl, _, SqL.of (q2 _ _ eL)⟩, _, rfl, _, rfl, a, c "NoFunction", dx, _, x, rfl, B.r, B.na "name" (List.mem_of_getElem? (i := 0) rfl), .inl ⟨ea, ed⟩, rfl, (show 1 ≤ sizeLine by decide), fun m hm => ?_⟩, ?_⟩
      · refine ⟨_, rfl, (show 1 ≤ sizeLine by decide), fun d hd => ⟨(show 3 ≤ sizeLine by decide), fun t ht => ⟨L, _, _, rfl, rfl, ((q2.trans (same_new hm)).trans ((same_new hd).trans (same_new ht))) _ _ eL, ?_, L, ts ++ [t], _, rfl, ?_, nL, ?_, ?_⟩⟩⟩
        · rw [List.length_map, X0.length]
          exact (by decide : 5 < 16777216)
        · exact same_sub (s0.trans ((q2.trans (same_new hm)).trans ((same_new hd).trans (same_new ht)))) nL
        · rw [upd_same, List.map_append]
          rfl
        · have s3 := (same_new (o := .lst [x]) hm).trans ((same_new (o := .lst [x]) hd).trans (same_new (o := .tup [.ref a, .ref m, .ref d]) ht))
          have sx := del_new (s0.trans (q2.trans s3)) nL
          exact told_step eL X0 q2 na ndx ea ed s3 (q2.free hm) (q2.free ((same_new hm).free hd)) (q2.free ((same_new hm).free ((same_new hd).free ht))) (((same_new hd).trans (same_new ht)) _ _ upd_same) ((same_new ht) _ _ upd_same) upd_same (.cons (hx.same sx) .nil) (.cons (hx.same sx) .nil) (ok_d1 d1 i1)
      clear B q2 s2 ea ed na ndx s0 nL eL X0
      rintro σ0 H0 ⟨L, ts, er, rfl, s0, nL, eL, X0⟩
      have B := R 6 "Faulty" ["fault", "unit"] rfl rfl
      refine ⟨_, rfl, _, rfl, rfl, (show 2 ≤ 1000 by decide), fun a dx H2 na ndx s2 ea ed => ?_⟩
      have q2 : Same H0 H2 := s2
      refine ⟨fun σ H' => ∃ L ts er, σ = [some x, some y, some (.ref L), er] ∧ Same H H' ∧ H L = none ∧ H' L = some (.lst (ts.map V.ref)) ∧ Tds K (del H' L) ts ((ownL.map c).take 7), ⟨_, rfl, .inl ⟨rfl, _, SqL.of (q2 _ _ eL)⟩, _, rfl, _, rfl, a, c "Faulty", dx, _, x, rfl, B.r, B.na "fault" (List.mem_of_getElem? (i := 0) rfl), .inl ⟨ea, ed⟩, rfl, _, rfl, a, c "Faulty", dx, _, y, rfl, B.r, B.na "unit" (List.mem_of_getElem? (i := 1) rfl), .inl ⟨ea, ed⟩, rfl, (show 2 ≤ sizeLine by decide), fun m hm => ?_⟩, ?_⟩
      · refine ⟨_, rfl, _, rfl, (show 2 ≤ sizeLine by decide), fun d hd => ⟨(show 3 ≤ sizeLine by decide), fun t ht => ⟨L, _, _, rfl, rfl, ((q2.trans (same_new hm)).trans ((same_new hd).trans (same_new ht))) _ _ eL, ?_, L, ts ++ [t], _, rfl, ?_, nL, ?_, ?_⟩⟩⟩
        · rw [List.length_map, X0.length]
          exact (by decide : 6 < 16777216)
        · exact same_sub (s0.trans ((q2.trans (same_new hm)).trans ((same_new hd).trans (same_new ht)))) nL
        · rw [upd_same, List.map_append]
          rfl
        · have s3 := (same_new (o := .lst [x, y]) hm).trans ((same_new (o := .lst [x, y]) hd).trans (same_new (o := .tup [.ref a, .ref m, .ref d]) ht))
          have sx := del_new (s0.trans (q2.trans s3)) nL
          exact told_step eL X0 q2 na ndx ea ed s3 (q2.free hm) (q2.free ((same_new hm).free hd)) (q2.free ((same_new hm).free ((same_new hd).free ht))) (((same_new hd).trans (same_new ht)) _ _ upd_same) ((same_new ht) _ _ upd_same) upd_same (.cons (hx.same sx) (.cons (hy.same sx) .nil)) (.cons (hx.same sx) (.cons (hy.same sx) .nil)) (ok_d2 d1 i1 d2 i2)
      clear B q2 s2 ea ed na ndx s0 nL eL X0
      rintro σ0 H0 ⟨L, ts, er, rfl, s0, nL, eL, X0⟩
      have B := R 7 "KindClash" ["clash", "unit"] rfl rfl
      refine ⟨_, rfl, _, rfl, rfl, (show 2 ≤ 1000 by decide), fun a dx H2 na ndx s2 ea ed => ?_⟩
      have q2 : Same H0 H2 := s2
      refine ⟨fun σ H' => ∃ L ts er, σ = [some x, some y, some (.ref L), er] ∧ Same H H' ∧ H L = none ∧ H' L = some (.lst (ts.map V.ref)) ∧ Tds K (del H' L) ts ((ownL.map c).take 8), ⟨_, rfl, .inl ⟨rfl, _, SqL.of (q2 _ _ eL)⟩, _, rfl, _, rfl, a, c "KindClash", dx, _, x, rfl, B.r, B.na "clash" (List.mem_of_getElem? (i := 0) rfl), .inl ⟨ea, ed⟩, rfl, _, rfl, a, c "KindClash", dx, _, y, rfl, B.r, B.na "unit" (List.mem_of_getElem? (i := 1) rfl), .inl ⟨ea, ed⟩, rfl, (show 2 ≤ sizeLine by decide), fun m hm => ?_⟩, ?_⟩
      · refine ⟨_, rfl, _, rfl, (show 2 ≤ sizeLine by decide), fun d hd => ⟨(show 3 ≤ sizeLine by decide), fun t ht => ⟨L, _, _, rfl, rfl, ((q2.trans (same_new hm)).trans ((same_new hd).trans (same_new ht))) _ _ eL, ?_, L, ts ++ [t], _, rfl, ?_, nL, ?_, ?_⟩⟩⟩
        · rw [List.length_map, X0.length]
          exact (by decide : 7 < 16777216)
        · exact same_sub (s0.trans ((q2.trans (same_new hm)).trans ((same_new hd).trans (same_new ht)))) nL
        · rw [upd_same, List.map_append]
          rfl
        · have s3 := (same_new (o := .lst [x, y]) hm).trans ((same_new (o := .lst [x, y]) hd).trans (same_new (o := .tup [.ref a, .ref m, .ref d]) ht))
          have sx := del_new (s0.trans (q2.trans s3)) nL
          exact told_step eL X0 q2 na ndx ea ed s3 (q2.free hm) (q2.free ((same_new hm).free hd)) (q2.free ((same_new hm).free ((same_new hd).free ht))) (((same_new hd).trans (same_new ht)) _ _ upd_same) ((same_new ht) _ _ upd_same) upd_same (.cons (hx.same sx) (.cons (hy.same sx) .nil)) (.cons (hx.same sx) (.cons (hy.same sx) .nil)) (ok_d2 d1 i1 d2 i2)
      clear B q2 s2 ea ed na ndx s0 nL eL X0
      rintro σ0 H0 ⟨L, ts, er, rfl, s0, nL, eL, X0⟩
      have B := R 8 "TwoNames" ["name"] rfl rfl
      refine ⟨_, rfl, rfl, (show 1 ≤ 1000 by decide), fun a dx H2 na ndx s2 ea ed => ?_⟩
      have q2 : Same H0 H2 := s2
      refine ⟨fun σ H' => ∃ L ts er, σ = [some x, some y, some (.ref L), er] ∧ Same H H' ∧ H L = none ∧ H' L = some (.lst (ts.map V.ref)) ∧ Tds K (del H' L) ts ((ownL.map c).take 9), ⟨_, rfl, .inl ⟨rfl, _, SqL.of (q2 _ _ eL)⟩, _, rfl, _, rfl, a, c "TwoNames", dx, _, x, rfl, B.r, B.na "name" (List.mem_of_getElem? (i := 0) rfl), .inl ⟨ea, ed⟩, rfl, (show 1 ≤ sizeLine by decide), fun m hm => ?_⟩, ?_⟩
      · refine ⟨_, rfl, (show 1 ≤ sizeLine by decide), fun d hd => ⟨(show 3 ≤ sizeLine by decide), fun t ht => ⟨L, _, _, rfl, rfl, ((q2.trans (same_new hm)).trans ((same_new hd).trans (same_new ht))) _ _ eL, ?_, L, ts ++ [t], _, rfl, ?_, nL, ?_, ?_⟩⟩⟩
        · rw [List.length_map, X0.length]
          exact (by decide : 8 < 16777216)
        · exact same_sub (s0.trans ((q2.trans (same_new hm)).trans ((same_new hd).trans (same_new ht)))) nL
        · rw [upd_same, List.map_append]
          rfl
        · have s3 := (same_new (o := .lst [x]) hm).trans ((same_new (o := .lst [x]) hd).trans (same_new (o := .tup [.ref a, .ref m, .ref d]) ht))
          have sx := del_new (s0.trans (q2.trans s3)) nL
          exact told_step eL X0 q2 na ndx ea ed s3 (q2.free hm) (q2.free ((same_new hm).free hd)) (q2.free ((same_new hm).free ((same_new hd).free ht))) (((same_new hd).trans (same_new ht)) _ _ upd_same) ((same_new ht) _ _ upd_same) upd_same (.cons (hx.same sx) .nil) (.cons (hx.same sx) .nil) (ok_d1 d1 i1)
      clear B q2 s2 ea ed na ndx s0 nL eL X0
      rintro σ0 H0 ⟨L, ts, er, rfl, s0, nL, eL, X0⟩
      have B := R 9 "NotNow" ["word"] rfl rfl
      refine ⟨_, rfl, rfl, (show 1 ≤ 1000 by decide), fun a dx H2 na ndx s2 ea ed => ?_⟩
      have q2 : Same H0 H2 := s2
      refine ⟨fun σ H' => ∃ L ts er, σ = [some x, some y, some (.ref L), er] ∧ Same H H' ∧ H L = none ∧ H' L = some (.lst (ts.map V.ref)) ∧ Tds K (del H' L) ts ((ownL.map c).take 10), ⟨_, rfl, .inl ⟨rfl, _, SqL.of (q2 _ _ eL)⟩, _, rfl, _, rfl, a, c "NotNow", dx, _, x, rfl, B.r, B.na "word" (List.mem_of_getElem? (i := 0) rfl), .inl ⟨ea, ed⟩, rfl, (show 1 ≤ sizeLine by decide), fun m hm => ?_⟩, ?_⟩
      · refine ⟨_, rfl, (show 1 ≤ sizeLine by decide), fun d hd => ⟨(show 3 ≤ sizeLine by decide), fun t ht => ⟨L, _, _, rfl, rfl, ((q2.trans (same_new hm)).trans ((same_new hd).trans (same_new ht))) _ _ eL, ?_, L, ts ++ [t], _, rfl, ?_, nL, ?_, ?_⟩⟩⟩
        · rw [List.length_map, X0.length]
          exact (by decide : 9 < 16777216)
        · exact same_sub (s0.trans ((q2.trans (same_new hm)).trans ((same_new hd).trans (same_new ht)))) nL
        · rw [upd_same, List.map_append]
          rfl
        · have s3 := (same_new (o := .lst [x]) hm).trans ((same_new (o := .lst [x]) hd).trans (same_new (o := .tup [.ref a, .ref m, .ref d]) ht))
          have sx := del_new (s0.trans (q2.trans s3)) nL
          exact told_step eL X0 q2 na ndx ea ed s3 (q2.free hm) (q2.free ((same_new hm).free hd)) (q2.free ((same_new hm).free ((same_new hd).free ht))) (((same_new hd).trans (same_new ht)) _ _ upd_same) ((same_new ht) _ _ upd_same) upd_same (.cons (hx.same sx) .nil) (.cons (hx.same sx) .nil) (ok_d1 d1 i1)
      clear B q2 s2 ea ed na ndx s0 nL eL X0
      rintro σ0 H0 ⟨L, ts, er, rfl, s0, nL, eL, X0⟩
      have B := R 10 "BadFunctions" ["name"] rfl rfl
      refine ⟨_, rfl, rfl, (show 1 ≤ 1000 by decide), fun a dx H2 na ndx s2 ea ed => ?_⟩
      have q2 : Same H0 H2 := s2
      refine ⟨fun σ H' => ∃ L ts er, σ = [some x, some y, some (.ref L), er] ∧ Same H H' ∧ H L = none ∧ H' L = some (.lst (ts.map V.ref)) ∧ Tds K (del H' L) ts ((ownL.map c).take 11), ⟨_, rfl, .inl ⟨rfl, _, SqL.of (q2 _ _ eL)⟩, _, rfl, _, rfl, a, c "BadFunctions", dx, _, x, rfl, B.r, B.na "name" (List.mem_of_getElem? (i := 0) rfl), .inl ⟨ea, ed⟩, rfl, (show 1 ≤ sizeLine by decide), fun m hm => ?_⟩, ?_⟩
      · refine ⟨_, rfl, (show 1 ≤ sizeLine by decide), fun d hd => ⟨(show 3 ≤ sizeLine by decide), fun t ht => ⟨L, _, _, rfl, rfl, ((q2.trans (same_new hm)).trans ((same_new hd).trans (same_new ht))) _ _ eL, ?_, L, ts ++ [t], _, rfl, ?_, nL, ?_, ?_⟩⟩⟩
        · rw [List.length_map, X0.length]
          exact (by decide : 10 < 16777216)
        · exact same_sub (s0.trans ((q2.trans (same_new hm)).trans ((same_new hd).trans (same_new ht)))) nL
        · rw [upd_same, List.map_append]
          rfl
        · have s3 := (same_new (o := .lst [x]) hm).trans ((same_new (o := .lst [x]) hd).trans (same_new (o := .tup [.ref a, .ref m, .ref d]) ht))
          have sx := del_new (s0.trans (q2.trans s3)) nL
          exact told_step eL X0 q2 na ndx ea ed s3 (q2.free hm) (q2.free ((same_new hm).free hd)) (q2.free ((same_new hm).free ((same_new hd).free ht))) (((same_new hd).trans (same_new ht)) _ _ upd_same) ((same_new ht) _ _ upd_same) upd_same (.cons (hx.same sx) .nil) (.cons (hx.same sx) .nil) (ok_d1 d1 i1)
      clear B q2 s2 ea ed na ndx s0 nL eL X0
      rintro σ0 H0 ⟨L, ts, er, rfl, s0, nL, eL, X0⟩
      have B := R 11 "Unknown" ["name"] rfl rfl
      refine ⟨_, rfl, rfl, (show 1 ≤ 1000 by decide), fun a dx H2 na ndx s2 ea ed => ?_⟩
      have q2 : Same H0 H2 := s2
      refine ⟨fun σ H' => ∃ L ts er, σ = [some x, some y, some (.ref L), er] ∧ Same H H' ∧ H L = none ∧ H' L = some (.lst (ts.map V.ref)) ∧ Tds K (del H' L) ts ((ownL.map c).take 12), ⟨_, rfl, .inl ⟨rfl, _, SqL.of (q2 _ _ eL)⟩, _, rfl, _, rfl, a, c "Unknown", dx, _, x, rfl, B.r, B.na "name" (List.mem_of_getElem? (i := 0) rfl), .inl ⟨ea, ed⟩, rfl, (show 1 ≤ sizeLine by decide), fun m hm => ?_⟩, ?_⟩
      · refine ⟨_, rfl, (show 1 ≤ sizeLine by decide), fun d hd => ⟨(show 3 ≤ sizeLine by decide), fun t ht => ⟨L, _, _, rfl, rfl, ((q2.trans (same_new hm)).trans ((same_new hd).trans (same_new ht))) _ _ eL, ?_, L, ts ++ [t], _, rfl, ?_, nL, ?_, ?_⟩⟩⟩
        · rw [List.length_map, X0.length]
          exact (by decide : 11 < 16777216)
        · exact same_sub (s0.trans ((q2.trans (same_new hm)).trans ((same_new hd).trans (same_new ht)))) nL
        · rw [upd_same, List.map_append]
          rfl
        · have s3 := (same_new (o := .lst [x]) hm).trans ((same_new (o := .lst [x]) hd).trans (same_new (o := .tup [.ref a, .ref m, .ref d]) ht))
          have sx := del_new (s0.trans (q2.trans s3)) nL
          exact told_step eL X0 q2 na ndx ea ed s3 (q2.free hm) (q2.free ((same_new hm).free hd)) (q2.free ((same_new hm).free ((same_new hd).free ht))) (((same_new hd).trans (same_new ht)) _ _ upd_same) ((same_new ht) _ _ upd_same) upd_same (.cons (hx.same sx) .nil) (.cons (hx.same sx) .nil) (ok_d1 d1 i1)
      clear B q2 s2 ea ed na ndx s0 nL eL X0
      rintro σ0 H0 ⟨L, ts, er, rfl, s0, nL, eL, X0⟩
      have B := R 12 "BadCodes" ["at"] rfl rfl
      refine ⟨_, rfl, rfl, (show 1 ≤ 1000 by decide), fun a dx H2 na ndx s2 ea ed => ?_⟩
      have q2 : Same H0 H2 := s2
      refine ⟨fun σ H' => ∃ L ts er, σ = [some x, some y, some (.ref L), er] ∧ Same H H' ∧ H L = none ∧ H' L = some (.lst (ts.map V.ref)) ∧ Tds K (del H' L) ts ((ownL.map c).take 13), ⟨_, rfl, .inl ⟨rfl, _, SqL.of (q2 _ _ eL)⟩, _, rfl, _, rfl, a, c "BadCodes", dx, _, x, rfl, B.r, B.na "at" (List.mem_of_getElem? (i := 0) rfl), .inl ⟨ea, ed⟩, rfl, (show 1 ≤ sizeLine by decide), fun m hm => ?_⟩, ?_⟩
      · refine ⟨_, rfl, (show 1 ≤ sizeLine by decide), fun d hd => ⟨(show 3 ≤ sizeLine by decide), fun t ht => ⟨L, _, _, rfl, rfl, ((q2.trans (same_new hm)).trans ((same_new hd).trans (same_new ht))) _ _ eL, ?_, L, ts ++ [t], _, rfl, ?_, nL, ?_, ?_⟩⟩⟩
        · rw [List.length_map, X0.length]
          exact (by decide : 12 < 16777216)
        · exact same_sub (s0.trans ((q2.trans (same_new hm)).trans ((same_new hd).trans (same_new ht)))) nL
        · rw [upd_same, List.map_append]
          rfl
        · have s3 := (same_new (o := .lst [x]) hm).trans ((same_new (o := .lst [x]) hd).trans (same_new (o := .tup [.ref a, .ref m, .ref d]) ht))
          have sx := del_new (s0.trans (q2.trans s3)) nL
          exact told_step eL X0 q2 na ndx ea ed s3 (q2.free hm) (q2.free ((same_new hm).free hd)) (q2.free ((same_new hm).free ((same_new hd).free ht))) (((same_new hd).trans (same_new ht)) _ _ upd_same) ((same_new ht) _ _ upd_same) upd_same (.cons (hx.same sx) .nil) (.cons (hx.same sx) .nil) (ok_d1 d1 i1)
      clear B q2 s2 ea ed na ndx s0 nL eL X0
      rintro σ0 H0 ⟨L, ts, er, rfl, s0, nL, eL, X0⟩
      have B := R 13 "Refused" ["why"] rfl rfl
      refine ⟨_, rfl, rfl, (show 1 ≤ 1000 by decide), fun a dx H2 na ndx s2 ea ed => ?_⟩
      have q2 : Same H0 H2 := s2
      refine ⟨fun σ H' => ∃ L ts er, σ = [some x, some y, some (.ref L), er] ∧ Same H H' ∧ H L = none ∧ H' L = some (.lst (ts.map V.ref)) ∧ Tds K (del H' L) ts ((ownL.map c).take 14), ⟨_, rfl, .inl ⟨rfl, _, SqL.of (q2 _ _ eL)⟩, _, rfl, _, rfl, a, c "Refused", dx, _, x, rfl, B.r, B.na "why" (List.mem_of_getElem? (i := 0) rfl), .inl ⟨ea, ed⟩, rfl, (show 1 ≤ sizeLine by decide), fun m hm => ?_⟩, ?_⟩
      · refine ⟨_, rfl, (show 1 ≤ sizeLine by decide), fun d hd => ⟨(show 3 ≤ sizeLine by decide), fun t ht => ⟨L, _, _, rfl, rfl, ((q2.trans (same_new hm)).trans ((same_new hd).trans (same_new ht))) _ _ eL, ?_, L, ts ++ [t], _, rfl, ?_, nL, ?_, ?_⟩⟩⟩
        · rw [List.length_map, X0.length]
          exact (by decide : 13 < 16777216)
        · exact same_sub (s0.trans ((q2.trans (same_new hm)).trans ((same_new hd).trans (same_new ht)))) nL
        · rw [upd_same, List.map_append]
          rfl
        · have s3 := (same_new (o := .lst [x]) hm).trans ((same_new (o := .lst [x]) hd).trans (same_new (o := .tup [.ref a, .ref m, .ref d]) ht))
          have sx := del_new (s0.trans (q2.trans s3)) nL
          exact told_step eL X0 q2 na ndx ea ed s3 (q2.free hm) (q2.free ((same_new hm).free hd)) (q2.free ((same_new hm).free ((same_new hd).free ht))) (((same_new hd).trans (same_new ht)) _ _ upd_same) ((same_new ht) _ _ upd_same) upd_same (.cons (hx.same sx) .nil) (.cons (hx.same sx) .nil) (ok_d1 d1 i1)
      clear B q2 s2 ea ed na ndx s0 nL eL X0
      rintro σ0 H0 ⟨L, ts, er, rfl, s0, nL, eL, X0⟩
      have B := R 14 "BadRows" ["at"] rfl rfl
      refine ⟨_, rfl, rfl, (show 1 ≤ 1000 by decide), fun a dx H2 na ndx s2 ea ed => ?_⟩
      have q2 : Same H0 H2 := s2
      refine ⟨fun σ H' => ∃ L ts er, σ = [some x, some y, some (.ref L), er] ∧ Same H H' ∧ H L = none ∧ H' L = some (.lst (ts.map V.ref)) ∧ Tds K (del H' L) ts ((ownL.map c).take 15), ⟨_, rfl, .inl ⟨rfl, _, SqL.of (q2 _ _ eL)⟩, _, rfl, _, rfl, a, c "BadRows", dx, _, x, rfl, B.r, B.na "at" (List.mem_of_getElem? (i := 0) rfl), .inl ⟨ea, ed⟩, rfl, (show 1 ≤ sizeLine by decide), fun m hm => ?_⟩, ?_⟩
      · refine ⟨_, rfl, (show 1 ≤ sizeLine by decide), fun d hd => ⟨(show 3 ≤ sizeLine by decide), fun t ht => ⟨L, _, _, rfl, rfl, ((q2.trans (same_new hm)).trans ((same_new hd).trans (same_new ht))) _ _ eL, ?_, L, ts ++ [t], _, rfl, ?_, nL, ?_, ?_⟩⟩⟩
        · rw [List.length_map, X0.length]
          exact (by decide : 14 < 16777216)
        · exact same_sub (s0.trans ((q2.trans (same_new hm)).trans ((same_new hd).trans (same_new ht)))) nL
        · rw [upd_same, List.map_append]
          rfl
        · have s3 := (same_new (o := .lst [x]) hm).trans ((same_new (o := .lst [x]) hd).trans (same_new (o := .tup [.ref a, .ref m, .ref d]) ht))
          have sx := del_new (s0.trans (q2.trans s3)) nL
          exact told_step eL X0 q2 na ndx ea ed s3 (q2.free hm) (q2.free ((same_new hm).free hd)) (q2.free ((same_new hm).free ((same_new hd).free ht))) (((same_new hd).trans (same_new ht)) _ _ upd_same) ((same_new ht) _ _ upd_same) upd_same (.cons (hx.same sx) .nil) (.cons (hx.same sx) .nil) (ok_d1 d1 i1)
      clear B q2 s2 ea ed na ndx s0 nL eL X0
      rintro σ0 H0 ⟨L, ts, er, rfl, s0, nL, eL, X0⟩
      have B := R 15 "BadSpans" ["at"] rfl rfl
      refine ⟨_, rfl, rfl, (show 1 ≤ 1000 by decide), fun a dx H2 na ndx s2 ea ed => ?_⟩
      have q2 : Same H0 H2 := s2
      refine ⟨fun σ H' => ∃ L ts er, σ = [some x, some y, some (.ref L), er] ∧ Same H H' ∧ H L = none ∧ H' L = some (.lst (ts.map V.ref)) ∧ Tds K (del H' L) ts ((ownL.map c).take 16), ⟨_, rfl, .inl ⟨rfl, _, SqL.of (q2 _ _ eL)⟩, _, rfl, _, rfl, a, c "BadSpans", dx, _, x, rfl, B.r, B.na "at" (List.mem_of_getElem? (i := 0) rfl), .inl ⟨ea, ed⟩, rfl, (show 1 ≤ sizeLine by decide), fun m hm => ?_⟩, ?_⟩
      · refine ⟨_, rfl, (show 1 ≤ sizeLine by decide), fun d hd => ⟨(show 3 ≤ sizeLine by decide), fun t ht => ⟨L, _, _, rfl, rfl, ((q2.trans (same_new hm)).trans ((same_new hd).trans (same_new ht))) _ _ eL, ?_, L, ts ++ [t], _, rfl, ?_, nL, ?_, ?_⟩⟩⟩
        · rw [List.length_map, X0.length]
          exact (by decide : 15 < 16777216)
        · exact same_sub (s0.trans ((q2.trans (same_new hm)).trans ((same_new hd).trans (same_new ht)))) nL
        · rw [upd_same, List.map_append]
          rfl
        · have s3 := (same_new (o := .lst [x]) hm).trans ((same_new (o := .lst [x]) hd).trans (same_new (o := .tup [.ref a, .ref m, .ref d]) ht))
          have sx := del_new (s0.trans (q2.trans s3)) nL
          exact told_step eL X0 q2 na ndx ea ed s3 (q2.free hm) (q2.free ((same_new hm).free hd)) (q2.free ((same_new hm).free ((same_new hd).free ht))) (((same_new hd).trans (same_new ht)) _ _ upd_same) ((same_new ht) _ _ upd_same) upd_same (.cons (hx.same sx) .nil) (.cons (hx.same sx) .nil) (ok_d1 d1 i1)
      clear B q2 s2 ea ed na ndx s0 nL eL X0
      rintro σ0 H0 ⟨L, ts, er, rfl, s0, nL, eL, X0⟩
      have B := R 16 "BadPairs" ["at"] rfl rfl
      refine ⟨_, rfl, rfl, (show 1 ≤ 1000 by decide), fun a dx H2 na ndx s2 ea ed => ?_⟩
      have q2 : Same H0 H2 := s2
      refine ⟨fun σ H' => ∃ L ts er, σ = [some x, some y, some (.ref L), er] ∧ Same H H' ∧ H L = none ∧ H' L = some (.lst (ts.map V.ref)) ∧ Tds K (del H' L) ts ((ownL.map c).take 17), ⟨_, rfl, .inl ⟨rfl, _, SqL.of (q2 _ _ eL)⟩, _, rfl, _, rfl, a, c "BadPairs", dx, _, x, rfl, B.r, B.na "at" (List.mem_of_getElem? (i := 0) rfl), .inl ⟨ea, ed⟩, rfl, (show 1 ≤ sizeLine by decide), fun m hm => ?_⟩, ?_⟩
      · refine ⟨_, rfl, (show 1 ≤ sizeLine by decide), fun d hd => ⟨(show 3 ≤ sizeLine by decide), fun t ht => ⟨L, _, _, rfl, rfl, ((q2.trans (same_new hm)).trans ((same_new hd).trans (same_new ht))) _ _ eL, ?_, L, ts ++ [t], _, rfl, ?_, nL, ?_, ?_⟩⟩⟩
        · rw [List.length_map, X0.length]
          exact (by decide : 16 < 16777216)
        · exact same_sub (s0.trans ((q2.trans (same_new hm)).trans ((same_new hd).trans (same_new ht)))) nL
        · rw [upd_same, List.map_append]
          rfl
        · have s3 := (same_new (o := .lst [x]) hm).trans ((same_new (o := .lst [x]) hd).trans (same_new (o := .tup [.ref a, .ref m, .ref d]) ht))
          have sx := del_new (s0.trans (q2.trans s3)) nL
          exact told_step eL X0 q2 na ndx ea ed s3 (q2.free hm) (q2.free ((same_new hm).free hd)) (q2.free ((same_new hm).free ((same_new hd).free ht))) (((same_new hd).trans (same_new ht)) _ _ upd_same) ((same_new ht) _ _ upd_same) upd_same (.cons (hx.same sx) .nil) (.cons (hx.same sx) .nil) (ok_d1 d1 i1)
      clear B q2 s2 ea ed na ndx s0 nL eL X0
      rintro σ0 H0 ⟨L, ts, er, rfl, s0, nL, eL, X0⟩
      have B := R 17 "BadChanges" ["at"] rfl rfl
      refine ⟨_, rfl, rfl, (show 1 ≤ 1000 by decide), fun a dx H2 na ndx s2 ea ed => ?_⟩
      have q2 : Same H0 H2 := s2
      refine ⟨fun σ H' => ∃ L ts er, σ = [some x, some y, some (.ref L), er] ∧ Same H H' ∧ H L = none ∧ H' L = some (.lst (ts.map V.ref)) ∧ Tds K (del H' L) ts ((ownL.map c).take 18), ⟨_, rfl, .inl ⟨rfl, _, SqL.of (q2 _ _ eL)⟩, _, rfl, _, rfl, a, c "BadChanges", dx, _, x, rfl, B.r, B.na "at" (List.mem_of_getElem? (i := 0) rfl), .inl ⟨ea, ed⟩, rfl, (show 1 ≤ sizeLine by decide), fun m hm => ?_⟩, ?_⟩
      · refine ⟨_, rfl, (show 1 ≤ sizeLine by decide), fun d hd => ⟨(show 3 ≤ sizeLine by decide), fun t ht => ⟨L, _, _, rfl, rfl, ((q2.trans (same_new hm)).trans ((same_new hd).trans (same_new ht))) _ _ eL, ?_, L, ts ++ [t], _, rfl, ?_, nL, ?_, ?_⟩⟩⟩
        · rw [List.length_map, X0.length]
          exact (by decide : 17 < 16777216)
        · exact same_sub (s0.trans ((q2.trans (same_new hm)).trans ((same_new hd).trans (same_new ht)))) nL
        · rw [upd_same, List.map_append]
          rfl
        · have s3 := (same_new (o := .lst [x]) hm).trans ((same_new (o := .lst [x]) hd).trans (same_new (o := .tup [.ref a, .ref m, .ref d]) ht))
          have sx := del_new (s0.trans (q2.trans s3)) nL
          exact told_step eL X0 q2 na ndx ea ed s3 (q2.free hm) (q2.free ((same_new hm).free hd)) (q2.free ((same_new hm).free ((same_new hd).free ht))) (((same_new hd).trans (same_new ht)) _ _ upd_same) ((same_new ht) _ _ upd_same) upd_same (.cons (hx.same sx) .nil) (.cons (hx.same sx) .nil) (ok_d1 d1 i1)
      clear B q2 s2 ea ed na ndx s0 nL eL X0
      rintro σ0 H0 ⟨L, ts, er, rfl, s0, nL, eL, X0⟩
      have B := R 18 "NotTold" ["name"] rfl rfl
      refine ⟨_, rfl, rfl, (show 1 ≤ 1000 by decide), fun a dx H2 na ndx s2 ea ed => ?_⟩
      have q2 : Same H0 H2 := s2
      refine ⟨fun σ H' => ∃ L ts er, σ = [some x, some y, some (.ref L), er] ∧ Same H H' ∧ H L = none ∧ H' L = some (.lst (ts.map V.ref)) ∧ Tds K (del H' L) ts ((ownL.map c).take 19), ⟨_, rfl, .inl ⟨rfl, _, SqL.of (q2 _ _ eL)⟩, _, rfl, _, rfl, a, c "NotTold", dx, _, x, rfl, B.r, B.na "name" (List.mem_of_getElem? (i := 0) rfl), .inl ⟨ea, ed⟩, rfl, (show 1 ≤ sizeLine by decide), fun m hm => ?_⟩, ?_⟩
      · refine ⟨_, rfl, (show 1 ≤ sizeLine by decide), fun d hd => ⟨(show 3 ≤ sizeLine by decide), fun t ht => ⟨L, _, _, rfl, rfl, ((q2.trans (same_new hm)).trans ((same_new hd).trans (same_new ht))) _ _ eL, ?_, L, ts ++ [t], _, rfl, ?_, nL, ?_, ?_⟩⟩⟩
        · rw [List.length_map, X0.length]
          exact (by decide : 18 < 16777216)
        · exact same_sub (s0.trans ((q2.trans (same_new hm)).trans ((same_new hd).trans (same_new ht)))) nL
        · rw [upd_same, List.map_append]
          rfl
        · have s3 := (same_new (o := .lst [x]) hm).trans ((same_new (o := .lst [x]) hd).trans (same_new (o := .tup [.ref a, .ref m, .ref d]) ht))
          have sx := del_new (s0.trans (q2.trans s3)) nL
          exact told_step eL X0 q2 na ndx ea ed s3 (q2.free hm) (q2.free ((same_new hm).free hd)) (q2.free ((same_new hm).free ((same_new hd).free ht))) (((same_new hd).trans (same_new ht)) _ _ upd_same) ((same_new ht) _ _ upd_same) upd_same (.cons (hx.same sx) .nil) (.cons (hx.same sx) .nil) (ok_d1 d1 i1)
      clear B q2 s2 ea ed na ndx s0 nL eL X0
      rintro σ0 H0 ⟨L, ts, er, rfl, s0, nL, eL, X0⟩
      have B := R 19 "BadObject" ["at"] rfl rfl
      refine ⟨_, rfl, rfl, (show 1 ≤ 1000 by decide), fun a dx H2 na ndx s2 ea ed => ?_⟩
      have q2 : Same H0 H2 := s2
      refine ⟨fun σ H' => ∃ L ts er, σ = [some x, some y, some (.ref L), er] ∧ Same H H' ∧ H L = none ∧ H' L = some (.lst (ts.map V.ref)) ∧ Tds K (del H' L) ts ((ownL.map c).take 20), ⟨_, rfl, .inl ⟨rfl, _, SqL.of (q2 _ _ eL)⟩, _, rfl, _, rfl, a, c "BadObject", dx, _, x, rfl, B.r, B.na "at" (List.mem_of_getElem? (i := 0) rfl), .inl ⟨ea, ed⟩, rfl, (show 1 ≤ sizeLine by decide), fun m hm => ?_⟩, ?_⟩
      · refine ⟨_, rfl, (show 1 ≤ sizeLine by decide), fun d hd => ⟨(show 3 ≤ sizeLine by decide), fun t ht => ⟨L, _, _, rfl, rfl, ((q2.trans (same_new hm)).trans ((same_new hd).trans (same_new ht))) _ _ eL, ?_, L, ts ++ [t], _, rfl, ?_, nL, ?_, ?_⟩⟩⟩
        · rw [List.length_map, X0.length]
          exact (by decide : 19 < 16777216)
        · exact same_sub (s0.trans ((q2.trans (same_new hm)).trans ((same_new hd).trans (same_new ht)))) nL
        · rw [upd_same, List.map_append]
          rfl
        · have s3 := (same_new (o := .lst [x]) hm).trans ((same_new (o := .lst [x]) hd).trans (same_new (o := .tup [.ref a, .ref m, .ref d]) ht))
          have sx := del_new (s0.trans (q2.trans s3)) nL
          exact told_step eL X0 q2 na ndx ea ed s3 (q2.free hm) (q2.free ((same_new hm).free hd)) (q2.free ((same_new hm).free ((same_new hd).free ht))) (((same_new hd).trans (same_new ht)) _ _ upd_same) ((same_new ht) _ _ upd_same) upd_same (.cons (hx.same sx) .nil) (.cons (hx.same sx) .nil) (ok_d1 d1 i1)
      clear B q2 s2 ea ed na ndx s0 nL eL X0
      rintro σ0 H0 ⟨L, ts, er, rfl, s0, nL, eL, X0⟩
      have B := R 20 "BadObjects" ["name"] rfl rfl
      refine ⟨_, rfl, rfl, (show 1 ≤ 1000 by decide), fun a dx H2 na ndx s2 ea ed => ?_⟩
      have q2 : Same H0 H2 := s2
      refine ⟨fun σ H' => ∃ L ts er, σ = [some x, some y, some (.ref L), er] ∧ Same H H' ∧ H L = none ∧ H' L = some (.lst (ts.map V.ref)) ∧ Tds K (del H' L) ts ((ownL.map c).take 21), ⟨_, rfl, .inl ⟨rfl, _, SqL.of (q2 _ _ eL)⟩, _, rfl, _, rfl, a, c "BadObjects", dx, _, x, rfl, B.r, B.na "name" (List.mem_of_getElem? (i := 0) rfl), .inl ⟨ea, ed⟩, rfl, (show 1 ≤ sizeLine by decide), fun m hm => ?_⟩, ?_⟩
      · refine ⟨_, rfl, (show 1 ≤ sizeLine by decide), fun d hd => ⟨(show 3 ≤ sizeLine by decide), fun t ht => ⟨L, _, _, rfl, rfl, ((q2.trans (same_new hm)).trans ((same_new hd).trans (same_new ht))) _ _ eL, ?_, L, ts ++ [t], _, rfl, ?_, nL, ?_, ?_⟩⟩⟩
        · rw [List.length_map, X0.length]
          exact (by decide : 20 < 16777216)
        · exact same_sub (s0.trans ((q2.trans (same_new hm)).trans ((same_new hd).trans (same_new ht)))) nL
        · rw [upd_same, List.map_append]
          rfl
        · have s3 := (same_new (o := .lst [x]) hm).trans ((same_new (o := .lst [x]) hd).trans (same_new (o := .tup [.ref a, .ref m, .ref d]) ht))
          have sx := del_new (s0.trans (q2.trans s3)) nL
          exact told_step eL X0 q2 na ndx ea ed s3 (q2.free hm) (q2.free ((same_new hm).free hd)) (q2.free ((same_new hm).free ((same_new hd).free ht))) (((same_new hd).trans (same_new ht)) _ _ upd_same) ((same_new ht) _ _ upd_same) upd_same (.cons (hx.same sx) .nil) (.cons (hx.same sx) .nil) (ok_d1 d1 i1)
      clear B q2 s2 ea ed na ndx s0 nL eL X0
      rintro σ0 H0 ⟨L, ts, er, rfl, s0, nL, eL, X0⟩
      have B := R 21 "TwoUnits" ["name"] rfl rfl
      refine ⟨_, rfl, rfl, (show 1 ≤ 1000 by decide), fun a dx H2 na ndx s2 ea ed => ?_⟩
      have q2 : Same H0 H2 := s2
      refine ⟨fun σ H' => ∃ L ts er, σ = [some x, some y, some (.ref L), er] ∧ Same H H' ∧ H L = none ∧ H' L = some (.lst (ts.map V.ref)) ∧ Tds K (del H' L) ts ((ownL.map c).take 22), ⟨_, rfl, .inl ⟨rfl, _, SqL.of (q2 _ _ eL)⟩, _, rfl, _, rfl, a, c "TwoUnits", dx, _, x, rfl, B.r, B.na "name" (List.mem_of_getElem? (i := 0) rfl), .inl ⟨ea, ed⟩, rfl, (show 1 ≤ sizeLine by decide), fun m hm => ?_⟩, ?_⟩
      · refine ⟨_, rfl, (show 1 ≤ sizeLine by decide), fun d hd => ⟨(show 3 ≤ sizeLine by decide), fun t ht => ⟨L, _, _, rfl, rfl, ((q2.trans (same_new hm)).trans ((same_new hd).trans (same_new ht))) _ _ eL, ?_, L, ts ++ [t], _, rfl, ?_, nL, ?_, ?_⟩⟩⟩
        · rw [List.length_map, X0.length]
          exact (by decide : 21 < 16777216)
        · exact same_sub (s0.trans ((q2.trans (same_new hm)).trans ((same_new hd).trans (same_new ht)))) nL
        · rw [upd_same, List.map_append]
          rfl
        · have s3 := (same_new (o := .lst [x]) hm).trans ((same_new (o := .lst [x]) hd).trans (same_new (o := .tup [.ref a, .ref m, .ref d]) ht))
          have sx := del_new (s0.trans (q2.trans s3)) nL
          exact told_step eL X0 q2 na ndx ea ed s3 (q2.free hm) (q2.free ((same_new hm).free hd)) (q2.free ((same_new hm).free ((same_new hd).free ht))) (((same_new hd).trans (same_new ht)) _ _ upd_same) ((same_new ht) _ _ upd_same) upd_same (.cons (hx.same sx) .nil) (.cons (hx.same sx) .nil) (ok_d1 d1 i1)
      clear B q2 s2 ea ed na ndx s0 nL eL X0
      rintro σ0 H0 ⟨L, ts, er, rfl, s0, nL, eL, X0⟩
      have B := R 22 "Missing" ["unit"] rfl rfl
      refine ⟨_, rfl, rfl, (show 1 ≤ 1000 by decide), fun a dx H2 na ndx s2 ea ed => ?_⟩
      have q2 : Same H0 H2 := s2
      refine ⟨fun σ H' => ∃ L ts er, σ = [some x, some y, some (.ref L), er] ∧ Same H H' ∧ H L = none ∧ H' L = some (.lst (ts.map V.ref)) ∧ Tds K (del H' L) ts ((ownL.map c).take 23), ⟨_, rfl, .inl ⟨rfl, _, SqL.of (q2 _ _ eL)⟩, _, rfl, _, rfl, a, c "Missing", dx, _, x, rfl, B.r, B.na "unit" (List.mem_of_getElem? (i := 0) rfl), .inl ⟨ea, ed⟩, rfl, (show 1 ≤ sizeLine by decide), fun m hm => ?_⟩, ?_⟩
      · refine ⟨_, rfl, (show 1 ≤ sizeLine by decide), fun d hd => ⟨(show 3 ≤ sizeLine by decide), fun t ht => ⟨L, _, _, rfl, rfl, ((q2.trans (same_new hm)).trans ((same_new hd).trans (same_new ht))) _ _ eL, ?_, L, ts ++ [t], _, rfl, ?_, nL, ?_, ?_⟩⟩⟩
        · rw [List.length_map, X0.length]
          exact (by decide : 22 < 16777216)
        · exact same_sub (s0.trans ((q2.trans (same_new hm)).trans ((same_new hd).trans (same_new ht)))) nL
        · rw [upd_same, List.map_append]
          rfl
        · have s3 := (same_new (o := .lst [x]) hm).trans ((same_new (o := .lst [x]) hd).trans (same_new (o := .tup [.ref a, .ref m, .ref d]) ht))
          have sx := del_new (s0.trans (q2.trans s3)) nL
          exact told_step eL X0 q2 na ndx ea ed s3 (q2.free hm) (q2.free ((same_new hm).free hd)) (q2.free ((same_new hm).free ((same_new hd).free ht))) (((same_new hd).trans (same_new ht)) _ _ upd_same) ((same_new ht) _ _ upd_same) upd_same (.cons (hx.same sx) .nil) (.cons (hx.same sx) .nil) (ok_d1 d1 i1)
      clear B q2 s2 ea ed na ndx s0 nL eL X0
      rintro σ0 H0 ⟨L, ts, er, rfl, s0, nL, eL, X0⟩
      have B := R 23 "OtherFace" ["unit"] rfl rfl
      refine ⟨_, rfl, rfl, (show 1 ≤ 1000 by decide), fun a dx H2 na ndx s2 ea ed => ?_⟩
      have q2 : Same H0 H2 := s2
      refine ⟨fun σ H' => ∃ L ts er, σ = [some x, some y, some (.ref L), er] ∧ Same H H' ∧ H L = none ∧ H' L = some (.lst (ts.map V.ref)) ∧ Tds K (del H' L) ts ((ownL.map c).take 24), ⟨_, rfl, .inl ⟨rfl, _, SqL.of (q2 _ _ eL)⟩, _, rfl, _, rfl, a, c "OtherFace", dx, _, x, rfl, B.r, B.na "unit" (List.mem_of_getElem? (i := 0) rfl), .inl ⟨ea, ed⟩, rfl, (show 1 ≤ sizeLine by decide), fun m hm => ?_⟩, ?_⟩
      · refine ⟨_, rfl, (show 1 ≤ sizeLine by decide), fun d hd => ⟨(show 3 ≤ sizeLine by decide), fun t ht => ⟨L, _, _, rfl, rfl, ((q2.trans (same_new hm)).trans ((same_new hd).trans (same_new ht))) _ _ eL, ?_, L, ts ++ [t], _, rfl, ?_, nL, ?_, ?_⟩⟩⟩
        · rw [List.length_map, X0.length]
          exact (by decide : 23 < 16777216)
        · exact same_sub (s0.trans ((q2.trans (same_new hm)).trans ((same_new hd).trans (same_new ht)))) nL
        · rw [upd_same, List.map_append]
          rfl
        · have s3 := (same_new (o := .lst [x]) hm).trans ((same_new (o := .lst [x]) hd).trans (same_new (o := .tup [.ref a, .ref m, .ref d]) ht))
          have sx := del_new (s0.trans (q2.trans s3)) nL
          exact told_step eL X0 q2 na ndx ea ed s3 (q2.free hm) (q2.free ((same_new hm).free hd)) (q2.free ((same_new hm).free ((same_new hd).free ht))) (((same_new hd).trans (same_new ht)) _ _ upd_same) ((same_new ht) _ _ upd_same) upd_same (.cons (hx.same sx) .nil) (.cons (hx.same sx) .nil) (ok_d1 d1 i1)
      clear B q2 s2 ea ed na ndx s0 nL eL X0
      rintro σ0 H0 ⟨L, ts, er, rfl, s0, nL, eL, X0⟩
      have B := R 24 "BadBits" ["at"] rfl rfl
      refine ⟨_, rfl, rfl, (show 1 ≤ 1000 by decide), fun a dx H2 na ndx s2 ea ed => ?_⟩
      have q2 : Same H0 H2 := s2
      refine ⟨fun σ H' => ∃ L ts er, σ = [some x, some y, some (.ref L), er] ∧ Same H H' ∧ H L = none ∧ H' L = some (.lst (ts.map V.ref)) ∧ Tds K (del H' L) ts ((ownL.map c).take 25), ⟨_, rfl, .inl ⟨rfl, _, SqL.of (q2 _ _ eL)⟩, _, rfl, _, rfl, a, c "BadBits", dx, _, x, rfl, B.r, B.na "at" (List.mem_of_getElem? (i := 0) rfl), .inl ⟨ea, ed⟩, rfl, (show 1 ≤ sizeLine by decide), fun m hm => ?_⟩, ?_⟩
      · refine ⟨_, rfl, (show 1 ≤ sizeLine by decide), fun d hd => ⟨(show 3 ≤ sizeLine by decide), fun t ht => ⟨L, _, _, rfl, rfl, ((q2.trans (same_new hm)).trans ((same_new hd).trans (same_new ht))) _ _ eL, ?_, L, ts ++ [t], _, rfl, ?_, nL, ?_, ?_⟩⟩⟩
        · rw [List.length_map, X0.length]
          exact (by decide : 24 < 16777216)
        · exact same_sub (s0.trans ((q2.trans (same_new hm)).trans ((same_new hd).trans (same_new ht)))) nL
        · rw [upd_same, List.map_append]
          rfl
        · have s3 := (same_new (o := .lst [x]) hm).trans ((same_new (o := .lst [x]) hd).trans (same_new (o := .tup [.ref a, .ref m, .ref d]) ht))
          have sx := del_new (s0.trans (q2.trans s3)) nL
          exact told_step eL X0 q2 na ndx ea ed s3 (q2.free hm) (q2.free ((same_new hm).free hd)) (q2.free ((same_new hm).free ((same_new hd).free ht))) (((same_new hd).trans (same_new ht)) _ _ upd_same) ((same_new ht) _ _ upd_same) upd_same (.cons (hx.same sx) .nil) (.cons (hx.same sx) .nil) (ok_d1 d1 i1)
      clear B q2 s2 ea ed na ndx s0 nL eL X0
      rintro σ0 H0 ⟨L, ts, er, rfl, s0, nL, eL, X0⟩
      have B := R 25 "BadInstruction" ["at"] rfl rfl
      refine ⟨_, rfl, rfl, (show 1 ≤ 1000 by decide), fun a dx H2 na ndx s2 ea ed => ?_⟩
      have q2 : Same H0 H2 := s2
      refine ⟨fun σ H' => ∃ L ts er, σ = [some x, some y, some (.ref L), er] ∧ Same H H' ∧ H L = none ∧ H' L = some (.lst (ts.map V.ref)) ∧ Tds K (del H' L) ts ((ownL.map c).take 26), ⟨_, rfl, .inl ⟨rfl, _, SqL.of (q2 _ _ eL)⟩, _, rfl, _, rfl, a, c "BadInstruction", dx, _, x, rfl, B.r, B.na "at" (List.mem_of_getElem? (i := 0) rfl), .inl ⟨ea, ed⟩, rfl, (show 1 ≤ sizeLine by decide), fun m hm => ?_⟩, ?_⟩
      · refine ⟨_, rfl, (show 1 ≤ sizeLine by decide), fun d hd => ⟨(show 3 ≤ sizeLine by decide), fun t ht => ⟨L, _, _, rfl, rfl, ((q2.trans (same_new hm)).trans ((same_new hd).trans (same_new ht))) _ _ eL, ?_, L, ts ++ [t], _, rfl, ?_, nL, ?_, ?_⟩⟩⟩
        · rw [List.length_map, X0.length]
          exact (by decide : 25 < 16777216)
        · exact same_sub (s0.trans ((q2.trans (same_new hm)).trans ((same_new hd).trans (same_new ht)))) nL
        · rw [upd_same, List.map_append]
          rfl
        · have s3 := (same_new (o := .lst [x]) hm).trans ((same_new (o := .lst [x]) hd).trans (same_new (o := .tup [.ref a, .ref m, .ref d]) ht))
          have sx := del_new (s0.trans (q2.trans s3)) nL
          exact told_step eL X0 q2 na ndx ea ed s3 (q2.free hm) (q2.free ((same_new hm).free hd)) (q2.free ((same_new hm).free ((same_new hd).free ht))) (((same_new hd).trans (same_new ht)) _ _ upd_same) ((same_new ht) _ _ upd_same) upd_same (.cons (hx.same sx) .nil) (.cons (hx.same sx) .nil) (ok_d1 d1 i1)
      clear B q2 s2 ea ed na ndx s0 nL eL X0
      rintro σ0 H0 ⟨L, ts, er, rfl, s0, nL, eL, X0⟩
      refine ⟨_, rfl, k _ L ts s0 nL eL ?_⟩
      rw [show (ownL.map c).take 26 = ownL.map c from rfl] at X0
      exact X0.same (del_sub _ _)
end
/-! ## the visible heap grows -/
theorem Dw.mk {t : Nat} {V0 H : Hp} {d p : Addr} {o : HO} (h : Dw t V0 H d) (hp : H p = none) : ∃ V', Dw t V' (upd H p o) d ∧ Same V0 V' ∧ V' p = some o :=
  ⟨upd V0 p o, h.new hp, same_new (h.same.free hp), upd_same⟩
theorem Dw.grow {t : Nat} {V0 H H1 : Hp} {d : Addr} (h : Dw t V0 H d) (e : Same H H1) : ∃ V', Dw t V' H1 d ∧ Same V0 V' ∧ ∀ b o, H b = none → H1 b = some o → V' b = some o := by
  obtain ⟨s, w, c, ws, cs, rest, turn, h1, h2, h3, ht, D⟩ := h
  have D1 := D.same e
  have hid : ∀ b, H b = none → ¬ (b = d ∨ b = w ∨ b = c) := fun b q => by
    rintro (z | z | z) <;> subst z
    · rw [D.hd] at q; cases q
    · rw [D.hw] at q; cases q
    · rw [D.hc] at q; cases q
  have sm : Same V0 (fun b => if b = d ∨ b = w ∨ b = c then none else H1 b) := fun b o q => by
    have hb : ¬ (b = d ∨ b = w ∨ b = c) := by
      rintro (z | z | z) <;> subst z
      · rw [h1] at q; cases q
      · rw [h2] at q; cases q
      · rw [h3] at q; cases q
    simp only [if_neg hb]
    exact e _ _ (s _ _ q)
  refine ⟨fun b => if b = d ∨ b = w ∨ b = c then none else H1 b, ⟨fun b o q => ?_, w, c, ws, cs, rest, turn, if_pos (.inl rfl), if_pos (.inr (.inl rfl)), if_pos (.inr (.inr rfl)), ht, D1⟩, sm, fun b o q n => ?_⟩
  · by_cases hb : b = d ∨ b = w ∨ b = c
    · simp only [if_pos hb] at q
      cases q
    · simp only [if_neg hb] at q
      exact q
  · simp only [if_neg (hid b q)]
    exact n/-! ## rules that mention X.K, with K told (for comprehensions) -/
theorem ix_seqK {X : Cx} {K : PySem.W.Frag} (e : X.K = K := by rfl) : IxR X (rIx K) := by
  subst e
  exact ix_seq
def rLenK (K : PySem.W.Frag) : List V → Hp → VK → Prop := fun xs H Q => ∃ x n, xs = [x] ∧ LenV K x H n ∧ Q (.int n) H
theorem call_lenK {X : Cx} {K : PySem.W.Frag} (e : X.K = K := by rfl) : CallR X (.builtin "len") (rLenK K) := by
  subst e
  exact call_len
theorem call_isiK {X : Cx} {K : PySem.W.Frag} (e : X.K = K := by rfl) : CallR X (.builtin "isinstance") (rIsi K) := by
  subst e
  exact call_isi
/-! ## the law -/
theorem Room.u101 {k : Nat} {A : Around} (r : Room k A) : A.units + 101 < cLine := by have := r.un; omega
theorem iteNe {a b : V} {A B : Prop} (e : a = b) (h : B) : if (!decide (a = b)) = true then A else B := by
  rw [decide_eq_true e]
  exact iteF h
def Cal (P : Program) (w : World) (K : PySem.W.Frag) (mg : Str → Option Value) (base : Heap) (k : Nat) (x : Str) (ps : List Str) (sp : Sp) : Prop :=
  ∃ (f : Addr) (fd : FuncData), mg x = some (.ref f) ∧ PySem.W.keepIn K (.ref f) = true ∧ Binds K fd ps [] ∧ FnOk P w K mg base CX0 k f fd ps sp
structure LawF (P : Program) (w : World) (K : PySem.W.Frag) (mg : Str → Option Value) (base : Heap) (c : Str → Addr) : Prop where
  begun : Cal P w K mg base 1 "_law_begun" ["_law_script"] (spBegun K)
  pick : Cal P w K mg base 3 "_law_pick" ["_law_draw", "_law_some"] (spPick K)
  told : Cal P w K mg base 3 "_law_told_errors" ["_law_one", "_law_other"] (spTold K c)
  plain : Cal P w K mg base 1 "_law_plain_errors" [] (spPln c)
  classes : Cal P w K mg base 1 "_law_classes" ["_law_error"] (spCls c)
  E : ErF K mg c
  S : SmD K
  so : mg "StopError" = some (.ref (c "StopError"))
  ve : mg "ValueError" = none
  kS : ∀ D ∈ errL.map c, PySem.W.kitOne K (.ref D) (.ref (c "StopError")) = some true
  kV : ∀ D ∈ errL.map c, PySem.W.kitOne K (.ref D) (.type "ValueError") = some true
  len : mg "len" = none
  set : mg "set" = none
  rep : mg "repr" = none
def allL : List Str := plnL ++ ownL
def idxL : List Nat := allL.map fun x => errL.idxOf x
theorem idx_nodup : idxL.Nodup := by decide +kernel
theorem idx_len : idxL.length = 72 := by decide +kernel
theorem idx_at : ∀ i < 72, ∃ j, idxL[i]? = some j ∧ errL[j]? = allL[i]? := by decide +kernel
theorem all_mem : ∀ i < 72, (allL[i]?).isSome = true := by decide +kernel
/-- lists of one number each -/
inductive Cls (H : Hp) : List Addr → List Nat → Prop
  | nil : Cls H [] []
  | cons {L : Addr} {j : Nat} {Ls : List Addr} {js : List Nat} : H L = some (.lst [.int (j : Int)]) → Cls H Ls js → Cls H (L :: Ls) (j :: js)
theorem Cls.same {H H' : Hp} (s : Same H H') : ∀ {Ls : List Addr} {js : List Nat}, Cls H Ls js → Cls H' Ls js
  | _, _, .nil => .nil
  | _, _, .cons h t => .cons (s _ _ h) (t.same s)
theorem Cls.app {H : Hp} : ∀ {Ls Ms : List Addr} {js ks : List Nat}, Cls H Ls js → Cls H Ms ks → Cls H (Ls ++ Ms) (js ++ ks)
  | _, _, _, _, .nil, h => h
  | _, _, _, _, .cons h t, h2 => .cons h (t.app h2)
theorem Cls.length {H : Hp} : ∀ {Ls : List Addr} {js : List Nat}, Cls H Ls js → Ls.length = js.length
  | _, _, .nil => rfl
  | _, _, .cons _ t => congrArg Nat.succ t.length
theorem Cls.get {H : Hp} : ∀ {Ls : List Addr} {js : List Nat} {i : Nat} {L : Addr}, Cls H Ls js → Ls[i]? = some L → ∃ j, js[i]? = some j ∧ H L = some (.lst [.int (j : Int)])
  | _, _, _, _, .nil, e => by simp at e
  | _, _, 0, _, .cons h _, e => by
    simp at e
    subst e
    exact ⟨_, rfl, h⟩
  | _, _, i + 1, _, .cons _ t, e => t.get (i := i) (by simpa using e)
theorem ref_at {l : List Addr} {i : Nat} {x : V} (h : (l.map V.ref)[i]? = some x) : ∃ a, l[i]? = some a ∧ x = .ref a := by
  rw [List.getElem?_map] at h
  cases e : l[i]? with
  | none => rw [e] at h; cases h
  | some a => rw [e] at h; exact ⟨a, rfl, (Option.some.inj h).symm⟩
theorem take_snoc' {α : Type} {l : List α} {i : Nat} {a : α} (h : l[i]? = some a) : l.take (i + 1) = l.take i ++ [a] := by
  rw [List.take_succ, h]
  rfl
def spLaw (K : PySem.W.Frag) : Sp := fun vs H Q _ => ∃ (a : Addr) (ns : List Int), vs = [.ref a] ∧ SqL K H a (ns.map V.int) ∧ ns.length ≤ 63 ∧ ∀ H', Q (.bl true) H'
section
variable {P : Program} {w : World} {K : PySem.W.Frag} {mg : Str → Option Value} {base : Heap}
theorem sc_law : FnScope ["_law_script", "_law_draw", "_law_some", "_law_one", "_law_other", "_law_told", "_law_errors_here", "_law_entry", "_law_classes_here", "_law_error", "_law_found", "_law_mine", "_law_due"] ["_law_script"] (defScope s_law) := ⟨rfl, rfl, rfl, by decide +kernel, rfl, by decide +kernel, by decide +kernel⟩
theorem ok_law {f : Addr} {fd : FuncData} {c : Str → Addr} (F : FnP K "law" s_law f fd) (R : LawF P w K mg base c) : FnG P w K mg base 4 f fd ["_law_script"] (spLaw K) := by
  obtain ⟨f__law_begun, fd__law_begun, g__law_begun, k__law_begun, b__law_begun, G__law_begun⟩ := R.begun
  obtain ⟨f__law_pick, fd__law_pick, g__law_pick, k__law_pick, b__law_pick, G__law_pick⟩ := R.pick
  obtain ⟨f__law_told_errors, fd__law_told_errors, g__law_told_errors, k__law_told_errors, b__law_told_errors, G__law_told_errors⟩ := R.told
  obtain ⟨f__law_plain_errors, fd__law_plain_errors, g__law_plain_errors, k__law_plain_errors, b__law_plain_errors, G__law_plain_errors⟩ := R.plain
  obtain ⟨f__law_classes, fd__law_classes, g__law_classes, k__law_classes, b__law_classes, G__law_classes⟩ := R.classes
  have S := R.S
  have m_repr := R.rep
  refine FunD.okG F sc_law (fun vs H Q E h => ?_) (fun cdv A outer s H vs Q E hgd hr h => ?_)
  · obtain ⟨a, ns, rfl, _⟩ := h
    rfl
  · obtain ⟨a, ns, rfl, hS, hl, k⟩ := h
    have nd := sc_law.nd
    have hu := hu_of hr
    apply Exists.intro
    apply And.intro
    case left =>
     apply PSs.nox
     apply pss_cons
     · exact (ps_set (i := 1) nd rfl (.inl rfl) (pe_call G__law_begun (hr.mono (by decide)) rfl g__law_begun k__law_begun b__law_begun .nil pass0 (pa_cons (pv 0) pa_nil)))
     apply pss_cons
     · exact (ps_set (i := 2) nd rfl (.inl rfl) (pe_lst (pa_cons pe_non (pa_cons pe_int (pa_cons (pe_un un_neg pe_int) (pa_cons pe_str (pa_cons pe_str (pa_cons (pe_tup (pa_cons pe_int (pa_cons pe_int pa_nil))) (pa_cons (pe_lst (pa_cons pe_int pa_nil)) (pa_cons (pe_disp (pps_cons pe_str pe_int pps_nil) rfl rfl (by decide) (by decide)) (pa_cons pe_bl (pa_cons (pe_op op_pow pe_int pe_int) pa_nil))))))))))))
     apply pss_cons
     · exact (ps_par (X := (cxOf CX0 P w K mg base ["_law_script", "_law_draw", "_law_some", "_law_one", "_law_other", "_law_told", "_law_errors_here", "_law_entry", "_law_classes_here", "_law_error", "_law_found", "_law_mine", "_law_due"] "law" (defScope s_law) f cdv A outer s H E).nox) (i := 3) (j := 4) rfl nd rfl rfl (by decide) rfl rfl (pa_cons (pe_call G__law_pick (hr.mono (by decide)) rfl g__law_pick k__law_pick b__law_pick .nil pass0 (pa_cons (pv 1) (pa_cons (pv 2) pa_nil))) (pa_cons (pe_call G__law_pick (hr.mono (by decide)) rfl g__law_pick k__law_pick b__law_pick .nil pass0 (pa_cons (pv 1) (pa_cons (pv 2) pa_nil))) pa_nil)) (by rfl))
     apply pss_cons
     · exact (ps_set (i := 5) nd rfl (.inl rfl) (pe_call G__law_told_errors (hr.mono (by decide)) rfl g__law_told_errors k__law_told_errors b__law_told_errors .nil pass0 (pa_cons (pv 3) (pa_cons (pv 4) pa_nil))))
     apply pss_cons
     · exact (ps_set (i := 6) nd rfl (.inl rfl) (pe_op op_cat (pe_call0 G__law_plain_errors (hr.mono (by decide)) rfl g__law_plain_errors k__law_plain_errors b__law_plain_errors .nil pass0) (pe_lc (own := [("_law_entry", 7)]) (g := gName 7) rfl nd (pi_list (pv 5)) (blkOk_by (own := [("_law_entry", 7)]) (N := ["_law_script", "_law_draw", "_law_some", "_law_one", "_law_other", "_law_told", "_law_errors_here", "_law_entry", "_law_classes_here", "_law_error", "_law_found", "_law_mine", "_law_due"]) (sc := defScope s_law) (by decide +kernel)) (fun _ _ _ _ _ => (pg_name (i := 7) nd rfl (Or.inl rfl))) (fun _ _ _ _ _ => pts_nil) (fun _ _ _ _ _ => (pe_ix (ix_seqK (K := K)) (pv 7) pe_int (fun _ _ => rfl))))))
     apply pss_cons
     · exact (ps_setLc (i := 8) (own := [("_law_error", 9)]) (g := gName 9) rfl nd rfl rfl (sw_true rfl rfl rfl (by decide +kernel)) (pi_list (pv 6)) (blkOk_by (own := [("_law_error", 9)]) (N := ["_law_script", "_law_draw", "_law_some", "_law_one", "_law_other", "_law_told", "_law_errors_here", "_law_entry", "_law_classes_here", "_law_error", "_law_found", "_law_mine", "_law_due"]) (sc := defScope s_law) (by decide +kernel)) (fun _ _ _ _ _ => (pg_name (i := 9) nd rfl (Or.inl rfl))) (fun _ _ _ _ _ => pts_nil) (fun _ _ _ _ _ => (pe_call G__law_classes (hr.mono (by decide)) rfl g__law_classes k__law_classes b__law_classes .nil pass0 (pa_cons (pv 9) pa_nil))))
     apply pss_cons
     · exact (ps_if (PW.pt (pw_or (pt_cmpR (op_neD hr.units) (pe_lc (own := [("_law_found", 10)]) (g := gName 10) rfl nd (pi_list (pv 8)) (blkOk_by (own := [("_law_found", 10)]) (N := ["_law_script", "_law_draw", "_law_some", "_law_one", "_law_other", "_law_told", "_law_errors_here", "_law_entry", "_law_classes_here", "_law_error", "_law_found", "_law_mine", "_law_due"]) (sc := defScope s_law) (by decide +kernel)) (fun _ _ _ _ _ => (pg_name (i := 10) nd rfl (Or.inl rfl))) (fun _ _ _ _ _ => pts_one (pt_cmpR op_ne (pe_callB (call_lenK (K := K)) (by rfl) R.len PySem.boot_len (pa_cons (pv 10) pa_nil)) pe_int (nomark _))) (fun _ _ _ _ _ => pe_int)) (pe_lst pa_nil) (nomark _)) (pw_or1 (pt_cmpR op_ne (RZ.pe_lenSetI (by rfl) R.len (by rfl) R.set (pe_lc (own := [("_law_found", 10)]) (g := gName 10) rfl nd (pi_list (pv 8)) (blkOk_by (own := [("_law_found", 10)]) (N := ["_law_script", "_law_draw", "_law_some", "_law_one", "_law_other", "_law_told", "_law_errors_here", "_law_entry", "_law_classes_here", "_law_error", "_law_found", "_law_mine", "_law_due"]) (sc := defScope s_law) (by decide +kernel)) (fun _ _ _ _ _ => pg_name (i := 10) nd rfl (Or.inl rfl)) (fun _ _ _ _ _ => pts_nil) (fun _ _ _ _ _ => pe_ix (ix_seqK (K := K)) (pv 10) pe_int (fun _ _ => rfl)))) (pe_callB call_len (by rfl) R.len PySem.boot_len (pa_cons (pv 6) pa_nil)) (nomark _))))) (pss_one (ps_ret pe_bl)) pss_nil)
     apply pss_cons
     · apply ps_for PassesOwn.never rfl
       · exact (pi_list (pv 5))
       · exact (pg_tup rfl (pgs_cons (pg_name (i := 9) nd rfl (Or.inl rfl)) (pgs_cons (pg_name (i := 11) nd rfl (Or.inl rfl)) (pgs_cons (pg_name (i := 12) nd rfl (Or.inl rfl)) pgs_nil))))
       · apply pss_one
         exact (ps_if (pt_cmpR op_ne (pe_callB (call_reprX hgd (Room.u101 hr) S) (by rfl) m_repr (by decide +kernel) (pa_cons (pv 11) pa_nil)) (pe_callB (call_reprX hgd (Room.u101 hr) S) (by rfl) m_repr (by decide +kernel) (pa_cons (pv 12) pa_nil)) (nomark _)) (pss_one (ps_ret pe_bl)) pss_nil)
     apply pss_cons
     · apply ps_for PassesOwn.never rfl
       · exact (pi_list (pv 6))
       · exact (pg_name (i := 9) nd rfl (Or.inl rfl))
       · apply pss_one
         exact (ps_if (PW.pt (pw_or (pt_not (pt_val (pe_callB call_isiX (by rfl) R.E.isi (by decide +kernel) (pa_cons (pv 9) (pa_cons (pe_glob (v := .ref (c "StopError")) (by rfl) R.so rfl) pa_nil))))) (pw_or1 (pt_not (pt_val (pe_callB call_isiX (by rfl) R.E.isi (by decide +kernel) (pa_cons (pv 9) (pa_cons (pe_bltn (v := .ty "ValueError") (by rfl) R.ve (by decide +kernel) rfl) pa_nil)))))))) (pss_one (ps_ret pe_bl)) pss_nil)
     apply pss_one
     exact (ps_ret pe_bl)
    case right =>
      refine ⟨_, rfl, a, ns, rfl, hS, hl, fun H1 d D1 _ => ?_⟩
      refine ⟨_, rfl, (show 2 ≤ sizeLine by decide), fun p1 hp1 => ⟨(show 1 ≤ sizeLine by decide), fun p2 hp2 => fun p3 hp3 => ⟨upd_same, [(Sum.inr "a", .int 4)], rfl, by decide, ?_⟩⟩⟩
      rw [upd_upd]
      refine ⟨_, _, rfl, rfl, ⟨by decide, by decide, by decide⟩, (show 10 ≤ sizeLine by decide), fun L hL => ?_⟩
      obtain ⟨V1, E1, y1, e1⟩ := D1.mk (o := .tup [V.int 1, V.int 2]) hp1
      obtain ⟨V2, E2, y2, e2⟩ := E1.mk (o := .lst [V.int 3]) hp2
      obtain ⟨V3, E3, y3, e3⟩ := E2.mk (o := .dK (mergeK [] [(Sum.inr "a", V.int 4)])) hp3
      obtain ⟨V4, E4, y4, e4⟩ := E3.mk hL
      obtain ⟨xs, hxs⟩ : ∃ xs, xs = [V.non, V.int 0, V.int (-7), V.str "x", V.str "", V.ref p1, V.ref p2, V.ref p3, V.bl true, V.int (10 ^ (20 : Int).toNat)] := ⟨_, rfl⟩
      have all : ∀ v ∈ xs, ∃ dd, dd ∈ someD ∧ Dx K V4 v dd := by
        intro v hv
        rw [hxs] at hv
        simp only [List.mem_cons, List.not_mem_nil, or_false] at hv
        rcases hv with rfl | rfl | rfl | rfl | rfl | rfl | rfl | rfl | rfl | rfl
        · exact ⟨_, List.mem_of_getElem? (i := 0) rfl, .non⟩
        · exact ⟨_, List.mem_of_getElem? (i := 1) rfl, .int 0⟩
        · exact ⟨_, List.mem_of_getElem? (i := 2) rfl, .int (-7)⟩
        · exact ⟨_, List.mem_of_getElem? (i := 3) rfl, .str "x"⟩
        · exact ⟨_, List.mem_of_getElem? (i := 4) rfl, .str ""⟩
        · exact ⟨_, List.mem_of_getElem? (i := 5) rfl, .tup (SqT.of (y4 _ _ (y3 _ _ (y2 _ _ e1)))) (.cons (.int 1) (.cons (.int 2) .nil))⟩
        · exact ⟨_, List.mem_of_getElem? (i := 6) rfl, .lst (SqL.of (y4 _ _ (y3 _ _ e2))) (.cons (.int 3) .nil)⟩
        · exact ⟨_, List.mem_of_getElem? (i := 7) rfl, .dic (y4 _ _ e3) (.cons (.int 4) .nil)⟩
        · exact ⟨_, List.mem_of_getElem? (i := 8) rfl, .bl true⟩
        · exact ⟨_, List.mem_of_getElem? (i := 9) rfl, .int _⟩
      have xl : xs.length = 10 := by rw [hxs]; rfl
      refine ⟨_, rfl, _, rfl, 0, V4, d, .ref L, xs, rfl, E4, by decide, .lst (SqL.of (by rw [hxs]; exact e4)), by omega, by omega, fun v H2 hv D2 => ?_⟩
      refine ⟨_, rfl, _, rfl, 1, V4, d, .ref L, xs, rfl, D2, by decide, .lst (SqL.of (by rw [hxs]; exact e4)), by omega, by omega, fun u H3 hu D3 => ⟨_, _, rfl, ?_⟩⟩
      obtain ⟨d1, i1, x1⟩ := all v hv
      obtain ⟨d2, i2, x2⟩ := all u hu
      refine ⟨_, rfl, _, rfl, v, u, d1, d2, rfl, x1.same D3.same, x2.same D3.same, i1, i2, fun H4 T ts s4 n4 eT X4 => ?_⟩
      clear all E4 E3 E2 E1 D1 D2 x1 x2 y1 y2 y3 y4 e1 e2 e3 e4
      refine ⟨rfl, fun H5 Ap as s5 n5 e5 x5 => ⟨_, rfl, T, rfl, ⟨_, SqL.of (s5 _ _ eT)⟩, fun D hD => ?_⟩⟩
      have X5 := X4.same s5
      have T5 := s5 _ _ eT
      refine lc_list (K := K) (a := T) (xs := ts.map V.ref) (fun i H' => ∃ es, H' = upd H5 D (.lst (es.map V.ref)) ∧ Ers H5 es ((ownL.map c).take i)) ⟨[], rfl, .nil⟩ (fun i H' _ ⟨es, e, _⟩ => SqL.of (by rw [e]; exact same_new hD _ _ T5)) ?_ ?_
      · rintro i x H' hi ⟨es, rfl, xe⟩
        obtain ⟨t, ht, rfl⟩ := ref_at hi
        obtain ⟨C, hC, e, m, dd, dat, f1, f2, _⟩ := X5.get ht
        refine ⟨rfl, yesIf ⟨_, rfl, .inr (.inl ⟨_, _, _, _, rfl, rfl, SqT.of (same_new hD _ _ f1), rfl, _, upd_same, ?_, es ++ [e], by rw [upd_upd, List.map_append]; rfl, ?_⟩)⟩⟩
        · rw [List.length_map, xe.length]
          exact Nat.lt_of_le_of_lt (List.length_take_le' _ _) (by rw [List.length_map]; exact (by decide : ownL.length < 16777216))
        · rw [take_snoc' hC]
          exact xe.app (.cons f2 .nil)
      rintro H' ⟨es, rfl, xe⟩
      rw [List.length_map, X4.length, List.take_length] at xe
      have la : as.length = 46 := x5.length
      have le : es.length = 26 := xe.length
      refine ⟨Ap, D, _, _, rfl, rfl, same_new hD _ _ e5, upd_same, sl_of (by rw [List.length_map, List.length_map]; omega), fun q hq => ?_⟩
      obtain ⟨H6, hH6⟩ : ∃ H6, H6 = upd (upd H5 D (.lst (es.map V.ref))) q (.lst (as.map V.ref ++ es.map V.ref)) := ⟨_, rfl⟩
      have s6 : Same H5 H6 := by rw [hH6]; exact (same_new hD).trans (same_new hq)
      have e6 : H6 q = some (.lst ((as ++ es).map V.ref)) := by rw [hH6, upd_same, List.map_append]
      have X6 : Ers H6 (as ++ es) (allL.map c) := by
        have z := (x5.same s6).app (xe.same s6)
        rw [← List.map_append] at z
        exact z
      rw [← hH6]
      clear hH6 hq
      have lx : (as ++ es).length = 72 := by rw [List.length_append]; omega
      generalize as ++ es = es at e6 X6 lx
      refine ⟨_, rfl, q, rfl, ⟨_, SqL.of e6⟩, fun D2 hD2 => ?_⟩
      refine lc_list (K := K) (a := q) (xs := es.map V.ref) (fun i H' => ∃ Ls, Same H6 H' ∧ H' D2 = some (.lst (Ls.map V.ref)) ∧ Cls (del H' D2) Ls (idxL.take i)) ⟨[], same_new hD2, upd_same, .nil⟩ (fun i H' _ ⟨_, z, _⟩ => SqL.of (z _ _ e6)) ?_ ?_
      · rintro i x H' hi ⟨Ls, s7, e7, c7⟩
        obtain ⟨ea, hea, rfl⟩ := ref_at hi
        obtain ⟨Dc, hDc, hEx⟩ := X6.get hea
        have h72 : i < 72 := by
          obtain ⟨z, _⟩ := List.getElem?_eq_some_iff.mp hea
          omega
        obtain ⟨j, hj, hj2⟩ := idx_at i h72
        have hjc : (errL.map c)[j]? = some Dc := by
          rw [List.getElem?_map, hj2, ← List.getElem?_map]
          exact hDc
        refine ⟨rfl, yesIf ⟨_, rfl, ea, Dc, j, rfl, hjc, hEx.same s7, fun H2 M s8 n8 e8 => ⟨_, s8 _ _ e7, ?_, Ls ++ [M], same_sub (s7.trans s8) hD2, by rw [upd_same, List.map_append]; rfl, ?_⟩⟩⟩
        · rw [List.length_map, c7.length]
          exact Nat.lt_of_le_of_lt (List.length_take_le' _ _) (by rw [idx_len]; decide)
        · rw [take_snoc' hj, del_upd]
          exact (c7.same (del_grow s8 D2)).app (.cons (del_at e8 (ne_of_none e7 n8).symm) .nil)
      rintro H7 ⟨Ls, s7, e7, c7⟩
      rw [List.length_map, lx, show idxL.take 72 = idxL by rw [← idx_len, List.take_length]] at c7
      have c8 := c7.same (del_sub _ _)
      have lL : Ls.length = 72 := by rw [c8.length, idx_len]
      clear c7
      refine ⟨_, rfl, D2, rfl, ⟨_, SqL.of e7⟩, fun D3 hD3 => ?_⟩
      refine lc_list (K := K) (a := D2) (xs := Ls.map V.ref) (fun i H' => H' = upd H7 D3 (.lst [])) rfl (fun i H' _ e => SqL.of (by rw [e]; exact same_new hD3 _ _ e7)) ?_ ?_
      · rintro i x H' hi rfl
        obtain ⟨M, hM, rfl⟩ := ref_at hi
        obtain ⟨j, hj, hMj⟩ := c8.get hM
        exact ⟨rfl, _, rfl, _, _, rfl, .inl ⟨_, SqL.of (same_new hD3 _ _ hMj), rfl⟩, rfl, _, rfl, iteNe rfl rfl⟩
      rintro H' rfl
      refine ⟨(show 0 ≤ sizeLine by decide), fun p hp => ?_⟩
      refine ⟨.list [], .list [], .lst (SqL.of (same_new hp _ _ upd_same)) .nil, .lst (SqL.of upd_same) .nil, rfl, rfl, _, rfl, ?_⟩
      rw [show PyData.eqv (.list []) (.list []) = true by simp [PyData.eqv, PyData.eqvAll]]
      refine iteF ?_
      obtain ⟨H8, hH8⟩ : ∃ H8, H8 = upd (upd H7 D3 (.lst [])) p (.lst []) := ⟨_, rfl⟩
      have s8 : Same H7 H8 := by rw [hH8]; exact (same_new hD3).trans (same_new hp)
      rw [← hH8]
      clear hH8 hp
      refine ⟨_, rfl, D2, rfl, ⟨_, SqL.of (s8 _ _ e7)⟩, fun D4 hD4 => ?_⟩
      refine lc_list (K := K) (a := D2) (xs := Ls.map V.ref) (fun i H' => H' = upd H8 D4 (.lst (((idxL.take i).map fun j => ((j : Nat) : Int)).map V.int))) rfl (fun i H' _ e => SqL.of (by rw [e]; exact same_new hD4 _ _ (s8 _ _ e7))) ?_ ?_
      · rintro i x H' hi rfl
        obtain ⟨M, hM, rfl⟩ := ref_at hi
        obtain ⟨j, hj, hMj⟩ := c8.get hM
        refine ⟨rfl, yesIf ⟨_, rfl, .inl ⟨_, _, _, _, rfl, rfl, SqL.of (same_new hD4 _ _ (s8 _ _ hMj)), rfl, _, upd_same, ?_, ?_⟩⟩⟩
        · rw [List.length_map, List.length_map]
          exact Nat.lt_of_le_of_lt (List.length_take_le' _ _) (by rw [idx_len]; decide)
        · rw [upd_upd, take_snoc' hj, List.map_append, List.map_append]
          rfl
      rintro H' rfl
      rw [List.length_map, lL, show idxL.take 72 = idxL by rw [← idx_len, List.take_length]]
      refine ⟨D4, _, rfl, SqL.of upd_same, (by decide +kernel), (by rw [List.length_map, idx_len]; decide), ?_⟩
      refine ⟨_, rfl, _, _, rfl, .inl ⟨_, SqL.of (same_new hD4 _ _ (s8 _ _ (s7 _ _ e6))), rfl⟩, rfl, _, rfl, iteNe (by rw [List.length_map, List.length_map, idx_len, lx]) ?_⟩
      obtain ⟨H9, hH9⟩ : ∃ H9, H9 = upd H8 D4 (.lst ((idxL.map fun j => ((j : Nat) : Int)).map V.int)) := ⟨_, rfl⟩
      have s9 : Same H5 H9 := by rw [hH9]; exact ((s6.trans s7).trans s8).trans (same_new hD4)
      have e9 : H9 q = some (.lst (es.map V.ref)) := by rw [hH9]; exact same_new hD4 _ _ (s8 _ _ (s7 _ _ e6))
      have X9 : Ers H9 es (allL.map c) := by rw [hH9]; exact X6.same ((s7.trans s8).trans (same_new hD4))
      rw [← hH9]
      clear hH9
      have T9 := s9 _ _ T5
      have Y9 := X5.same s9
      refine ⟨_, rfl, T, rfl, ⟨_, SqL.of T9⟩, ?_⟩
      refine for_list (K := K) (a := T) (xs := ts.map V.ref) (fun i σ H' => H' = H9 ∧ ∃ v9 v11 v12, σ = [some (.ref a), some (.ref d), some (.ref L), some v, some u, some (.ref T), some (.ref q), none, some (.ref D2), v9, none, v11, v12]) ⟨rfl, none, none, none, rfl⟩ (fun i σ H' _ ⟨e, _⟩ => SqL.of (by rw [e]; exact T9)) ?_ ?_
      · rintro i x σ H' hi ⟨rfl, v9, v11, v12, rfl⟩
        obtain ⟨t, ht, rfl⟩ := ref_at hi
        obtain ⟨C, hC, e, m, dd, dat, f1, f2, f3, f4, f5⟩ := Y9.get ht
        unfold okB at f5
        simp only [Bool.and_eq_true, decide_eq_true_eq] at f5
        refine ⟨t, _, rfl, SqT.of f1, rfl, _, _, rfl, _, _, rfl, _, _, rfl, rfl, ?_⟩
        exact ⟨_, rfl, m, dat, rfl, f3, f5.1.1, f5.1.2, sl_of f5.2, _, rfl, dd, dat, rfl, f4, f5.1.1, f5.1.2, sl_of f5.2, rfl, _, rfl, iteNe rfl ⟨rfl, _, _, _, rfl⟩⟩
      rintro σ H' ⟨rfl, v9, v11, v12, rfl⟩
      refine ⟨_, rfl, q, rfl, ⟨_, SqL.of e9⟩, ?_⟩
      refine for_list (K := K) (a := q) (xs := es.map V.ref) (fun i σ H2 => H2 = H' ∧ ∃ v9, σ = [some (.ref a), some (.ref d), some (.ref L), some v, some u, some (.ref T), some (.ref q), none, some (.ref D2), v9, none, v11, v12]) ⟨rfl, _, rfl⟩ (fun i σ H' _ ⟨e, _⟩ => SqL.of (by rw [e]; exact e9)) ?_ ?_
      · rintro i x σ H2 hi ⟨rfl, w9, rfl⟩
        obtain ⟨ea, hea, rfl⟩ := ref_at hi
        obtain ⟨Dc, hDc, hEx⟩ := X9.get hea
        have h72 : i < 72 := by
          obtain ⟨z, _⟩ := List.getElem?_eq_some_iff.mp hea
          omega
        obtain ⟨j, hj, hj2⟩ := idx_at i h72
        have hjc : (errL.map c)[j]? = some Dc := by
          rw [List.getElem?_map, hj2, ← List.getElem?_map]
          exact hDc
        have hm := List.mem_of_getElem? hjc
        refine ⟨_, rfl, ea, Dc, _, _, _, rfl, .own _, R.E.rd Dc hm, hEx, R.kS Dc hm, _, rfl, iteF ?_⟩
        exact ⟨_, rfl, ea, Dc, _, _, _, rfl, .ty "ValueError", R.E.rd Dc hm, hEx, R.kV Dc hm, _, rfl, iteF ⟨rfl, _, rfl⟩⟩
      rintro σ H2 ⟨rfl, w9, rfl⟩
      exact k _
end
/-! ## the law's end: no repr runs at its call; tables of code objects for the lambdas -/
theorem law_callZ {P : Program} {w : World} {K : PySem.W.Frag} {mg mb : Str → Option Value} {k : Nat} {fa a : Addr} {cs : List (Addr × Addr)} {fd : FuncData} {x : Str} {sp : Sp} {s : Shared} {vs : List Value} {ns : List Int}
    (KX : K.In s.heap) (hns : s.heap.Ns mainGlobals mg) (hb : s.heap.Ns builtinsNs mb) (hbb : ∀ x : Str, x ≠ "__name__" → mb x = bootBuiltins x) (hlim : s.heap.NoLimit) (hg : s.gens = #[])
    (hT : ∀ p ∈ cs, s.heap.get? p.2 = some { cls := .none, data := .fields #[] }) (nT : ∀ p ∈ cs, K.lookup p.2 = none) (C : ∀ p ∈ cs, PySem.W.CodeHd s.heap p.1 p.2)
    (hbm : ∃ (bm : Addr) (ob : Obj), mg "__builtins__" = some (.ref bm) ∧ bm ≠ builtinsNs ∧ s.heap.get? bm = some ob ∧ ob.cls = .type "module" ∧ ob.dict = some builtinsNs ∧ ob.data = .plain)
    (ha : s.heap.get? a = some { cls := .type "list", data := .seq vs.toArray }) (hi : PyProof.Rows.IntsAre vs ns) (hl : ns.length ≤ sizeLine) (hr : Room k callerA)
    (F : ∀ base : Heap, K.In base → base.Ns mainGlobals mg → (∀ p ∈ cs, LamX.TabB base mg p.1 p.2) → FnG P w K mg base k fa fd [x] sp) (hbind : ∀ (s : Shared) (u : Value), BindsTo s fd ⟨[u], []⟩ [(x, u)])
    (hsp : ∀ H : Hp, (∀ p ∈ cs, H p.2 = some (.tbl #[])) → SqL K H a (ns.map V.int) → sp [.ref a] H (fun v _ => v = .bl true) fun _ _ _ => False) :
    codeAny (model P w) callerA (.call (.ref fa) ⟨[.ref a], []⟩) (fun r s' => r = .ok (.ret (.bool true)) ∧ PySem.OldK s.heap s'.heap ∧ s'.os = s.os ∧ PyProof.Rows.AllBare s'.gens) s := by
  have rv := vals_ints hi
  have lenV := hi.length
  let tabs : List Addr := cs.map (·.2)
  have inTab : ∀ p ∈ cs, p.2 ∈ tabs := fun p hp => List.mem_map.mpr ⟨p, hp, rfl⟩
  have isTab : ∀ b ∈ tabs, ∃ p ∈ cs, p.2 = b := fun b hb => List.mem_map.mp hb
  have tabO : ∀ b ∈ tabs, s.heap.get? b = some { cls := .none, data := .fields #[] } := fun b hb => by
    obtain ⟨p, hp, e⟩ := isTab b hb
    exact e ▸ hT p hp
  have aN : a ∉ tabs := fun z => by
    have q := tabO a z
    rw [ha] at q
    cases q
  -- what is tracked at the start: the tables, and the script where it is none of the module's own
  let H : Hp := fun b => if b ∈ tabs then some (.tbl #[]) else if b = a ∧ K.lookup a = none then some (.frz { cls := .type "list", data := .seq vs.toArray } (.lst (ns.map V.int))) else none
  have Htab : ∀ b ∈ tabs, H b = some (.tbl #[]) := fun b hb => if_pos hb
  have Hscr : K.lookup a = none → H a = some (.frz { cls := .type "list", data := .seq vs.toArray } (.lst (ns.map V.int))) := fun q => (if_neg aN).trans (if_pos ⟨rfl, q⟩)
  have Hcases : ∀ b, H b = none ∨ b ∈ tabs ∨ (b = a ∧ K.lookup a = none) := fun b => by
    by_cases h1 : b ∈ tabs
    · exact .inr (.inl h1)
    · by_cases h2 : b = a ∧ K.lookup a = none
      · exact .inr (.inr h2)
      · exact .inl ((if_neg h1).trans (if_neg h2))
  have hok : HOk P w H s.heap := fun b u e => by
    rcases Hcases b with z | z | ⟨z, q⟩
    · rw [z] at e
      cases e
    · rw [Htab b z] at e
      cases e
      exact tabO b z
    · subst z
      rw [Hscr q] at e
      cases e
      exact ⟨ha, by rw [List.length_map]; exact hl, vs, _, rv, ha⟩
  have seq : SqL K H a (ns.map V.int) := by
    cases hk : K.lookup a with
    | none => exact .inl (.inr ⟨_, Hscr hk⟩)
    | some o =>
      have e := KX a o hk
      rw [ha] at e
      cases e
      exact .inr ⟨_, vs.toArray, _, hk, rfl, rfl, rfl, by rw [List.size_toArray, lenV]; exact hl, by simpa using rv⟩
  -- the ground
  have gr : ∀ {b : Addr} {o : Obj}, s.heap.get? b = some o → H b = none → (hidT s.heap H).get? b = some o := fun e n => hidT_get e n
  have untr : ∀ {b : Addr} {o : Obj}, s.heap.get? b = some o → (∀ us n, o.data ≠ .seq us n) → o.data ≠ .fields #[] → H b = none := fun {b o} e h1 h2 => by
    rcases Hcases b with z | z | ⟨z, _⟩
    · exact z
    · rw [tabO b z] at e
      cases e
      exact absurd rfl h2
    · rw [z, ha] at e
      cases e
      exact absurd rfl (h1 _ _)
  have dictU : ∀ {b : Addr} {o : Obj} {es : Array DictEntry} {ep : Nat}, s.heap.get? b = some o → o.data = .dict es ep → H b = none := fun e d => untr e (fun _ _ z => by rw [d] at z; cases z) (fun z => by rw [d] at z; cases z)
  have nsU : ∀ {b : Addr} {m : Str → Option Value}, s.heap.Ns b m → (hidT s.heap H).Ns b m := fun ⟨o, es, ep, e, d, r⟩ => ⟨o, es, ep, gr e (dictU e d), d, r⟩
  have kin : K.In (hidT s.heap H) := fun b o e => gr (KX b o e) (by
    rcases Hcases b with z | z | ⟨z, q⟩
    · exact z
    · obtain ⟨p, hp, ep⟩ := isTab b z
      rw [← ep, nT p hp] at e
      cases e
    · rw [z, q] at e
      cases e)
  have mod : L2.Mod K mg (hidT s.heap H) := ⟨kin, nsU hns, ⟨mb, nsU hb, hbb⟩, let ⟨mc, h1, h2⟩ := hlim; ⟨mc, nsU h1, h2⟩⟩
  have TB : ∀ p ∈ cs, LamX.TabB (hidT s.heap H) mg p.1 p.2 := fun p hp => by
    have tp := hT p hp
    refine ⟨?_, ?_, fun z => ?_⟩
    · obtain ⟨o, us, file, tf, flags, tg, inF, text, tt, e1, r1, r2, r3, rr⟩ := C p hp
      refine ⟨o, us, file, tf, flags, tg, inF, text, tt, gr e1 (untr e1 (fun _ _ z => by rw [r2] at z; cases z) fun z => ?_), r1, r2, r3, rr⟩
      rw [r2] at z
      cases z
      simp at r3
    · obtain ⟨bm, ob, b1, b2, b3, b4, b5, b6⟩ := hbm
      refine ⟨bm, ob, b1, b2, fun q => ?_, fun q => ?_, gr b3 (untr b3 (fun _ _ z => by rw [b6] at z; cases z) (fun z => by rw [b6] at z; cases z)), b4, b5, b6⟩
      · obtain ⟨o, es, ep, e, hd, _⟩ := hns
        rw [q, e] at b3
        cases b3
        rw [hd] at b6
        cases b6
      · rw [q, tp] at b3
        cases b3
        cases b6
    · obtain ⟨o, es, ep, e, hd, _⟩ := hns
      rw [z, tp] at e
      cases e
      cases hd
  have e0 : Env0 P w K mg (hidT s.heap H) callerA [] s H := ⟨rfl, mod, fun b o e => of_hidT e, Nat.le_of_eq (hidT_size _ _), trivial, fun b hb => absurd (show b ∈ ([] : List Addr) from hb) (by simp), hok, .of_eq hg⟩
  refine codeAny_mono ((F _ kin (nsU hns) TB).run callerA [] s H ⟨[.ref a], []⟩ [.ref a] [.ref a] _ _ rfl hr e0 (hbind s (.ref a)) (.cons rfl .nil) (hsp H (fun p hp => Htab _ (inTab p hp)) seq)) fun r s' h => ?_
  cases r with
  | error e => exact False.elim h
  | ok fl =>
    cases fl with
    | next => exact False.elim h
    | brk => exact False.elim h
    | cont => exact False.elim h
    | ret u =>
      obtain ⟨v, H', os, bare, un, hok', r', q⟩ := h
      have q' : v = .bl true := q
      subst q'
      obtain rfl : u = Value.bool true := r'
      have kept : ∀ b o, b ∉ tabs → s.heap.get? b = some o → s'.heap.get? b = some o := fun b o nb e => by
        rcases Hcases b with z | z | ⟨z, q⟩
        · exact un.keep b o e z (by intro z; exact absurd (show b ∈ ([] : List Addr) from z) (by simp)) (by simp)
        · exact absurd z nb
        · subst z
          have z2 := un.frzs _ _ _ (Hscr q)
          obtain ⟨e2, _⟩ := hok' _ _ z2
          rw [ha] at e
          cases e
          exact e2
      have more : ∀ p ∈ cs, ∃ more : Array Value, s'.heap.get? p.2 = some { cls := .none, data := .fields more } := fun p hp => by
        obtain ⟨mr, z⟩ := un.tbls p.2 #[] (Htab _ (inTab p hp))
        exact ⟨_, hok' p.2 _ z⟩
      refine ⟨rfl, ⟨fun b o e => ?_, fun b o e => ?_⟩, os, bare⟩
      · by_cases hbt : b ∈ tabs
        · obtain ⟨p, hp, ep⟩ := isTab b hbt
          obtain ⟨mr, hm⟩ := more p hp
          rw [← ep] at e ⊢
          rw [hT p hp] at e
          cases e
          exact .inr (.inl ⟨((C p hp).tab (hT p hp)).isCodeTable, rfl, #[], mr, rfl, by rw [Array.empty_append]; exact hm⟩)
        · exact .inl (kept b o hbt e)
      · by_cases hbt : b ∈ tabs
        · obtain ⟨p, hp, ep⟩ := isTab b hbt
          obtain ⟨mr, hm⟩ := more p hp
          exact ⟨_, ep ▸ hm⟩
        · exact ⟨o, kept b o hbt e⟩
/-- what is known of the law's promise at the head's heap -/
def LawAtZ (l : PySem.W.OpenLaw) (w : World) (k n : Nat) (x : Str) (mg : Str → Option Value) (fa : Addr) (h : Heap) : Prop :=
  ∃ (K : PySem.W.Frag) (fd : FuncData) (cs : List (Addr × Addr)) (sp : Sp), K.In h ∧ (∀ p ∈ cs, h.get? p.2 = some { cls := .none, data := .fields #[] }) ∧ (∀ p ∈ cs, K.lookup p.2 = none) ∧ (∀ p ∈ cs, PySem.W.CodeHd h p.1 p.2) ∧ (∀ (s : Shared) (u : Value), BindsTo s fd ⟨[u], []⟩ [(x, u)]) ∧
    (∀ (H : Hp) (a : Addr) (ns : List Int), ns.length ≤ n → (∀ p ∈ cs, H p.2 = some (.tbl #[])) → SqL K H a (ns.map V.int) → sp [.ref a] H (fun v _ => v = .bl true) fun _ _ _ => False) ∧
    ∀ base : Heap, K.In base → base.Ns mainGlobals mg → (∀ p ∈ cs, LamX.TabB base mg p.1 p.2) → FnG l.prog w K mg base k fa fd [x] sp
theorem walk_ofZ {l : PySem.W.OpenLaw} {n k : Nat} {q : Program} {loose : List Str} {XP : (Str → Option Value) → Heap → Prop} {YP : World → Heap → Prop} {d : DefRec} {x : Str}
    (hn : l.most = some n) (hn2 : n ≤ sizeLine) (hdf : d.params.defaults = []) (hr : Room k callerA)
    (F : ∀ (w : World) (mg : Str → Option Value) (fa : Addr) (h : Heap), YP w h → h.Ns mainGlobals mg → mg d.name = some (.ref fa) → LawAtZ l w k n x mg fa h) :
    PySem.W.WalkO q loose XP YP l.row.toRowW d [] (fun f vs => PySem.call f vs) :=
  Att.attach_call hn hdf fun w s0 s1 mg mb fa o pm cd doc a vs ns G Y ho hd hcd hmg hobj hints hlen hg => by
    obtain ⟨K, fd, cs, sp, KX, hT, nT, C, hb, hsp, hF⟩ := F w mg fa _ Y G.T.g hmg
    exact law_callZ KX G.T.g G.T.b G.T.builtins G.T.nolimit hg hT nT C G.T.bmain hobj hints (Nat.le_trans hlen hn2) hr hF hb (fun H hH hS => hsp H a ns hlen hH hS)
section
abbrev LW : PySem.W.OpenLaw := PySem.Challenge.rw_stopanywhere_k24_errors_made_and_bases
variable {K : PySem.W.Frag}
theorem row_kit {x y : Str} (hx : rowB K x = true) (hy : (PySem.W.clsIn K (He.ga K y)).isSome = true ∧ PySem.W.typeIn K (.ref (He.ga K y)) = some (.type "type")) :
    PySem.W.kitOne K (.ref (He.ga K x)) (.ref (He.ga K y)) = some (decide (He.ga K y = He.ga K x) || decide (He.ga K y = He.ga K "StopError")) := by
  obtain ⟨h1, h2⟩ := He.ba hx
  have h2 := of_decide_eq_true h2
  split at h1
  · rename_i cd hc
    have h1 := of_decide_eq_true h1
    unfold PySem.W.kitOne
    by_cases e : He.ga K x = He.ga K y
    · rw [if_pos (by rw [e]; exact beq_self_eq_true _), e, decide_eq_true rfl]
      rfl
    · have hm : PySem.W.subIn K (.ref (He.ga K x)) (.ref (He.ga K y)) = some (decide (He.ga K y = He.ga K "StopError")) := by
        show PySem.W.mroIn K (He.ga K x) (.ref (He.ga K y)) = _
        unfold PySem.W.mroIn
        rw [hc]
        show (if cd.mro.isEmpty = true then none else some (cd.mro.contains (Value.ref (He.ga K y)))) = _
        rw [h1]
        show some (([.ref (He.ga K x), .ref (He.ga K "StopError"), .type "ValueError", .type "Exception", .type "BaseException", .type "object"] : List Value).contains (.ref (He.ga K y))) = _
        congr 1
        rw [Bool.eq_iff_iff, List.contains_iff_mem, decide_eq_true_eq]
        constructor
        · intro z
          simp only [List.mem_cons, List.not_mem_nil, or_false] at z
          rcases z with z | z | z | z | z | z
          · injection z with z
            exact absurd z.symm e
          · injection z
          all_goals cases z
        · intro z
          rw [z]
          simp
      rw [if_neg (fun z => e (Value.ref.inj (beq_iff_eq.mp z))), decide_eq_false (fun z => e z.symm), Bool.false_or]
      unfold PySem.W.kitCls
      dsimp only
      rw [if_pos (by rw [hy.1, hy.2]; exact beq_self_eq_true _)]
      exact hm
  · cases h1
theorem row_ve {x : Str} (hx : rowB K x = true) : PySem.W.kitOne K (.ref (He.ga K x)) (.type "ValueError") = some true := by
  obtain ⟨h1, h2⟩ := He.ba hx
  split at h1
  · rename_i cd hc
    have h1 := of_decide_eq_true h1
    unfold PySem.W.kitOne
    rw [if_neg (by intro z; cases (beq_iff_eq.mp z))]
    unfold PySem.W.kitCls
    dsimp only
    rw [if_pos (by decide +kernel)]
    show PySem.W.mroIn K (He.ga K x) _ = _
    unfold PySem.W.mroIn
    rw [hc]
    show (if cd.mro.isEmpty = true then none else some (cd.mro.contains (Value.type "ValueError"))) = _
    rw [h1]
    show some (([.ref (He.ga K x), .ref (He.ga K "StopError"), .type "ValueError", .type "Exception", .type "BaseException", .type "object"] : List Value).contains (.type "ValueError")) = _
    congr 1
  · cases h1
theorem row_is {x : Str} (hx : rowB K x = true) : (PySem.W.clsIn K (He.ga K x)).isSome = true ∧ PySem.W.typeIn K (.ref (He.ga K x)) = some (.type "type") := by
  obtain ⟨h1, h2⟩ := He.ba hx
  refine ⟨?_, of_decide_eq_true h2⟩
  split at h1
  · rename_i cd hc
    rw [hc]
    first | done | rfl
  · cases h1
theorem one_binds {x qual a : Str} {params : Arguments} {body : List Stmt} {scope : Scope} {f : Addr} {fd : FuncData} (F : FunD K x qual params body scope [] [] f fd)
    (h : ∀ (kV doc pm : Value) (an : Option Addr) (cdv ct : Value) (u : Value), bindArgs (PySem.W.fnOf x qual params body scope .none kV doc pm an cdv ct) ⟨[u], []⟩ = pure [(a, u)]) : Binds K fd [a] [] :=
  F.bindsN fun kV doc pm an cdv ct us hl => match us, hl with | [u], _ => h kV doc pm an cdv ct u
theorem two_binds {x qual a b : Str} {params : Arguments} {body : List Stmt} {scope : Scope} {f : Addr} {fd : FuncData} (F : FunD K x qual params body scope [] [] f fd)
    (h : ∀ (kV doc pm : Value) (an : Option Addr) (cdv ct : Value) (u v : Value), bindArgs (PySem.W.fnOf x qual params body scope .none kV doc pm an cdv ct) ⟨[u, v], []⟩ = pure [(a, u), (b, v)]) : Binds K fd [a, b] [] :=
  F.bindsN fun kV doc pm an cdv ct us hl => match us, hl with | [u, v], _ => h kV doc pm an cdv ct u v
theorem own_all (P : Nat → Str → List Str → Prop) (h0 : P 0 "BadText" ["line", "column", "wanted"]) (h1 : P 1 "BadCount" ["count"]) (h2 : P 2 "BadUnits" ["at"]) (h3 : P 3 "NoUnit" ["name"]) (h4 : P 4 "UsesRing" ["ring"]) (h5 : P 5 "NoFunction" ["name"]) (h6 : P 6 "Faulty" ["fault", "unit"]) (h7 : P 7 "KindClash" ["clash", "unit"]) (h8 : P 8 "TwoNames" ["name"]) (h9 : P 9 "NotNow" ["word"]) (h10 : P 10 "BadFunctions" ["name"]) (h11 : P 11 "Unknown" ["name"]) (h12 : P 12 "BadCodes" ["at"]) (h13 : P 13 "Refused" ["why"]) (h14 : P 14 "BadRows" ["at"]) (h15 : P 15 "BadSpans" ["at"]) (h16 : P 16 "BadPairs" ["at"]) (h17 : P 17 "BadChanges" ["at"]) (h18 : P 18 "NotTold" ["name"]) (h19 : P 19 "BadObject" ["at"]) (h20 : P 20 "BadObjects" ["name"]) (h21 : P 21 "TwoUnits" ["name"]) (h22 : P 22 "Missing" ["unit"]) (h23 : P 23 "OtherFace" ["unit"]) (h24 : P 24 "BadBits" ["at"]) (h25 : P 25 "BadInstruction" ["at"]) :
    ∀ (i : Nat) (x : Str) (ns : List Str), ownL[i]? = some x → ownN[i]? = some ns → P i x ns
  | 0, _, _, e1, e2 => by cases e1; cases e2; exact h0
  | 1, _, _, e1, e2 => by cases e1; cases e2; exact h1
  | 2, _, _, e1, e2 => by cases e1; cases e2; exact h2
  | 3, _, _, e1, e2 => by cases e1; cases e2; exact h3
  | 4, _, _, e1, e2 => by cases e1; cases e2; exact h4
  | 5, _, _, e1, e2 => by cases e1; cases e2; exact h5
  | 6, _, _, e1, e2 => by cases e1; cases e2; exact h6
  | 7, _, _, e1, e2 => by cases e1; cases e2; exact h7
  | 8, _, _, e1, e2 => by cases e1; cases e2; exact h8
  | 9, _, _, e1, e2 => by cases e1; cases e2; exact h9
  | 10, _, _, e1, e2 => by cases e1; cases e2; exact h10
  | 11, _, _, e1, e2 => by cases e1; cases e2; exact h11
  | 12, _, _, e1, e2 => by cases e1; cases e2; exact h12
  | 13, _, _, e1, e2 => by cases e1; cases e2; exact h13
  | 14, _, _, e1, e2 => by cases e1; cases e2; exact h14
  | 15, _, _, e1, e2 => by cases e1; cases e2; exact h15
  | 16, _, _, e1, e2 => by cases e1; cases e2; exact h16
  | 17, _, _, e1, e2 => by cases e1; cases e2; exact h17
  | 18, _, _, e1, e2 => by cases e1; cases e2; exact h18
  | 19, _, _, e1, e2 => by cases e1; cases e2; exact h19
  | 20, _, _, e1, e2 => by cases e1; cases e2; exact h20
  | 21, _, _, e1, e2 => by cases e1; cases e2; exact h21
  | 22, _, _, e1, e2 => by cases e1; cases e2; exact h22
  | 23, _, _, e1, e2 => by cases e1; cases e2; exact h23
  | 24, _, _, e1, e2 => by cases e1; cases e2; exact h24
  | 25, _, _, e1, e2 => by cases e1; cases e2; exact h25
  | i + 26, _, _, e1, _ => by cases e1
theorem err_own : ∀ x ∈ ownL, x ∈ errL := by decide +kernel
theorem err_pln : ∀ x ∈ plnL, x ∈ errL := by decide +kernel
theorem all_of {α : Type} {l : List α} {p : α → Bool} (h : l.all p = true) {x : α} (hx : x ∈ l) : p x = true := List.all_eq_true.mp h x hx
theorem law_at {w : World} {K : PySem.W.Frag} {h : Heap} {mg : Str → Option Value} {fa : Addr} (X : K.In h) (G : h.Ns mainGlobals mg) (c : SaysZ fbL fnL csL K) (T : TabsZ tsL K h) (hfa : mg "law" = some (.ref fa)) : LawAtZ LW w 4 63 "_law_script" mg fa h := by
  have e := hfa.symm.trans (He.glo_ok X G (fact_g_law c))
  cases e
  obtain ⟨fd, F⟩ := def_law c
  refine ⟨K, fd, [], spLaw K, X, ?_, ?_, ?_, fun s u => F.bindsA (ps := ["_law_script"]) (fun _ _ _ _ _ _ us hl => match us, hl with | [_], _ => rfl) s [u] rfl, fun H a ns hl hH hS => ⟨a, ns, rfl, hS, hl, fun _ => rfl⟩, fun base KX GX hB => ?_⟩
  · exact fun p hp => nomatch hp
  · exact fun p hp => nomatch hp
  · exact fun p hp => nomatch hp
  · have gl : ∀ x ∈ errL, mg x = some (.ref (He.ga K x)) := fun x hx => He.glo_ok X G (all_of (fact_fGl c) (List.mem_cons_of_mem _ hx))
    have gs : mg "StopError" = some (.ref (He.ga K "StopError")) := He.glo_ok X G (all_of (fact_fGl c) (List.mem_cons_self ..))
    have ox : ∀ x ∈ errL, OexC K (He.ga K x) := fun x hx => oexB_ok (all_of (fact_fOx c) hx)
    have er : ∀ x ∈ errL, ExcR K (He.ga K x) := fun x hx => excRB_ok (all_of (fact_fEr c) hx)
    have rw_ : ∀ x ∈ errL, rowB K x = true := fun x hx => all_of (fact_fRow c) hx
    have nd := inc_nodup (fact_fInc c)
    have nd2 : (errL.map (He.ga K)).Nodup := (List.nodup_cons.mp nd).2
    have ns : ∀ x ∈ errL, He.ga K x ≠ He.ga K "StopError" := fun x hx z => by
      have hh : He.ga K x ∈ errL.map (He.ga K) := List.mem_map_of_mem hx
      rw [z] at hh
      exact (List.nodup_cons.mp nd).1 hh
    have st : (PySem.W.clsIn K (He.ga K "StopError")).isSome = true ∧ PySem.W.typeIn K (.ref (He.ga K "StopError")) = some (.type "type") := by
      obtain ⟨h1, h2⟩ := He.ba (fact_fStop c)
      exact ⟨h1, of_decide_eq_true h2⟩
    have su := He.free_ok X G (fact_f_super c)
    have mi := He.free_ok X G (fact_f_int c)
    have ma := He.free_ok X G (fact_f_abs c)
    have ml := He.free_ok X G (fact_f_len c)
    have E : ErF K mg (He.ga K) := by
      refine ⟨gl, fun D hD => ?_, fun D hD C hC => ?_, nd2, He.free_ok X G (fact_f_isinstance c), He.free_ok X G (fact_f_enumerate c)⟩
      · obtain ⟨x, hx, rfl⟩ := List.mem_map.mp hD
        exact er x hx
      · obtain ⟨x, hx, rfl⟩ := List.mem_map.mp hD
        obtain ⟨y, hy, rfl⟩ := List.mem_map.mp hC
        rw [row_kit (rw_ x hx) (row_is (rw_ y hy)), decide_eq_false (ns y hy), Bool.or_false]
    have na : ∀ (i : Nat) (x : Str) (ns : List Str), ownL[i]? = some x → ownN[i]? = some ns → ∀ f ∈ ns, PySem.W.findIn K (.ref (He.ga K x)) f = some none := fun i x ns e1 e2 f hf => by
      have hm : (x, ns) ∈ ownL.zip ownN := List.mem_of_getElem? (i := i) (by rw [List.getElem?_zip_eq_some]; exact ⟨e1, e2⟩)
      exact He.eqO_ok (all_of (all_of (fact_fNa c) hm) hf)
    have plx : ∀ x ∈ plnL, PlnX K mg x (He.ga K x) := fun x hx => ⟨gl x (err_pln x hx), all_of (fact_fPl c) hx, ox x (err_pln x hx)⟩
    have inx : ∀ (i : Nat) (x : Str) (ns : List Str), ownL[i]? = some x → ownN[i]? = some ns → InX LW.prog w K mg base x (He.ga K x) ns := by
      refine own_all _ ?_ ?_ ?_ ?_ ?_ ?_ ?_ ?_ ?_ ?_ ?_ ?_ ?_ ?_ ?_ ?_ ?_ ?_ ?_ ?_ ?_ ?_ ?_ ?_ ?_ ?_
      · have hm : ("BadText" : Str) ∈ ownL := List.mem_of_getElem? (i := 0) rfl
        have he := err_own _ hm
        have nx := na 0 "BadText" ["line", "column", "wanted"] rfl rfl
        obtain ⟨iC, tI, cc, cda, fi, FI⟩ := supB_ok (P := LW.prog) (mg := mg) (d := i_BadText) (ini_BadText c) (all_of (fact_fSup c) (List.mem_of_getElem? (i := 0) rfl)) (by decide +kernel) su
        exact ⟨gl _ he, ox _ he, er _ he, nx, _, fi, iC, tI, ok_i_BadText (P := LW.prog) (w := w) (base := base) FI (ox _ he) nx, FI.binds (all_of (fact_fDfl c) hm) fun _ _ _ _ _ us hl => match us, hl with | [_, _, _, _], _ => rfl⟩
      · have hm : ("BadCount" : Str) ∈ ownL := List.mem_of_getElem? (i := 1) rfl
        have he := err_own _ hm
        have nx := na 1 "BadCount" ["count"] rfl rfl
        obtain ⟨iC, tI, cc, cda, fi, FI⟩ := supB_ok (P := LW.prog) (mg := mg) (d := i_BadCount) (ini_BadCount c) (all_of (fact_fSup c) (List.mem_of_getElem? (i := 1) rfl)) (by decide +kernel) su
        exact ⟨gl _ he, ox _ he, er _ he, nx, _, fi, iC, tI, ok_i_BadCount (P := LW.prog) (w := w) (base := base) FI (ox _ he) nx, FI.binds (all_of (fact_fDfl c) hm) fun _ _ _ _ _ us hl => match us, hl with | [_, _], _ => rfl⟩
      · have hm : ("BadUnits" : Str) ∈ ownL := List.mem_of_getElem? (i := 2) rfl
        have he := err_own _ hm
        have nx := na 2 "BadUnits" ["at"] rfl rfl
        obtain ⟨iC, tI, cc, cda, fi, FI⟩ := supB_ok (P := LW.prog) (mg := mg) (d := i_BadUnits) (ini_BadUnits c) (all_of (fact_fSup c) (List.mem_of_getElem? (i := 2) rfl)) (by decide +kernel) su
        exact ⟨gl _ he, ox _ he, er _ he, nx, _, fi, iC, tI, ok_i_BadUnits (P := LW.prog) (w := w) (base := base) FI (ox _ he) nx, FI.binds (all_of (fact_fDfl c) hm) fun _ _ _ _ _ us hl => match us, hl with | [_, _], _ => rfl⟩
      · have hm : ("NoUnit" : Str) ∈ ownL := List.mem_of_getElem? (i := 3) rfl
        have he := err_own _ hm
        have nx := na 3 "NoUnit" ["name"] rfl rfl
        obtain ⟨iC, tI, cc, cda, fi, FI⟩ := supB_ok (P := LW.prog) (mg := mg) (d := i_NoUnit) (ini_NoUnit c) (all_of (fact_fSup c) (List.mem_of_getElem? (i := 3) rfl)) (by decide +kernel) su
        exact ⟨gl _ he, ox _ he, er _ he, nx, _, fi, iC, tI, ok_i_NoUnit (P := LW.prog) (w := w) (base := base) FI (ox _ he) nx, FI.binds (all_of (fact_fDfl c) hm) fun _ _ _ _ _ us hl => match us, hl with | [_, _], _ => rfl⟩
      · have hm : ("UsesRing" : Str) ∈ ownL := List.mem_of_getElem? (i := 4) rfl
        have he := err_own _ hm
        have nx := na 4 "UsesRing" ["ring"] rfl rfl
        obtain ⟨iC, tI, cc, cda, fi, FI⟩ := supB_ok (P := LW.prog) (mg := mg) (d := i_UsesRing) (ini_UsesRing c) (all_of (fact_fSup c) (List.mem_of_getElem? (i := 4) rfl)) (by decide +kernel) su
        exact ⟨gl _ he, ox _ he, er _ he, nx, _, fi, iC, tI, ok_i_UsesRing (P := LW.prog) (w := w) (base := base) FI (ox _ he) nx, FI.binds (all_of (fact_fDfl c) hm) fun _ _ _ _ _ us hl => match us, hl with | [_, _], _ => rfl⟩
      · have hm : ("NoFunction" : Str) ∈ ownL := List.mem_of_getElem? (i := 5) rfl
        have he := err_own _ hm
        have nx := na 5 "NoFunction" ["name"] rfl rfl
        obtain ⟨iC, tI, cc, cda, fi, FI⟩ := supB_ok (P := LW.prog) (mg := mg) (d := i_NoFunction) (ini_NoFunction c) (all_of (fact_fSup c) (List.mem_of_getElem? (i := 5) rfl)) (by decide +kernel) su
        exact ⟨gl _ he, ox _ he, er _ he, nx, _, fi, iC, tI, ok_i_NoFunction (P := LW.prog) (w := w) (base := base) FI (ox _ he) nx, FI.binds (all_of (fact_fDfl c) hm) fun _ _ _ _ _ us hl => match us, hl with | [_, _], _ => rfl⟩
      · have hm : ("Faulty" : Str) ∈ ownL := List.mem_of_getElem? (i := 6) rfl
        have he := err_own _ hm
        have nx := na 6 "Faulty" ["fault", "unit"] rfl rfl
        obtain ⟨iC, tI, cc, cda, fi, FI⟩ := supB_ok (P := LW.prog) (mg := mg) (d := i_Faulty) (ini_Faulty c) (all_of (fact_fSup c) (List.mem_of_getElem? (i := 6) rfl)) (by decide +kernel) su
        exact ⟨gl _ he, ox _ he, er _ he, nx, _, fi, iC, tI, ok_i_Faulty (P := LW.prog) (w := w) (base := base) FI (ox _ he) nx, FI.binds (all_of (fact_fDfl c) hm) fun _ _ _ _ _ us hl => match us, hl with | [_, _, _], _ => rfl⟩
      · have hm : ("KindClash" : Str) ∈ ownL := List.mem_of_getElem? (i := 7) rfl
        have he := err_own _ hm
        have nx := na 7 "KindClash" ["clash", "unit"] rfl rfl
        obtain ⟨iC, tI, cc, cda, fi, FI⟩ := supB_ok (P := LW.prog) (mg := mg) (d := i_KindClash) (ini_KindClash c) (all_of (fact_fSup c) (List.mem_of_getElem? (i := 7) rfl)) (by decide +kernel) su
        exact ⟨gl _ he, ox _ he, er _ he, nx, _, fi, iC, tI, ok_i_KindClash (P := LW.prog) (w := w) (base := base) FI (ox _ he) nx, FI.binds (all_of (fact_fDfl c) hm) fun _ _ _ _ _ us hl => match us, hl with | [_, _, _], _ => rfl⟩
      · have hm : ("TwoNames" : Str) ∈ ownL := List.mem_of_getElem? (i := 8) rfl
        have he := err_own _ hm
        have nx := na 8 "TwoNames" ["name"] rfl rfl
        obtain ⟨iC, tI, cc, cda, fi, FI⟩ := supB_ok (P := LW.prog) (mg := mg) (d := i_TwoNames) (ini_TwoNames c) (all_of (fact_fSup c) (List.mem_of_getElem? (i := 8) rfl)) (by decide +kernel) su
        exact ⟨gl _ he, ox _ he, er _ he, nx, _, fi, iC, tI, ok_i_TwoNames (P := LW.prog) (w := w) (base := base) FI (ox _ he) nx, FI.binds (all_of (fact_fDfl c) hm) fun _ _ _ _ _ us hl => match us, hl with | [_, _], _ => rfl⟩
      · have hm : ("NotNow" : Str) ∈ ownL := List.mem_of_getElem? (i := 9) rfl
        have he := err_own _ hm
        have nx := na 9 "NotNow" ["word"] rfl rfl
        obtain ⟨iC, tI, cc, cda, fi, FI⟩ := supB_ok (P := LW.prog) (mg := mg) (d := i_NotNow) (ini_NotNow c) (all_of (fact_fSup c) (List.mem_of_getElem? (i := 9) rfl)) (by decide +kernel) su
        exact ⟨gl _ he, ox _ he, er _ he, nx, _, fi, iC, tI, ok_i_NotNow (P := LW.prog) (w := w) (base := base) FI (ox _ he) nx, FI.binds (all_of (fact_fDfl c) hm) fun _ _ _ _ _ us hl => match us, hl with | [_, _], _ => rfl⟩
      · have hm : ("BadFunctions" : Str) ∈ ownL := List.mem_of_getElem? (i := 10) rfl
        have he := err_own _ hm
        have nx := na 10 "BadFunctions" ["name"] rfl rfl
        obtain ⟨iC, tI, cc, cda, fi, FI⟩ := supB_ok (P := LW.prog) (mg := mg) (d := i_BadFunctions) (ini_BadFunctions c) (all_of (fact_fSup c) (List.mem_of_getElem? (i := 10) rfl)) (by decide +kernel) su
        exact ⟨gl _ he, ox _ he, er _ he, nx, _, fi, iC, tI, ok_i_BadFunctions (P := LW.prog) (w := w) (base := base) FI (ox _ he) nx, FI.binds (all_of (fact_fDfl c) hm) fun _ _ _ _ _ us hl => match us, hl with | [_, _], _ => rfl⟩
      · have hm : ("Unknown" : Str) ∈ ownL := List.mem_of_getElem? (i := 11) rfl
        have he := err_own _ hm
        have nx := na 11 "Unknown" ["name"] rfl rfl
        obtain ⟨iC, tI, cc, cda, fi, FI⟩ := supB_ok (P := LW.prog) (mg := mg) (d := i_Unknown) (ini_Unknown c) (all_of (fact_fSup c) (List.mem_of_getElem? (i := 11) rfl)) (by decide +kernel) su
        exact ⟨gl _ he, ox _ he, er _ he, nx, _, fi, iC, tI, ok_i_Unknown (P := LW.prog) (w := w) (base := base) FI (ox _ he) nx, FI.binds (all_of (fact_fDfl c) hm) fun _ _ _ _ _ us hl => match us, hl with | [_, _], _ => rfl⟩
      · have hm : ("BadCodes" : Str) ∈ ownL := List.mem_of_getElem? (i := 12) rfl
        have he := err_own _ hm
        have nx := na 12 "BadCodes" ["at"] rfl rfl
        obtain ⟨iC, tI, cc, cda, fi, FI⟩ := supB_ok (P := LW.prog) (mg := mg) (d := i_BadCodes) (ini_BadCodes c) (all_of (fact_fSup c) (List.mem_of_getElem? (i := 12) rfl)) (by decide +kernel) su
        exact ⟨gl _ he, ox _ he, er _ he, nx, _, fi, iC, tI, ok_i_BadCodes (P := LW.prog) (w := w) (base := base) FI (ox _ he) nx, FI.binds (all_of (fact_fDfl c) hm) fun _ _ _ _ _ us hl => match us, hl with | [_, _], _ => rfl⟩
      · have hm : ("Refused" : Str) ∈ ownL := List.mem_of_getElem? (i := 13) rfl
        have he := err_own _ hm
        have nx := na 13 "Refused" ["why"] rfl rfl
        obtain ⟨iC, tI, cc, cda, fi, FI⟩ := supB_ok (P := LW.prog) (mg := mg) (d := i_Refused) (ini_Refused c) (all_of (fact_fSup c) (List.mem_of_getElem? (i := 13) rfl)) (by decide +kernel) su
        exact ⟨gl _ he, ox _ he, er _ he, nx, _, fi, iC, tI, ok_i_Refused (P := LW.prog) (w := w) (base := base) FI (ox _ he) nx, FI.binds (all_of (fact_fDfl c) hm) fun _ _ _ _ _ us hl => match us, hl with | [_, _], _ => rfl⟩
      · have hm : ("BadRows" : Str) ∈ ownL := List.mem_of_getElem? (i := 14) rfl
        have he := err_own _ hm
        have nx := na 14 "BadRows" ["at"] rfl rfl
        obtain ⟨iC, tI, cc, cda, fi, FI⟩ := supB_ok (P := LW.prog) (mg := mg) (d := i_BadRows) (ini_BadRows c) (all_of (fact_fSup c) (List.mem_of_getElem? (i := 14) rfl)) (by decide +kernel) su
        exact ⟨gl _ he, ox _ he, er _ he, nx, _, fi, iC, tI, ok_i_BadRows (P := LW.prog) (w := w) (base := base) FI (ox _ he) nx, FI.binds (all_of (fact_fDfl c) hm) fun _ _ _ _ _ us hl => match us, hl with | [_, _], _ => rfl⟩
      · have hm : ("BadSpans" : Str) ∈ ownL := List.mem_of_getElem? (i := 15) rfl
        have he := err_own _ hm
        have nx := na 15 "BadSpans" ["at"] rfl rfl
        obtain ⟨iC, tI, cc, cda, fi, FI⟩ := supB_ok (P := LW.prog) (mg := mg) (d := i_BadSpans) (ini_BadSpans c) (all_of (fact_fSup c) (List.mem_of_getElem? (i := 15) rfl)) (by decide +kernel) su
        exact ⟨gl _ he, ox _ he, er _ he, nx, _, fi, iC, tI, ok_i_BadSpans (P := LW.prog) (w := w) (base := base) FI (ox _ he) nx, FI.binds (all_of (fact_fDfl c) hm) fun _ _ _ _ _ us hl => match us, hl with | [_, _], _ => rfl⟩
      · have hm : ("BadPairs" : Str) ∈ ownL := List.mem_of_getElem? (i := 16) rfl
        have he := err_own _ hm
        have nx := na 16 "BadPairs" ["at"] rfl rfl
        obtain ⟨iC, tI, cc, cda, fi, FI⟩ := supB_ok (P := LW.prog) (mg := mg) (d := i_BadPairs) (ini_BadPairs c) (all_of (fact_fSup c) (List.mem_of_getElem? (i := 16) rfl)) (by decide +kernel) su
        exact ⟨gl _ he, ox _ he, er _ he, nx, _, fi, iC, tI, ok_i_BadPairs (P := LW.prog) (w := w) (base := base) FI (ox _ he) nx, FI.binds (all_of (fact_fDfl c) hm) fun _ _ _ _ _ us hl => match us, hl with | [_, _], _ => rfl⟩
      · have hm : ("BadChanges" : Str) ∈ ownL := List.mem_of_getElem? (i := 17) rfl
        have he := err_own _ hm
        have nx := na 17 "BadChanges" ["at"] rfl rfl
        obtain ⟨iC, tI, cc, cda, fi, FI⟩ := supB_ok (P := LW.prog) (mg := mg) (d := i_BadChanges) (ini_BadChanges c) (all_of (fact_fSup c) (List.mem_of_getElem? (i := 17) rfl)) (by decide +kernel) su
        exact ⟨gl _ he, ox _ he, er _ he, nx, _, fi, iC, tI, ok_i_BadChanges (P := LW.prog) (w := w) (base := base) FI (ox _ he) nx, FI.binds (all_of (fact_fDfl c) hm) fun _ _ _ _ _ us hl => match us, hl with | [_, _], _ => rfl⟩
      · have hm : ("NotTold" : Str) ∈ ownL := List.mem_of_getElem? (i := 18) rfl
        have he := err_own _ hm
        have nx := na 18 "NotTold" ["name"] rfl rfl
        obtain ⟨iC, tI, cc, cda, fi, FI⟩ := supB_ok (P := LW.prog) (mg := mg) (d := i_NotTold) (ini_NotTold c) (all_of (fact_fSup c) (List.mem_of_getElem? (i := 18) rfl)) (by decide +kernel) su
        exact ⟨gl _ he, ox _ he, er _ he, nx, _, fi, iC, tI, ok_i_NotTold (P := LW.prog) (w := w) (base := base) FI (ox _ he) nx, FI.binds (all_of (fact_fDfl c) hm) fun _ _ _ _ _ us hl => match us, hl with | [_, _], _ => rfl⟩
      · have hm : ("BadObject" : Str) ∈ ownL := List.mem_of_getElem? (i := 19) rfl
        have he := err_own _ hm
        have nx := na 19 "BadObject" ["at"] rfl rfl
        obtain ⟨iC, tI, cc, cda, fi, FI⟩ := supB_ok (P := LW.prog) (mg := mg) (d := i_BadObject) (ini_BadObject c) (all_of (fact_fSup c) (List.mem_of_getElem? (i := 19) rfl)) (by decide +kernel) su
        exact ⟨gl _ he, ox _ he, er _ he, nx, _, fi, iC, tI, ok_i_BadObject (P := LW.prog) (w := w) (base := base) FI (ox _ he) nx, FI.binds (all_of (fact_fDfl c) hm) fun _ _ _ _ _ us hl => match us, hl with | [_, _], _ => rfl⟩
      · have hm : ("BadObjects" : Str) ∈ ownL := List.mem_of_getElem? (i := 20) rfl
        have he := err_own _ hm
        have nx := na 20 "BadObjects" ["name"] rfl rfl
        obtain ⟨iC, tI, cc, cda, fi, FI⟩ := supB_ok (P := LW.prog) (mg := mg) (d := i_BadObjects) (ini_BadObjects c) (all_of (fact_fSup c) (List.mem_of_getElem? (i := 20) rfl)) (by decide +kernel) su
        exact ⟨gl _ he, ox _ he, er _ he, nx, _, fi, iC, tI, ok_i_BadObjects (P := LW.prog) (w := w) (base := base) FI (ox _ he) nx, FI.binds (all_of (fact_fDfl c) hm) fun _ _ _ _ _ us hl => match us, hl with | [_, _], _ => rfl⟩
      · have hm : ("TwoUnits" : Str) ∈ ownL := List.mem_of_getElem? (i := 21) rfl
        have he := err_own _ hm
        have nx := na 21 "TwoUnits" ["name"] rfl rfl
        obtain ⟨iC, tI, cc, cda, fi, FI⟩ := supB_ok (P := LW.prog) (mg := mg) (d := i_TwoUnits) (ini_TwoUnits c) (all_of (fact_fSup c) (List.mem_of_getElem? (i := 21) rfl)) (by decide +kernel) su
        exact ⟨gl _ he, ox _ he, er _ he, nx, _, fi, iC, tI, ok_i_TwoUnits (P := LW.prog) (w := w) (base := base) FI (ox _ he) nx, FI.binds (all_of (fact_fDfl c) hm) fun _ _ _ _ _ us hl => match us, hl with | [_, _], _ => rfl⟩
      · have hm : ("Missing" : Str) ∈ ownL := List.mem_of_getElem? (i := 22) rfl
        have he := err_own _ hm
        have nx := na 22 "Missing" ["unit"] rfl rfl
        obtain ⟨iC, tI, cc, cda, fi, FI⟩ := supB_ok (P := LW.prog) (mg := mg) (d := i_Missing) (ini_Missing c) (all_of (fact_fSup c) (List.mem_of_getElem? (i := 22) rfl)) (by decide +kernel) su
        exact ⟨gl _ he, ox _ he, er _ he, nx, _, fi, iC, tI, ok_i_Missing (P := LW.prog) (w := w) (base := base) FI (ox _ he) nx, FI.binds (all_of (fact_fDfl c) hm) fun _ _ _ _ _ us hl => match us, hl with | [_, _], _ => rfl⟩
      · have hm : ("OtherFace" : Str) ∈ ownL := List.mem_of_getElem? (i := 23) rfl
        have he := err_own _ hm
        have nx := na 23 "OtherFace" ["unit"] rfl rfl
        obtain ⟨iC, tI, cc, cda, fi, FI⟩ := supB_ok (P := LW.prog) (mg := mg) (d := i_OtherFace) (ini_OtherFace c) (all_of (fact_fSup c) (List.mem_of_getElem? (i := 23) rfl)) (by decide +kernel) su
        exact ⟨gl _ he, ox _ he, er _ he, nx, _, fi, iC, tI, ok_i_OtherFace (P := LW.prog) (w := w) (base := base) FI (ox _ he) nx, FI.binds (all_of (fact_fDfl c) hm) fun _ _ _ _ _ us hl => match us, hl with | [_, _], _ => rfl⟩
      · have hm : ("BadBits" : Str) ∈ ownL := List.mem_of_getElem? (i := 24) rfl
        have he := err_own _ hm
        have nx := na 24 "BadBits" ["at"] rfl rfl
        obtain ⟨iC, tI, cc, cda, fi, FI⟩ := supB_ok (P := LW.prog) (mg := mg) (d := i_BadBits) (ini_BadBits c) (all_of (fact_fSup c) (List.mem_of_getElem? (i := 24) rfl)) (by decide +kernel) su
        exact ⟨gl _ he, ox _ he, er _ he, nx, _, fi, iC, tI, ok_i_BadBits (P := LW.prog) (w := w) (base := base) FI (ox _ he) nx, FI.binds (all_of (fact_fDfl c) hm) fun _ _ _ _ _ us hl => match us, hl with | [_, _], _ => rfl⟩
      · have hm : ("BadInstruction" : Str) ∈ ownL := List.mem_of_getElem? (i := 25) rfl
        have he := err_own _ hm
        have nx := na 25 "BadInstruction" ["at"] rfl rfl
        obtain ⟨iC, tI, cc, cda, fi, FI⟩ := supB_ok (P := LW.prog) (mg := mg) (d := i_BadInstruction) (ini_BadInstruction c) (all_of (fact_fSup c) (List.mem_of_getElem? (i := 25) rfl)) (by decide +kernel) su
        exact ⟨gl _ he, ox _ he, er _ he, nx, _, fi, iC, tI, ok_i_BadInstruction (P := LW.prog) (w := w) (base := base) FI (ox _ he) nx, FI.binds (all_of (fact_fDfl c) hm) fun _ _ _ _ _ us hl => match us, hl with | [_, _], _ => rfl⟩
    obtain ⟨g1, G1⟩ := def__law_begun c
    obtain ⟨g2, G2⟩ := def__law_mixed c
    obtain ⟨g3, G3⟩ := def__law_take c
    obtain ⟨g4, G4⟩ := def__law_pick c
    obtain ⟨g5, G5⟩ := def__law_plain_errors c
    obtain ⟨g6, G6⟩ := def__law_told_errors c
    obtain ⟨g7, G7⟩ := def__law_classes c
    have w3 : FnOk LW.prog w K mg base CX0 2 _ g3 ["_law_draw", "_law_many"] spTake := ok_take G3 G2 (He.glo_ok X G (fact_g__law_mixed c)) mi
    have c3 : Binds K g3 ["_law_draw", "_law_many"] [] := two_binds G3 fun _ _ _ _ _ _ _ _ => rfl
    have w4 : FnOk LW.prog w K mg base CX0 3 _ g4 ["_law_draw", "_law_some"] (spPick K) := ok_pick G4 (He.glo_ok X G (fact_g__law_take c)) G3.kp c3 w3 ml
    have c4 : Binds K g4 ["_law_draw", "_law_some"] [] := two_binds G4 fun _ _ _ _ _ _ _ _ => rfl
    have w1 : FnOk LW.prog w K mg base CX0 1 _ g1 ["_law_script"] (spBegun K) := ok_begun G1 mi ma
    have w5 : FnOk LW.prog w K mg base CX0 1 _ g5 [] (spPln (He.ga K)) := ok_plain G5 plx
    have c5 : Binds K g5 [] [] := G5.bindsN fun _ _ _ _ _ _ us hl => match us, hl with | [], _ => rfl
    have w6 : FnOk LW.prog w K mg base CX0 3 _ g6 ["_law_one", "_law_other"] (spTold K (He.ga K)) := ok_told G6 inx
    have w7 : FnOk LW.prog w K mg base CX0 1 _ g7 ["_law_error"] (spCls (He.ga K)) := ok_classes G7 E
    refine ok_law F ⟨⟨_, g1, He.glo_ok X G (fact_g__law_begun c), G1.kp, one_binds G1 fun _ _ _ _ _ _ _ => rfl, w1⟩, ⟨_, g4, He.glo_ok X G (fact_g__law_pick c), G4.kp, c4, w4⟩, ⟨_, g6, He.glo_ok X G (fact_g__law_told_errors c), G6.kp, two_binds G6 fun _ _ _ _ _ _ _ _ => rfl, w6⟩,
      ⟨_, g5, He.glo_ok X G (fact_g__law_plain_errors c), G5.kp, c5, w5⟩, ⟨_, g7, He.glo_ok X G (fact_g__law_classes c), G7.kp, one_binds G7 fun _ _ _ _ _ _ _ => rfl, w7⟩, E, smdB_ok (fact_smd c), gs, He.free_ok X G (fact_f_ValueError c), fun D hD => ?_, fun D hD => ?_, ml, He.free_ok X G (fact_f_set c), He.free_ok X G (fact_f_repr c)⟩
    · obtain ⟨x, hx, rfl⟩ := List.mem_map.mp hD
      rw [row_kit (rw_ x hx) st, decide_eq_true (show He.ga K "StopError" = He.ga K "StopError" from rfl), Bool.or_true]
    · obtain ⟨x, hx, rfl⟩ := List.mem_map.mp hD
      exact row_ve (rw_ x hx)
end
end My
open PySem PySem.W PySem.Calls PyProof.Rows
set_option maxHeartbeats 0 in
theorem PySem.Challenge.cw_stopanywhere_k24_errors_made_and_bases_holds : PySem.Challenge.rw_stopanywhere_k24_errors_made_and_bases.Holds := by
  w_on; o_law
  refine HandSHeadRun.head_any (r := OpenLaw.row PySem.Challenge.rw_stopanywhere_k24_errors_made_and_bases) (q := view (OpenLaw.row PySem.Challenge.rw_stopanywhere_k24_errors_made_and_bases).prog [82]) (H := My.hk) (ob := My.ob) (M := 17100) (loose := My.looseL) (d := HandSHeadRun.topDef (OpenLaw.row PySem.Challenge.rw_stopanywhere_k24_errors_made_and_bases).prog 82) (kwd := []) My.ob_eq
    (by kernel_rfl) (fun s => by kernel_rfl) My.run (by kernel_rfl) (by kernel_rfl) (by kernel_rfl) (by rfl) (by first | assumption | decide +kernel) (by decide +kernel) ⟨rfl, rfl, rfl, rfl, rfl, by decide +kernel⟩ ?hw ?hc
  case hw => w_witness2
  case hc =>
    refine My.walk_ofZ (l := PySem.Challenge.rw_stopanywhere_k24_errors_made_and_bases) (n := 63) (k := 4) (x := "_law_script") rfl (by decide) (by kernel_rfl) ⟨rfl, by decide, by decide⟩ ?F
    intro w mg fa h Y G hmg0
    obtain ⟨K, KX, c⟩ := Y
    have hmg : mg ("law" : PySem.Str) = some (.ref fa) := by
      have e : (HandSHeadRun.topDef (OpenLaw.row PySem.Challenge.rw_stopanywhere_k24_errors_made_and_bases).prog 82).name = ("law" : PySem.Str) := by kernel_rfl
      rw [← e]
      exact hmg0
    exact My.law_at KX G c (fun p hp => nomatch hp) hmg
