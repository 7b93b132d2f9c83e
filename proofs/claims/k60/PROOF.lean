import PyProof.Rows.All
import Wide.All
import OpenK.AllK
import Wide.FinOn
import KE.KStateDown
import KE.KExcSuper
import Lean
import HandS.ForMost
import HandS.More
import HandS.WordsExc
import HandS.Defaults
import HandS.Head0
import HandS.Head1
import HandS.Head2
import HandS.HeadEnd
import HandS.HeadHook1
import HandS.HeadHook2
import HandS.HeadHook4
import HandS.IsInst
import HandS.ExcIs
import HandS.ExcInit
import HandS.ExcValue
import HandS.Strs
import HandS.Lambda
import HandS.Wide
import HandS.Walk
import HandS.Flow
import HandS.Deep
import HandS.Style
import HandS.Star
import KE.GoesEnum
import PyProof.EnumMake
import PyProof.EnumStmt
import PyProof.EqKinds
import KE.KLam
import HandS.WordsDict
import KE.KRevSl
import PyProof.MinMaxWalk
import PyProof.WalkInts
import HandS.DictComp
import HandS.TupAny
import HandS.CallLocal
import HandS.SortOrd
import HandS.SetKeys
import KE.IntTextLaws
import KE.SortKeyHeap
import HandS.IntHex
import HandS.Keys
import HandS.SortKw
import KE.SortCalls
import KE.KDictZip
import HandS.Zip0
import HandS.Zip
import HandS.Conv
import PyProof.Rows.TupDisplay
import KE.KDictDisplayH
import PySem.Challenge.RW_stopanywhere_k60_no_fewer_moves
set_option Elab.async false
set_option linter.all false
set_option maxRecDepth 100000
set_option maxHeartbeats 4000000
namespace My
open PySem L2
def top (i : Nat) : Stmt := PySem.Challenge.pw_stopanywhere_k60_no_fewer_moves.main.body.getD i (.Pass ⟨0, 0, 0, 0⟩)
abbrev s_BadPairs___init__ : Stmt := inClass (top 2) 0
abbrev s_sort_of_place : Stmt := top 8
abbrev s_number_of : Stmt := top 9
abbrev s_place_rank : Stmt := top 10
abbrev s_is_register : Stmt := top 11
abbrev s_is_slot : Stmt := top 12
abbrev s_is_machine_place : Stmt := top 16
abbrev s_need_pairs : Stmt := top 17
abbrev s_need_helpers : Stmt := top 18
abbrev s_takers_of : Stmt := top 19
abbrev s_rings_of : Stmt := top 20
abbrev s_by_slots : Stmt := top 21
abbrev s_opens : Stmt := top 22
abbrev s_openings : Stmt := top 23
abbrev s_taken : Stmt := top 24
abbrev s_Ring___init__ : Stmt := inClass (top 25) 0
abbrev s_Ring_hold : Stmt := inClass (top 25) 1
abbrev s_Ring_bring : Stmt := inClass (top 25) 2
abbrev s_Ring_turn : Stmt := inClass (top 25) 3
abbrev s_sources_below : Stmt := top 26
abbrev s_moves_of : Stmt := top 27
abbrev s_moves : Stmt := top 28
abbrev s_law_begun : Stmt := top 30
abbrev s_law_mixed : Stmt := top 31
abbrev s_law_take : Stmt := top 32
abbrev s_law_pick : Stmt := top 33
abbrev s_law_shuffled : Stmt := top 34
abbrev s_law_is_done : Stmt := top 35
abbrev s_law_next : Stmt := top 36
abbrev s_law_least : Stmt := top 37
abbrev s_law : Stmt := top 38

/-! ## the visible heap -/
/-- from the visible H0 (of H) to the visible H0' (of H') -/
structure Vs (H0 H H0' H' : Hp) : Prop where
  grow : Same H0 H0'
  sub : Same H0' H'
  old : ∀ b o, H0' b = some o → H0 b = some o ∨ H b = none
theorem Vs.refl {H0 H : Hp} (s : Same H0 H) : Vs H0 H H0 H := ⟨Same.refl _, s, fun _ _ e => .inl e⟩
theorem free_mono {H0 H : Hp} (s : Same H0 H) {p : Addr} (h : H p = none) : H0 p = none := s.free h
theorem same_upd {H0 H : Hp} (s : Same H0 H) (p : Addr) (o : HO) : Same (upd H0 p o) (upd H p o) := fun b u e => by
  by_cases hb : b = p
  · rw [hb, upd_same] at e ⊢; exact e
  · rw [upd_ne hb] at e ⊢; exact s b u e
theorem same_new {H : Hp} {p : Addr} {o : HO} (h : H p = none) : Same H (upd H p o) := fun b u e => by
  rw [upd_ne (ne_of_none e h)]; exact e
theorem same_sub {H0 H : Hp} (s : Same H0 H) {p : Addr} {o : HO} (h : H0 p = none) : Same H0 (upd H p o) := fun b u e => by
  rw [upd_ne (ne_of_none e h)]; exact s b u e

/-! ## draws -/
def kWide : Key := Sum.inr "wide"
def kCells : Key := Sum.inr "cells"
def kRest : Key := Sum.inr "rest"
def kTurn : Key := Sum.inr "turn"
def drK (w c : Addr) (rest turn : Int) : List (Key × V) := [(kWide, .ref w), (kCells, .ref c), (kRest, .int rest), (kTurn, .int turn)]
theorem ne_cw : ¬ kCells = kWide := by unfold kCells kWide; decide +kernel
theorem ne_rw : ¬ kRest = kWide := by unfold kRest kWide; decide +kernel
theorem ne_tw : ¬ kTurn = kWide := by unfold kTurn kWide; decide +kernel
theorem ne_rc : ¬ kRest = kCells := by unfold kRest kCells; decide +kernel
theorem ne_tc : ¬ kTurn = kCells := by unfold kTurn kCells; decide +kernel
theorem ne_tr : ¬ kTurn = kRest := by unfold kTurn kRest; decide +kernel
theorem dr_wide (w c : Addr) (r t : Int) : valV (drK w c r t) kWide = some (.ref w) := valV_pos rfl
theorem dr_cells (w c : Addr) (r t : Int) : valV (drK w c r t) kCells = some (.ref c) := by
  unfold drK; rw [valV_neg (Ne.symm ne_cw)]; exact valV_pos rfl
theorem dr_rest (w c : Addr) (r t : Int) : valV (drK w c r t) kRest = some (.int r) := by
  unfold drK; rw [valV_neg (Ne.symm ne_rw), valV_neg (Ne.symm ne_rc)]; exact valV_pos rfl
theorem dr_turn (w c : Addr) (r t : Int) : valV (drK w c r t) kTurn = some (.int t) := by
  unfold drK; rw [valV_neg (Ne.symm ne_tw), valV_neg (Ne.symm ne_tc), valV_neg (Ne.symm ne_tr)]; exact valV_pos rfl
theorem dr_putRest (w c : Addr) (r t x : Int) : putK (drK w c r t) kRest (.int x) = drK w c x t := by
  have e1 : ((drK w c r t).any fun kv => decide (kv.1 = kRest)) = true := by rw [valV_any, dr_rest]; rfl
  unfold putK
  rw [if_pos e1]
  unfold drK
  simp only [List.map_cons, List.map_nil]
  rw [if_neg (Ne.symm ne_rw), if_neg (Ne.symm ne_rc), if_pos True.intro, if_neg ne_tr]
theorem dr_putTurn (w c : Addr) (r t x : Int) : putK (drK w c r t) kTurn (.int x) = drK w c r x := by
  have e1 : ((drK w c r t).any fun kv => decide (kv.1 = kTurn)) = true := by rw [valV_any, dr_turn]; rfl
  unfold putK
  rw [if_pos e1]
  unfold drK
  simp only [List.map_cons, List.map_nil]
  rw [if_neg (Ne.symm ne_tw), if_neg (Ne.symm ne_tc), if_neg (Ne.symm ne_tr), if_pos True.intro]
theorem dr_made (w c : Addr) (r t : Int) : mergeK [] (drK w c r t) = drK w c r t := by
  have a1 : putK [] kWide (.ref w) = [(kWide, .ref w)] := putK_new _ valV_nil
  have a2 : putK [(kWide, .ref w)] kCells (.ref c) = [(kWide, .ref w), (kCells, .ref c)] := putK_new _ (by rw [valV_neg (Ne.symm ne_cw)]; exact valV_nil)
  have a3 : putK [(kWide, .ref w), (kCells, .ref c)] kRest (.int r) = [(kWide, .ref w), (kCells, .ref c), (kRest, .int r)] := putK_new _ (by rw [valV_neg (Ne.symm ne_rw), valV_neg (Ne.symm ne_rc)]; exact valV_nil)
  have a4 : putK [(kWide, .ref w), (kCells, .ref c), (kRest, .int r)] kTurn (.int t) = drK w c r t := putK_new _ (by rw [valV_neg (Ne.symm ne_tw), valV_neg (Ne.symm ne_tc), valV_neg (Ne.symm ne_tr)]; exact valV_nil)
  show putK (putK (putK (putK [] kWide (.ref w)) kCells (.ref c)) kRest (.int r)) kTurn (.int t) = drK w c r t
  rw [a1, a2, a3, a4]
/-- what the drawing dict at d holds, with its lists at w and c -/
structure DrD (H : Hp) (d w c : Addr) (ws cs : List Int) (rest turn : Int) : Prop where
  hd : H d = some (.dK (drK w c rest turn))
  hw : H w = some (.lst (ws.map V.int))
  hc : H c = some (.lst (cs.map V.int))
  wc : w ≠ c
  wl : ws.length ≤ 63
  wn : ∀ x ∈ ws, 0 ≤ x
  cl : cs.length ≤ 63
  rn : 0 ≤ rest
  tn : 0 ≤ turn
/-- H0 is seen of H, the drawing dict at d is not -/
def Dw (t : Nat) (H0 H : Hp) (d : Addr) : Prop := Same H0 H ∧ ∃ (w c : Addr) (ws cs : List Int) (rest turn : Int), H0 d = none ∧ H0 w = none ∧ H0 c = none ∧ turn ≤ t ∧ DrD H d w c ws cs rest turn
theorem Dw.same {t : Nat} {H0 H : Hp} {d : Addr} (h : Dw t H0 H d) : Same H0 H := h.1
theorem Dw.mono {t t' : Nat} {H0 H : Hp} {d : Addr} (h : Dw t H0 H d) (l : t ≤ t') : Dw t' H0 H d := by
  obtain ⟨s, w, c, ws, cs, rest, turn, h1, h2, h3, ht, D⟩ := h
  exact ⟨s, w, c, ws, cs, rest, turn, h1, h2, h3, by omega, D⟩
theorem DrD.updo {H : Hp} {d w c p : Addr} {o : HO} {ws cs : List Int} {rest turn : Int} (h : DrD H d w c ws cs rest turn) (n1 : p ≠ d) (n2 : p ≠ w) (n3 : p ≠ c) : DrD (upd H p o) d w c ws cs rest turn :=
  ⟨by rw [upd_ne (Ne.symm n1)]; exact h.hd, by rw [upd_ne (Ne.symm n2)]; exact h.hw, by rw [upd_ne (Ne.symm n3)]; exact h.hc, h.wc, h.wl, h.wn, h.cl, h.rn, h.tn⟩
theorem DrD.same {H H' : Hp} {d w c : Addr} {ws cs : List Int} {rest turn : Int} (h : DrD H d w c ws cs rest turn) (s : Same H H') : DrD H' d w c ws cs rest turn :=
  ⟨s _ _ h.hd, s _ _ h.hw, s _ _ h.hc, h.wc, h.wl, h.wn, h.cl, h.rn, h.tn⟩
/-- a new object -/
theorem Dw.new {t : Nat} {H0 H : Hp} {d p : Addr} {o : HO} (h : Dw t H0 H d) (hp : H p = none) : Dw t (upd H0 p o) (upd H p o) d := by
  obtain ⟨s, w, c, ws, cs, rest, turn, h1, h2, h3, ht, D⟩ := h
  have n1 : d ≠ p := ne_of_none D.hd hp
  have n2 : w ≠ p := ne_of_none D.hw hp
  have n3 : c ≠ p := ne_of_none D.hc hp
  exact ⟨same_upd s p o, w, c, ws, cs, rest, turn, by rw [upd_ne n1]; exact h1, by rw [upd_ne n2]; exact h2, by rw [upd_ne n3]; exact h3, ht, D.updo n1.symm n2.symm n3.symm⟩
/-- an object that is seen is changed -/
theorem Dw.set {t : Nat} {H0 H : Hp} {d p : Addr} {o o' : HO} (h : Dw t H0 H d) (hp : H0 p = some o) : Dw t (upd H0 p o') (upd H p o') d := by
  obtain ⟨s, w, c, ws, cs, rest, turn, h1, h2, h3, ht, D⟩ := h
  have n1 : p ≠ d := ne_of_none hp h1
  have n2 : p ≠ w := ne_of_none hp h2
  have n3 : p ≠ c := ne_of_none hp h3
  exact ⟨same_upd s p o', w, c, ws, cs, rest, turn, by rw [upd_ne n1.symm]; exact h1, by rw [upd_ne n2.symm]; exact h2, by rw [upd_ne n3.symm]; exact h3, ht, D.updo n1 n2 n3⟩
/-- behind what only adds -/
theorem Dw.go {t : Nat} {H0 H H0' H' : Hp} {d : Addr} (h : Dw t H0 H d) (v : Vs H0 H H0' H') (s : Same H H') : Dw t H0' H' d := by
  obtain ⟨_, w, c, ws, cs, rest, turn, h1, h2, h3, ht, D⟩ := h
  have f : ∀ {b : Addr} {o : HO}, H0 b = none → H b = some o → H0' b = none := fun {b o} e e2 => by
    cases q : H0' b with
    | none => rfl
    | some u =>
      rcases v.old b u q with z | z
      · rw [e] at z; cases z
      · rw [e2] at z; cases z
  exact ⟨v.sub, w, c, ws, cs, rest, turn, f h1 D.hd, f h2 D.hw, f h3 D.hc, ht, D.same s⟩
/-- less is seen -/
theorem Dw.less {t : Nat} {H0 H1 H : Hp} {d : Addr} (h : Dw t H0 H d) (s : Same H1 H0) : Dw t H1 H d := by
  obtain ⟨s0, w, c, ws, cs, rest, turn, h1, h2, h3, ht, D⟩ := h
  exact ⟨s.trans s0, w, c, ws, cs, rest, turn, s.free h1, s.free h2, s.free h3, ht, D⟩

/-- how many draws at most -/
abbrev T40 : Nat := 1099511627776
theorem dget_wide {H : Hp} {d w c : Addr} {r t : Int} (h : H d = some (.dK (drK w c r t))) : DGet H d (.str "wide") (some (.ref w)) := by
  have := DGet.k (k := kWide) h
  rw [dr_wide] at this
  exact this
theorem dget_cells {H : Hp} {d w c : Addr} {r t : Int} (h : H d = some (.dK (drK w c r t))) : DGet H d (.str "cells") (some (.ref c)) := by
  have := DGet.k (k := kCells) h
  rw [dr_cells] at this
  exact this
theorem dget_rest {H : Hp} {d w c : Addr} {r t : Int} (h : H d = some (.dK (drK w c r t))) : DGet H d (.str "rest") (some (.int r)) := by
  have := DGet.k (k := kRest) h
  rw [dr_rest] at this
  exact this
theorem dget_turn {H : Hp} {d w c : Addr} {r t : Int} (h : H d = some (.dK (drK w c r t))) : DGet H d (.str "turn") (some (.int t)) := by
  have := DGet.k (k := kTurn) h
  rw [dr_turn] at this
  exact this
theorem dput_rest {H : Hp} {d w c : Addr} {r t : Int} (x : Int) (h : H d = some (.dK (drK w c r t))) : DPut H d (.str "rest") (.int x) (upd H d (.dK (drK w c x t))) := by
  have := DPut.k (k := kRest) (v := .int x) h (by rw [sizeLine_eq]; exact (by decide : 4 < 16777216))
  rw [dr_putRest] at this
  exact this
theorem dput_turn {H : Hp} {d w c : Addr} {r t : Int} (x : Int) (h : H d = some (.dK (drK w c r t))) : DPut H d (.str "turn") (.int x) (upd H d (.dK (drK w c r x))) := by
  have := DPut.k (k := kTurn) (v := .int x) h (by rw [sizeLine_eq]; exact (by decide : 4 < 16777216))
  rw [dr_putTurn] at this
  exact this
theorem DrD.ne_dw {H : Hp} {d w c : Addr} {ws cs : List Int} {rest turn : Int} (h : DrD H d w c ws cs rest turn) : d ≠ w := ne_of h.hd h.hw (by intro z; cases z)
theorem DrD.ne_dc {H : Hp} {d w c : Addr} {ws cs : List Int} {rest turn : Int} (h : DrD H d w c ws cs rest turn) : d ≠ c := ne_of h.hd h.hc (by intro z; cases z)
theorem DrD.setD {H : Hp} {d w c : Addr} {ws cs : List Int} {rest turn r2 t2 : Int} (h : DrD H d w c ws cs rest turn) (h1 : 0 ≤ r2) (h2 : 0 ≤ t2) : DrD (upd H d (.dK (drK w c r2 t2))) d w c ws cs r2 t2 :=
  ⟨upd_same, by rw [upd_ne h.ne_dw.symm]; exact h.hw, by rw [upd_ne h.ne_dc.symm]; exact h.hc, h.wc, h.wl, h.wn, h.cl, h1, h2⟩
def spBegun (K : PySem.W.Frag) : Sp := fun vs H Q _ => ∃ (a : Addr) (ns : List Int), vs = [.ref a] ∧ SqL K H a (ns.map V.int) ∧ ns.length ≤ 63 ∧ ∀ (H' : Hp) (d : Addr), Dw 0 H H' d → H d = none → Q (.ref d) H'
def spMixed : Sp := fun vs H Q _ => ∃ (d w c : Addr) (ws cs : List Int) (rest turn : Int), vs = [.ref d] ∧ turn < T40 ∧ DrD H d w c ws cs rest turn ∧
  ∀ (n : Int) (H' : Hp), 0 ≤ n → DrD H' d w c ws cs rest (turn + 1) → (∀ b o, H b = some o → b ≠ d → H' b = some o) → Q (.int n) H'
def spTake : Sp := fun vs H Q _ => ∃ (t : Nat) (H0 : Hp) (d : Addr) (n : Int), vs = [.ref d, .int n] ∧ Dw t H0 H d ∧ t < T40 ∧ 0 < n ∧ n < 1152921504606846976 ∧
  ∀ (k : Int) (H' : Hp), 0 ≤ k → k < n → Dw (t + 1) H0 H' d → Q (.int k) H'
/-- what _law_pick picks from -/
inductive SomeV (K : PySem.W.Frag) (H : Hp) : V → List V → Prop where
  | lst {a : Addr} {xs : List V} (h : SqL K H a xs) : SomeV K H (.ref a) xs
  | tup {a : Addr} {xs : List V} (h : SqT K H a xs) : SomeV K H (.ref a) xs
  | str {z : Str} (h : z.length ≤ 100000) : SomeV K H (.str z) (z.cps.toList.map fun c => V.str ⟨#[c]⟩)
def spPick (K : PySem.W.Frag) : Sp := fun vs H Q _ => ∃ (t : Nat) (H0 : Hp) (d : Addr) (x : V) (xs : List V), vs = [.ref d, x] ∧ Dw t H0 H d ∧ t < T40 ∧ SomeV K H0 x xs ∧ 0 < xs.length ∧ xs.length < 100000 ∧
  ∀ (v : V) (H' : Hp), v ∈ xs → Dw (t + 1) H0 H' d → Q v H'
/-! ## own exceptions whose __init__ begins with super().__init__(text) -/
theorem lookup_app {α : Type} {x : Str} : ∀ {l m : List (Str × α)}, (l ++ m).lookup x = match l.lookup x with | some v => some v | none => m.lookup x
  | [], m => rfl
  | (y, v) :: l, m => by
    show (match x == y with | true => some v | false => (l ++ m).lookup x) = match (match x == y with | true => some v | false => l.lookup x) with | some v => some v | none => m.lookup x
    cases (x == y) with
    | true => rfl
    | false => exact lookup_app
theorem lookup_out {α : Type} {x : Str} : ∀ {l : List (Str × α)}, (∀ v, (x, v) ∉ l) → l.lookup x = none
  | [], _ => rfl
  | (y, v) :: l, h => by
    have e : (x == y) = false := by
      apply Bool.eq_false_iff.mpr
      intro q
      exact h v (by rw [eq_of_beq q]; exact List.mem_cons_self ..)
    show (match x == y with | true => some v | false => l.lookup x) = none
    rw [e]
    exact lookup_out fun w hw => h w (List.mem_cons_of_mem _ hw)
theorem rev_lookup {x : Str} {u : Value} : ∀ {ps : List Str} {us : List Value} {i : Nat}, ps.Nodup → ps[i]? = some x → us[i]? = some u → (ps.zip us).reverse.lookup x = some u
  | [], _, _, _, h, _ => by simp at h
  | _ :: _, [], _, _, _, h => by simp at h
  | p :: ps, v :: us, 0, nd, h1, h2 => by
    simp at h1 h2
    subst h1 h2
    show ((p, v) :: ps.zip us).reverse.lookup p = some v
    rw [List.reverse_cons, lookup_app, lookup_out]
    · show (match p == p with | true => some v | false => _) = some v
      rw [beq_self_eq_true]
    · intro w hw
      exact (List.nodup_cons.mp nd).1 (List.of_mem_zip (List.mem_reverse.mp hw)).1
  | p :: ps, v :: us, i + 1, nd, h1, h2 => by
    show ((p, v) :: ps.zip us).reverse.lookup x = some u
    rw [List.reverse_cons, lookup_app, rev_lookup (i := i) (List.nodup_cons.mp nd).2 (by simpa using h1) (by simpa using h2)]

/-- the context of such an __init__ behind its first statement -/
abbrev supEnv (qual : Str) (scope : Scope) (L f : Addr) (cd : Value) (cc : Addr) : Env := PySem.W.ksEnv qual scope L f cd cc
def cxS (CX : CXT) (P : Program) (w : World) (K : PySem.W.Frag) (mg : Str → Option Value) (base : Heap) (N : List Str) (qual : Str) (scope : Scope) (f : Addr) (cd : Value) (cc : Addr) (A : Around) (outer : List Env) (s : Shared) (H : Hp) (E : XK) : Cx where
  prog := P
  w := w
  K := K
  mg := mg
  base := base
  A := A.deeper (supEnv qual scope s.heap.objs.size f cd cc)
  N := N
  s_0 := s
  H_0 := H
  env := supEnv qual scope s.heap.objs.size f cd cc
  outer := outer
  stack := supEnv qual scope s.heap.objs.size f cd cc :: outer
  ex := []
  calm := true
  fn := fun _ => false
  pn := []
  xe := fun e s' => wpAny (model P w) (A.deeper (supEnv qual scope s.heap.objs.size f cd cc)) (leaving (supEnv qual scope s.heap.objs.size f cd cc) e) (fun _ s'' => CX outer H s E e s'') (fun e' s'' => CX outer H s E e' s'') s'
structure ScopeS (N : List Str) (sc : Scope) : Prop where
  kind : sc.kind = .function
  co : sc.isCoroutine = false
  gen : sc.isGenerator = false
  nd : N.Nodup
  par : ∀ x ∈ N, sc.names.lookup x = some .local
  free : ∀ y ∈ sc.names, y.2 ≠ .cell ∧ (y.2 = .free → y.1 = "__class__")
  cls : sc.names.lookup ("__class__" : Str) = some .free
  sup : sc.names.lookup ("super" : Str) = some .globalImplicit
section
variable {P : Program} {w : World} {K : PySem.W.Frag} {mg : Str → Option Value} {base : Heap}
theorem invS_start {CX : CXT} {N : List Str} {qual : Str} {scope : Scope} {f cc : Addr} {cd : Value} {A : Around} {outer : List Env} {s : Shared} {H : Hp} {E : XK} {us : List Value} {vs : List V} {h0 : Heap} {tk : Nat} {oc : Obj} {cv : Option Value}
    (S : ScopeS N scope) (hd : A.handled = none) (e0 : Env0 P w K mg base A outer s H) (hl : vs.length = N.length) (r : Vals vs us) (hcc : base.get? cc = some oc) (hcd : oc.data = .cell cv)
    (hns : h0.Ns s.heap.objs.size fun x => (N.zip us).reverse.lookup x) (hk : ∀ b o, s.heap.get? b = some o → h0.get? b = some o) :
    Inv (cxS CX P w K mg base N qual scope f cd cc A outer s H E) [] (vs.map some) H { s with heap := h0, toks := tk } := by
  have noA : ∀ b : Addr, b ∉ (cxS CX P w K mg base N qual scope f cd cc A outer s H E).ex := fun b z => absurd (show b ∈ ([] : List Addr) from z) (by simp)
  have one : ∀ {y : Str} {c : Addr}, List.lookup y [(("__class__" : Str), cc)] = some c → y = "__class__" ∧ c = cc := fun {y c} h => by
    have h2 : (match y == ("__class__" : Str) with | true => some cc | false => none) = some c := h
    cases q : (y == ("__class__" : Str)) with
    | true =>
      rw [q] at h2
      exact ⟨eq_of_beq q, (Option.some.inj h2).symm⟩
    | false =>
      rw [q] at h2
      cases h2
  have has : List.lookup ("__class__" : Str) [(("__class__" : Str), cc)] = some cc := by
    show (match ("__class__" : Str) == ("__class__" : Str) with | true => some cc | false => none) = some cc
    rw [beq_self_eq_true]
  refine ⟨⟨e0.mod, S.kind, rfl, rfl, Nat.le_refl _, fun y z c h1 h2 => ?_, fun y hy => ?_, fun y c z _ => ?_, fun _ => hd, Around.frames_deeper e0.frames, .inr ⟨rfl, rfl⟩, fun b z => absurd z (noA b), e0.bs, e0.bsz, fun b _ _ => noA b, fun b z => absurd z (noA b), e0.funs, e0.frf⟩,
    rfl, e0.bare, Un.kept hk, ⟨_, hns, fun i y v h1 h2 h3 => ?_⟩, fun y c h => ?_, e0.hok.fresh (Nat.le_refl _), fun y c h => ?_, fun p hp => absurd (show p ∈ ([] : List (Addr × Obj)) from hp) (by simp), e0.hok.kept hk, ?_⟩
  · rw [(one h1).1, (one h2).1]
  · have hy : scope.names.lookup y = some .cell ∨ scope.names.lookup y = some .free := hy
    rcases hy with hy | hy
    · exact absurd rfl (S.free _ (PySem.mem_of_lookup hy)).1
    · have e : y = "__class__" := (S.free _ (PySem.mem_of_lookup hy)).2 rfl
      exact ⟨cc, by rw [e]; exact has⟩
  · have z : false = true := z
    cases z
  · have h1 : N[i]? = some y := h1
    rw [List.getElem?_map] at h2
    cases e : vs[i]? with
    | none => rw [e] at h2; cases h2
    | some a =>
      rw [e] at h2
      cases h2
      obtain ⟨u, hu, rv⟩ := r.get e
      exact ⟨u, rv, .inl ⟨S.par y (List.mem_of_getElem? h1), rev_lookup S.nd h1 hu⟩⟩
  · rw [(one h).2]
    exact ⟨cv, oc, hk _ _ (e0.bs _ _ hcc).1, hcd⟩
  · rw [(one h).2]
    exact (e0.bs _ _ hcc).2
  · show (vs.map some).length = N.length
    rw [List.length_map, hl]

/-- the written part about such a class and its __init__ -/
structure SupF (P : Program) (K : PySem.W.Frag) (mg : Str → Option Value) (C f cc cda : Addr) (qual : Str) (params : Arguments) (body : List Stmt) (scope : Scope) (fd : FuncData) : Prop where
  ex : ∃ (oc : Value) (od : Option Addr) (dV kV doc pm ct : Value) (an : Option Addr) (osl : Array (Option Value)),
    fd = PySem.W.ksFn "__init__" qual params body scope dV kV doc pm an (.ref cda) ct cc ∧ K.lookup f = some ⟨oc, od, .func fd, osl⟩
  cd : PySem.W.codeIn K (.ref cda) qual = true
  co : ∃ (oc : Obj) (vs : Array Value) (file : Str) (tf : Tok), K.lookup cda = some oc ∧ oc.data = .fields vs ∧ vs[2]? = some (.str file tf) ∧ ((P.main.file : Str) == file) = true
  cell : ∃ oc : Obj, K.lookup cc = some oc ∧ oc.data = .cell (some (.ref C))
  top : (P.main.scope.names.lookup ("super" : Str)).isSome = false
  sub : PySem.W.mroIn K C (.ref C) = some true
  opq : PySem.W.nsIn K cStatics "thirdparty.any" = some none
  al : ∃ cd, PySem.W.clsIn K C = some cd ∧ PySem.W.alongIn K "__init__" ((cd.mro.dropWhile (· != .ref C)).drop 1) = some (some (.builtin "ValueError.__init__"))
  ve : PySem.W.subIn K (.ref C) (.type "ValueError") = some true
  su : mg "super" = none
/-- the first statement -/
abbrev supCall (p0 p1 p2 p3 p4 : Pos) (txt : Str) (kd : Nat) : Expr := .Call (.Attribute (.Call (.Name "super" p0) [] [] p1) "__init__" p2) [.Constant (.str txt) kd p3] [] p4
/-- what the evaluator's own text says there, by rfl at a written scope -/
structure SupE (qual : Str) (scope : Scope) (p0 p1 p2 p3 p4 p5 : Pos) (txt : Str) (kd : Nat) : Prop where
  hi : ∀ L f cd cc, interactive (supEnv qual scope L f cd cc) = false
  hs : ∀ L f cd cc, swapsWith (supCall p0 p1 p2 p3 p4 txt kd) none p5.line (supEnv qual scope L f cd cc) = pure false
  he : ∃ pl : Sem Bool, ∀ L f cd cc, eval (supCall p0 p1 p2 p3 p4 txt kd) (supEnv qual scope L f cd cc) = (do
      let ov ← attributeBase (.Call (.Name "super" p0) [] [] p1) "__init__" (supEnv qual scope L f cd cc) (eval (.Call (.Name "super" p0) [] [] p1) (supEnv qual scope L f cd cc))
      standAt p2.atName
      let (g, first) ← holding [ov] (getMethod ov "__init__" pl)
      callWith p4 g first (backTo p4 (starEach [.Constant (.str txt) kd p3] (supEnv qual scope L f cd cc))) [])
theorem super_init {CX : CXT} {N : List Str} {qual : Str} {params : Arguments} {body : List Stmt} {scope : Scope} {C f cc cda e : Addr} {fd : FuncData} {A : Around} {outer : List Env} {s : Shared} {H : Hp} {E : XK} {s0 : Shared} {H0 : Hp} {σ : St} {p0 p1 p2 p3 p4 p5 : Pos} {txt : Str} {kd : Nat} {ar : Arg}
    (F : SupF P K mg C f cc cda qual params body scope fd) (T : OexC K C) (S : ScopeS N scope) (SE : SupE qual scope p0 p1 p2 p3 p4 p5 txt kd) (hhd : (params.posonlyargs ++ params.args).head? = some ar) (hN : N[0]? = some ar.arg)
    (I : Inv (cxS CX P w K mg base N qual scope f (.ref cda) cc A outer s0 H0 E) [] σ H s) (hσ : σ[0]? = some (some (.ref e))) (he : H e = some (exo e C none)) {Q : Flow → Shared → Prop} {EE : Value → Shared → Prop}
    (h : ∀ s', Inv (cxS CX P w K mg base N qual scope f (.ref cda) cc A outer s0 H0 E) [] σ H s' → Q .next s') :
    PySem.wpAt (model P w) (A.deeper (supEnv qual scope s0.heap.objs.size f (.ref cda) cc)) (.func body (supEnv qual scope s0.heap.objs.size f (.ref cda) cc))
      (exec (.Expr (supCall p0 p1 p2 p3 p4 txt kd) p5) (supEnv qual scope s0.heap.objs.size f (.ref cda) cc)) Q EE s := by
  obtain ⟨oc, od, dV, kV, doc, pm, ct, an, osl, rfl, lk⟩ := F.ex
  obtain ⟨co, vs, file, tf, lco, dco, vs2, hfile⟩ := F.co
  obtain ⟨cel, lcel, dcel⟩ := F.cell
  obtain ⟨cdC, hcl, hal⟩ := F.al
  have X := I.kIn
  obtain ⟨t1, ho⟩ := exo_at I.hok he
  obtain ⟨oD, hD1, hD2⟩ : ∃ oD, s.heap.get? C = some oD ∧ oD.data = .cls cdC := by
    unfold PySem.W.clsIn at hcl
    split at hcl
    · rename_i c d cd' sl hoo
      cases hcl
      exact ⟨_, X _ _ hoo, rfl⟩
    · cases hcl
  have eC : e ≠ C := fun z => by
    rw [z] at ho
    rw [ho] at hD1
    cases hD1
    cases hD2
  obtain ⟨m, hns, hloc⟩ := I.loc
  have harl : scope.names.lookup ar.arg = some .local := S.par _ (List.mem_of_getElem? hN)
  obtain ⟨u, ru, lu⟩ := hloc 0 ar.arg (.ref e) hN hσ (.inl harl)
  cases (show u = Value.ref e from ru)
  have hm : m ar.arg = some (.ref e) := by
    rcases lu with ⟨_, z⟩ | ⟨z, _⟩
    · exact z
    · have z : scope.names.lookup ar.arg = some .cell ∨ scope.names.lookup ar.arg = some .free := z
      rw [harl] at z
      rcases z with z | z <;> cases z
  have J : PySem.W.InstAt s.heap e ({ cls := .ref C, dict := none, data := .fields #[.ref t1, .none, .none, .none, .bool false, .none] } : Obj) C none := ⟨ho, rfl, rfl, trivial⟩
  obtain ⟨pl, hev⟩ := SE.he
  refine PySem.ks_wpAt_Expr_any ?_ (SE.hi _ _ _ _) (SE.hs _ _ _ _)
  refine PySem.ks_wpAt_MethodCall (pl := pl) ?_ (hev _ _ _ _)
  refine PySem.ks_wpAt_super_base (env := supEnv qual scope s0.heap.objs.size f (.ref cda) cc) S.sup S.cls (by decide +kernel) rfl (X _ _ lk) rfl hhd rfl (X _ _ lco) dco vs2 hfile F.top ?_
  obtain ⟨mb, mb1, mb2⟩ := I.mod.blt
  refine PySem.W.ks_loadName_global S.kind S.sup (Calls.loadGlobal_builtin (env := supEnv qual scope s0.heap.objs.size f (.ref cda) cc) (I.mod.glob.keeps I.bk) F.su (mb1.keeps I.bk) ((mb2 _ (by decide)).trans (show bootBuiltins "super" = some (.type "super") by decide +kernel)) ⟨rfl, ?_⟩)
  refine wpAny_loadName_free S.kind S.cls rfl ⟨_, X _ _ lcel, dcel⟩ ?_
  refine wpAny_loadName_local S.kind harl hns hm ?_
  refine ks_wpAny_isType_cls hD1 hD2 ⟨rfl, ?_⟩
  obtain ⟨hp, g, d, t, os⟩ := s
  refine ks_wpAny_call_super hD1 hD2 ho rfl (fun c z => by cases z) (PySem.W.looks_mroIn X F.sub) (fun h' es k => ?_)
  have I1 : Inv (cxS CX P w K mg base N qual scope f (.ref cda) cc A outer s0 H0 E) [] σ H ⟨h', g, d, t, os⟩ := I.kept (t' := t) k
  have X1 := I1.kIn
  refine PySem.W.kxs_getMethod PySem.W.kxs_ValueError es (PySem.W.looks_opaque X1 F.opq) (l₀ := cdC.mro) (fun A Q E s k q => wpAny_bind ((PySem.W.looks_clsIn X1 hcl) A _ E s k (wpAny_pure q))) rfl X1 hal ((show PySem.W.InstAt h' e _ C none from ⟨k _ _ ho, rfl, rfl, trivial⟩).type.andThen (PySem.W.looks_subIn X1 F.ve)) eC (by decide +kernel) ?_
  have es2 : (h'.push (PySem.W.kxs_mw "ValueError.__init__" e)).get? h'.objs.size = some (PySem.W.kxs_mw "ValueError.__init__" e) := Heap.get?_push_at rfl rfl
  generalize h'.objs.size = u at es2
  have k2 : ∀ b o, h'.get? b = some o → (h'.push (PySem.W.kxs_mw "ValueError.__init__" e)).get? b = some o := fun b o q => Heap.get?_push_of_some _ q
  generalize h'.push (PySem.W.kxs_mw "ValueError.__init__" e) = h2 at es2 k2
  have I2 : Inv (cxS CX P w K mg base N qual scope f (.ref cda) cc A outer s0 H0 E) [] σ H ⟨h2, g, d, t + 1, os⟩ := I1.kept (t' := t + 1) k2
  have hee : ∀ env : Env, starEach [.Constant (.str txt) kd p3] env = (false, eval (.Constant (.str txt) kd p3) env) :: starEach [] env := fun env => rfl
  refine PySem.W.kxs_callWith (i := "ValueError.__init__") (x := e) (by rw [hee]; rfl) ?_
  rw [hee]
  refine Calls.evalArgs_plain (Calls.spliced_cons (Calls.Constant_str (pos := p3) (k := kd) (Calls.spliced_nil ?_)))
  refine ⟨es2, ?_⟩
  have he2 := k2 _ _ (k _ _ ho)
  obtain ⟨nm, q, N', bs, bm, sn, sub, ab, col, dd, k0, k1, k2', k3, k5, hC, hbm⟩ := T.cls
  have hC2 := I2.kIn _ _ hC
  refine wpAny_call (codeAny_of_tree ?_)
  show wpAny _ (A.deeper (supEnv qual scope s0.heap.objs.size f (.ref cda) cc)).in1 (callAny (.ref u) ⟨[.str txt _], []⟩) _ _ _
  simp only [callAny]
  refine wpAny_bind (wpAny_load es2 ?_)
  simp only [PySem.W.kxs_mw, show (Value.type "method-wrapper" == Value.type "method" || Value.type "method-wrapper" == Value.type "builtin_function_or_method" || Value.type "method-wrapper" == Value.type "method-wrapper") = true by decide, if_true]
  refine PySem.W.KFB.if_so (by decide) ?_
  refine wpAny_bind (PySem.W.check_bound_init PySem.F.excBase_ValueError.toExcCallFacts hC2 he2 rfl ?_)
  refine wpAny_bind (wpAny_pure (wpAny_pure ?_))
  refine ⟨plainId_quiet PySem.F.excBase_ValueError.init.plain _, codeAny_builtin PySem.F.excBase_ValueError.initEntry ?_⟩
  refine PySem.W.exc_init_tree (cls := .ref C) (t0 := t1) (dv := none) (c2 := .none) (c3 := .none) (b4 := .bool false) he2 (by rw [sizeLine_eq]; exact (by decide : 1 ≤ 16777216)) fun h3 k3 hx _ => ?_
  have I3 : Inv (cxS CX P w K mg base N qual scope f (.ref cda) cc A outer s0 H0 E) [] σ (upd H e (exo e C none)) ⟨h3, g, d, t + 1 + 1, os⟩ := I2.write (t' := t + 1 + 1) (x := e) (e := e) (o := exo e C none) (by rw [he]; exact True.intro) (.inl rfl) k3 ⟨_, hx⟩ (exo_ok hx)
  have eu : upd H e (exo e C none) = H := by
    funext b
    by_cases hb : b = e
    · rw [hb, upd_same, he]
    · rw [upd_ne hb]
  rw [eu] at I3
  exact h _ I3
end
section
variable {P : Program} {w : World} {K : PySem.W.Frag} {mg : Str → Option Value} {base : Heap}
/-- THE RULE for such an __init__: behind its first statement, by the rest of its body -/
theorem fn_super {CX : CXT} {k : Nat} {sp : Sp} {N : List Str} {qual : Str} {params : Arguments} {rest : List Stmt} {scope : Scope} {C f cc cda : Addr} {fd : FuncData} {p0 p1 p2 p3 p4 p5 : Pos} {txt : Str} {kd : Nat} {ar : Arg}
    (F : SupF P K mg C f cc cda qual params (.Expr (supCall p0 p1 p2 p3 p4 txt kd) p5 :: rest) scope fd) (T : OexC K C) (S : ScopeS N scope) (SE : SupE qual scope p0 p1 p2 p3 p4 p5 txt kd) (hhd : (params.posonlyargs ++ params.args).head? = some ar) (hN : N[0]? = some ar.arg)
    (len : ∀ vs H Q E, sp vs H Q E → vs.length = N.length) (first : ∀ vs H Q E, sp vs H Q E → ∃ e r, vs = .ref e :: r ∧ H e = some (exo e C none))
    (hbody : ∀ (A : Around) (outer : List Env) (s : Shared) (H : Hp) (vs : List V) (Q : VK) (E : XK), sp vs H Q E →
      ∃ t, PSs (cxS CX P w K mg base N qual scope f (.ref cda) cc A outer s H E) rest t ∧ t { nx := fun _ H' => Q .non H', rt := Q } (vs.map some) H) : FnOk P w K mg base CX (k + 1) f fd N sp := by
  refine ⟨len, fun A outer s H args us vs Q E hr e0 hb r hsp => ?_⟩
  have hl := len _ _ _ _ hsp
  obtain ⟨e, rv, rfl, he⟩ := first _ _ _ _ hsp
  have F' := F
  obtain ⟨oc, od, dV, kV, doc, pm, ct, an, osl, rfl, lk⟩ := F.ex
  obtain ⟨oc', lcel, dcel⟩ := F.cell
  have KX : K.In s.heap := e0.mod.kin.keeps fun b o e => (e0.bs b o e).1
  have lim : s.heap.NoLimit := e0.mod.nolimit.keeps fun b o e => (e0.bs b o e).1
  have hloc : ∀ x ∈ N.zip us, scope.names.lookup x.1 = some .local := fun ⟨n, v⟩ hy => S.par n (List.of_mem_zip hy).1
  refine PySem.ks_codeAny_call_defAt (binds := N.zip us) hr.depth (KX _ _ lk) rfl lim (PySem.W.codeRec_of KX F.cd) rfl hb (fun x hx => (S.free x hx).1) hloc (fun h0 hns hk => ?_) S.co S.gen S.kind
  have I := invS_start (CX := CX) (P := P) (w := w) (E := E) (f := f) (cd := .ref cda) (tk := s.toks + (N.zip us).length) (qual := qual) S hr.hd e0 hl r (e0.mod.kin _ _ lcel) dcel hns hk
  obtain ⟨t, ht, hq⟩ := hbody A outer s H _ Q E hsp
  refine PySem.ks_wpAt_execs_cons (super_init F' T S SE hhd hN I rfl he fun s' I' => wpAt_of_wpAny ?_)
  refine wpAny_mono (ht.run [] s' _ H _ I' hq) (fun fl s' hs => ?_) fun e s' hs => hs
  have fin : ∀ {σ' : St} {H' : Hp} {v : V} {u : Value}, Inv (cxS CX P w K mg base N qual scope f (.ref cda) cc A outer s H E) [] σ' H' s' → RelV v u → Q v H' → CE outer P w H s Q u s' :=
    fun {σ' H' v u} J rv q => ⟨v, H', J.os, J.bare, J.base, J.hok, rv, q⟩
  cases fl with
  | ret u =>
    obtain ⟨v, σ', H', J, rv, q⟩ := hs
    exact fin J rv q
  | next =>
    obtain ⟨σ', H', J, q⟩ := hs
    exact fin (v := V.non) (u := Value.none) J rfl q
  | brk =>
    obtain ⟨_, _, _, q⟩ := hs
    exact False.elim q
  | cont =>
    obtain ⟨_, _, _, q⟩ := hs
    exact False.elim q
end
/-- C(e, ..) as a value, C an own exception whose __init__ keeps sp -/
def tMkV (C : Addr) (sp : Sp) (E : XK) (ta : TA) : TE := fun σ H Q => ta σ H fun vs H1 => vs.length ≤ 1000 ∧ ∀ a, H1 a = none → sp (.ref a :: vs) (upd H1 a (exo a C none)) (fun v H2 => v = .non ∧ Q (.ref a) H2) E
theorem pe_mkS {X : Cx} {e : Expr} {es : List Expr} {ta : TA} {p pos : Pos} {CX : CXT} {x : Str} {C fI : Addr} {k : Nat} {fd : FuncData} {ps : List Str} {sp : Sp} {E : XK} (T : OexC X.K C) (iC : PySem.W.findIn X.K (.ref C) "__init__" = some (some (.ref fI))) (tI : PySem.W.typeIn X.K (.ref fI) = some (.type "function"))
    (F1 : FnOk X.prog X.w X.K X.mg X.base CX k fI fd ps sp) (hr : Room (k + 1) X.A) (hb : Binds X.K fd ps []) (hx : Passes CX X E) (hg : Gl X x) (hm : X.mg x = some (.ref C)) (ha : PA X (e :: es) ta)
    (hdb : (x == ("__debug__" : Str)) = false := by decide) (he : starEach (e :: es) X.env = (false, eval e X.env) :: starEach es X.env := by rfl) (hpl : (backTo pos (starEach es X.env)).any (·.1) = false := by rfl) :
    PE X (.Call (.Name x p) (e :: es) [] pos) (tMkV C sp E ta) := by
  refine ⟨fun pins s σ H Q I h => ?_⟩
  obtain ⟨nm, q, N, bs, bm, sn, sub, ab, col, dd, k0, k1, k2, k3, k5, hC, hbm⟩ := T.cls
  refine wpAny_Call_Name_kw (ld_glob I hg hm ?_ hdb)
  refine PySem.W.callWith_K (h₀ := X.base) I.ok.mod.kin T.kC (thn (ha.run pos pins s σ H _ I h) fun us s1 ⟨vs, H1, I1, r1, hz, q1⟩ => ⟨I1.kIn, ?_⟩) he hpl
  show wpAny _ _ (call (.ref C) us) _ _ _
  obtain ⟨hp, g, dr, tk, os⟩ := s1
  have hsz : hp.objs.size ≤ hp.objs.size + 1 := Nat.le_succ _
  have hn : H1 (hp.objs.size + 1) = none := I1.hok.fresh hsz
  have hq := q1 (hp.objs.size + 1) hn
  have kk : ∀ b o, hp.get? b = some o → ((hp.push (PySem.W.kdv_tup us)).push (PySem.HandSPX.excO C hp.objs.size)).get? b = some o := fun b o e => Heap.get?_push_of_some _ (Heap.get?_push_of_some _ e)
  have hget : ((hp.push (PySem.W.kdv_tup us)).push (PySem.HandSPX.excO C hp.objs.size)).get? (hp.objs.size + 1) = some (PySem.HandSPX.excO C hp.objs.size) := by heap_get
  have I2 : Inv X pins σ (upd H1 (hp.objs.size + 1) (exo (hp.objs.size + 1) C none)) ⟨(hp.push (PySem.W.kdv_tup us)).push (PySem.HandSPX.excO C hp.objs.size), g, dr, tk, os⟩ :=
    I1.laid (t' := tk) (a := hp.objs.size + 1) (o := exo (hp.objs.size + 1) C none) (h' := (hp.push (PySem.W.kdv_tup us)).push (PySem.HandSPX.excO C hp.objs.size)) kk hsz (exo_ok hget)
  have r2 : Vals (V.ref (hp.objs.size + 1) :: vs) (Value.ref (hp.objs.size + 1) :: us) := .cons rfl r1
  have hl : (Value.ref (hp.objs.size + 1) :: us).length = ps.length := by
    have e := r2.length
    rw [F1.len _ _ _ _ hq] at e
    exact e.symm
  have hus : us.length ≤ sizeLine := by
    rw [← Paired.length r1, sizeLine_eq]
    omega
  have hb' := hb ⟨(hp.push (PySem.W.kdv_tup us)).push (PySem.HandSPX.excO C hp.objs.size), g, dr, tk, os⟩ (Value.ref (hp.objs.size + 1) :: us) I2.kIn (by rw [List.append_nil]; exact hl)
  rw [List.append_nil] at hb'
  refine wpAny_call (PySem.HandSPX.call_own PySem.F.excBase_ValueError (fun Y => PySem.HandSPX.refsVE_contains Y bm hbm) (I1.kIn _ _ hC) (PySem.W.looks_findIn I1.kIn iC) (fun self => PySem.W.bind_fn I1.kIn self tI) hus
    (codeAny_mono (F1.run _ X.stack _ _ ⟨Value.ref (hp.objs.size + 1) :: us, []⟩ (Value.ref (hp.objs.size + 1) :: us) _ _ E (hr.make C us []) (I2.env0.make C us []) hb' r2 hq) fun r s' hq' => ?_))
  cases r with
  | error er => exact hx pins σ _ _ er s' I2 hq'
  | ok fl =>
    cases fl with
    | ret u =>
      obtain ⟨v, H', I3, rv, ev, q3⟩ := I2.after hq'
      subst ev
      exact ⟨rv, V.ref (hp.objs.size + 1), H', I3, rfl, q3⟩
    | next => exact False.elim hq'
    | brk => exact False.elim hq'
    | cont => exact False.elim hq'
/-! ## an exception that a clause has caught stays held -/
/-- an exception of the class cls, its dict d, stands at a -/
def ExH (cls : Value) (a : Addr) (d : Option Addr) : HO := .ext fun h => ∃ (oe : Obj) (vs : Array Value), h.get? a = some oe ∧ Zc cls d oe ∧ oe.data = .fields vs
theorem exH_ok {P : Program} {w : World} {H : Hp} {h : Heap} {a : Addr} {cls : Value} {d : Option Addr} {oe : Obj} {vs : Array Value} (e : h.get? a = some oe) (z : Zc cls d oe) (dd : oe.data = .fields vs) : ObjOk P w H h a (ExH cls a d) :=
  ⟨⟨oe, vs, e, z, dd⟩, ⟨oe, e⟩, fun _ _ ⟨o, v, q, r⟩ k => ⟨o, v, k o q, r⟩⟩
section
variable {X : Cx} {pins : List (Addr × Obj)} {σ : L2.St} {H : Hp} {s : Shared}
theorem inv_track {a : Addr} {o : HO} {ob : Obj} (I : Inv X pins σ H s) (n0 : X.s_0.heap.get? a = none) (na : H a = none) (nL : a ≠ X.env.locals) (ha : s.heap.get? a = some ob) (nc : ∀ v, ob.data ≠ .cell v)
    (np : ∀ p ∈ X.pn ++ pins, p.1 ≠ a) (ok : ObjOk X.prog X.w (upd H a o) s.heap a o) : Inv X pins σ (upd H a o) s := by
  have old : ∀ {b : Addr} {u : Obj}, X.s_0.heap.get? b = some u → b ≠ a := fun {b u} e z => by
    rw [z, n0] at e
    cases e
  have nec : ∀ x c, X.env.cells.lookup x = some c → c ≠ a := fun x c e z => by
    obtain ⟨v, oc, hoc, hd⟩ := I.cell x c e
    rw [z, ha] at hoc
    cases hoc
    exact nc v hd
  refine ⟨I.ok, I.os, I.bare, ⟨I.base.keep, I.base.slot, fun b u e n x => ?_, I.base.there, fun b xs e => ?_, fun b u v e => ?_, fun b ps e => ?_⟩, I.loc, I.cell, ?_, fun x c e => ?_, fun p hp => ?_, fun b u e => ?_, I.len⟩
  · rw [upd_ne (old e)]
    exact I.base.free b u e n x
  · rw [upd_ne (ne_of_none (I.base.tups b xs e) na)]
    exact I.base.tups b xs e
  · rw [upd_ne (ne_of_none (I.base.frzs b u v e) na)]
    exact I.base.frzs b u v e
  · obtain ⟨m, q⟩ := I.base.tbls b ps e
    exact ⟨m, by rw [upd_ne (ne_of_none q na)]; exact q⟩
  · rw [upd_ne nL.symm]
    exact I.free
  · rw [upd_ne (nec x c e)]
    exact I.freeC x c e
  · obtain ⟨h1, h2, h3⟩ := I.pin p hp
    exact ⟨h1, by rw [upd_ne (np p hp)]; exact h2, h3⟩
  · by_cases hb : b = a
    · subst hb
      rw [upd_same] at e
      cases e
      exact ok
    · rw [upd_ne hb] at e
      exact (I.hok b u e).stay (fun c v _ q => q) (fun c q => by rw [upd_ne (ne_of_none q na)]; exact q) fun c xs q => by rw [upd_ne (ne_of_none q na)]; exact q
end
/-- what the clause 'except x as n' wishes, behind which the exception stays held -/
def wHeld (K : PySem.W.Frag) (c : Value) (i : Nat) (ts : Addr → Value → Option Addr → TS) (Wout : WX) (D : Ends) : WX := fun cls d σ H =>
  ∃ b, PySem.W.exmOne K cls c = some b ∧ (b = true → ∀ a, H a = none → ts a cls d
    { nx := fun σ' H' => D.nx (σ'.set i none) (upd H' a (ExH cls a d)), rt := fun v H' => D.rt v (upd H' a (ExH cls a d)), bk := fun σ' H' => D.bk (σ'.set i none) (upd H' a (ExH cls a d)), ct := fun σ' H' => D.ct (σ'.set i none) (upd H' a (ExH cls a d)) } (σ.set i (some (.ref a))) H) ∧
    (b = false → Wout cls d σ H)
section
variable {X : Cx} {x n : Str} {c : Value} {i : Nat} {body suite : List Stmt} {b₀ : Stmt} {np pos pos' : Pos} {tb : WX → TS} {ts : Addr → Value → Option Addr → TS} {Wout : WX}
theorem ps_try_held (hex : X.ex = []) (hs : X.stack = X.env :: X.outer) (hf : X.env.frame = some X.env.locals) (hN : X.N.Nodup) (hi : X.N[i]? = some n) (hln : X.env.kindOf n = some .local) (hc : Names X x c) (tk : Takes X Wout)
    (hb : ∀ (W : WX) (pn : List (Addr × Obj)) (xe : Value → Shared → Prop), Takes (X.tr pn xe) W → PassesOwn (model X.prog X.w) X.A X.env xe → PSs (X.tr pn xe) body (tb W))
    (hsu : ∀ (a : Addr) (oe : Obj) (cls : Value) (d : Option Addr) (pn : List (Addr × Obj)), Zc cls d oe → (∃ vs, oe.data = .fields vs) → PSs (X.suite a ((a, oe) :: pn)) (b₀ :: suite) (ts a cls d)) :
    PS X (.Try body [.ExceptHandler (some (.Name x np)) (some n) (b₀ :: suite) pos'] [] [] pos) (fun D σ H => tb (wHeld X.K c i ts Wout D) D σ H) := by
  refine ⟨fun pins s σ H D I hw => ?_⟩
  have ok := I.ok
  have frames1 : X.A.frames = some (X.env :: X.outer) := ok.frames.trans (congrArg some hs)
  refine wpAny_Try_except ?_
  refine wpAny_mono ((hb (wHeld X.K c i ts Wout D) (X.pn ++ pins) (fun e s1 => wpAny (model X.prog X.w) X.A (noteFrame e X.env) (fun _ s2 => wpAny (model X.prog X.w) X.A (setFlight e none) (fun _ s3 =>
    wpAny (model X.prog X.w) X.A (handleBy e X.env [.ExceptHandler (some (.Name x np)) (some n) (b₀ :: suite) pos']) (SP X pins D) X.xe s3) X.xe s2) X.xe s1) (fun u s' air => ?_) PassesOwn.looking).run [] s σ H D (I.toTry _) hw) (fun f s1 hsp => ?_) (fun e s1 he => he)
  · obtain ⟨a, B, sI, pins', σ', H', cls, d, rfl, J0, nb, up, sky, na, os, ag, b, hb1, hyes, hno⟩ := air
    have J : Inv X pins σ' H' sI := J0.ofTry ok
    have skyE : Sky B (X.env :: X.outer) a (Zc cls d) X.env.locals s'.heap := hs ▸ sky
    show wpAny (model X.prog X.w) X.A (noteFrame (.ref a) X.env) _ _ _
    refine Sky.land Zc.steady frames1 hf skyE fun h3 fl3 up3 => ?_
    have J3 : Inv X pins σ' H' { s' with heap := h3 } := J.landed nb fl3.1 (up.trans up3) os ag
    obtain ⟨oe3, vs3, he3, hz3, hd3⟩ := fl3.there
    have nfr : a ∉ frs (X.env :: X.outer) := fun hm => by
      obtain ⟨_, o', e', hnf⟩ := fl3.2.2.1.mem hm
      rw [he3] at e'
      cases e'
      exact hnf _ hd3
    have nL : a ≠ X.env.locals := fun z => nfr (List.mem_filterMap.mpr ⟨X.env, List.mem_cons_self, hf.trans (congrArg some z.symm)⟩)
    have nF : a ∉ X.fs := fun hm => by
      obtain ⟨e, he, q⟩ := List.mem_filterMap.mp hm
      exact nfr (List.mem_filterMap.mpr ⟨e, List.mem_cons_of_mem _ he, q⟩)
    -- the exception is not of the state ahead
    have nI : sI.heap.get? a = none := by
      cases e : sI.heap.get? a with
      | none => rfl
      | some o =>
        have z := nb a o e (by rw [hs]; exact nfr)
        rw [fl3.2.1] at z
        cases z
    have n0 : X.s_0.heap.get? a = none := by
      cases e : X.s_0.heap.get? a with
      | none => rfl
      | some o =>
        obtain ⟨o', z⟩ := J.base.there a o e (by rw [hex]; exact fun q => nomatch q)
        rw [nI] at z
        cases z
    have np' : ∀ p ∈ X.pn ++ pins, p.1 ≠ a := fun p hp z => by
      have q := (J.pin p hp).1
      rw [z, nI] at q
      cases q
    have S3 := J3.suite he3 hd3 na nL nF
    refine wpAny_handleBy_cons (codeAny_handlers_test ?_) (by intro q; cases q)
    have looksT : PySem.W.Looks (model X.prog X.w) h3 (typeOf (.ref a)) cls := fun A Q E s k q => wpAny_typeOf_ref (k _ _ he3) (by rw [hz3.1]; exact q)
    have looksM := PySem.W.exm_one (M := model X.prog X.w) J3.kIn looksT hb1
    have named : ∀ {Q : Value → Shared → Prop} {E : Value → Shared → Prop}, Q c { s' with heap := h3 } → wpAny (model X.prog X.w) (X.A.mark (some (.ref a))) (eval (.Name x np) X.env) Q E { s' with heap := h3 } := fun {Q E} q => by
      obtain ⟨hg, hdbg, hm | ⟨hm, hv, hnn⟩⟩ := hc
      · exact ld_glob (X := X.suite a ((a, oe3) :: (X.pn ++ pins))) S3 hg hm q hdbg
      · exact ld_blt (X := X.suite a ((a, oe3) :: (X.pn ++ pins))) S3 hg hm hv q hnn hdbg
    refine named (looksM.here ?_)
    cases b with
    | true =>
      refine codeAny_handlers_suite_as (HandSPX.lands_againZ fl3 fun h4 fl4 up4 => ?_)
      have J4 : Inv X pins σ' H' { s' with heap := h4 } := J.landed nb fl4.1 ((up.trans up3).trans up4) os ag
      obtain ⟨oe4, vs4, he4, hz4, hd4⟩ := fl4.there
      have S4 := J4.suite he4 hd4 na nL nF
      refine store_ok (X := X.suite a ((a, oe4) :: (X.pn ++ pins))) (v := .ref a) S4 hN hi (.inl hln) rfl (fun s5 S5 => ?_) (.inr hln)
      refine wpAny_mono ((hsu a oe4 cls d (X.pn ++ pins) hz4 ⟨_, hd4⟩).run [] s5 _ H' _ S5 (hyes rfl a na)) (fun f s6 hsp => ?_) (fun _ _ z => False.elim z)
      have leave : ∀ {σ6 : L2.St} {H6 : Hp} {Q : Shared → Prop}, Inv (X.suite a ((a, oe4) :: (X.pn ++ pins))) [] σ6 H6 s6 → (∀ s7, Inv X pins (σ6.set i none) (upd H6 a (ExH cls a d)) s7 → Q s7) →
          wpAny (model X.prog X.w) X.A (do bindName X.env n .none; unbindBehindTheSuite X.env n pos') (fun _ s7 => Q s7) X.xe s6 := fun {σ6 H6 Q} S6 hq => by
        obtain ⟨g1, g2, _, _, g5⟩ := S6.pin (a, oe4) (List.mem_append_left _ List.mem_cons_self)
        exact gone_ok (inv_track (S6.unsuite ok) n0 g2 nL g1 g5 np' (exH_ok g1 hz4 hd4)) hN hi hln hq
      cases f with
      | next =>
        obtain ⟨σ6, H6, S6, q6⟩ := hsp
        exact leave S6 fun s7 J7 => ⟨_, _, J7, q6⟩
      | brk =>
        obtain ⟨σ6, H6, S6, q6⟩ := hsp
        exact leave S6 fun s7 J7 => ⟨_, _, J7, q6⟩
      | cont =>
        obtain ⟨σ6, H6, S6, q6⟩ := hsp
        exact leave S6 fun s7 J7 => ⟨_, _, J7, q6⟩
      | ret u =>
        obtain ⟨v6, σ6, H6, S6, r6, q6⟩ := hsp
        exact leave S6 fun s7 J7 => ⟨_, _, _, J7, r6, q6⟩
    | false =>
      show wpAny _ X.A (handleBy (.ref a) X.env []) _ _ _
      refine wpAny_handleBy_nil ?_
      obtain ⟨k1, k2, k3, oe, vs, T, oT, ts', he, hz, hd, h1, hr⟩ := id fl3
      unfold PySem.passOn
      refine wpAny_bind (wpAny_field he hd h1 ?_)
      rw [if_neg (show ¬ ((Value.ref T == Value.none) = true) from by simp)]
      have thrown : wpAny (model X.prog X.w) X.A (setFlight (.ref a) X.env.frame) (fun _ s4 => wpAny (model X.prog X.w) X.A (throw (.ref a) : Sem Flow) (SP X pins D) X.xe s4) X.xe { s' with heap := h3 } := by
        rw [hf]
        refine HandSPX.setFlight_upZ fl3 fun h4 hh4 up4 => wpAny_throw (tk _ _ ?_)
        exact ⟨a, B, sI, pins, σ', H', cls, d, rfl, J, nb, (up.trans up3).trans up4, .inr (.inr (hs ▸ hh4)), na, os, ag, hno rfl⟩
      first
        | exact wpAny_bind (wpAny_pure (wpAny_bind thrown))
        | exact wpAny_bind thrown
  · cases f with
    | next =>
      obtain ⟨σ', H', J', q⟩ := hsp
      exact wpAny_execs_nil ⟨σ', H', J'.ofTry ok, q⟩
    | brk =>
      obtain ⟨σ', H', J', q⟩ := hsp
      exact ⟨σ', H', J'.ofTry ok, q⟩
    | cont =>
      obtain ⟨σ', H', J', q⟩ := hsp
      exact ⟨σ', H', J'.ofTry ok, q⟩
    | ret u =>
      obtain ⟨v, σ', H', J', r, q⟩ := hsp
      exact ⟨v, σ', H', J'.ofTry ok, r, q⟩
end
/-! ## attributes and classes of exceptions that are held -/
/-- what the class at D says, for reads of its instances -/
structure ExcR (K : PySem.W.Frag) (D : Addr) : Prop where
  ga : PySem.W.findIn K (.ref D) "__getattribute__" = some (some (.builtin "BaseException.__getattribute__"))
  gt : PySem.W.findIn K (.ref D) "__getattr__" = some none
  sb : PySem.W.subIn K (.ref D) (.type "BaseException") = some true
  hd : PySem.W.hasDictIn K D = true
  kl : PySem.W.findIn K (.ref D) "__class__" = some (some (.builtin "object.__class__"))
  sp : PySem.W.specialIn K (.builtin "object.__class__") "__get__" = some (some (.builtin "getset_descriptor.__get__"))
  tk : PySem.W.takesIn K (.builtin "object.__class__") = some true
  ob : PySem.W.mroIn K D (.type "object") = some true
/-- an exception of the class at D stands at a -/
def ExAt (H : Hp) (a D : Addr) : Prop := (∃ d, H a = some (exo a D d) ∧ ∀ dx, d = some dx → ∃ fs, H dx = some (exd dx fs)) ∨ H a = some (ExO (.ref D) a) ∨ ∃ d, H a = some (ExH (.ref D) a d) ∧ ∀ dx, d = some dx → ∃ fs, H dx = some (.xd fs)
section
variable {X : Cx} {pins : List (Addr × Obj)} {σ : L2.St} {H : Hp} {s : Shared}
theorem exAt_inst {a D : Addr} (I : Inv X pins σ H s) (h : ExAt H a D) : ∃ ob od, PySem.W.InstAt s.heap a ob D od := by
  rcases h with ⟨d, h1, h2⟩ | h | ⟨d, h1, h2⟩
  · obtain ⟨t1, ho⟩ := exo_at I.hok h1
    cases d with
    | none => exact ⟨_, none, ho, rfl, rfl, trivial⟩
    | some dx =>
      obtain ⟨fs, h3⟩ := h2 dx rfl
      obtain ⟨mA, ⟨od, es, ep, hod, r⟩, _⟩ := exd_at I.hok h3
      exact ⟨_, some od, ho, rfl, rfl, hod⟩
  · have x : ObjOk X.prog X.w H s.heap a (ExO (.ref D) a) := I.hok a _ h
    obtain ⟨⟨oe, vs, e1, e2, e3, _⟩, _⟩ := x
    obtain ⟨oc, odd, oda, osl⟩ := oe
    obtain ⟨z1, z2⟩ := e2
    dsimp only at z1 z2 e3
    subst z1 z2 e3
    exact ⟨_, none, e1, rfl, rfl, trivial⟩
  · have x : ObjOk X.prog X.w H s.heap a (ExH (.ref D) a d) := I.hok a _ h1
    obtain ⟨⟨oe, vs, e1, e2, e3⟩, _⟩ := x
    obtain ⟨oc, odd, oda, osl⟩ := oe
    obtain ⟨z1, z2⟩ := e2
    dsimp only at z1 z2 e3
    subst z1 z2 e3
    cases odd with
    | none => exact ⟨_, none, e1, rfl, rfl, trivial⟩
    | some dx =>
      obtain ⟨fs, h3⟩ := h2 dx rfl
      obtain ⟨mA, ⟨od, es, ep, hod, r⟩, _⟩ : ∃ mA, s.heap.Ns1 dx mA ∧ ∀ f, RelO (fs.lookup f) (mA f) := I.hok dx _ h3
      exact ⟨_, some od, e1, rfl, rfl, hod⟩
end
open PySem.W in
theorem exc_class {prog : Program} {w : World} {A : Around} {E : Value → Shared → Prop} {s : Shared} {K : Frag} {x D : Addr} {ox : Obj} {od : Option Obj} {Q : Option Value → Shared → Prop} (C : ExcR K D)
    (X : K.In s.heap) (I : InstAt s.heap x ox D od) (h : Q (some (.ref D)) { s with toks := s.toks + 1 }) : wpAny (model prog w) A (getAttr? (.ref x) "__class__") Q E s := by
  obtain ⟨cdD, hcD⟩ : ∃ cd, clsIn K D = some cd := by
    obtain ⟨cd, q, _⟩ := any_some C.hd
    exact ⟨cd, q⟩
  have hfo : findObj K D od "__class__" = some (.bind (.builtin "getset_descriptor.__get__") (.builtin "object.__class__")) := by
    unfold findObj
    rw [hcD, Option.bind_some, C.kl, Option.bind_some]
    simp [C.sp, C.tk]
  obtain ⟨hp, gs, dr, tk, os⟩ := s
  have lt := I.type (M := model prog w)
  have lg := looks_findIn (M := model prog w) X C.ga
  have lh := looks_findIn (M := model prog w) X C.gt
  have lf := looks_find (M := model prog w) X I hfo
  have lb : Looks (model prog w) hp (isInstance (.ref x) (.type "BaseException")) true := lt.andThen (looks_subIn X C.sb)
  have z2 : (onTheHeap (Value.ref D) && Value.builtin "BaseException.__getattribute__" == Value.builtin "object.__getattribute__") = false := by
    rw [show (Value.builtin "BaseException.__getattribute__" == Value.builtin "object.__getattribute__") = false by decide +kernel] <;> rfl
  unfold getAttr? getAttrBy? getAttrBy
  refine wpAny_bind (wpAny_mkText (wpAny_bind (wpAny_attempt (wpAny_holding (wpAny_bind (lt.at (wpAny_bind (lg.at ?_))))))))
  show wpAny _ _ (if (onTheHeap (Value.ref D) && Value.builtin "BaseException.__getattribute__" == Value.builtin "object.__getattribute__") = true then _ else _) _ _ _
  rw [z2, if_neg Bool.false_ne_true]
  unfold getAttrByItsOwn hookBefore
  refine wpAny_bind ?_
  rw [if_pos (show onTheHeap (Value.ref D) = true from rfl)]
  refine lh.at (wpAny_bind (wpAny_attempt (wpAny_holding ?_)))
  unfold callGetattribute
  rw [show (false && onTheHeap (Value.builtin "BaseException.__getattribute__")) = false from rfl, if_neg Bool.false_ne_true]
  unfold boundAndCalled
  rw [PySem.F.excAttr_ValueError.ga.bind (.ref x)]
  refine wpAny_bind (wpAny_pure ?_)
  show wpAny _ _ (call (.builtin "BaseException.__getattribute__") [.ref x, .str "__class__" tk]) _ _ _
  refine wpAny_call (codeAny_call_builtin PySem.F.excAttr_ValueError.ga.plain PySem.F.entry_bexc_ga ?_)
  refine @check_slot (model prog w) _ _ ⟨hp, gs, dr, tk + 1, os⟩ "BaseException.__getattribute__" "BaseException" "__getattribute__" (.ref x) [.str "__class__" tk] [] _ (by decide +kernel) (by decide +kernel) lb (PySem.F.args_bexc_ga (.ref x) (.str "__class__" tk)) ?_
  unfold Builtin.«object.__getattribute__»
  refine wpAny_bind (wpAny_of_eq (a := ((Value.ref x : Value), [Value.str "__class__" tk])) (by first | rfl | (simp only [slotArgs]; rfl)) ?_)
  refine wpAny_bind (wpAny_pure (wpAny_bind (lt.at (wpAny_bind (lf.at ?_)))))
  show wpAny _ _ (holding [Value.builtin "object.__class__"] (call (.builtin "getset_descriptor.__get__") [.builtin "object.__class__", .ref x, .ref D]) >>= ret) _ _ _
  refine wpAny_bind (wpAny_holding (wpAny_call (class_get (s := ⟨hp, gs, dr, tk + 1, os⟩) (ox := ox) (od := od) X I C.ob ?_)))
  refine wpAny_pure ?_
  show wpAny _ _ (handedOut (.ref D)) _ _ _
  rw [handedOut_of (v := .ref D) rfl]
  exact wpAny_pure (wpAny_pure h)
open PySem.W in
theorem kitx_held {K : Frag} {x D : Addr} (C : ExcR K D) : KitX K (.ref x) (.ref D) (fun h => ∃ ox od, InstAt h x ox D od) where
  ty := fun _ _ _ ⟨_, _, I⟩ => I.type
  it := fun _ _ X _ => by
    obtain ⟨cdD, hcD, _⟩ := any_some C.hd
    unfold clsIn at hcD
    split at hcD
    · rename_i c' d' cd' sl' ho
      intro A' Q' E' s' k q
      unfold isType loadHead
      exact wpAny_bind (wpAny_loadPart (k _ _ (X _ _ ho)) (wpAny_pure q))
    · cases hcD
  ne := fun h tp dd its n sl X htp => by
    obtain ⟨cdD, hcD, _⟩ := any_some C.hd
    refine Bool.eq_false_iff.mpr fun q => ?_
    have e : D = tp := Value.ref.inj (beq_iff_eq.mp q)
    subst e
    unfold clsIn at hcD
    split at hcD
    · rename_i c' d' cd' sl' ho
      have z := (X _ _ ho).symm.trans htp
      cases z
    · cases hcD
  ca := fun X ⟨_, _, I⟩ k => exc_class C X I k
/-- isinstance(e, c), e an exception that is held -/
def rIsiX (K : PySem.W.Frag) : List V → Hp → VK → Prop := fun xs H Q => ∃ (a D : Addr) (c : V) (u : Value) (b : Bool), xs = [.ref a, c] ∧ ClsV c u ∧ ExcR K D ∧ ExAt H a D ∧ PySem.W.kitOne K (.ref D) u = some b ∧ Q (.bl b) H
theorem call_isiX {X : Cx} : CallR X (.builtin "isinstance") (rIsiX X.K) := by
  intro pins s σ H xs us Q I r h
  obtain ⟨a, D, c, u, b, rfl, k, C, ea, e, q⟩ := h
  obtain ⟨u1, u2, rfl, r1, r2⟩ := vals2 r
  have e2 := k.eq r2
  subst e2
  cases (show u1 = Value.ref a from r1)
  obtain ⟨ob, od, J⟩ := exAt_inst I ea
  exact PySem.W.kia_one (kitx_held C) I.kIn ⟨_, _, J⟩ e (fun z => nomatch z) fun tk => ⟨.bl b, H, I.tok tk, rfl, q⟩
/-- e.f, e an exception that is held, f a field of its own dict -/
def tExF (K : PySem.W.Frag) (te : TE) (f : Str) : TE := fun σ H Q => te σ H fun x H1 => ∃ (a D dx : Addr) (fs : List (Str × V)) (v : V), x = .ref a ∧ ExcR K D ∧ PySem.W.findIn K (.ref D) f = some none ∧ ((H1 a = some (exo a D (some dx)) ∧ H1 dx = some (exd dx fs)) ∨ (H1 a = some (ExH (.ref D) a (some dx)) ∧ H1 dx = some (.xd fs))) ∧ fs.lookup f = some v ∧ Q v H1
theorem pe_exF {X : Cx} {e : Expr} {te : TE} {f : Str} {pos : Pos} (he : PE X e te) (hb : attributeBase e f X.env (eval e X.env) = eval e X.env := by rfl) : PE X (.Attribute e f pos) (tExF X.K te f) := by
  refine ⟨fun pins s σ H Q I h => ?_⟩
  refine attr_of hb (thn (he.run pins s σ H _ I h) fun u s1 hh => ?_)
  obtain ⟨x, H1, I1, rx, a, D, dx, fs, v, ex, C, no, st, l, q⟩ := hh
  subst ex
  cases (show u = Value.ref a from rx)
  have key : ∃ (ob : Obj) (mA : Str → Option Value), s1.heap.Ns1 dx mA ∧ (∀ f, RelO (fs.lookup f) (mA f)) ∧ s1.heap.get? a = some ob ∧ ob.cls = .ref D ∧ PySem.W.notCls ob = true ∧ ob.dict = some dx := by
    rcases st with ⟨ea, ed⟩ | ⟨ea, ed⟩
    · obtain ⟨t1, ho⟩ := exo_at I1.hok ea
      obtain ⟨mA, hns, hr⟩ := exd_at I1.hok ed
      exact ⟨_, mA, hns, hr, ho, rfl, rfl, rfl⟩
    · have x : ObjOk X.prog X.w H1 s1.heap a (ExH (.ref D) a (some dx)) := I1.hok a _ ea
      obtain ⟨⟨oe, vs, e1, e2, e3⟩, _⟩ := x
      obtain ⟨mA, hns, hr⟩ : ∃ mA, s1.heap.Ns1 dx mA ∧ ∀ f, RelO (fs.lookup f) (mA f) := I1.hok dx _ ed
      exact ⟨oe, mA, hns, hr, e1, e2.1, by unfold PySem.W.notCls; rw [e3] <;> rfl, e2.2⟩
  obtain ⟨ob, mA, hns, hr, ho, oc, onc, odx⟩ := key
  obtain ⟨od, hod, hlk⟩ := lookIn_ns hns
  have rl := hr f
  rw [l] at rl
  cases hm : mA f with
  | none =>
    rw [hm] at rl
    exact rl.elim
  | some y =>
    rw [hm] at rl
    have J : PySem.W.InstAt s1.heap a ob D (some od) := ⟨ho, oc, onc, by rw [odx]; exact hod⟩
    exact PySem.HandSPX.exc_get I1.kIn J C.ga C.gt C.sb (PySem.W.findObj_own C.hd no rfl (by rw [hlk, hm])) (handed_of rl) ⟨v, H1, I1.tok _, rl, q⟩
/-! ## defs that are called where no repr runs -/
structure FnG (P : Program) (w : World) (K : PySem.W.Frag) (mg : Str → Option Value) (base : Heap) (k : Nat) (f : Addr) (fd : FuncData) (ps : List Str) (sp : Sp) : Prop where
  len : ∀ vs H Q E, sp vs H Q E → vs.length = ps.length
  run : ∀ (A : Around) (outer : List Env) (s : Shared) (H : Hp) (args : Args) (us : List Value) (vs : List V) (Q : VK) (E : XK), A.guards = some [] → Room k A → Env0 P w K mg base A outer s H → BindsTo s fd args (ps.zip us) → Vals vs us → sp vs H Q E →
    codeAny (model P w) A (.call (.ref f) args) (CR CX0 outer P w H s Q E) s
section
variable {P : Program} {w : World} {K : PySem.W.Frag} {mg : Str → Option Value} {base : Heap} {x qual : Str} {params : Arguments} {body : List Stmt} {scope : Scope} {dvs : List V} {kws : List (Str × V)} {f : Addr} {fd : FuncData}
theorem FunD.okG {N ps : List Str} {k : Nat} {sp : Sp} (F : FunD K x qual params body scope dvs kws f fd) (S : FnScope N ps scope) (len : ∀ vs H Q E, sp vs H Q E → vs.length = ps.length)
    (hbody : ∀ (cdv : Value) (A : Around) (outer : List Env) (s : Shared) (H : Hp) (vs : List V) (Q : VK) (E : XK), (A.deeper (PyProof.Rows.envOfC qual scope s.heap.objs.size f cdv)).guards = some [] → Room k (A.deeper (PyProof.Rows.envOfC qual scope s.heap.objs.size f cdv)) → sp vs H Q E →
      ∃ t, PSs (cxOf CX0 P w K mg base N qual scope f cdv A outer s H E) body t ∧ t { nx := fun _ H' => Q .non H', rt := Q } (start N vs) H) : FnG P w K mg base (k + 1) f fd ps sp := by
  obtain ⟨oc, od, dV, kV, doc, pm, an, cdv, ct, osl, rfl, lk, hcd, _, _⟩ := F.ex
  refine ⟨len, fun A outer s H args us vs Q E hg hr e0 hb r hsp => ?_⟩
  have hlen := len _ _ _ _ hsp
  have kin : K.In s.heap := e0.mod.kin.keeps fun b o e => (e0.bs b o e).1
  have nol : s.heap.NoLimit := e0.mod.nolimit.keeps fun b o e => (e0.bs b o e).1
  have kinds : ∀ y ∈ ps.zip us, scope.names.lookup y.1 = some .local ∨ (scope.names.lookup y.1 = some .cell ∧ ((cellsFrom (s.heap.objs.size + 1) scope.names []).lookup y.1).isSome = true) := fun ⟨n, v⟩ hy => by
    rcases S.par n (List.of_mem_zip hy).1 with q | q
    · exact .inl q
    · exact .inr ⟨q, PySem.W.cellsFrom_some _ _ _ (.inl q)⟩
  refine codeAny_call_function hr.depth (kin _ _ lk) rfl S.co S.gen rfl (PySem.W.codeRec_of kin hcd) (hb _ _ _ _ ?_)
  refine wpAny_newFunctionEnv_cells S.kind kinds fun env he s1 ic => ?_
  subst he
  refine ⟨nol.keeps ic.toInCall.keep, codeAny_func ?_⟩
  obtain ⟨t, ht, hq⟩ := hbody cdv A outer s H vs Q E hg (hr.deeper _) hsp
  have I : Inv (cxOf CX0 P w K mg base N qual scope f cdv A outer s H E) [] (start N vs) H s1 := inv_start S hr.hd e0 hlen r ic
  refine wpAny_mono (ht.run [] s1 (start N vs) H _ I hq) (fun fl s' hs => ?_) fun e s' hs => hs
  cases fl with
  | ret u =>
    obtain ⟨v, σ', H', J, rv, q⟩ := hs
    exact ⟨v, H', J.os, J.bare, J.base, J.hok, rv, q⟩
  | next =>
    obtain ⟨σ', H', J, q⟩ := hs
    exact ⟨V.non, H', J.os, J.bare, J.base, J.hok, rfl, q⟩
  | brk =>
    obtain ⟨_, _, _, q⟩ := hs
    exact q.elim
  | cont =>
    obtain ⟨_, _, _, q⟩ := hs
    exact q.elim
end
section
variable {X : Cx} {k : Nat} {f : Addr} {fd : FuncData} {ps : List Str} {sp : Sp} {E : XK} {x : Str} {p pos : Pos} {e : Expr} {es : List Expr} {t : TA} {ds : List Value} {dvs : List V}
theorem run_fnG {pins : List (Addr × Obj)} {σ : L2.St} {H : Hp} {s : Shared} {Q : VK} {us : List Value} {vs : List V} (F : FnG X.prog X.w X.K X.mg X.base k f fd ps sp) (hg : X.A.guards = some []) (hr : Room k X.A) (hb : Binds X.K fd ps ds) (hd : Vals dvs ds)
    (I : Inv X pins σ H s) (r : Vals vs us) (h : sp (vs ++ dvs) H Q E) : wpAny (model X.prog X.w) X.A (call (.ref f) us) (EP X pins σ Q) X.xe s := by
  have rr : Vals (vs ++ dvs) (us ++ ds) := r.append hd
  have hlen : (us ++ ds).length = ps.length := by
    rw [← rr.length]
    exact F.len _ _ _ _ h
  refine wpAny_call (codeAny_mono (F.run X.A X.stack s H ⟨us, []⟩ (us ++ ds) (vs ++ dvs) Q E hg hr I.env0 (hb s us I.kIn hlen) rr h) fun r s' hq => ?_)
  cases r with
  | error e => exact False.elim hq
  | ok fl =>
    cases fl with
    | ret u => exact I.after hq
    | next => exact hq.elim
    | brk => exact hq.elim
    | cont => exact hq.elim
theorem pe_callG (F : FnG X.prog X.w X.K X.mg X.base k f fd ps sp) (hgd : X.A.guards = some []) (hr : Room k X.A) (hg : Gl X x) (hm : X.mg x = some (.ref f)) (hk : PySem.W.keepIn X.K (.ref f) = true) (hb : Binds X.K fd ps ds) (hd : Vals dvs ds)
    (ha : PA X (e :: es) t) (hdb : (x == ("__debug__" : Str)) = false := by decide) (he : starEach (e :: es) X.env = (false, eval e X.env) :: starEach es X.env := by rfl) (hpl : (backTo pos (starEach es X.env)).any (·.1) = false := by rfl) :
    PE X (.Call (.Name x p) (e :: es) [] pos) (tCall sp dvs E t) :=
  ⟨fun pins s σ H Q I h => wpAny_Call_Name_kw (ld_glob I hg hm (PySem.W.callWith_K (h₀ := X.base) I.ok.mod.kin hk (thn (ha.run pos pins s σ H _ I h) fun us s1 ⟨vs, H1, I1, r, q⟩ => ⟨I1.kIn, run_fnG F hgd hr hb hd I1 r q⟩) he hpl) hdb)⟩
end
/-! ## repr of data, where no repr runs -/
def keyD : Key → PyData
  | .inl i => .int i
  | .inr x => .str x
mutual
inductive Dx (K : PySem.W.Frag) (H : Hp) : V → PyData → Prop
  | non : Dx K H .non .none
  | bl (b : Bool) : Dx K H (.bl b) (.bool b)
  | int (i : Int) : Dx K H (.int i) (.int i)
  | str (x : Str) : Dx K H (.str x) (.str x)
  | lst {a : Addr} {xs : List V} {ds : List PyData} : SqL K H a xs → DxAll K H xs ds → Dx K H (.ref a) (.list ds)
  | tup {a : Addr} {xs : List V} {ds : List PyData} : SqT K H a xs → DxAll K H xs ds → Dx K H (.ref a) (.tuple ds)
  | dic {a : Addr} {kvs : List (Key × V)} {ds : List PyData} : H a = some (.dK kvs) → DxAll K H (kvs.map (·.2)) ds → Dx K H (.ref a) (.dict ((kvs.map fun kv => keyD kv.1).zip ds))
inductive DxAll (K : PySem.W.Frag) (H : Hp) : List V → List PyData → Prop
  | nil : DxAll K H [] []
  | cons {v : V} {vs : List V} {d : PyData} {ds : List PyData} : Dx K H v d → DxAll K H vs ds → DxAll K H (v :: vs) (d :: ds)
end
/-- the modules' table is a dict of the written part -/
def SmD (K : PySem.W.Frag) : Prop := ∃ o : Obj, K.lookup sysModules = some o ∧ o.cls = .type "dict"
theorem DxAll.length {K : PySem.W.Frag} {H : Hp} : ∀ {vs : List V} {ds : List PyData}, DxAll K H vs ds → vs.length = ds.length
  | _, _, .nil => rfl
  | _, _, .cons _ t => by rw [List.length_cons, List.length_cons, t.length]
section
variable {X : Cx} {pins : List (Addr × Obj)} {σ : L2.St} {H : Hp} {s : Shared}
theorem keys_read {P : Program} {w : World} : ∀ {es : List DictEntry} {vs : List (Key × Value)} {kvs : List (Key × V)} {h : Heap}, Pairs (mixKind P w) es vs → KV kvs vs → ∃ as, ReadsAll h (es.map (·.key)) (kvs.map fun kv => keyD kv.1) as ∧ as = []
  | _, _, _, h, .nil, .nil => ⟨[], .nil, rfl⟩
  | e :: es, kv :: vs, p :: kvs, h, .cons k1 _ t, .cons r t2 => by
    obtain ⟨as, q, rfl⟩ := keys_read (h := h) t t2
    obtain ⟨c1, e1, e2⟩ := e
    obtain ⟨kk, vv⟩ := p
    have ek : kv.1 = kk := r.1.symm
    rw [ek] at k1
    have kd : Reads h e1 (keyD kk) [] := by
      rcases keyIs_shape k1 with ⟨i, tt, rfl, z⟩ | ⟨x, tt, rfl, z⟩
      · have z : e1 = Value.int i tt := z
        subst z
        exact Reads.int i tt
      · have z : e1 = Value.str x tt := z
        subst z
        exact Reads.str x tt
    exact ⟨_, ReadsAll.cons kd q, rfl⟩
theorem vals_read {P : Program} {w : World} : ∀ {es : List DictEntry} {vs : List (Key × Value)} {kvs : List (Key × V)}, Pairs (mixKind P w) es vs → KV kvs vs → Vals (kvs.map (·.2)) (es.map (·.val))
  | _, _, _, .nil, .nil => .nil
  | e :: es, kv :: vs, p :: kvs, .cons _ e1 t, .cons r t2 => by
    refine .cons ?_ (vals_read t t2)
    show RelV p.2 e.val
    rw [e1]
    exact r.2
theorem zip_fst {α β : Type} : ∀ {l : List α} {m : List β}, l.length = m.length → (l.zip m).map (·.1) = l
  | [], _, _ => rfl
  | a :: l, b :: m, h => by
    show a :: (l.zip m).map (·.1) = a :: l
    rw [zip_fst (Nat.succ.inj h)]
theorem zip_snd {α β : Type} : ∀ {l : List α} {m : List β}, l.length = m.length → (l.zip m).map (·.2) = m
  | [], [], _ => rfl
  | a :: l, b :: m, h => by
    show b :: (l.zip m).map (·.2) = b :: m
    rw [zip_snd (Nat.succ.inj h)]
mutual
theorem Dx.reads (I : Inv X pins σ H s) (S : SmD X.K) : ∀ {d : PyData} {v : V} {u : Value}, Dx X.K H v d → RelV v u → ∃ as, Reads s.heap u d as ∧ sysModules ∉ as
  | _, _, _, .non, r => by
    cases r
    exact ⟨_, Reads.none, by simp⟩
  | _, _, _, .bl b, r => by
    cases r
    exact ⟨_, Reads.bool b, by simp⟩
  | _, _, _, .int i, r => by
    obtain ⟨t, rfl⟩ := r
    exact ⟨_, Reads.int i t, by simp⟩
  | _, _, _, .str x, r => by
    obtain ⟨t, rfl⟩ := r
    exact ⟨_, Reads.str x t, by simp⟩
  | _, _, _, .lst hs ha, r => by
    cases r
    obtain ⟨its, rv, ⟨o, n, ho, hc, _, hd⟩, _⟩ := I.list hs
    obtain ⟨as, hr, hn⟩ := DxAll.reads I S ha rv
    refine ⟨_, Reads.list ho hc hd hr, fun z => ?_⟩
    rcases List.mem_cons.mp z with z | z
    · obtain ⟨om, hm, hmc⟩ := S
      have h2 := I.kIn _ _ hm
      rw [z, ho] at h2
      cases h2
      rw [hc] at hmc
      exact absurd hmc (by decide)
    · exact hn z
  | _, _, _, .tup hs ha, r => by
    cases r
    obtain ⟨its, rv, ⟨o, ho, hc, n, hd⟩, _⟩ := I.tuple hs
    obtain ⟨as, hr, hn⟩ := DxAll.reads I S ha rv
    exact ⟨_, Reads.tuple ho hc hd hr, hn⟩
  | _, _, _, .dic (a := a) (kvs := kvs) (ds := ds) hk ha, r => by
    cases r
    obtain ⟨hz, hsm, vs, rk, o, es, ep, ho, hx, hd, _, hp, _⟩ : kvs.length ≤ sizeLine ∧ (a == sysModules) = false ∧ ∃ vs, KV kvs vs ∧ s.heap.DictOf (mixKind X.prog X.w) a vs := I.hok _ _ hk
    obtain ⟨as, h1, rfl⟩ := keys_read (h := s.heap) hp rk
    obtain ⟨bs, h2, hn⟩ := DxAll.reads I S ha (vals_read hp rk)
    have hl : (kvs.map fun kv => keyD kv.1).length = ds.length := by rw [List.length_map, ← ha.length, List.length_map]
    refine ⟨_, Reads.dict (kvs := (kvs.map fun kv => keyD kv.1).zip ds) ho hx.1 hd (by rw [zip_fst hl]; exact h1) (by rw [zip_snd hl]; exact h2), fun z => ?_⟩
    rcases List.mem_cons.mp z with z | z
    · rw [z] at hsm
      simp at hsm
    · exact hn (by simpa using z)
theorem DxAll.reads (I : Inv X pins σ H s) (S : SmD X.K) : ∀ {ds : List PyData} {vs : List V} {us : List Value}, DxAll X.K H vs ds → Vals vs us → ∃ as, ReadsAll s.heap us ds as ∧ sysModules ∉ as
  | _, _, _, .nil, r => by
    cases r
    exact ⟨_, ReadsAll.nil, by simp⟩
  | _, _, _, .cons h1 h2, r => by
    cases r with
    | cons r1 r2 =>
      obtain ⟨as, q1, n1⟩ := Dx.reads I S h1 r1
      obtain ⟨bs, q2, n2⟩ := DxAll.reads I S h2 r2
      exact ⟨_, ReadsAll.cons q1 q2, fun z => (List.mem_append.mp z).elim n1 n2⟩
end
end
/-- repr(x), x a list, tuple or dict of data -/
def rRepr (K : PySem.W.Frag) : List V → Hp → VK → Prop := fun xs H Q => ∃ (a : Addr) (d : PyData), xs = [.ref a] ∧ Dx K H (.ref a) d ∧ d.showable = true ∧ d.depth ≤ 100 ∧ d.shown.length ≤ sizeLine ∧ Q (.str d.shown) H
theorem call_reprX {X : Cx} (hg : X.A.guards = some []) (hu : X.A.units + 101 < cLine) (S : SmD X.K) : CallR X (.builtin "repr") (rRepr X.K) := by
  intro pins s σ H xs us Q I r h
  obtain ⟨a, d, rfl, hd, hs, hdp, hz, q⟩ := h
  obtain ⟨u, rfl, ru⟩ := vals1 r
  obtain ⟨as, hr, hn⟩ := hd.reads I S ru
  cases (show u = Value.ref a from ru)
  exact repr_of_reads' hr hs (fun _ => hn) hg (by omega) (fun _ _ e => e) (fun h' t tk hk => ⟨.str d.shown, H, I.kept (t' := tk) hk, ⟨_, rfl⟩, q⟩) hz
/-! ## the head's facts, by tables of tests on the written part -/
open PySem.W in
def oexB (K : Frag) (C : Addr) : Bool := (match K.lookup C with
  | some ⟨.type "type", _, .cls cd, sl⟩ => (match cd.mro, sl.toList with
    | .ref C' :: bm, [_, _, _, _, some (.builtin n), _] => C' == C && (n == "ValueError.__new__" && (!cd.hasDel && (cd.hasDict && PySem.HandSPX.refsVE bm)))
    | _, _ => false)
  | _ => false) && (He.eqO (findIn K (.ref C) "__setattr__") (some (some (.builtin "object.__setattr__"))) && (decide (subIn K (.ref C) (.type "BaseException") = some true) && (decide (typeIn K (.ref C) = some (.type "type")) && keepIn K (.ref C))))
theorem oexB_ok {K : PySem.W.Frag} {C : Addr} (h : oexB K C = true) : OexC K C := by
  obtain ⟨h1, h2⟩ := He.ba h
  obtain ⟨h3, h4⟩ := He.ba h2
  obtain ⟨h5, h6⟩ := He.ba h4
  obtain ⟨h7, h8⟩ := He.ba h6
  refine ⟨?_, He.eqO_ok h3, of_decide_eq_true h5, of_decide_eq_true h7, h8⟩
  split at h1
  · rename_i dd cd sl ho
    split at h1
    · rename_i C' bm k0 k1 k2 k3 n k5 hm hs
      obtain ⟨e1, h1⟩ := He.ba h1
      obtain ⟨e2, h1⟩ := He.ba h1
      obtain ⟨e3, h1⟩ := He.ba h1
      obtain ⟨e4, e5⟩ := He.ba h1
      obtain ⟨nm, bs, mro, ns, qn, hd, sn, sub, ab, col, del⟩ := cd
      dsimp only at hm e3 e4
      have e1 : C' = C := eq_of_beq e1
      have e2 : n = "ValueError.__new__" := eq_of_beq e2
      have e3 : del = false := by simpa using e3
      subst hm e1 e2 e3 e4
      have hsl : sl = #[k0, k1, k2, k3, some (.builtin "ValueError.__new__"), k5] := by
        obtain ⟨l⟩ := sl
        simp only at hs
        rw [hs]
      subst hsl
      exact ⟨_, _, _, _, _, _, _, _, _, _, _, _, _, _, _, ho, e5⟩
    · cases h1
  · cases h1
open PySem.W in
def excRB (K : Frag) (D : Addr) : Bool := He.eqO (findIn K (.ref D) "__getattribute__") (some (some (.builtin "BaseException.__getattribute__"))) && (He.eqO (findIn K (.ref D) "__getattr__") (some none) && (decide (subIn K (.ref D) (.type "BaseException") = some true) &&
  (hasDictIn K D && (He.eqO (findIn K (.ref D) "__class__") (some (some (.builtin "object.__class__"))) && (He.eqO (specialIn K (.builtin "object.__class__") "__get__") (some (some (.builtin "getset_descriptor.__get__"))) &&
  (decide (takesIn K (.builtin "object.__class__") = some true) && decide (mroIn K D (.type "object") = some true)))))))
theorem excRB_ok {K : PySem.W.Frag} {D : Addr} (h : excRB K D = true) : ExcR K D := by
  obtain ⟨h1, h⟩ := He.ba h
  obtain ⟨h2, h⟩ := He.ba h
  obtain ⟨h3, h⟩ := He.ba h
  obtain ⟨h4, h⟩ := He.ba h
  obtain ⟨h5, h⟩ := He.ba h
  obtain ⟨h6, h⟩ := He.ba h
  obtain ⟨h7, h8⟩ := He.ba h
  exact ⟨He.eqO_ok h1, He.eqO_ok h2, of_decide_eq_true h3, h4, He.eqO_ok h5, He.eqO_ok h6, of_decide_eq_true h7, of_decide_eq_true h8⟩
/-- an __init__ of an own exception that begins with super() -/
structure DefS where
  cls : Str
  qual : Str
  params : Arguments
  body : List Stmt
  scope : Scope
abbrev FnSW : Type := Option (Str × Str × Arguments × FuncBody × Scope × Addr × List Str × Addr)
abbrev initAd (K : PySem.W.Frag) (C : Str) : Addr := He.ma K (He.ga K C) "__init__"
def fnSW (K : PySem.W.Frag) (C : Str) : FnSW := match K.lookup (initAd K C) with
  | some ⟨_, _, .func fd, _⟩ => some (fd.name, fd.qualname, fd.params, fd.body, fd.scope, fd.globals, fd.closure.map (·.1), fd.builtins)
  | _ => none
def DefS.val (d : DefS) : FnSW := some ("__init__", d.qual, d.params, .stmts d.body, d.scope, mainGlobals, ["__class__"], builtinsNs)
open PySem.W in
/-- what such an __init__ of the class C wants of the written part, the module's file given -/
def supB (file : Str) (K : Frag) (C : Str) (qual : Str) : Bool :=
  He.eqO (findIn K (.ref (He.ga K C)) "__init__") (some (some (.ref (initAd K C)))) && (decide (typeIn K (.ref (initAd K C)) = some (.type "function")) &&
  ((match K.lookup (initAd K C) with
    | some ⟨_, _, .func fd, _⟩ => (match fd.closure, fd.code with
      | [(_, cc)], .ref cda => (match K.lookup cc with
          | some ⟨_, _, .cell (some (.ref D)), _⟩ => D == He.ga K C
          | _ => false) && (codeIn K (.ref cda) qual && (match K.lookup cda with
          | some ⟨_, _, .fields vs, _⟩ => (match vs[2]? with
            | some (Value.str f _) => file == f
            | _ => false)
          | _ => false))
      | _, _ => false)
    | _ => false) && (decide (mroIn K (He.ga K C) (.ref (He.ga K C)) = some true) && (He.eqO (nsIn K cStatics "thirdparty.any") (some none) && (decide (subIn K (.ref (He.ga K C)) (.type "ValueError") = some true) &&
    (match clsIn K (He.ga K C) with
    | some cd => He.eqO (alongIn K "__init__" ((cd.mro.dropWhile (· != .ref (He.ga K C))).drop 1)) (some (some (.builtin "ValueError.__init__")))
    | none => false))))))
theorem supB_ok {P : Program} {K : PySem.W.Frag} {mg : Str → Option Value} {d : DefS} (hw : fnSW K d.cls = d.val) (h : supB P.main.file K d.cls d.qual = true) (top : (P.main.scope.names.lookup ("super" : Str)).isSome = false) (su : mg "super" = none) :
    PySem.W.findIn K (.ref (He.ga K d.cls)) "__init__" = some (some (.ref (initAd K d.cls))) ∧ PySem.W.typeIn K (.ref (initAd K d.cls)) = some (.type "function") ∧
    ∃ (cc cda : Addr) (fd : FuncData), SupF P K mg (He.ga K d.cls) (initAd K d.cls) cc cda d.qual d.params d.body d.scope fd := by
  obtain ⟨h1, h⟩ := He.ba h
  obtain ⟨h2, h⟩ := He.ba h
  obtain ⟨h3, h⟩ := He.ba h
  obtain ⟨h4, h⟩ := He.ba h
  obtain ⟨h5, h⟩ := He.ba h
  obtain ⟨h6, h7⟩ := He.ba h
  refine ⟨He.eqO_ok h1, of_decide_eq_true h2, ?_⟩
  unfold fnSW at hw
  split at h3
  · rename_i oc od fd osl lk
    rw [lk] at hw
    split at h3
    · rename_i nm cc cda hclo hcod
      obtain ⟨h8, h3⟩ := He.ba h3
      obtain ⟨h9, h10⟩ := He.ba h3
      have e2 : (some (fd.name, fd.qualname, fd.params, fd.body, fd.scope, fd.globals, fd.closure.map (·.1), fd.builtins) : FnSW) = d.val := hw
      unfold DefS.val at e2
      simp only [Option.some.injEq, Prod.mk.injEq] at e2
      obtain ⟨g1, g2, g3, g4, g5, g6, g7, g8⟩ := e2
      rw [hclo] at g7
      have g7 : nm = "__class__" := by simpa using g7
      refine ⟨cc, cda, fd, ?_⟩
      have hcell : ∃ oc : Obj, K.lookup cc = some oc ∧ oc.data = .cell (some (.ref (He.ga K d.cls))) := by
        split at h8
        · rename_i a b D c hl
          have e : D = He.ga K d.cls := eq_of_beq h8
          exact ⟨_, hl, by rw [← e]⟩
        · cases h8
      have hco : ∃ (oc : Obj) (vs : Array Value) (file : Str) (tf : Tok), K.lookup cda = some oc ∧ oc.data = .fields vs ∧ vs[2]? = some (.str file tf) ∧ ((P.main.file : Str) == file) = true := by
        split at h10
        · rename_i a b vs c hl
          split at h10
          · rename_i f t hv
            exact ⟨_, vs, f, t, hl, rfl, hv, h10⟩
          · cases h10
        · cases h10
      have hal : ∃ cd, PySem.W.clsIn K (He.ga K d.cls) = some cd ∧ PySem.W.alongIn K "__init__" ((cd.mro.dropWhile (· != .ref (He.ga K d.cls))).drop 1) = some (some (.builtin "ValueError.__init__")) := by
        split at h7
        · rename_i cd hc
          exact ⟨cd, hc, He.eqO_ok h7⟩
        · cases h7
      obtain ⟨n1, n2, n3, n4, n5, n6, n7, n8, n9, n10, n11, n12, n13, n14, n15⟩ := fd
      dsimp only at g1 g2 g3 g4 g5 g6 g8 hclo hcod
      subst g1 g2 g3 g4 g5 g6 g8 hclo hcod g7
      exact ⟨⟨oc, od, n8, n9, n10, n11, n14, n12, osl, rfl, lk⟩, h9, hco, hcell, top, of_decide_eq_true h4, He.eqO_ok h5, hal, of_decide_eq_true h6, su⟩
    · cases h3
  · cases h3
/-! ### the Hook -/
abbrev AlZ : Type := Bool × List He.FnW × List FnSW
def obsZ (fb : List (PySem.W.Frag → Bool)) (fn : List He.DefD) (cs : List DefS) (K : PySem.W.Frag) : AlZ := ((fb.all fun f => f K) && fn.all fun d => d.ok K, fn.map fun d => He.fnW K d.at_, cs.map fun d => fnSW K d.cls)
def valZ (fn : List He.DefD) (cs : List DefS) : AlZ := (true, fn.map He.DefD.val, cs.map DefS.val)
def SaysZ (fb : List (PySem.W.Frag → Bool)) (fn : List He.DefD) (cs : List DefS) (K : PySem.W.Frag) : Prop := obsZ fb fn cs K = valZ fn cs
/-- a def whose lambdas are made: its code object, the table in it -/
def tabB (g : Addr → Option Obj) (K : PySem.W.Frag) (p : He.Defn) : Bool := (match g (He.cT K p).2 with
  | some o => He.emptyTab o
  | none => false) && (match K.lookup (He.cT K p).1 with
  | some ⟨.type c, _, .fields vs, _⟩ => decide (c = "code") && (decide (vs[11]? = some (.ref (He.cT K p).2)) && ((match vs.getD 18 .none, vs.getD 7 .none, vs.getD 9 .none, vs.getD 10 .none with
      | .str _ _, .int _ _, .bool _, .int _ _ => true
      | _, _, _, _ => false) && decide ((He.cT K p).1 ≠ (He.cT K p).2)))
  | _ => false)
theorem tabB_ok {h : Heap} {K : PySem.W.Frag} (X : K.In h) {p : He.Defn} (e : tabB h.get? K p = true) : h.get? (He.cT K p).2 = some { cls := .none, data := .fields #[] } ∧ PySem.W.CodeHd h (He.cT K p).1 (He.cT K p).2 := by
  obtain ⟨h1, h2⟩ := He.ba e
  refine ⟨?_, ?_⟩
  · split at h1
    · rename_i o ho
      rw [ho, He.emptyTab_eq h1]
    · cases h1
  · split at h2
    · rename_i c dd vs sl lk
      obtain ⟨q1, h2⟩ := He.ba h2
      obtain ⟨q2, h2⟩ := He.ba h2
      obtain ⟨q3, q4⟩ := He.ba h2
      have e2 := of_decide_eq_true q2
      have e3 : vs.getD 11 .none = .ref (He.cT K p).2 := by
        rw [Array.getD_eq_getD_getElem?, e2] <;> rfl
      split at q3
      · rename_i f tf fl tg b i tt z1 z2 z3 z4
        exact ⟨_, vs, f, tf, fl, tg, b, i, tt, X _ _ lk, congrArg Value.type (of_decide_eq_true q1), rfl, e2, e3, z1, z2, z3, z4, of_decide_eq_true q4⟩
      · cases q3
    · cases h2
def obsZG (n : Nat) (fb : List (PySem.W.Frag → Bool)) (fn : List He.DefD) (cs : List DefS) (ts : List He.Defn) (g : Addr → Option Obj) : Bool × AlZ := (ts.all fun p => tabB g (He.frT g (He.asD g n ++ [cStatics, sysModules])) p, obsZ fb fn cs (He.frT g (He.asD g n ++ [cStatics, sysModules])))
def TabsZ (ts : List He.Defn) (K : PySem.W.Frag) (h : Heap) : Prop := ∀ p ∈ ts, h.get? (He.cT K p).2 = some { cls := .none, data := .fields #[] } ∧ K.lookup (He.cT K p).2 = none ∧ PySem.W.CodeHd h (He.cT K p).1 (He.cT K p).2
def hookZ (n : Nat) (fb : List (PySem.W.Frag → Bool)) (fn : List He.DefD) (cs : List DefS) (ts : List He.Defn) : PySem.W.Hook where
  α := Bool × AlZ
  obs := fun s => obsZG n fb fn cs ts s.heap.get?
  val := fun _ => (true, valZ fn cs)
  says := fun _ h => ∃ K : PySem.W.Frag, K.In h ∧ SaysZ fb fn cs K ∧ TabsZ ts K h
  of := fun _ s e => by
    refine ⟨_, He.frT_in, congrArg Prod.snd e, fun p hp => ?_⟩
    have q := List.all_eq_true.mp (show (ts.all fun p => tabB s.heap.get? (He.frT s.heap.get? (He.asD s.heap.get? n ++ [cStatics, sysModules])) p) = true from congrArg Prod.fst e) p hp
    obtain ⟨h1, h2⟩ := tabB_ok He.frT_in q
    exact ⟨h1, He.frT_none h1 rfl, h2⟩
  keeps := fun _ _ _ ⟨K, hK, c, t⟩ k => ⟨K, PySem.W.Frag.In.keeps hK k, c, fun p hp => ⟨k _ _ (t p hp).1, (t p hp).2.1, (t p hp).2.2.keeps k⟩⟩
theorem obsZG_eq {n : Nat} {fb : List (PySem.W.Frag → Bool)} {fn : List He.DefD} {cs : List DefS} {ts : List He.Defn} {g : Addr → Option Obj} {s : Shared} (h : ∀ a, g a = s.heap.get? a) : obsZG n fb fn cs ts g = (hookZ n fb fn cs ts).obs s := by
  have e : g = s.heap.get? := funext h
  rw [e] <;> rfl
section
variable {fb : List (PySem.W.Frag → Bool)} {fn : List He.DefD} {cs : List DefS} {K : PySem.W.Frag}
theorem SaysZ.all (c : SaysZ fb fn cs K) : ∀ f ∈ fb, f K = true :=
  List.all_eq_true.mp (He.ba (show ((fb.all fun f => f K) && fn.all fun d => d.ok K) = true from congrArg (fun z : AlZ => z.1) c)).1
theorem SaysZ.fact (c : SaysZ fb fn cs K) (i : Nat) {f : PySem.W.Frag → Bool} (h : fb[i]? = some f := by rfl) : f K = true := c.all f (List.mem_of_getElem? h)
theorem SaysZ.def_ (c : SaysZ fb fn cs K) (i : Nat) {d : He.DefD} (h : fn[i]? = some d := by rfl) : ∃ fd, FunD K d.name d.qual d.params d.body d.scope (d.dvs K) (d.kws K) (He.fAd K d.at_) fd := by
  have c2 := (He.ba (show ((fb.all fun f => f K) && fn.all fun d => d.ok K) = true from congrArg (fun z : AlZ => z.1) c)).2
  have e : fn.map (fun d => He.fnW K d.at_) = fn.map He.DefD.val := congrArg (fun z : AlZ => z.2.1) c
  have e2 : (fn.map fun d => He.fnW K d.at_)[i]? = (fn.map He.DefD.val)[i]? := by rw [e]
  rw [List.getElem?_map, List.getElem?_map, h] at e2
  exact He.DefD.funD (Option.some.inj e2) (List.all_eq_true.mp c2 d (List.mem_of_getElem? h))
theorem SaysZ.ini (c : SaysZ fb fn cs K) {d : DefS} (h : d ∈ cs) : fnSW K d.cls = d.val := by
  have e : cs.map (fun d => fnSW K d.cls) = cs.map DefS.val := congrArg (fun z : AlZ => z.2.2) c
  obtain ⟨i, hi⟩ := List.mem_iff_getElem?.mp h
  have e2 : (cs.map fun d => fnSW K d.cls)[i]? = (cs.map DefS.val)[i]? := by rw [e]
  rw [List.getElem?_map, List.getElem?_map, hi] at e2
  exact Option.some.inj e2
end
/-! ## the law's end: no repr runs at its call; tables of code objects for the lambdas -/
theorem law_callZ {P : Program} {w : World} {K : PySem.W.Frag} {mg mb : Str → Option Value} {k : Nat} {fa a : Addr} {cs : List (Addr × Addr)} {fd : FuncData} {x : Str} {sp : Sp} {s : Shared} {vs : List Value} {ns : List Int}
    (KX : K.In s.heap) (hns : s.heap.Ns mainGlobals mg) (hb : s.heap.Ns builtinsNs mb) (hbb : ∀ x : Str, x ≠ "__name__" → mb x = bootBuiltins x) (hlim : s.heap.NoLimit) (hg : s.gens = #[])
    (hT : ∀ p ∈ cs, s.heap.get? p.2 = some { cls := .none, data := .fields #[] }) (nT : ∀ p ∈ cs, K.lookup p.2 = none) (C : ∀ p ∈ cs, PySem.W.CodeHd s.heap p.1 p.2)
    (hbm : ∃ (bm : Addr) (ob : Obj), mg "__builtins__" = some (.ref bm) ∧ bm ≠ builtinsNs ∧ s.heap.get? bm = some ob ∧ ob.cls = .type "module" ∧ ob.dict = some builtinsNs ∧ ob.data = .plain)
    (ha : s.heap.get? a = some { cls := .type "list", data := .seq vs.toArray }) (hi : PyProof.Rows.IntsAre vs ns) (hl : ns.length ≤ sizeLine) (hr : Room k callerA)
    (F : ∀ base : Heap, K.In base → base.Ns mainGlobals mg → (∀ p ∈ cs, LamX.TabB base mg p.1 p.2) → FnG P w K mg base k fa fd [x] sp) (hbind : ∀ (s : Shared) (u : Value), BindsTo s fd ⟨[u], []⟩ [(x, u)])
    (hsp : ∀ H : Hp, (∀ p ∈ cs, H p.2 = some (.tbl #[])) → SqL K H a (ns.map V.int) → sp [.ref a] H (fun v _ => v = .bl true) fun _ _ _ => False) :
    codeAny (model P w) callerA (.call (.ref fa) ⟨[.ref a], []⟩) (fun r s' => r = .ok (.ret (.bool true)) ∧ PySem.OldK s.heap s'.heap ∧ s'.os = s.os ∧ PyProof.Rows.AllBare s'.gens) s := by
  have rv := vals_ints hi
  have lenV := hi.length
  let tabs : List Addr := cs.map (·.2)
  have inTab : ∀ p ∈ cs, p.2 ∈ tabs := fun p hp => List.mem_map.mpr ⟨p, hp, rfl⟩
  have isTab : ∀ b ∈ tabs, ∃ p ∈ cs, p.2 = b := fun b hb => List.mem_map.mp hb
  have tabO : ∀ b ∈ tabs, s.heap.get? b = some { cls := .none, data := .fields #[] } := fun b hb => by
    obtain ⟨p, hp, e⟩ := isTab b hb
    exact e ▸ hT p hp
  have aN : a ∉ tabs := fun z => by
    have q := tabO a z
    rw [ha] at q
    cases q
  -- what is tracked at the start: the tables, and the script where it is none of the module's own
  let H : Hp := fun b => if b ∈ tabs then some (.tbl #[]) else if b = a ∧ K.lookup a = none then some (.frz { cls := .type "list", data := .seq vs.toArray } (.lst (ns.map V.int))) else none
  have Htab : ∀ b ∈ tabs, H b = some (.tbl #[]) := fun b hb => if_pos hb
  have Hscr : K.lookup a = none → H a = some (.frz { cls := .type "list", data := .seq vs.toArray } (.lst (ns.map V.int))) := fun q => (if_neg aN).trans (if_pos ⟨rfl, q⟩)
  have Hcases : ∀ b, H b = none ∨ b ∈ tabs ∨ (b = a ∧ K.lookup a = none) := fun b => by
    by_cases h1 : b ∈ tabs
    · exact .inr (.inl h1)
    · by_cases h2 : b = a ∧ K.lookup a = none
      · exact .inr (.inr h2)
      · exact .inl ((if_neg h1).trans (if_neg h2))
  have hok : HOk P w H s.heap := fun b u e => by
    rcases Hcases b with z | z | ⟨z, q⟩
    · rw [z] at e
      cases e
    · rw [Htab b z] at e
      cases e
      exact tabO b z
    · subst z
      rw [Hscr q] at e
      cases e
      exact ⟨ha, by rw [List.length_map]; exact hl, vs, _, rv, ha⟩
  have seq : SqL K H a (ns.map V.int) := by
    cases hk : K.lookup a with
    | none => exact .inl (.inr ⟨_, Hscr hk⟩)
    | some o =>
      have e := KX a o hk
      rw [ha] at e
      cases e
      exact .inr ⟨_, vs.toArray, _, hk, rfl, rfl, rfl, by rw [List.size_toArray, lenV]; exact hl, by simpa using rv⟩
  -- the ground
  have gr : ∀ {b : Addr} {o : Obj}, s.heap.get? b = some o → H b = none → (hidT s.heap H).get? b = some o := fun e n => hidT_get e n
  have untr : ∀ {b : Addr} {o : Obj}, s.heap.get? b = some o → (∀ us n, o.data ≠ .seq us n) → o.data ≠ .fields #[] → H b = none := fun {b o} e h1 h2 => by
    rcases Hcases b with z | z | ⟨z, _⟩
    · exact z
    · rw [tabO b z] at e
      cases e
      exact absurd rfl h2
    · rw [z, ha] at e
      cases e
      exact absurd rfl (h1 _ _)
  have dictU : ∀ {b : Addr} {o : Obj} {es : Array DictEntry} {ep : Nat}, s.heap.get? b = some o → o.data = .dict es ep → H b = none := fun e d => untr e (fun _ _ z => by rw [d] at z; cases z) (fun z => by rw [d] at z; cases z)
  have nsU : ∀ {b : Addr} {m : Str → Option Value}, s.heap.Ns b m → (hidT s.heap H).Ns b m := fun ⟨o, es, ep, e, d, r⟩ => ⟨o, es, ep, gr e (dictU e d), d, r⟩
  have kin : K.In (hidT s.heap H) := fun b o e => gr (KX b o e) (by
    rcases Hcases b with z | z | ⟨z, q⟩
    · exact z
    · obtain ⟨p, hp, ep⟩ := isTab b z
      rw [← ep, nT p hp] at e
      cases e
    · rw [z, q] at e
      cases e)
  have mod : L2.Mod K mg (hidT s.heap H) := ⟨kin, nsU hns, ⟨mb, nsU hb, hbb⟩, let ⟨mc, h1, h2⟩ := hlim; ⟨mc, nsU h1, h2⟩⟩
  have TB : ∀ p ∈ cs, LamX.TabB (hidT s.heap H) mg p.1 p.2 := fun p hp => by
    have tp := hT p hp
    refine ⟨?_, ?_, fun z => ?_⟩
    · obtain ⟨o, us, file, tf, flags, tg, inF, text, tt, e1, r1, r2, r3, rr⟩ := C p hp
      refine ⟨o, us, file, tf, flags, tg, inF, text, tt, gr e1 (untr e1 (fun _ _ z => by rw [r2] at z; cases z) fun z => ?_), r1, r2, r3, rr⟩
      rw [r2] at z
      cases z
      simp at r3
    · obtain ⟨bm, ob, b1, b2, b3, b4, b5, b6⟩ := hbm
      refine ⟨bm, ob, b1, b2, fun q => ?_, fun q => ?_, gr b3 (untr b3 (fun _ _ z => by rw [b6] at z; cases z) (fun z => by rw [b6] at z; cases z)), b4, b5, b6⟩
      · obtain ⟨o, es, ep, e, hd, _⟩ := hns
        rw [q, e] at b3
        cases b3
        rw [hd] at b6
        cases b6
      · rw [q, tp] at b3
        cases b3
        cases b6
    · obtain ⟨o, es, ep, e, hd, _⟩ := hns
      rw [z, tp] at e
      cases e
      cases hd
  have e0 : Env0 P w K mg (hidT s.heap H) callerA [] s H := ⟨rfl, mod, fun b o e => of_hidT e, Nat.le_of_eq (hidT_size _ _), trivial, fun b hb => absurd (show b ∈ ([] : List Addr) from hb) (by simp), hok, .of_eq hg⟩
  refine codeAny_mono ((F _ kin (nsU hns) TB).run callerA [] s H ⟨[.ref a], []⟩ [.ref a] [.ref a] _ _ rfl hr e0 (hbind s (.ref a)) (.cons rfl .nil) (hsp H (fun p hp => Htab _ (inTab p hp)) seq)) fun r s' h => ?_
  cases r with
  | error e => exact False.elim h
  | ok fl =>
    cases fl with
    | next => exact False.elim h
    | brk => exact False.elim h
    | cont => exact False.elim h
    | ret u =>
      obtain ⟨v, H', os, bare, un, hok', r', q⟩ := h
      have q' : v = .bl true := q
      subst q'
      obtain rfl : u = Value.bool true := r'
      have kept : ∀ b o, b ∉ tabs → s.heap.get? b = some o → s'.heap.get? b = some o := fun b o nb e => by
        rcases Hcases b with z | z | ⟨z, q⟩
        · exact un.keep b o e z (by intro z; exact absurd (show b ∈ ([] : List Addr) from z) (by simp)) (by simp)
        · exact absurd z nb
        · subst z
          have z2 := un.frzs _ _ _ (Hscr q)
          obtain ⟨e2, _⟩ := hok' _ _ z2
          rw [ha] at e
          cases e
          exact e2
      have more : ∀ p ∈ cs, ∃ more : Array Value, s'.heap.get? p.2 = some { cls := .none, data := .fields more } := fun p hp => by
        obtain ⟨mr, z⟩ := un.tbls p.2 #[] (Htab _ (inTab p hp))
        exact ⟨_, hok' p.2 _ z⟩
      refine ⟨rfl, ⟨fun b o e => ?_, fun b o e => ?_⟩, os, bare⟩
      · by_cases hbt : b ∈ tabs
        · obtain ⟨p, hp, ep⟩ := isTab b hbt
          obtain ⟨mr, hm⟩ := more p hp
          rw [← ep] at e ⊢
          rw [hT p hp] at e
          cases e
          exact .inr (.inl ⟨((C p hp).tab (hT p hp)).isCodeTable, rfl, #[], mr, rfl, by rw [Array.empty_append]; exact hm⟩)
        · exact .inl (kept b o hbt e)
      · by_cases hbt : b ∈ tabs
        · obtain ⟨p, hp, ep⟩ := isTab b hbt
          obtain ⟨mr, hm⟩ := more p hp
          exact ⟨_, ep ▸ hm⟩
        · exact ⟨o, kept b o hbt e⟩
/-- what is known of the law's promise at the head's heap -/
def LawAtZ (l : PySem.W.OpenLaw) (w : World) (k n : Nat) (x : Str) (mg : Str → Option Value) (fa : Addr) (h : Heap) : Prop :=
  ∃ (K : PySem.W.Frag) (fd : FuncData) (cs : List (Addr × Addr)) (sp : Sp), K.In h ∧ (∀ p ∈ cs, h.get? p.2 = some { cls := .none, data := .fields #[] }) ∧ (∀ p ∈ cs, K.lookup p.2 = none) ∧ (∀ p ∈ cs, PySem.W.CodeHd h p.1 p.2) ∧ (∀ (s : Shared) (u : Value), BindsTo s fd ⟨[u], []⟩ [(x, u)]) ∧
    (∀ (H : Hp) (a : Addr) (ns : List Int), ns.length ≤ n → (∀ p ∈ cs, H p.2 = some (.tbl #[])) → SqL K H a (ns.map V.int) → sp [.ref a] H (fun v _ => v = .bl true) fun _ _ _ => False) ∧
    ∀ base : Heap, K.In base → base.Ns mainGlobals mg → (∀ p ∈ cs, LamX.TabB base mg p.1 p.2) → FnG l.prog w K mg base k fa fd [x] sp
theorem walk_ofZ {l : PySem.W.OpenLaw} {n k : Nat} {q : Program} {loose : List Str} {XP : (Str → Option Value) → Heap → Prop} {YP : World → Heap → Prop} {d : DefRec} {x : Str}
    (hn : l.most = some n) (hn2 : n ≤ sizeLine) (hdf : d.params.defaults = []) (hr : Room k callerA)
    (F : ∀ (w : World) (mg : Str → Option Value) (fa : Addr) (h : Heap), YP w h → h.Ns mainGlobals mg → mg d.name = some (.ref fa) → LawAtZ l w k n x mg fa h) :
    PySem.W.WalkO q loose XP YP l.row.toRowW d [] (fun f vs => PySem.call f vs) :=
  Att.attach_call hn hdf fun w s0 s1 mg mb fa o pm cd doc a vs ns G Y ho hd hcd hmg hobj hints hlen hg => by
    obtain ⟨K, fd, cs, sp, KX, hT, nT, C, hb, hsp, hF⟩ := F w mg fa _ Y G.T.g hmg
    exact law_callZ KX G.T.g G.T.b G.T.builtins G.T.nolimit hg hT nT C G.T.bmain hobj hints (Nat.le_trans hlen hn2) hr hF hb (fun H hH hS => hsp H a ns hlen hH hS)
abbrev Rw : PySem.W.OpenRow := PySem.W.OpenLaw.row PySem.Challenge.rw_stopanywhere_k60_no_fewer_moves
def d_sort_of_place : He.DefD := ⟨("sort_of_place", none), "sort_of_place", "sort_of_place", defArgs s_sort_of_place, defBody s_sort_of_place, defScope s_sort_of_place, [], []⟩
def d_number_of : He.DefD := ⟨("number_of", none), "number_of", "number_of", defArgs s_number_of, defBody s_number_of, defScope s_number_of, [], []⟩
def d_place_rank : He.DefD := ⟨("place_rank", none), "place_rank", "place_rank", defArgs s_place_rank, defBody s_place_rank, defScope s_place_rank, [], []⟩
def d_is_register : He.DefD := ⟨("is_register", none), "is_register", "is_register", defArgs s_is_register, defBody s_is_register, defScope s_is_register, [], []⟩
def d_is_slot : He.DefD := ⟨("is_slot", none), "is_slot", "is_slot", defArgs s_is_slot, defBody s_is_slot, defScope s_is_slot, [], []⟩
def d_is_machine_place : He.DefD := ⟨("is_machine_place", none), "is_machine_place", "is_machine_place", defArgs s_is_machine_place, defBody s_is_machine_place, defScope s_is_machine_place, [], []⟩
def d_need_pairs : He.DefD := ⟨("need_pairs", none), "need_pairs", "need_pairs", defArgs s_need_pairs, defBody s_need_pairs, defScope s_need_pairs, [], []⟩
def d_need_helpers : He.DefD := ⟨("need_helpers", none), "need_helpers", "need_helpers", defArgs s_need_helpers, defBody s_need_helpers, defScope s_need_helpers, [], []⟩
def d_takers_of : He.DefD := ⟨("takers_of", none), "takers_of", "takers_of", defArgs s_takers_of, defBody s_takers_of, defScope s_takers_of, [], []⟩
def d_rings_of : He.DefD := ⟨("rings_of", none), "rings_of", "rings_of", defArgs s_rings_of, defBody s_rings_of, defScope s_rings_of, [], []⟩
def d_by_slots : He.DefD := ⟨("by_slots", none), "by_slots", "by_slots", defArgs s_by_slots, defBody s_by_slots, defScope s_by_slots, [], []⟩
def d_opens : He.DefD := ⟨("opens", none), "opens", "opens", defArgs s_opens, defBody s_opens, defScope s_opens, [], []⟩
def d_openings : He.DefD := ⟨("openings", none), "openings", "openings", defArgs s_openings, defBody s_openings, defScope s_openings, [], []⟩
def d_taken : He.DefD := ⟨("taken", none), "taken", "taken", defArgs s_taken, defBody s_taken, defScope s_taken, [], []⟩
def d_sources_below : He.DefD := ⟨("sources_below", none), "sources_below", "sources_below", defArgs s_sources_below, defBody s_sources_below, defScope s_sources_below, [], []⟩
def d_moves_of : He.DefD := ⟨("moves_of", none), "moves_of", "moves_of", defArgs s_moves_of, defBody s_moves_of, defScope s_moves_of, [], []⟩
def d_moves : He.DefD := ⟨("moves", none), "moves", "moves", defArgs s_moves, defBody s_moves, defScope s_moves, [], []⟩
def d__law_begun : He.DefD := ⟨("_law_begun", none), "_law_begun", "_law_begun", defArgs s_law_begun, defBody s_law_begun, defScope s_law_begun, [], []⟩
def d__law_mixed : He.DefD := ⟨("_law_mixed", none), "_law_mixed", "_law_mixed", defArgs s_law_mixed, defBody s_law_mixed, defScope s_law_mixed, [], []⟩
def d__law_take : He.DefD := ⟨("_law_take", none), "_law_take", "_law_take", defArgs s_law_take, defBody s_law_take, defScope s_law_take, [], []⟩
def d__law_pick : He.DefD := ⟨("_law_pick", none), "_law_pick", "_law_pick", defArgs s_law_pick, defBody s_law_pick, defScope s_law_pick, [], []⟩
def d__law_shuffled : He.DefD := ⟨("_law_shuffled", none), "_law_shuffled", "_law_shuffled", defArgs s_law_shuffled, defBody s_law_shuffled, defScope s_law_shuffled, [], []⟩
def d__law_is_done : He.DefD := ⟨("_law_is_done", none), "_law_is_done", "_law_is_done", defArgs s_law_is_done, defBody s_law_is_done, defScope s_law_is_done, [], []⟩
def d__law_next : He.DefD := ⟨("_law_next", none), "_law_next", "_law_next", defArgs s_law_next, defBody s_law_next, defScope s_law_next, [], []⟩
def d__law_least : He.DefD := ⟨("_law_least", none), "_law_least", "_law_least", defArgs s_law_least, defBody s_law_least, defScope s_law_least, [], []⟩
def d_law : He.DefD := ⟨("law", none), "law", "law", defArgs s_law, defBody s_law, defScope s_law, [], []⟩
def d_Ring___init__ : He.DefD := ⟨("Ring", some "__init__"), "__init__", "Ring.__init__", defArgs s_Ring___init__, defBody s_Ring___init__, defScope s_Ring___init__, [], []⟩
def d_Ring_hold : He.DefD := ⟨("Ring", some "hold"), "hold", "Ring.hold", defArgs s_Ring_hold, defBody s_Ring_hold, defScope s_Ring_hold, [], []⟩
def d_Ring_bring : He.DefD := ⟨("Ring", some "bring"), "bring", "Ring.bring", defArgs s_Ring_bring, defBody s_Ring_bring, defScope s_Ring_bring, [], []⟩
def d_Ring_turn : He.DefD := ⟨("Ring", some "turn"), "turn", "Ring.turn", defArgs s_Ring_turn, defBody s_Ring_turn, defScope s_Ring_turn, [], []⟩
def i_BadPairs : DefS := ⟨"BadPairs", "BadPairs.__init__", defArgs s_BadPairs___init__, defBody s_BadPairs___init__, defScope s_BadPairs___init__⟩
def fnL : List He.DefD := [d_sort_of_place, d_number_of, d_place_rank, d_is_register, d_is_slot, d_is_machine_place, d_need_pairs, d_need_helpers, d_takers_of, d_rings_of, d_by_slots, d_opens, d_openings, d_taken, d_sources_below, d_moves_of, d_moves, d__law_begun, d__law_mixed, d__law_take, d__law_pick, d__law_shuffled, d__law_is_done, d__law_next, d__law_least, d_law, d_Ring___init__, d_Ring_hold, d_Ring_bring, d_Ring_turn]
def csL : List DefS := [i_BadPairs]
abbrev gloB (x : Str) (K : PySem.W.Frag) : Bool := (He.Fa.glo x).ok K
abbrev freeB (x : Str) (K : PySem.W.Frag) : Bool := (He.Fa.free x).ok K
abbrev strB (x z : Str) (K : PySem.W.Frag) : Bool := (He.Fa.str x z).ok K
abbrev exmB (x y : Str) (K : PySem.W.Frag) : Bool := (He.Fa.exm x y true).ok K
abbrev noatB (x f : Str) (K : PySem.W.Frag) : Bool := (He.Fa.noat x f).ok K
abbrev kitB (x y : Str) (K : PySem.W.Frag) : Bool := decide (PySem.W.kitOne K (.ref (He.ga K x)) (.ref (He.ga K y)) = some true)
abbrev kitF (x y : Str) (K : PySem.W.Frag) : Bool := decide (PySem.W.kitOne K (.ref (He.ga K x)) (.ref (He.ga K y)) = some false)
abbrev kitT (x : Str) (n : String) (K : PySem.W.Frag) : Bool := decide (PySem.W.kitOne K (.ref (He.ga K x)) (.type n) = some true)
def mainFile : Str := PySem.Challenge.pw_stopanywhere_k60_no_fewer_moves.main.file
def smdB (K : PySem.W.Frag) : Bool := match K.lookup sysModules with | some ⟨.type n, _, _, _⟩ => decide (n = "dict") | _ => false
theorem smdB_ok {K : PySem.W.Frag} (h : smdB K = true) : SmD K := by
  unfold smdB at h
  split at h
  · rename_i n a b c e
    exact ⟨_, e, congrArg Value.type (of_decide_eq_true h)⟩
  · cases h
abbrev excN (x : Str) (K : PySem.W.Frag) : Bool := PySem.W.excIn K (He.ga K x) He.veBase "ValueError.__new__"
abbrev oexN (x : Str) (K : PySem.W.Frag) : Bool := oexB K (He.ga K x)
abbrev excR (x : Str) (K : PySem.W.Frag) : Bool := excRB K (He.ga K x)
abbrev supN (d : DefS) (K : PySem.W.Frag) : Bool := supB mainFile K d.cls d.qual
def dflB (x : Str) (K : PySem.W.Frag) : Bool := match K.lookup (initAd K x) with | some ⟨_, _, .func fd, _⟩ => (match fd.defaults with | .none => true | _ => false) | _ => false
theorem dflB_ok {K : PySem.W.Frag} {x : Str} (h : dflB x K = true) {oc : Value} {od : Option Addr} {fd : FuncData} {osl : Array (Option Value)} (lk : K.lookup (initAd K x) = some ⟨oc, od, .func fd, osl⟩) : fd.defaults = .none := by
  unfold dflB at h
  rw [lk] at h
  dsimp only at h
  split at h
  · assumption
  · cases h
theorem SupF.binds {P : Program} {K : PySem.W.Frag} {mg : Str → Option Value} {C cc cda : Addr} {x qual : Str} {params : Arguments} {body : List Stmt} {scope : Scope} {fd : FuncData} {ps : List Str} (F : SupF P K mg C (initAd K x) cc cda qual params body scope fd) (hd : dflB x K = true)
    (h : ∀ (kV doc pm ct : Value) (an : Option Addr) (us : List Value), us.length = ps.length → bindArgs (PySem.W.ksFn "__init__" qual params body scope .none kV doc pm an (.ref cda) ct cc) ⟨us, []⟩ = pure (ps.zip us)) : Binds K fd ps [] := by
  obtain ⟨oc, od, dV, kV, doc, pm, ct, an, osl, rfl, lk⟩ := F.ex
  have e : dV = .none := dflB_ok hd lk
  subst e
  exact .all (h kV doc pm ct an)
def strOf : Value → Option Str
  | .str z _ => some z
  | _ => none
def tupB (x : Str) (ss : List Str) (K : PySem.W.Frag) : Bool := match K.lookup (He.ga K x) with | some ⟨.type c, _, .seq its _, _⟩ => decide (c = "tuple") && (decide (its.size ≤ sizeLine) && decide (its.toList.map strOf = ss.map some)) | _ => false
theorem strOf_vals : ∀ {us : List Value} {ss : List Str}, us.map strOf = ss.map some → Vals (ss.map V.str) us
  | [], [], _ => .nil
  | [], _ :: _, h => by cases h
  | _ :: _, [], h => by cases h
  | u :: us, z :: ss, h => by
    simp only [List.map_cons, List.cons.injEq] at h
    refine .cons ?_ (strOf_vals h.2)
    cases u with
    | str y t =>
      have e : y = z := by injection h.1
      subst e
      exact ⟨t, rfl⟩
    | _ => cases h.1
theorem tupB_ok {x : Str} {ss : List Str} {K : PySem.W.Frag} (h : tupB x ss K = true) (H : Hp) : SqT K H (He.ga K x) (ss.map V.str) := by
  unfold tupB at h
  split at h
  · rename_i c d its n sl lk
    obtain ⟨h1, h⟩ := He.ba h
    obtain ⟨h2, h3⟩ := He.ba h
    exact .inr ⟨_, its, n, lk, congrArg Value.type (of_decide_eq_true h1), rfl, of_decide_eq_true h2, strOf_vals (of_decide_eq_true h3)⟩
  · cases h
def fbL : List (PySem.W.Frag → Bool) := [smdB, gloB "sort_of_place", gloB "number_of", gloB "place_rank", gloB "is_register", gloB "is_slot", gloB "is_machine_place", gloB "need_pairs", gloB "need_helpers", gloB "takers_of", gloB "rings_of", gloB "by_slots", gloB "opens", gloB "openings", gloB "taken", gloB "sources_below", gloB "moves_of", gloB "moves", gloB "_law_begun", gloB "_law_mixed", gloB "_law_take", gloB "_law_pick", gloB "_law_shuffled", gloB "_law_is_done", gloB "_law_next", gloB "_law_least", gloB "law", gloB "StopError", gloB "BadPairs", gloB "BadHelpers", gloB "Ring", freeB "ValueError", freeB "abs", freeB "all", freeB "dict", freeB "enumerate", freeB "int", freeB "isinstance", freeB "len", freeB "list", freeB "min", freeB "range", freeB "sorted", freeB "str", freeB "super", freeB "tuple", freeB "zip", oexN "StopError", oexN "BadPairs", oexN "BadHelpers", (fun K => (He.Fa.cls "Ring").ok K), (fun K => (He.Fa.mkr "Ring").ok K), (fun K => (He.Fa.meth "Ring" "hold").ok K), (fun K => (He.Fa.meth "Ring" "bring").ok K), (fun K => (He.Fa.meth "Ring" "turn").ok K), supN i_BadPairs, dflB "BadPairs", freeB "bool", (fun K => (He.Fa.int "MOST_REGISTERS" 9).ok K), (fun K => (He.Fa.int "MOST_PAIRS" 60).ok K), (fun K => (He.Fa.int "MOST_NUMBER" 9999).ok K), (fun K => (He.Fa.int "MOST_REGISTER" 8).ok K), (fun K => (He.Fa.int "MOST_SLOT" 999).ok K), excN "BadHelpers", excR "BadPairs", noatB "BadPairs" "at", noatB "Ring" "places", noatB "Ring" "takers", noatB "Ring" "helpers", noatB "Ring" "rows", noatB "Ring" "late", noatB "Ring" "keeper", (fun K => (He.Fa.exm "BadPairs" "BadPairs" true).ok K), (fun K => (He.Fa.exm "BadHelpers" "BadPairs" false).ok K), (fun K => (He.Fa.exm "BadHelpers" "BadHelpers" true).ok K)]
def tsL : List He.Defn := []
abbrev hk : PySem.W.Hook := hookZ 4 fbL fnL csL tsL
def ob (s : PySem.W.SharedT) : Bool × AlZ := obsZG 4 fbL fnL csL tsL (HandSHeadRun.getT s)
theorem ob_eq (s : PySem.W.SharedT) : ob s = hk.obs s.abs := obsZG_eq (HandSHeadRun.getT_eq s)
def looseL : List PySem.Str := (["StopError", "BadPairs", "BadHelpers", "MOST_NUMBER", "MOST_SLOT", "MOST_REGISTER", "sort_of_place", "number_of", "place_rank", "is_register", "is_slot", "MOST_REGISTERS", "MOST_PAIRS", "is_machine_place", "need_pairs", "need_helpers", "takers_of", "rings_of", "by_slots", "opens", "openings", "taken", "Ring", "sources_below", "moves_of", "moves", "_law_begun", "_law_mixed", "_law_take", "_law_pick"] : List PySem.Str) ++ (["_law_shuffled", "_law_is_done", "_law_next", "_law_least"] : List PySem.Str)
set_option maxHeartbeats 0 in
theorem run (w : World) : HandSHeadRun.RunEq Rw (PySem.W.view Rw.prog [38]) hk ob 60000 looseL w := by
  intro os
  kernel_rfl
section
variable {K : PySem.W.Frag}
theorem fact_smd (c : SaysZ fbL fnL csL K) : (smdB) K = true := c.fact 0
theorem fact_g_sort_of_place (c : SaysZ fbL fnL csL K) : (gloB "sort_of_place") K = true := c.fact 1
theorem fact_g_number_of (c : SaysZ fbL fnL csL K) : (gloB "number_of") K = true := c.fact 2
theorem fact_g_place_rank (c : SaysZ fbL fnL csL K) : (gloB "place_rank") K = true := c.fact 3
theorem fact_g_is_register (c : SaysZ fbL fnL csL K) : (gloB "is_register") K = true := c.fact 4
theorem fact_g_is_slot (c : SaysZ fbL fnL csL K) : (gloB "is_slot") K = true := c.fact 5
theorem fact_g_is_machine_place (c : SaysZ fbL fnL csL K) : (gloB "is_machine_place") K = true := c.fact 6
theorem fact_g_need_pairs (c : SaysZ fbL fnL csL K) : (gloB "need_pairs") K = true := c.fact 7
theorem fact_g_need_helpers (c : SaysZ fbL fnL csL K) : (gloB "need_helpers") K = true := c.fact 8
theorem fact_g_takers_of (c : SaysZ fbL fnL csL K) : (gloB "takers_of") K = true := c.fact 9
theorem fact_g_rings_of (c : SaysZ fbL fnL csL K) : (gloB "rings_of") K = true := c.fact 10
theorem fact_g_by_slots (c : SaysZ fbL fnL csL K) : (gloB "by_slots") K = true := c.fact 11
theorem fact_g_opens (c : SaysZ fbL fnL csL K) : (gloB "opens") K = true := c.fact 12
theorem fact_g_openings (c : SaysZ fbL fnL csL K) : (gloB "openings") K = true := c.fact 13
theorem fact_g_taken (c : SaysZ fbL fnL csL K) : (gloB "taken") K = true := c.fact 14
theorem fact_g_sources_below (c : SaysZ fbL fnL csL K) : (gloB "sources_below") K = true := c.fact 15
theorem fact_g_moves_of (c : SaysZ fbL fnL csL K) : (gloB "moves_of") K = true := c.fact 16
theorem fact_g_moves (c : SaysZ fbL fnL csL K) : (gloB "moves") K = true := c.fact 17
theorem fact_g__law_begun (c : SaysZ fbL fnL csL K) : (gloB "_law_begun") K = true := c.fact 18
theorem fact_g__law_mixed (c : SaysZ fbL fnL csL K) : (gloB "_law_mixed") K = true := c.fact 19
theorem fact_g__law_take (c : SaysZ fbL fnL csL K) : (gloB "_law_take") K = true := c.fact 20
theorem fact_g__law_pick (c : SaysZ fbL fnL csL K) : (gloB "_law_pick") K = true := c.fact 21
theorem fact_g__law_shuffled (c : SaysZ fbL fnL csL K) : (gloB "_law_shuffled") K = true := c.fact 22
theorem fact_g__law_is_done (c : SaysZ fbL fnL csL K) : (gloB "_law_is_done") K = true := c.fact 23
theorem fact_g__law_next (c : SaysZ fbL fnL csL K) : (gloB "_law_next") K = true := c.fact 24
theorem fact_g__law_least (c : SaysZ fbL fnL csL K) : (gloB "_law_least") K = true := c.fact 25
theorem fact_g_law (c : SaysZ fbL fnL csL K) : (gloB "law") K = true := c.fact 26
theorem fact_g_StopError (c : SaysZ fbL fnL csL K) : (gloB "StopError") K = true := c.fact 27
theorem fact_g_BadPairs (c : SaysZ fbL fnL csL K) : (gloB "BadPairs") K = true := c.fact 28
theorem fact_g_BadHelpers (c : SaysZ fbL fnL csL K) : (gloB "BadHelpers") K = true := c.fact 29
theorem fact_g_Ring (c : SaysZ fbL fnL csL K) : (gloB "Ring") K = true := c.fact 30
theorem fact_f_ValueError (c : SaysZ fbL fnL csL K) : (freeB "ValueError") K = true := c.fact 31
theorem fact_f_abs (c : SaysZ fbL fnL csL K) : (freeB "abs") K = true := c.fact 32
theorem fact_f_all (c : SaysZ fbL fnL csL K) : (freeB "all") K = true := c.fact 33
theorem fact_f_dict (c : SaysZ fbL fnL csL K) : (freeB "dict") K = true := c.fact 34
theorem fact_f_enumerate (c : SaysZ fbL fnL csL K) : (freeB "enumerate") K = true := c.fact 35
theorem fact_f_int (c : SaysZ fbL fnL csL K) : (freeB "int") K = true := c.fact 36
theorem fact_f_isinstance (c : SaysZ fbL fnL csL K) : (freeB "isinstance") K = true := c.fact 37
theorem fact_f_len (c : SaysZ fbL fnL csL K) : (freeB "len") K = true := c.fact 38
theorem fact_f_list (c : SaysZ fbL fnL csL K) : (freeB "list") K = true := c.fact 39
theorem fact_f_min (c : SaysZ fbL fnL csL K) : (freeB "min") K = true := c.fact 40
theorem fact_f_range (c : SaysZ fbL fnL csL K) : (freeB "range") K = true := c.fact 41
theorem fact_f_sorted (c : SaysZ fbL fnL csL K) : (freeB "sorted") K = true := c.fact 42
theorem fact_f_str (c : SaysZ fbL fnL csL K) : (freeB "str") K = true := c.fact 43
theorem fact_f_super (c : SaysZ fbL fnL csL K) : (freeB "super") K = true := c.fact 44
theorem fact_f_tuple (c : SaysZ fbL fnL csL K) : (freeB "tuple") K = true := c.fact 45
theorem fact_f_zip (c : SaysZ fbL fnL csL K) : (freeB "zip") K = true := c.fact 46
theorem fact_o_StopError (c : SaysZ fbL fnL csL K) : (oexN "StopError") K = true := c.fact 47
theorem fact_o_BadPairs (c : SaysZ fbL fnL csL K) : (oexN "BadPairs") K = true := c.fact 48
theorem fact_o_BadHelpers (c : SaysZ fbL fnL csL K) : (oexN "BadHelpers") K = true := c.fact 49
theorem fact_cls_Ring (c : SaysZ fbL fnL csL K) : ((fun K => (He.Fa.cls "Ring").ok K)) K = true := c.fact 50
theorem fact_mkr_Ring (c : SaysZ fbL fnL csL K) : ((fun K => (He.Fa.mkr "Ring").ok K)) K = true := c.fact 51
theorem fact_me_Ring_hold (c : SaysZ fbL fnL csL K) : ((fun K => (He.Fa.meth "Ring" "hold").ok K)) K = true := c.fact 52
theorem fact_me_Ring_bring (c : SaysZ fbL fnL csL K) : ((fun K => (He.Fa.meth "Ring" "bring").ok K)) K = true := c.fact 53
theorem fact_me_Ring_turn (c : SaysZ fbL fnL csL K) : ((fun K => (He.Fa.meth "Ring" "turn").ok K)) K = true := c.fact 54
theorem fact_sup_BadPairs (c : SaysZ fbL fnL csL K) : (supN i_BadPairs) K = true := c.fact 55
theorem fact_dfl_BadPairs (c : SaysZ fbL fnL csL K) : (dflB "BadPairs") K = true := c.fact 56
theorem fact_f_bool (c : SaysZ fbL fnL csL K) : (freeB "bool") K = true := c.fact 57
theorem fact_n_MOST_REGISTERS (c : SaysZ fbL fnL csL K) : ((fun K => (He.Fa.int "MOST_REGISTERS" 9).ok K)) K = true := c.fact 58
theorem fact_n_MOST_PAIRS (c : SaysZ fbL fnL csL K) : ((fun K => (He.Fa.int "MOST_PAIRS" 60).ok K)) K = true := c.fact 59
theorem fact_n_MOST_NUMBER (c : SaysZ fbL fnL csL K) : ((fun K => (He.Fa.int "MOST_NUMBER" 9999).ok K)) K = true := c.fact 60
theorem fact_n_MOST_REGISTER (c : SaysZ fbL fnL csL K) : ((fun K => (He.Fa.int "MOST_REGISTER" 8).ok K)) K = true := c.fact 61
theorem fact_n_MOST_SLOT (c : SaysZ fbL fnL csL K) : ((fun K => (He.Fa.int "MOST_SLOT" 999).ok K)) K = true := c.fact 62
theorem fact_p_BadHelpers (c : SaysZ fbL fnL csL K) : (excN "BadHelpers") K = true := c.fact 63
theorem fact_r_BadPairs (c : SaysZ fbL fnL csL K) : (excR "BadPairs") K = true := c.fact 64
theorem fact_a_at (c : SaysZ fbL fnL csL K) : (noatB "BadPairs" "at") K = true := c.fact 65
theorem fact_na_places (c : SaysZ fbL fnL csL K) : (noatB "Ring" "places") K = true := c.fact 66
theorem fact_na_takers (c : SaysZ fbL fnL csL K) : (noatB "Ring" "takers") K = true := c.fact 67
theorem fact_na_helpers (c : SaysZ fbL fnL csL K) : (noatB "Ring" "helpers") K = true := c.fact 68
theorem fact_na_rows (c : SaysZ fbL fnL csL K) : (noatB "Ring" "rows") K = true := c.fact 69
theorem fact_na_late (c : SaysZ fbL fnL csL K) : (noatB "Ring" "late") K = true := c.fact 70
theorem fact_na_keeper (c : SaysZ fbL fnL csL K) : (noatB "Ring" "keeper") K = true := c.fact 71
theorem fact_x_BadPairs_BadPairs (c : SaysZ fbL fnL csL K) : ((fun K => (He.Fa.exm "BadPairs" "BadPairs" true).ok K)) K = true := c.fact 72
theorem fact_x_BadHelpers_BadPairs (c : SaysZ fbL fnL csL K) : ((fun K => (He.Fa.exm "BadHelpers" "BadPairs" false).ok K)) K = true := c.fact 73
theorem fact_x_BadHelpers_BadHelpers (c : SaysZ fbL fnL csL K) : ((fun K => (He.Fa.exm "BadHelpers" "BadHelpers" true).ok K)) K = true := c.fact 74
theorem def_sort_of_place (c : SaysZ fbL fnL csL K) : ∃ fd, FunD K "sort_of_place" "sort_of_place" (defArgs s_sort_of_place) (defBody s_sort_of_place) (defScope s_sort_of_place) [] [] (He.ga K "sort_of_place") fd := c.def_ 0 (d := d_sort_of_place) rfl
theorem def_number_of (c : SaysZ fbL fnL csL K) : ∃ fd, FunD K "number_of" "number_of" (defArgs s_number_of) (defBody s_number_of) (defScope s_number_of) [] [] (He.ga K "number_of") fd := c.def_ 1 (d := d_number_of) rfl
theorem def_place_rank (c : SaysZ fbL fnL csL K) : ∃ fd, FunD K "place_rank" "place_rank" (defArgs s_place_rank) (defBody s_place_rank) (defScope s_place_rank) [] [] (He.ga K "place_rank") fd := c.def_ 2 (d := d_place_rank) rfl
theorem def_is_register (c : SaysZ fbL fnL csL K) : ∃ fd, FunD K "is_register" "is_register" (defArgs s_is_register) (defBody s_is_register) (defScope s_is_register) [] [] (He.ga K "is_register") fd := c.def_ 3 (d := d_is_register) rfl
theorem def_is_slot (c : SaysZ fbL fnL csL K) : ∃ fd, FunD K "is_slot" "is_slot" (defArgs s_is_slot) (defBody s_is_slot) (defScope s_is_slot) [] [] (He.ga K "is_slot") fd := c.def_ 4 (d := d_is_slot) rfl
theorem def_is_machine_place (c : SaysZ fbL fnL csL K) : ∃ fd, FunD K "is_machine_place" "is_machine_place" (defArgs s_is_machine_place) (defBody s_is_machine_place) (defScope s_is_machine_place) [] [] (He.ga K "is_machine_place") fd := c.def_ 5 (d := d_is_machine_place) rfl
theorem def_need_pairs (c : SaysZ fbL fnL csL K) : ∃ fd, FunD K "need_pairs" "need_pairs" (defArgs s_need_pairs) (defBody s_need_pairs) (defScope s_need_pairs) [] [] (He.ga K "need_pairs") fd := c.def_ 6 (d := d_need_pairs) rfl
theorem def_need_helpers (c : SaysZ fbL fnL csL K) : ∃ fd, FunD K "need_helpers" "need_helpers" (defArgs s_need_helpers) (defBody s_need_helpers) (defScope s_need_helpers) [] [] (He.ga K "need_helpers") fd := c.def_ 7 (d := d_need_helpers) rfl
theorem def_takers_of (c : SaysZ fbL fnL csL K) : ∃ fd, FunD K "takers_of" "takers_of" (defArgs s_takers_of) (defBody s_takers_of) (defScope s_takers_of) [] [] (He.ga K "takers_of") fd := c.def_ 8 (d := d_takers_of) rfl
theorem def_rings_of (c : SaysZ fbL fnL csL K) : ∃ fd, FunD K "rings_of" "rings_of" (defArgs s_rings_of) (defBody s_rings_of) (defScope s_rings_of) [] [] (He.ga K "rings_of") fd := c.def_ 9 (d := d_rings_of) rfl
theorem def_by_slots (c : SaysZ fbL fnL csL K) : ∃ fd, FunD K "by_slots" "by_slots" (defArgs s_by_slots) (defBody s_by_slots) (defScope s_by_slots) [] [] (He.ga K "by_slots") fd := c.def_ 10 (d := d_by_slots) rfl
theorem def_opens (c : SaysZ fbL fnL csL K) : ∃ fd, FunD K "opens" "opens" (defArgs s_opens) (defBody s_opens) (defScope s_opens) [] [] (He.ga K "opens") fd := c.def_ 11 (d := d_opens) rfl
theorem def_openings (c : SaysZ fbL fnL csL K) : ∃ fd, FunD K "openings" "openings" (defArgs s_openings) (defBody s_openings) (defScope s_openings) [] [] (He.ga K "openings") fd := c.def_ 12 (d := d_openings) rfl
theorem def_taken (c : SaysZ fbL fnL csL K) : ∃ fd, FunD K "taken" "taken" (defArgs s_taken) (defBody s_taken) (defScope s_taken) [] [] (He.ga K "taken") fd := c.def_ 13 (d := d_taken) rfl
theorem def_sources_below (c : SaysZ fbL fnL csL K) : ∃ fd, FunD K "sources_below" "sources_below" (defArgs s_sources_below) (defBody s_sources_below) (defScope s_sources_below) [] [] (He.ga K "sources_below") fd := c.def_ 14 (d := d_sources_below) rfl
theorem def_moves_of (c : SaysZ fbL fnL csL K) : ∃ fd, FunD K "moves_of" "moves_of" (defArgs s_moves_of) (defBody s_moves_of) (defScope s_moves_of) [] [] (He.ga K "moves_of") fd := c.def_ 15 (d := d_moves_of) rfl
theorem def_moves (c : SaysZ fbL fnL csL K) : ∃ fd, FunD K "moves" "moves" (defArgs s_moves) (defBody s_moves) (defScope s_moves) [] [] (He.ga K "moves") fd := c.def_ 16 (d := d_moves) rfl
theorem def__law_begun (c : SaysZ fbL fnL csL K) : ∃ fd, FunD K "_law_begun" "_law_begun" (defArgs s_law_begun) (defBody s_law_begun) (defScope s_law_begun) [] [] (He.ga K "_law_begun") fd := c.def_ 17 (d := d__law_begun) rfl
theorem def__law_mixed (c : SaysZ fbL fnL csL K) : ∃ fd, FunD K "_law_mixed" "_law_mixed" (defArgs s_law_mixed) (defBody s_law_mixed) (defScope s_law_mixed) [] [] (He.ga K "_law_mixed") fd := c.def_ 18 (d := d__law_mixed) rfl
theorem def__law_take (c : SaysZ fbL fnL csL K) : ∃ fd, FunD K "_law_take" "_law_take" (defArgs s_law_take) (defBody s_law_take) (defScope s_law_take) [] [] (He.ga K "_law_take") fd := c.def_ 19 (d := d__law_take) rfl
theorem def__law_pick (c : SaysZ fbL fnL csL K) : ∃ fd, FunD K "_law_pick" "_law_pick" (defArgs s_law_pick) (defBody s_law_pick) (defScope s_law_pick) [] [] (He.ga K "_law_pick") fd := c.def_ 20 (d := d__law_pick) rfl
theorem def__law_shuffled (c : SaysZ fbL fnL csL K) : ∃ fd, FunD K "_law_shuffled" "_law_shuffled" (defArgs s_law_shuffled) (defBody s_law_shuffled) (defScope s_law_shuffled) [] [] (He.ga K "_law_shuffled") fd := c.def_ 21 (d := d__law_shuffled) rfl
theorem def__law_is_done (c : SaysZ fbL fnL csL K) : ∃ fd, FunD K "_law_is_done" "_law_is_done" (defArgs s_law_is_done) (defBody s_law_is_done) (defScope s_law_is_done) [] [] (He.ga K "_law_is_done") fd := c.def_ 22 (d := d__law_is_done) rfl
theorem def__law_next (c : SaysZ fbL fnL csL K) : ∃ fd, FunD K "_law_next" "_law_next" (defArgs s_law_next) (defBody s_law_next) (defScope s_law_next) [] [] (He.ga K "_law_next") fd := c.def_ 23 (d := d__law_next) rfl
theorem def__law_least (c : SaysZ fbL fnL csL K) : ∃ fd, FunD K "_law_least" "_law_least" (defArgs s_law_least) (defBody s_law_least) (defScope s_law_least) [] [] (He.ga K "_law_least") fd := c.def_ 24 (d := d__law_least) rfl
theorem def_law (c : SaysZ fbL fnL csL K) : ∃ fd, FunD K "law" "law" (defArgs s_law) (defBody s_law) (defScope s_law) [] [] (He.ga K "law") fd := c.def_ 25 (d := d_law) rfl
theorem def_Ring___init__ (c : SaysZ fbL fnL csL K) : ∃ fd, FunD K "__init__" "Ring.__init__" (defArgs s_Ring___init__) (defBody s_Ring___init__) (defScope s_Ring___init__) [] [] (He.ma K (He.ga K "Ring") "__init__") fd := c.def_ 26 (d := d_Ring___init__) rfl
theorem def_Ring_hold (c : SaysZ fbL fnL csL K) : ∃ fd, FunD K "hold" "Ring.hold" (defArgs s_Ring_hold) (defBody s_Ring_hold) (defScope s_Ring_hold) [] [] (He.ma K (He.ga K "Ring") "hold") fd := c.def_ 27 (d := d_Ring_hold) rfl
theorem def_Ring_bring (c : SaysZ fbL fnL csL K) : ∃ fd, FunD K "bring" "Ring.bring" (defArgs s_Ring_bring) (defBody s_Ring_bring) (defScope s_Ring_bring) [] [] (He.ma K (He.ga K "Ring") "bring") fd := c.def_ 28 (d := d_Ring_bring) rfl
theorem def_Ring_turn (c : SaysZ fbL fnL csL K) : ∃ fd, FunD K "turn" "Ring.turn" (defArgs s_Ring_turn) (defBody s_Ring_turn) (defScope s_Ring_turn) [] [] (He.ma K (He.ga K "Ring") "turn") fd := c.def_ 29 (d := d_Ring_turn) rfl
theorem ini_BadPairs (c : SaysZ fbL fnL csL K) : fnSW K "BadPairs" = (i_BadPairs).val := c.ini (d := i_BadPairs) (List.mem_of_getElem? (i := 0) rfl)
end
/-! ## k59: mathematics A -/
namespace M59
abbrev Prs := List (Nat × Nat)
def isR (i : Nat) : Bool := decide (i < 9)
def mov (ps : Prs) : Prs := ps.filter fun m => decide (m.1 ≠ m.2)
def src (ps : Prs) (t : Nat) : Nat := (((mov ps).find? fun m => decide (m.1 = t)).map (·.2)).getD t
def tk (ps : Prs) (p : Nat) : List Nat := ((mov ps).filter fun m => decide (m.2 = p)).map (·.1)
structure Ok (ps : Prs) : Prop where
  one : (ps.map (·.1)).Nodup
  lt : ∀ m ∈ ps, m.1 < 18 ∧ m.2 < 18
theorem mov_mem {ps : Prs} {m : Nat × Nat} : m ∈ mov ps ↔ m ∈ ps ∧ m.1 ≠ m.2 := by
  unfold mov
  rw [List.mem_filter]
  simp
theorem tk_mem {ps : Prs} {t p : Nat} : t ∈ tk ps p ↔ (t, p) ∈ mov ps := by
  unfold tk
  rw [List.mem_map]
  constructor
  · rintro ⟨⟨a, b⟩, h, rfl⟩
    rw [List.mem_filter] at h
    have : b = p := by simpa using h.2
    rw [← this]
    exact h.1
  · intro h
    exact ⟨(t, p), List.mem_filter.mpr ⟨h, by simp⟩, rfl⟩
theorem find_nodup : ∀ {l : Prs}, (l.map (·.1)).Nodup → ∀ {t p : Nat}, (t, p) ∈ l → (l.find? fun m => decide (m.1 = t)) = some (t, p)
  | [], _, _, _, h => nomatch h
  | a :: l, nd, t, p, h => by
    rw [List.map_cons, List.nodup_cons] at nd
    rcases List.mem_cons.mp h with rfl | h
    · simp
    · have ne : a.1 ≠ t := fun e => nd.1 (e ▸ List.mem_map.mpr ⟨(t, p), h, rfl⟩)
      rw [List.find?_cons_of_neg (by simpa using ne)]
      exact find_nodup nd.2 h
theorem Ok.mov {ps : Prs} (h : Ok ps) : ((M59.mov ps).map (·.1)).Nodup := List.Nodup.sublist (List.Sublist.map _ (List.filter_sublist ..)) h.one
theorem src_of {ps : Prs} (h : Ok ps) {t p : Nat} (e : (t, p) ∈ mov ps) : src ps t = p := by
  unfold src
  rw [find_nodup h.mov e]
  rfl
theorem src_self {ps : Prs} {t : Nat} (e : ∀ p, (t, p) ∉ mov ps) : src ps t = t := by
  unfold src
  have : ((mov ps).find? fun m => decide (m.1 = t)) = none := by
    rw [List.find?_eq_none]
    rintro ⟨a, b⟩ hm
    simp only [decide_eq_true_eq]
    intro z
    have z : a = t := z
    subst z
    exact e b hm
  rw [this]
  rfl
/-- moved or not -/
theorem src_cases {ps : Prs} (h : Ok ps) (t : Nat) : ((t, src ps t) ∈ mov ps ∧ src ps t ≠ t) ∨ (src ps t = t ∧ ∀ p, (t, p) ∉ mov ps) := by
  by_cases c : ∃ p, (t, p) ∈ mov ps
  · obtain ⟨p, e⟩ := c
    rw [src_of h e]
    exact .inl ⟨e, fun z => (mov_mem.mp e).2 z.symm⟩
  · have e : ∀ p, (t, p) ∉ mov ps := fun p hp => c ⟨p, hp⟩
    exact .inr ⟨src_self e, e⟩
theorem tk_src {ps : Prs} (h : Ok ps) {t p : Nat} : t ∈ tk ps p ↔ src ps t = p ∧ t ≠ p := by
  rw [tk_mem]
  constructor
  · intro e
    exact ⟨src_of h e, (mov_mem.mp e).2⟩
  · rintro ⟨e, n⟩
    rcases src_cases h t with ⟨a, b⟩ | ⟨a, b⟩
    · rw [e] at a
      exact a
    · exact absurd (a.symm.trans e) n
theorem tk_nodup {ps : Prs} (h : Ok ps) (p : Nat) : (tk ps p).Nodup := List.Nodup.sublist (List.Sublist.map _ (List.filter_sublist ..)) h.mov
theorem mov_lt {ps : Prs} (h : Ok ps) {m : Nat × Nat} (e : m ∈ mov ps) : m.1 < 18 ∧ m.2 < 18 := h.lt m (mov_mem.mp e).1
theorem tk_lt {ps : Prs} (h : Ok ps) {t p : Nat} (e : t ∈ tk ps p) : t < 18 ∧ p < 18 := mov_lt h (tk_mem.mp e)
/-! rows executed -/
def ex (st : Nat → Nat) : Prs → Nat → Nat
  | [] => st
  | r :: rows => ex (fun x => if x = r.1 then st r.2 else st x) rows
theorem ex_app : ∀ (a b : Prs) (st : Nat → Nat), ex st (a ++ b) = ex (ex st a) b
  | [], _, _ => rfl
  | _ :: a, b, _ => ex_app a b _
theorem ex_map {s : Nat} : ∀ {l : List Nat} {st : Nat → Nat}, s ∉ l → ∀ x, ex st (l.map fun t => (t, s)) x = if x ∈ l then st s else st x
  | [], _, _, x => by simp [ex]
  | t :: l, st, h, x => by
    have h1 : s ≠ t := fun z => h (by rw [z]; exact List.mem_cons_self ..)
    have h2 : s ∉ l := fun z => h (List.mem_cons_of_mem _ z)
    show ex (fun x => if x = t then st s else st x) (l.map fun t => (t, s)) x = _
    rw [ex_map h2 x]
    by_cases c : x ∈ l
    · rw [if_pos c, if_pos (List.mem_cons_of_mem _ c), if_neg h1]
    · rw [if_neg c]
      by_cases d : x = t
      · rw [if_pos d, if_pos (by rw [d]; exact List.mem_cons_self ..)]
      · rw [if_neg d, if_neg (fun z => (List.mem_cons.mp z).elim d c)]
def fstR (ts : List Nat) : Option Nat := (ts.filter isR).head?
theorem fstR_mem {ts : List Nat} {k : Nat} (h : fstR ts = some k) : k ∈ ts ∧ isR k = true := by
  unfold fstR at h
  have := List.mem_of_mem_head? h
  exact List.mem_filter.mp this
theorem fstR_none {ts : List Nat} (h : fstR ts = none) : ∀ t ∈ ts, isR t = false := by
  unfold fstR at h
  rw [List.head?_eq_none_iff, List.filter_eq_nil_iff] at h
  intro t ht
  simpa using h t ht
/-- a place's worth to its takers -/
def taken (P : Nat) (ts : List Nat) (h : Nat) : Prs :=
  if isR P = true then ts.map fun t => (t, P)
  else ((fstR ts).getD h, P) :: (ts.filter fun t => decide (t ≠ (fstR ts).getD h)).map fun t => (t, (fstR ts).getD h)
theorem ex_taken {P h : Nat} {ts : List Nat} {st : Nat → Nat} (hP : P ∉ ts) (x : Nat) (hx : isR P = false ∧ fstR ts = none → x ≠ h) : ex st (taken P ts h) x = if x ∈ ts then st P else st x := by
  unfold taken
  by_cases c : isR P = true
  · rw [if_pos c]
    exact ex_map hP x
  rw [if_neg c]
  show ex (fun x => if x = (fstR ts).getD h then st P else st x) _ x = _
  generalize hf : (fstR ts).getD h = f
  rw [ex_map (by simp) x]
  by_cases d : x ∈ ts
  · rw [if_pos d]
    by_cases e : x = f
    · have : x ∉ ts.filter fun t => decide (t ≠ f) := fun z => by simp [List.mem_filter] at z; exact z.2 e
      rw [if_neg this, if_pos e]
    · have : x ∈ ts.filter fun t => decide (t ≠ f) := List.mem_filter.mpr ⟨d, by simpa using e⟩
      rw [if_pos this, if_pos rfl]
  · have : x ∉ ts.filter fun t => decide (t ≠ f) := fun z => d (List.mem_filter.mp z).1
    rw [if_neg this, if_neg d]
    have ne : x ≠ f := fun z => by
      cases hk : fstR ts with
      | none => rw [hk] at hf; exact hx ⟨by simpa using c, hk⟩ (z.trans hf.symm)
      | some k => rw [hk] at hf; exact d (by rw [z, ← hf]; exact (fstR_mem hk).1)
    rw [if_neg ne]
/-- all rows: not from slot to slot -/
def Val (rows : Prs) : Prop := ∀ r ∈ rows, (isR r.1 = true ∨ isR r.2 = true) ∧ r.1 < 18 ∧ r.2 < 18
theorem Val.app {a b : Prs} (h : Val a) (g : Val b) : Val (a ++ b) := fun r hr => (List.mem_append.mp hr).elim (h r) (g r)
theorem val_taken {P h : Nat} {ts : List Nat} (hP : P < 18) (ht : ∀ t ∈ ts, t < 18) (hh : isR h = true) : Val (taken P ts h) := by
  have h9 : h < 18 := by unfold isR at hh; have := of_decide_eq_true hh; omega
  unfold taken
  by_cases c : isR P = true
  · rw [if_pos c]
    intro r hr
    obtain ⟨t, h1, rfl⟩ := List.mem_map.mp hr
    exact ⟨.inr c, ht t h1, hP⟩
  rw [if_neg c]
  have hf : isR ((fstR ts).getD h) = true ∧ (fstR ts).getD h < 18 := by
    cases hk : fstR ts with
    | none => exact ⟨hh, h9⟩
    | some k => exact ⟨(fstR_mem hk).2, ht k (fstR_mem hk).1⟩
  intro r hr
  rcases List.mem_cons.mp hr with rfl | hr
  · exact ⟨.inl hf.1, hf.2, hP⟩
  · obtain ⟨t, h1, rfl⟩ := List.mem_map.mp hr
    exact ⟨.inr hf.1, ht t (List.mem_filter.mp h1).1, hf.2⟩
/-- all takers are slots -/
def byS (ps : Prs) (p : Nat) : Bool := !isR p && (!(tk ps p).isEmpty && (tk ps p).all fun t => !isR t)
theorem filter_ne_len : ∀ {l : List Nat} {a : Nat}, l.Nodup → a ∈ l → (l.filter fun t => decide (t ≠ a)).length + 1 = l.length
  | [], _, _, h => nomatch h
  | b :: l, a, nd, h => by
    rw [List.nodup_cons] at nd
    by_cases c : b = a
    · subst c
      rw [List.filter_cons_of_neg (by simp)]
      have : l.filter (fun t => decide (t ≠ b)) = l := List.filter_eq_self.mpr fun x hx => by simp; exact fun z => nd.1 (z ▸ hx)
      rw [this]
      rfl
    · rw [List.filter_cons_of_pos (by simpa using c)]
      have h : a ∈ l := (List.mem_cons.mp h).resolve_left fun z => c z.symm
      rw [List.length_cons, filter_ne_len nd.2 h, List.length_cons]
theorem len_taken {P h : Nat} {ts : List Nat} (nd : ts.Nodup) (hh : fstR ts = none → h ∉ ts) : (taken P ts h).length = ts.length + (if isR P = false ∧ fstR ts = none then 1 else 0) := by
  unfold taken
  by_cases c : isR P = true
  · rw [if_pos c, if_neg (by rw [c]; simp), List.length_map]
    rfl
  rw [if_neg c, List.length_cons, List.length_map]
  cases hk : fstR ts with
  | none =>
    rw [if_pos ⟨by simpa using c, rfl⟩]
    show (ts.filter fun t => decide (t ≠ h)).length + 1 = ts.length + 1
    have : ts.filter (fun t => decide (t ≠ h)) = ts := List.filter_eq_self.mpr fun x hx => by simp; exact fun z => hh hk (z ▸ hx)
    rw [this]
  | some k =>
    rw [if_neg (by simp)]
    exact filter_ne_len nd (fstR_mem hk).1
end M59
/-! ## k59: mathematics B -/
namespace M59
def outs (ps : Prs) (r : List Nat) (p : Nat) : List Nat := (tk ps p).filter fun t => decide (t ∉ r)
def isL (ps : Prs) (r : List Nat) (p : Nat) : Prop := isR p = false ∧ fstR (outs ps r p) = none
instance (ps : Prs) (r : List Nat) (p : Nat) : Decidable (isL ps r p) := by unfold isL; infer_instance
def late (ps : Prs) (r : List Nat) (p : Nat) : List Nat := if isL ps r p then outs ps r p else []
def keep (ps : Prs) (r : List Nat) (p : Nat) : Option Nat := fstR (outs ps r p)
def init (ps : Prs) (r : List Nat) (p : Nat) : Prs := if isL ps r p then [] else taken p (outs ps r p) 0
def hold (ps : Prs) (r : List Nat) (p h : Nat) : Prs := (h, p) :: (late ps r p).map fun t => (t, h)
def bring (ps : Prs) (r : List Nat) (h t s : Nat) : Prs := if isR s = false ∧ isR t = false then (match keep ps r s with | some k => [(t, k)] | none => hold ps r s h ++ [(t, h)]) else (t, s) :: (late ps r s).map fun x => (x, t)
def brings (ps : Prs) (r : List Nat) (h : Nat) : List Nat → Prs
  | t :: s :: q => bring ps r h t s ++ brings ps r h (s :: q)
  | _ => []
/-- a helper stands in no pair -/
def Free (ps : Prs) (h : Nat) : Prop := ∀ m ∈ ps, m.1 ≠ h ∧ m.2 ≠ h
theorem outs_mem {ps : Prs} {r : List Nat} {p t : Nat} : t ∈ outs ps r p ↔ t ∈ tk ps p ∧ t ∉ r := by
  unfold outs
  rw [List.mem_filter]
  simp
theorem late_mem {ps : Prs} {r : List Nat} {p t : Nat} (h : t ∈ late ps r p) : t ∈ outs ps r p ∧ isL ps r p := by
  unfold late at h
  by_cases c : isL ps r p
  · rw [if_pos c] at h
    exact ⟨h, c⟩
  · rw [if_neg c] at h
    exact nomatch h
theorem Free.out {ps : Prs} {r : List Nat} {h p t : Nat} (f : Free ps h) (e : t ∈ outs ps r p) : t ≠ h := (f _ (mov_mem.mp (tk_mem.mp (outs_mem.mp e).1)).1).1
theorem ex_hold {ps : Prs} {r : List Nat} {p h : Nat} {st : Nat → Nat} (f : Free ps h) (x : Nat) : ex st (hold ps r p h) x = if x = h ∨ x ∈ late ps r p then st p else st x := by
  show ex (fun x => if x = h then st p else st x) ((late ps r p).map fun t => (t, h)) x = _
  rw [ex_map (fun z => f.out (late_mem z).1 rfl) x]
  by_cases c : x ∈ late ps r p
  · rw [if_pos c, if_pos rfl, if_pos (show x = h ∨ x ∈ late ps r p from .inr c)]
  · rw [if_neg c]
    by_cases d : x = h
    · rw [if_pos d, if_pos (.inl d)]
    · rw [if_neg d, if_neg (by rintro (z | z); exact d z; exact c z)]
theorem bring_ok {ps : Prs} {r : List Nat} {h t s : Nat} {st : Nat → Nat} (f : Free ps h) (ht : t ∈ r) (hs : s ∈ r) (hr : h ∉ r) (ne : t ≠ s) (e : st s = s) (hk : ∀ k, keep ps r s = some k → st k = s) (x : Nat) (hx : x ≠ h) :
    ex st (bring ps r h t s) x = if x = t ∨ x ∈ late ps r s then s else st x := by
  have tl : t ∉ late ps r s := fun z => (outs_mem.mp (late_mem z).1).2 ht
  unfold bring
  by_cases c : isR s = false ∧ isR t = false
  · rw [if_pos c]
    cases hkk : keep ps r s with
    | some k =>
      have nl : late ps r s = [] := by
        unfold late
        rw [if_neg]
        intro z
        have := z.2
        unfold keep at hkk
        rw [this] at hkk
        cases hkk
      show (if x = t then st k else st x) = _
      rw [nl, hk k hkk]
      by_cases d : x = t
      · rw [if_pos d, if_pos (.inl d)]
      · rw [if_neg d, if_neg (by rintro (z | z); exact d z; exact nomatch z)]
    | none =>
      show ex st (hold ps r s h ++ [(t, h)]) x = _
      rw [ex_app]
      show (if x = t then ex st (hold ps r s h) h else ex st (hold ps r s h) x) = _
      have e1 : ex st (hold ps r s h) h = s := by rw [ex_hold f h, if_pos (show h = h ∨ h ∈ late ps r s from .inl rfl), e]
      rw [e1, ex_hold f x, e]
      by_cases d : x = t
      · rw [if_pos d, if_pos (.inl d)]
      · rw [if_neg d]
        by_cases g : x ∈ late ps r s
        · rw [if_pos (.inr g), if_pos (.inr g)]
        · rw [if_neg (by rintro (z | z); exact hx z; exact g z), if_neg (by rintro (z | z); exact d z; exact g z)]
  · rw [if_neg c]
    show ex (fun x => if x = t then st s else st x) ((late ps r s).map fun x => (x, t)) x = _
    rw [ex_map tl x, e]
    by_cases g : x ∈ late ps r s
    · rw [if_pos g, if_pos rfl, if_pos (.inr g)]
    · rw [if_neg g]
      by_cases d : x = t
      · rw [if_pos d, if_pos (.inl d)]
      · rw [if_neg d, if_neg (by rintro (z | z); exact d z; exact g z)]
/-- each takes from the next -/
def Chn (f : Nat → Nat) : List Nat → Prop
  | t :: s :: q => f t = s ∧ Chn f (s :: q)
  | _ => True
theorem brings_ok {ps : Prs} (ok : Ok ps) {r : List Nat} {h : Nat} (f : Free ps h) (hr : h ∉ r) : ∀ (q : List Nat) (st : Nat → Nat), (∀ p ∈ q, p ∈ r) → q.Nodup → Chn (src ps) q → (∀ p ∈ q, st p = p) → (∀ p ∈ q.tail, ∀ k, keep ps r p = some k → st k = p) →
    ∀ x, x ≠ h → ex st (brings ps r h q) x = if x ∈ q.dropLast then src ps x else if ∃ p ∈ q.tail, x ∈ late ps r p then src ps x else st x
  | [], st, _, _, _, _, _, x, _ => by simp [brings, ex]
  | [t], st, _, _, _, _, _, x, _ => by simp [brings, ex]
  | t :: s :: q, st, hq, nd, ch, he, hk, x, hx => by
    rw [List.nodup_cons] at nd
    have ht := hq t (List.mem_cons_self ..)
    have hs := hq s (List.mem_cons_of_mem _ (List.mem_cons_self ..))
    have ne : t ≠ s := fun z => nd.1 (by rw [z]; exact List.mem_cons_self ..)
    have es := he s (List.mem_cons_of_mem _ (List.mem_cons_self ..))
    have B := fun x hx => bring_ok f ht hs hr ne es (hk s (List.mem_cons_self ..)) x hx
    show ex st (bring ps r h t s ++ brings ps r h (s :: q)) x = _
    rw [ex_app]
    have noL : ∀ p ∈ r, p ∉ late ps r s := fun p hp z => (outs_mem.mp (late_mem z).1).2 hp
    have lateS : ∀ y, y ∈ late ps r s → src ps y = s := fun y hy => ((tk_src ok).mp (outs_mem.mp (late_mem hy).1).1).1
    have nh : ∀ p ∈ r, p ≠ h := fun p hp z => hr (z ▸ hp)
    rw [brings_ok ok f hr (s :: q) _ (fun p hp => hq p (List.mem_cons_of_mem _ hp)) nd.2 ch.2 (fun p hp => ?_) (fun p hp k hkk => ?_) x hx]
    rotate_left
    · have hpr := hq p (List.mem_cons_of_mem _ hp)
      rw [B p (nh p hpr), if_neg]
      · exact he p (List.mem_cons_of_mem _ hp)
      · rintro (z | z)
        · exact nd.1 (z ▸ hp)
        · exact noL p hpr z
    · have hk1 : k ∈ outs ps r p := (fstR_mem hkk).1
      have kr := (outs_mem.mp hk1).2
      have ksrc := ((tk_src ok).mp (outs_mem.mp hk1).1).1
      have ps2 : p ≠ s := fun z => by
        have h2 := nd.2
        rw [List.nodup_cons] at h2
        exact h2.1 (z ▸ hp)
      rw [B k (f.out hk1), if_neg]
      · exact hk p (List.mem_cons_of_mem _ hp) k hkk
      · rintro (z | z)
        · exact kr (z ▸ ht)
        · exact ps2 (ksrc.symm.trans (lateS k z))
    rw [B x hx]
    have dl : (t :: s :: q).dropLast = t :: (s :: q).dropLast := rfl
    rw [dl]
    by_cases c1 : x ∈ (s :: q).dropLast
    · rw [if_pos c1, if_pos (List.mem_cons_of_mem _ c1)]
    rw [if_neg c1]
    by_cases c2 : x = t
    · subst c2
      rw [if_pos (show x ∈ x :: (s :: q).dropLast from List.mem_cons_self ..), if_pos (show x = x ∨ x ∈ late ps r s from .inl rfl)]
      split
      · rfl
      · exact ch.1.symm
    · rw [if_neg (fun z => (List.mem_cons.mp z).elim c2 c1)]
      by_cases c3 : ∃ p ∈ (s :: q).tail, x ∈ late ps r p
      · have c4 : ∃ p ∈ (t :: s :: q).tail, x ∈ late ps r p := by
          obtain ⟨p, a, b⟩ := c3
          exact ⟨p, List.mem_cons_of_mem _ a, b⟩
        rw [if_pos c3, if_pos c4]
      · rw [if_neg c3]
        by_cases c5 : x ∈ late ps r s
        · have c4 : ∃ p ∈ (t :: s :: q).tail, x ∈ late ps r p := ⟨s, List.mem_cons_self .., c5⟩
          rw [if_pos c4, if_pos (.inr c5), lateS x c5]
        · have c4 : ¬ ∃ p ∈ (t :: s :: q).tail, x ∈ late ps r p := by
            rintro ⟨p, a, b⟩
            rcases List.mem_cons.mp a with rfl | a
            · exact c5 b
            · exact c3 ⟨p, a, b⟩
          rw [if_neg c4, if_neg (by rintro (z | z); exact c2 z; exact c5 z)]
/-- brings leave alone what stands in no pair -/
theorem brings_other {ps : Prs} {r : List Nat} {h g : Nat} (f : Free ps h) (fg : Free ps g) (hg : g ≠ h) (gr : g ∉ r) : ∀ (q : List Nat) (st : Nat → Nat), (∀ p ∈ q, p ∈ r) → ex st (brings ps r h q) g = st g := by
  have one : ∀ (rows : Prs) (st : Nat → Nat), (∀ m ∈ rows, m.1 ≠ g) → ex st rows g = st g := by
    intro rows
    induction rows with
    | nil => intro st _; rfl
    | cons m rows ih =>
      intro st hm
      show ex _ rows g = _
      rw [ih _ fun m hm2 => hm m (List.mem_cons_of_mem _ hm2), if_neg (fun z => hm m (List.mem_cons_self ..) z.symm)]
  intro q st hq
  refine one _ st ?_
  induction q with
  | nil => exact fun m h => nomatch h
  | cons t q ih =>
    cases q with
    | nil => exact fun m h => nomatch h
    | cons s q =>
      intro m hm
      have ht : t ≠ g := fun z => gr (z ▸ hq t (List.mem_cons_self ..))
      rcases List.mem_append.mp hm with hm | hm
      · unfold bring at hm
        split at hm
        · split at hm
          · rw [List.mem_singleton.mp hm]; exact ht
          · rcases List.mem_append.mp hm with hm | hm
            · unfold hold at hm
              rcases List.mem_cons.mp hm with rfl | hm
              · exact fun z => hg z.symm
              · obtain ⟨y, hy, rfl⟩ := List.mem_map.mp hm
                exact fg.out (late_mem hy).1
            · rw [List.mem_singleton.mp hm]; exact ht
        · rcases List.mem_cons.mp hm with rfl | hm
          · exact ht
          · obtain ⟨y, hy, rfl⟩ := List.mem_map.mp hm
            exact fg.out (late_mem hy).1
      · exact ih (fun p hp => hq p (List.mem_cons_of_mem _ hp)) m hm
end M59
/-! ## k59: mathematics C -/
namespace M59
def RCh (f : Nat → Nat) : List Nat → Prop
  | a :: b :: l => f b = a ∧ RCh f (b :: l)
  | _ => True
theorem chn_app {f : Nat → Nat} : ∀ {X Y : List Nat}, Chn f X → Chn f Y → (∀ x y, X.getLast? = some x → Y.head? = some y → f x = y) → Chn f (X ++ Y)
  | [], Y, _, h, _ => h
  | [a], [], _, _, _ => trivial
  | [a], b :: Y, _, h, k => ⟨k a b rfl rfl, h⟩
  | a :: b :: X, Y, h, g, k => ⟨h.1, chn_app (X := b :: X) h.2 g fun x y e1 e2 => k x y (by rw [List.getLast?_cons_cons]; exact e1) e2⟩
theorem rch_app {f : Nat → Nat} : ∀ {X Y : List Nat}, RCh f (X ++ Y) → RCh f X ∧ RCh f Y ∧ ∀ x y, X.getLast? = some x → Y.head? = some y → f y = x
  | [], Y, h => ⟨trivial, h, fun x y e => by cases e⟩
  | [a], [], h => ⟨trivial, trivial, fun x y _ e => by cases e⟩
  | [a], b :: Y, h => ⟨trivial, h.2, fun x y e1 e2 => by
      cases e1; cases e2; exact h.1⟩
  | a :: b :: X, Y, h => by
    obtain ⟨p, q, k⟩ := rch_app (X := b :: X) h.2
    exact ⟨⟨h.1, p⟩, q, fun x y e1 e2 => k x y (by rw [List.getLast?_cons_cons] at e1; exact e1) e2⟩
theorem chn_rev {f : Nat → Nat} : ∀ {l : List Nat}, RCh f l → Chn f l.reverse
  | [], _ => trivial
  | [a], _ => trivial
  | a :: b :: l, h => by
    rw [List.reverse_cons]
    refine chn_app (chn_rev h.2) trivial fun x y e1 e2 => ?_
    cases e2
    rw [List.getLast?_reverse] at e1
    cases e1
    exact h.1
/-- a ring: each one's source is the one ahead of it -/
structure RingP (ps : Prs) (r : List Nat) : Prop where
  nd : r.Nodup
  ch : RCh (src ps) r
  cl : ∀ a b, r.head? = some a → r.getLast? = some b → src ps a = b
  ne : r ≠ []
  mv : ∀ p ∈ r, src ps p ∈ r ∧ src ps p ≠ p
theorem head_getD {r : List Nat} (h : r ≠ []) : r.head? = some (r.getD 0 0) := by
  cases r with
  | nil => exact absurd rfl h
  | cons b l => rfl
def fol (r : List Nat) (i : Nat) : Nat := r.getD ((i + 1) % r.length) 0
def turned (r : List Nat) (a : Nat) : List Nat := (r.take (a + 1)).reverse ++ (r.drop (a + 1)).reverse
theorem turned_perm (r : List Nat) (a : Nat) : (turned r a).Perm r := by
  unfold turned
  refine ((List.reverse_perm _).append (List.reverse_perm _)).trans ?_
  rw [List.take_append_drop]
theorem RingP.turned {ps : Prs} {r : List Nat} (R : RingP ps r) {a : Nat} (ha : a < r.length) : Chn (src ps) (turned r a) ∧ (M59.turned r a).head? = some r[a] ∧ (M59.turned r a).getLast? = some (fol r a) ∧ src ps (fol r a) = r[a] := by
  have hX : (r.take (a + 1)).getLast? = some r[a] := by
    rw [List.getLast?_eq_getElem?, List.length_take, Nat.min_eq_left (by omega), Nat.add_sub_cancel, List.getElem?_take, if_pos (by omega), List.getElem?_eq_getElem ha]
  have e : r.take (a + 1) ++ r.drop (a + 1) = r := List.take_append_drop ..
  obtain ⟨c1, c2, c3⟩ := rch_app (X := r.take (a + 1)) (Y := r.drop (a + 1)) (by rw [e]; exact R.ch)
  have hd : (r.take (a + 1)).head? = r.head? := by
    cases r with
    | nil => simp at ha
    | cons b r => rfl
  unfold M59.turned
  refine ⟨chn_app (chn_rev c1) (chn_rev c2) fun x y e1 e2 => ?_, ?_, ?_, ?_⟩
  · rw [List.getLast?_reverse, hd] at e1
    rw [List.head?_reverse] at e2
    refine R.cl x y e1 ?_
    rw [← e, List.getLast?_append, e2]
    rfl
  · rw [List.head?_append, List.head?_reverse, hX]
    rfl
  · rw [List.getLast?_append, List.getLast?_reverse, List.getLast?_reverse, hd]
    unfold fol
    by_cases c : a + 1 < r.length
    · rw [Nat.mod_eq_of_lt c, List.head?_drop, List.getElem?_eq_getElem c, List.getD_eq_getElem?_getD, List.getElem?_eq_getElem c]
      rfl
    · have e2 : a + 1 = r.length := by omega
      rw [e2, Nat.mod_self, List.drop_length]
      cases r with
      | nil => simp at ha
      | cons b r => rfl
  · unfold fol
    by_cases c : a + 1 < r.length
    · rw [Nat.mod_eq_of_lt c, List.getD_eq_getElem?_getD, List.getElem?_eq_getElem c]
      exact c3 r[a] r[a + 1] hX (by rw [List.head?_drop, List.getElem?_eq_getElem c])
    · have e2 : a + 1 = r.length := by omega
      rw [e2, Nat.mod_self]
      refine R.cl _ _ (head_getD R.ne) ?_
      rw [List.getLast?_eq_getElem?, show r.length - 1 = a by omega, List.getElem?_eq_getElem ha]
/-- the one that takes from it within the ring -/
theorem RingP.fol_iff {ps : Prs} {r : List Nat} (R : RingP ps r) {a t : Nat} (ha : a < r.length) (ht : src ps t = r[a]) : t ∈ r ↔ t = fol r a := by
  obtain ⟨_, _, h3, h4⟩ := R.turned ha
  constructor
  · intro h
    obtain ⟨j, hj, rfl⟩ := List.getElem_of_mem h
    have inj := List.getElem_inj (h₀ := ha) (h₁ := hj) R.nd
    -- the source of r[j]
    cases j with
    | zero =>
      have hl : r.getLast? = some r[r.length - 1] := by rw [List.getLast?_eq_getElem?, List.getElem?_eq_getElem (by omega)]
      have h0 : r.head? = some r[0] := by rw [List.head?_eq_getElem?, List.getElem?_eq_getElem hj]
      have e := (R.cl _ _ h0 hl).symm.trans ht
      have : r.length - 1 = a := (List.getElem_inj R.nd).mp e
      unfold fol
      rw [show a + 1 = r.length by omega, Nat.mod_self, List.getD_eq_getElem?_getD, List.getElem?_eq_getElem hj]
      rfl
    | succ j =>
      have e1 : r.take (j + 1) ++ r.drop (j + 1) = r := List.take_append_drop ..
      obtain ⟨_, _, c3⟩ := rch_app (X := r.take (j + 1)) (Y := r.drop (j + 1)) (by rw [e1]; exact R.ch)
      have hX : (r.take (j + 1)).getLast? = some r[j] := by
        rw [List.getLast?_eq_getElem?, List.length_take, Nat.min_eq_left (by omega), Nat.add_sub_cancel, List.getElem?_take, if_pos (by omega), List.getElem?_eq_getElem (by omega)]
      have e := (c3 r[j] r[j + 1] hX (by rw [List.head?_drop, List.getElem?_eq_getElem hj])).symm.trans ht
      have : j = a := (List.getElem_inj R.nd).mp e
      subst this
      unfold fol
      rw [Nat.mod_eq_of_lt hj, List.getD_eq_getElem?_getD, List.getElem?_eq_getElem hj]
      rfl
  · intro h
    rw [h]
    exact (turned_perm r a).mem_iff.mp (List.mem_of_getLast? h3)
theorem RingP.outs_fol {ps : Prs} (ok : Ok ps) {r : List Nat} (R : RingP ps r) {a : Nat} (ha : a < r.length) : (tk ps r[a]).filter (fun t => decide (t ≠ fol r a)) = outs ps r r[a] := by
  unfold outs
  refine List.filter_congr fun t ht => ?_
  have := R.fol_iff ha ((tk_src ok).mp ht).1
  exact decide_eq_decide.mpr (not_congr this).symm
theorem RingP.free {ps : Prs} (ok : Ok ps) {r : List Nat} (R : RingP ps r) {h : Nat} (f : Free ps h) : h ∉ r := fun z => by
  rcases src_cases ok h with ⟨a, _⟩ | ⟨a, _⟩
  · exact (f _ (mov_mem.mp a).1).1 rfl
  · exact (R.mv h z).2 a
theorem init_ok {ps : Prs} (ok : Ok ps) {r : List Nat} : ∀ (l : List Nat) (st : Nat → Nat), (∀ p ∈ l, p ∈ r) → l.Nodup → (∀ p ∈ r, st p = p) → ∀ x, ex st (l.flatMap (init ps r)) x = if ∃ p ∈ l, x ∈ outs ps r p ∧ ¬ isL ps r p then src ps x else st x
  | [], st, _, _, _, x => by simp [ex]
  | p :: l, st, hl, nd, he, x => by
    rw [List.nodup_cons] at nd
    have pr := hl p (List.mem_cons_self ..)
    have pn : p ∉ outs ps r p := fun z => (outs_mem.mp z).2 pr
    have one : ∀ x, ex st (init ps r p) x = if x ∈ outs ps r p ∧ ¬ isL ps r p then src ps x else st x := fun x => by
      unfold init
      by_cases c : isL ps r p
      · rw [if_pos c, if_neg (fun z => z.2 c)]
        rfl
      · rw [if_neg c, ex_taken pn x (fun z => absurd z c)]
        by_cases d : x ∈ outs ps r p
        · rw [if_pos d, if_pos ⟨d, c⟩, he p pr]
          exact (((tk_src ok).mp (outs_mem.mp d).1).1).symm
        · rw [if_neg d, if_neg (fun z => d z.1)]
    rw [List.flatMap_cons, ex_app, init_ok ok l _ (fun q hq => hl q (List.mem_cons_of_mem _ hq)) nd.2 (fun q hq => ?_) x, one x]
    · by_cases c : ∃ q ∈ l, x ∈ outs ps r q ∧ ¬ isL ps r q
      · have c2 : ∃ q ∈ p :: l, x ∈ outs ps r q ∧ ¬ isL ps r q := by
          obtain ⟨q, a, b⟩ := c
          exact ⟨q, List.mem_cons_of_mem _ a, b⟩
        rw [if_pos c, if_pos c2]
      · rw [if_neg c]
        by_cases d : x ∈ outs ps r p ∧ ¬ isL ps r p
        · have c2 : ∃ q ∈ p :: l, x ∈ outs ps r q ∧ ¬ isL ps r q := ⟨p, List.mem_cons_self .., d⟩
          rw [if_pos d, if_pos c2]
        · have c2 : ¬ ∃ q ∈ p :: l, x ∈ outs ps r q ∧ ¬ isL ps r q := by
            rintro ⟨q, a, b⟩
            rcases List.mem_cons.mp a with rfl | a
            · exact d b
            · exact c ⟨q, a, b⟩
          rw [if_neg d, if_neg c2]
    · rw [one q, if_neg (fun z => (outs_mem.mp z.1).2 hq)]
      exact he q hq
/-- what holds the first one's worth until the end -/
def HoldOk (ps : Prs) (r : List Nat) (q0 l : Nat) : Option Nat → Prop
  | none => True
  | some k => k ∈ outs ps r q0 ∧ ¬ isL ps r q0 ∧ (isR k = true ∨ isR l = true)
def preH (ps : Prs) (r : List Nat) (q0 h0 : Nat) : Option Nat → Prs
  | none => hold ps r q0 h0
  | some _ => []
def turn (ps : Prs) (r : List Nat) (q : List Nat) (ho : Option Nat) (h0 h1 : Nat) : Prs := preH ps r (q.headD 0) h0 ho ++ brings ps r h1 q ++ [((q.getLast?).getD 0, ho.getD h0)]
theorem ring_ok {ps : Prs} (ok : Ok ps) {h0 h1 : Nat} (f0 : Free ps h0) (f1 : Free ps h1) (h01 : h0 ≠ h1) {r : List Nat} (R : RingP ps r) {a : Nat} (ha : a < r.length) {ho : Option Nat} (HO : HoldOk ps r r[a] (fol r a) ho) {st : Nat → Nat} (hst : ∀ p ∈ r, st p = p) (x : Nat) (x0 : x ≠ h0) (x1 : x ≠ h1) :
    ex st (r.flatMap (init ps r) ++ turn ps r (turned r a) ho h0 h1) x = if src ps x ∈ r ∧ src ps x ≠ x then src ps x else st x := by
  obtain ⟨t1, t2, t3, t4⟩ := R.turned ha
  have pm := turned_perm r a
  have h0r := R.free ok f0
  have h1r := R.free ok f1
  have I := init_ok ok r st (fun _ h => h) R.nd hst
  generalize hs1 : ex st (r.flatMap (init ps r)) = s1 at I
  have s1r : ∀ p ∈ r, s1 p = p := fun p hp => by
    rw [I p, if_neg]
    · exact hst p hp
    · rintro ⟨q, _, b, _⟩
      exact (outs_mem.mp b).2 hp
  have s1k : ∀ p ∈ r, ∀ k, keep ps r p = some k → s1 k = p := fun p hp k hk => by
    have hk1 := (fstR_mem hk).1
    have nl : ¬ isL ps r p := fun z => by
      have := z.2
      unfold keep at hk
      rw [this] at hk
      cases hk
    rw [I k, if_pos ⟨p, hp, hk1, nl⟩]
    exact ((tk_src ok).mp (outs_mem.mp hk1).1).1
  rw [ex_app, hs1]
  unfold turn
  rw [ex_app, ex_app]
  obtain ⟨q0, q, hq⟩ : ∃ q0 q, turned r a = q0 :: q := by
    cases e : turned r a with
    | nil => rw [e] at t2; cases t2
    | cons b l => exact ⟨b, l, rfl⟩
  have eq0 : q0 = r[a] := by rw [hq] at t2; exact Option.some.inj t2
  have inr : ∀ p, p ∈ turned r a ↔ p ∈ r := fun p => pm.mem_iff
  have q0r : q0 ∈ r := by rw [eq0]; exact List.getElem_mem ha
  -- behind the hold
  have H2 : ∀ y, y ≠ h0 → ex s1 (preH ps r ((turned r a).headD 0) h0 ho) y = if ho = none ∧ y ∈ late ps r q0 then q0 else s1 y := fun y hy => by
    cases ho with
    | none =>
      show ex s1 (hold ps r ((turned r a).headD 0) h0) y = _
      rw [hq]
      show ex s1 (hold ps r q0 h0) y = _
      rw [ex_hold f0, s1r q0 q0r]
      by_cases c : y ∈ late ps r q0
      · rw [if_pos (show y = h0 ∨ y ∈ late ps r q0 from .inr c), if_pos ⟨rfl, c⟩]
      · rw [if_neg (show ¬ (y = h0 ∨ y ∈ late ps r q0) by rintro (z | z); exact hy z; exact c z), if_neg (fun z => c z.2)]
    | some k =>
      rw [if_neg (fun z => by cases z.1)]
      rfl
  have H2h : ex s1 (preH ps r ((turned r a).headD 0) h0 ho) (ho.getD h0) = q0 := by
    cases ho with
    | none =>
      show ex s1 (hold ps r ((turned r a).headD 0) h0) h0 = _
      rw [hq]
      show ex s1 (hold ps r q0 h0) h0 = _
      rw [ex_hold f0, if_pos (show h0 = h0 ∨ h0 ∈ late ps r q0 from .inl rfl), s1r q0 q0r]
    | some k =>
      show s1 k = q0
      rw [I k, if_pos ⟨r[a], List.getElem_mem ha, HO.1, HO.2.1⟩, eq0]
      exact ((tk_src ok).mp (outs_mem.mp HO.1).1).1
  generalize ex s1 (preH ps r ((turned r a).headD 0) h0 ho) = s2 at H2 H2h
  have lateR : ∀ p, ∀ y ∈ r, y ∉ late ps r p := fun p y hy z => (outs_mem.mp (late_mem z).1).2 hy
  have s2r : ∀ p ∈ r, s2 p = p := fun p hp => by
    rw [H2 p (fun z => h0r (z ▸ hp)), if_neg (fun z => lateR _ p hp z.2)]
    exact s1r p hp
  have s2k : ∀ p ∈ (turned r a).tail, ∀ k, keep ps r p = some k → s2 k = p := fun p hp k hk => by
    have hpr : p ∈ r := (inr p).mp (List.mem_of_mem_tail hp)
    have hk1 := (fstR_mem hk).1
    rw [H2 k (f0.out hk1), if_neg]
    · exact s1k p hpr k hk
    · rintro ⟨_, z⟩
      have e1 := ((tk_src ok).mp (outs_mem.mp (late_mem z).1).1).1
      have e2 := ((tk_src ok).mp (outs_mem.mp hk1).1).1
      have nd := pm.nodup_iff.mpr R.nd
      rw [hq, List.nodup_cons] at nd
      rw [hq] at hp
      exact nd.1 (by rw [← e1, e2]; exact hp)
  have B := brings_ok ok f1 h1r (turned r a) s2 (fun p hp => (inr p).mp hp) (pm.nodup_iff.mpr R.nd) t1 (fun p hp => s2r p ((inr p).mp hp)) s2k
  have hol : ho.getD h0 ∉ r ∧ ho.getD h0 ≠ h1 ∧ ex s2 (brings ps r h1 (turned r a)) (ho.getD h0) = q0 := by
    cases ho with
    | none => exact ⟨h0r, h01, by rw [← H2h]; exact brings_other f1 f0 h01 h0r _ _ (fun p hp => (inr p).mp hp)⟩
    | some k =>
      refine ⟨(outs_mem.mp HO.1).2, f1.out HO.1, ?_⟩
      have e2 := ((tk_src ok).mp (outs_mem.mp HO.1).1).1
      show ex s2 (brings ps r h1 (turned r a)) k = q0
      rw [B k (f1.out HO.1), if_neg (fun z => (outs_mem.mp HO.1).2 ((inr k).mp ((List.dropLast_sublist _).subset z))), if_neg]
      · exact H2h
      · rintro ⟨p, hp, z⟩
        have e1 := ((tk_src ok).mp (outs_mem.mp (late_mem z).1).1).1
        have nd := pm.nodup_iff.mpr R.nd
        rw [hq, List.nodup_cons] at nd
        rw [hq] at hp
        exact nd.1 (by rw [eq0, ← e2, e1]; exact hp)
  show (if x = ((turned r a).getLast?).getD 0 then ex s2 (brings ps r h1 (turned r a)) (ho.getD h0) else ex s2 (brings ps r h1 (turned r a)) x) = _
  rw [t3, hol.2.2]
  show (if x = fol r a then q0 else _) = _
  have fr : fol r a ∈ r := (inr _).mp (List.mem_of_getLast? t3)
  by_cases c1 : x = fol r a
  · have e3 : src ps x = q0 := by rw [c1, t4, eq0]
    rw [if_pos c1, if_pos ⟨by rw [e3]; exact q0r, (R.mv x (c1 ▸ fr)).2⟩, e3]
  rw [if_neg c1, B x x1]
  have dl : ∀ y, y ∈ r → y ≠ fol r a → y ∈ (turned r a).dropLast := fun y hy hn => by
    have e : turned r a = (turned r a).dropLast ++ [fol r a] := by
      have ne : turned r a ≠ [] := by rw [hq]; simp
      have g : (turned r a).getLast ne = fol r a := by
        rw [List.getLast?_eq_some_getLast ne] at t3
        exact Option.some.inj t3
      rw [← g, List.dropLast_concat_getLast ne]
    have := (inr y).mpr hy
    rw [e] at this
    exact (List.mem_append.mp this).resolve_right fun z => hn (List.mem_singleton.mp z)
  by_cases c2 : x ∈ r
  · rw [if_pos (dl x c2 c1), if_pos (R.mv x c2)]
  rw [if_neg (fun z => c2 ((inr x).mp ((List.dropLast_sublist _).subset z)))]
  have xo : (src ps x ∈ r ∧ src ps x ≠ x) ↔ ∃ p ∈ r, x ∈ outs ps r p := by
    constructor
    · rintro ⟨h, n⟩
      exact ⟨_, h, outs_mem.mpr ⟨(tk_src ok).mpr ⟨rfl, fun z => n z.symm⟩, c2⟩⟩
    · rintro ⟨p, hp, ho2⟩
      obtain ⟨e1, e2⟩ := (tk_src ok).mp (outs_mem.mp ho2).1
      rw [e1]
      exact ⟨hp, fun z => e2 z.symm⟩
  by_cases c3 : ∃ p ∈ (turned r a).tail, x ∈ late ps r p
  · have : ∃ p ∈ r, x ∈ outs ps r p := by
      obtain ⟨p, hp, z⟩ := c3
      exact ⟨p, (inr p).mp (List.mem_of_mem_tail hp), (late_mem z).1⟩
    rw [if_pos c3, if_pos (xo.mpr this)]
  rw [if_neg c3, H2 x x0]
  by_cases c4 : ho = none ∧ x ∈ late ps r q0
  · rw [if_pos c4, if_pos (xo.mpr ⟨q0, q0r, (late_mem c4.2).1⟩)]
    exact (((tk_src ok).mp (outs_mem.mp (late_mem c4.2).1).1).1).symm
  rw [if_neg c4, I x]
  by_cases c5 : ∃ p ∈ r, x ∈ outs ps r p ∧ ¬ isL ps r p
  · have : ∃ p ∈ r, x ∈ outs ps r p := by
      obtain ⟨p, hp, z, _⟩ := c5
      exact ⟨p, hp, z⟩
    rw [if_pos c5, if_pos (xo.mpr this)]
  rw [if_neg c5]
  have no : ¬ ∃ p ∈ r, x ∈ outs ps r p := by
    rintro ⟨p, hp, z⟩
    have hl : isL ps r p := Classical.byContradiction fun n => c5 ⟨p, hp, z, n⟩
    have hx : x ∈ late ps r p := by unfold late; rw [if_pos hl]; exact z
    have : p ∈ turned r a := (inr p).mpr hp
    rw [hq] at this
    rcases List.mem_cons.mp this with e | h
    · subst e
      cases ho with
      | none => exact c4 ⟨rfl, hx⟩
      | some k => exact HO.2.1 (eq0 ▸ hl)
    · exact c3 ⟨p, by rw [hq]; exact h, hx⟩
  rw [if_neg (fun z => no (xo.mp z))]
end M59
/-! ## k59: mathematics D -/
namespace M59
/-! ### rows are allowed ones -/
theorem mov_src {ps : Prs} (ok : Ok ps) {p : Nat} (h : src ps p ≠ p) : p < 18 ∧ src ps p < 18 := by
  rcases src_cases ok p with ⟨a, _⟩ | ⟨a, _⟩
  · exact mov_lt ok a
  · exact absurd a h
theorem outs_lt {ps : Prs} (ok : Ok ps) {r : List Nat} {p t : Nat} (h : t ∈ outs ps r p) : t < 18 := (tk_lt ok (outs_mem.mp h).1).1
theorem isR_lt {h : Nat} (e : isR h = true) : h < 18 := by
  unfold isR at e
  have := of_decide_eq_true e
  omega
theorem val_hold {ps : Prs} (ok : Ok ps) {r : List Nat} {p h : Nat} (hp : p < 18) (hh : isR h = true) : Val (hold ps r p h) := fun m hm => by
  unfold hold at hm
  rcases List.mem_cons.mp hm with rfl | hm
  · exact ⟨.inl hh, isR_lt hh, hp⟩
  · obtain ⟨t, ht, rfl⟩ := List.mem_map.mp hm
    exact ⟨.inr hh, outs_lt ok (late_mem ht).1, isR_lt hh⟩
theorem val_bring {ps : Prs} (ok : Ok ps) {r : List Nat} {h t s : Nat} (ht : t < 18) (hs : s < 18) (hh : isR h = true) : Val (bring ps r h t s) := by
  unfold bring
  by_cases c : isR s = false ∧ isR t = false
  · rw [if_pos c]
    cases hk : keep ps r s with
    | some k =>
      have hk1 := fstR_mem hk
      intro m hm
      rw [List.mem_singleton.mp hm]
      exact ⟨.inr hk1.2, ht, outs_lt ok hk1.1⟩
    | none =>
      refine (val_hold ok hs hh).app fun m hm => ?_
      rw [List.mem_singleton.mp hm]
      exact ⟨.inr hh, ht, isR_lt hh⟩
  · rw [if_neg c]
    intro m hm
    rcases List.mem_cons.mp hm with rfl | hm
    · refine ⟨?_, ht, hs⟩
      cases h1 : isR t with
      | true => exact .inl rfl
      | false =>
        refine .inr ?_
        cases h2 : isR s with
        | true => rfl
        | false => exact absurd ⟨h2, h1⟩ c
    · obtain ⟨y, hy, rfl⟩ := List.mem_map.mp hm
      have hl := (late_mem hy).2.1
      have rt : isR t = true := by
        cases h1 : isR t with
        | true => rfl
        | false => exact absurd ⟨hl, h1⟩ c
      exact ⟨.inr rt, outs_lt ok (late_mem hy).1, ht⟩
theorem val_brings {ps : Prs} (ok : Ok ps) {r : List Nat} {h : Nat} (hh : isR h = true) : ∀ q : List Nat, (∀ p ∈ q, p < 18) → Val (brings ps r h q)
  | [], _ => fun m hm => nomatch hm
  | [t], _ => fun m hm => nomatch hm
  | t :: s :: q, hq => (val_bring ok (hq t (List.mem_cons_self ..)) (hq s (List.mem_cons_of_mem _ (List.mem_cons_self ..))) hh).app (val_brings ok hh (s :: q) fun p hp => hq p (List.mem_cons_of_mem _ hp))
theorem RingP.lt {ps : Prs} (ok : Ok ps) {r : List Nat} (R : RingP ps r) : ∀ p ∈ r, p < 18 := fun p hp => (mov_src ok (R.mv p hp).2).1
theorem val_ring {ps : Prs} (ok : Ok ps) {h0 h1 : Nat} (e0 : isR h0 = true) (e1 : isR h1 = true) {r : List Nat} (R : RingP ps r) {a : Nat} (ha : a < r.length) {ho : Option Nat} (HO : HoldOk ps r r[a] (fol r a) ho) : Val (r.flatMap (init ps r) ++ turn ps r (turned r a) ho h0 h1) := by
  obtain ⟨_, t2, t3, _⟩ := R.turned ha
  have pm := turned_perm r a
  have lt := R.lt ok
  refine Val.app (fun m hm => ?_) ?_
  · obtain ⟨p, hp, hm⟩ := List.mem_flatMap.mp hm
    unfold init at hm
    by_cases c : isL ps r p
    · rw [if_pos c] at hm
      exact nomatch hm
    · rw [if_neg c] at hm
      exact val_taken (lt p hp) (fun t ht => outs_lt ok ht) (by decide) m hm
  · unfold turn
    refine Val.app (Val.app ?_ (val_brings ok e1 _ fun p hp => lt p (pm.mem_iff.mp hp))) fun m hm => ?_
    · cases ho with
      | none =>
        have : (turned r a).headD 0 = r[a] := by
          rw [List.headD_eq_head?_getD, t2]
          rfl
        show Val (hold ps r ((turned r a).headD 0) h0)
        rw [this]
        exact val_hold ok (lt _ (List.getElem_mem ha)) e0
      | some k => exact fun m hm => nomatch hm
    · rw [List.mem_singleton.mp hm, t3]
      have fr : fol r a ∈ r := pm.mem_iff.mp (List.mem_of_getLast? t3)
      cases ho with
      | none => exact ⟨.inr e0, lt _ fr, isR_lt e0⟩
      | some k => exact ⟨HO.2.2.symm, lt _ fr, outs_lt ok HO.1⟩
/-! ### how many rows -/
def b2n (b : Bool) : Nat := if b = true then 1 else 0
theorem tk_outs {ps : Prs} (ok : Ok ps) {r : List Nat} (R : RingP ps r) {a : Nat} (ha : a < r.length) : fol r a ∈ tk ps r[a] ∧ (tk ps r[a]).length = (outs ps r r[a]).length + 1 := by
  obtain ⟨_, _, t3, t4⟩ := R.turned ha
  have fr : fol r a ∈ r := (turned_perm r a).mem_iff.mp (List.mem_of_getLast? t3)
  have h1 : fol r a ∈ tk ps r[a] := (tk_src ok).mpr ⟨t4, fun z => (R.mv _ fr).2 (t4.trans z.symm)⟩
  refine ⟨h1, ?_⟩
  rw [← R.outs_fol ok ha]
  exact (filter_ne_len (tk_nodup ok _) h1).symm
theorem byS_iff {ps : Prs} (ok : Ok ps) {r : List Nat} (R : RingP ps r) {a : Nat} (ha : a < r.length) : byS ps r[a] = true ↔ isL ps r r[a] ∧ isR (fol r a) = false := by
  obtain ⟨h1, _⟩ := tk_outs ok R ha
  unfold byS
  simp only [Bool.and_eq_true, Bool.not_eq_true', List.all_eq_true, List.isEmpty_eq_false_iff]
  constructor
  · rintro ⟨p1, _, p3⟩
    refine ⟨⟨p1, ?_⟩, p3 _ h1⟩
    cases hk : fstR (outs ps r r[a]) with
    | none => rfl
    | some k =>
      have hk1 := fstR_mem hk
      have := p3 k (outs_mem.mp hk1.1).1
      rw [hk1.2] at this
      cases this
  · rintro ⟨⟨p1, p2⟩, p3⟩
    refine ⟨p1, (fun z => by rw [z] at h1; exact nomatch h1), fun t ht => ?_⟩
    by_cases c : t = fol r a
    · rw [c]; exact p3
    · have : t ∈ outs ps r r[a] := by
        rw [← R.outs_fol ok ha]
        exact List.mem_filter.mpr ⟨ht, by simpa using c⟩
      exact fstR_none p2 t this
theorem len_hold {ps : Prs} {r : List Nat} {p h : Nat} : (hold ps r p h).length = 1 + (late ps r p).length := by
  unfold hold
  rw [List.length_cons, List.length_map]
  omega
theorem len_bring {ps : Prs} (ok : Ok ps) {r : List Nat} (R : RingP ps r) {h a : Nat} (ha : a < r.length) : (bring ps r h (fol r a) r[a]).length = 1 + (late ps r r[a]).length + b2n (byS ps r[a]) := by
  have hb := byS_iff ok R ha
  unfold bring
  by_cases c : isR r[a] = false ∧ isR (fol r a) = false
  · rw [if_pos c]
    cases hk : keep ps r r[a] with
    | some k =>
      have nl : ¬ isL ps r r[a] := fun z => by
        have := z.2
        unfold keep at hk
        rw [this] at hk
        cases hk
      have nb : byS ps r[a] = false := by
        cases e : byS ps r[a] with
        | false => rfl
        | true => exact absurd (hb.mp e).1 nl
      rw [nb]
      unfold late
      rw [if_neg nl]
      rfl
    | none =>
      have yb : byS ps r[a] = true := hb.mpr ⟨⟨c.1, hk⟩, c.2⟩
      rw [yb]
      show (hold ps r r[a] h ++ [(fol r a, h)]).length = _
      rw [List.length_append, len_hold]
      rfl
  · rw [if_neg c]
    have nb : byS ps r[a] = false := by
      cases e : byS ps r[a] with
      | false => rfl
      | true => exact absurd ⟨(hb.mp e).1.1, (hb.mp e).2⟩ c
    rw [nb, List.length_cons, List.length_map]
    unfold b2n
    rw [if_neg (by decide)]
    omega
def wt (ps : Prs) (r : List Nat) (p : Nat) : Nat := 1 + (late ps r p).length + b2n (byS ps p)
theorem len_brings {ps : Prs} (ok : Ok ps) {r : List Nat} (R : RingP ps r) {h : Nat} : ∀ q : List Nat, (∀ p ∈ q, p ∈ r) → Chn (src ps) q → (brings ps r h q).length = (q.tail.map (wt ps r)).sum
  | [], _, _ => rfl
  | [t], _, _ => rfl
  | t :: s :: q, hq, ch => by
    obtain ⟨a, ha, e⟩ := List.getElem_of_mem (hq s (List.mem_cons_of_mem _ (List.mem_cons_self ..)))
    have ht : t = fol r a := (R.fol_iff ha (by rw [e]; exact ch.1)).mp (hq t (List.mem_cons_self ..))
    show (bring ps r h t s ++ brings ps r h (s :: q)).length = _
    rw [List.length_append, len_brings ok R (s :: q) (fun p hp => hq p (List.mem_cons_of_mem _ hp)) ch.2]
    rw [ht, ← e, len_bring ok R ha, e]
    rfl
theorem len_init {ps : Prs} (ok : Ok ps) {r : List Nat} (p : Nat) : (init ps r p).length + (late ps r p).length = (outs ps r p).length := by
  unfold init late
  by_cases c : isL ps r p
  · rw [if_pos c, if_pos c]
    simp
  · rw [if_neg c, if_neg c, len_taken (ts := outs ps r p) (List.Nodup.sublist (List.filter_sublist ..) (tk_nodup ok p)) ?_]
    · have : ¬ (isR p = false ∧ fstR (outs ps r p) = none) := c
      rw [if_neg this]
      rfl
    · intro h z
      have := fstR_none h 0 z
      exact absurd this (by decide)
theorem sum_add {α : Type} (f g : α → Nat) : ∀ l : List α, (l.map fun x => f x + g x).sum = (l.map f).sum + (l.map g).sum
  | [] => rfl
  | a :: l => by
    simp only [List.map_cons, List.sum_cons]
    rw [sum_add f g l]
    omega
theorem sum_perm {l m : List Nat} (p : l.Perm m) : l.sum = m.sum := by
  induction p with
  | nil => rfl
  | cons x _ ih => simp only [List.sum_cons, ih]
  | swap x y l => simp only [List.sum_cons]; omega
  | trans _ _ a b => exact a.trans b
theorem len_flatMap {α β : Type} (f : α → List β) : ∀ l : List α, (l.flatMap f).length = (l.map fun x => (f x).length).sum
  | [] => rfl
  | a :: l => by rw [List.flatMap_cons, List.length_append, len_flatMap f l]; rfl
theorem len_ring {ps : Prs} (ok : Ok ps) {h0 h1 : Nat} {r : List Nat} (R : RingP ps r) {a : Nat} (ha : a < r.length) {ho : Option Nat} (HO : HoldOk ps r r[a] (fol r a) ho) :
    (r.flatMap (init ps r) ++ turn ps r (turned r a) ho h0 h1).length + b2n (byS ps r[a]) = (r.map fun p => (tk ps p).length + b2n (byS ps p)).sum + b2n ho.isNone := by
  obtain ⟨t1, t2, t3, _⟩ := R.turned ha
  have pm := turned_perm r a
  obtain ⟨q0, q, hq⟩ : ∃ q0 q, turned r a = q0 :: q := by
    cases e : turned r a with
    | nil => rw [e] at t2; cases t2
    | cons b l => exact ⟨b, l, rfl⟩
  have eq0 : q0 = r[a] := by rw [hq] at t2; exact Option.some.inj t2
  have e1 : (r.map fun p => (tk ps p).length + b2n (byS ps p)).sum = (r.map fun p => (outs ps r p).length + (1 + b2n (byS ps p))).sum := by
    congr 1
    refine List.map_congr_left fun p hp => ?_
    obtain ⟨i, hi, rfl⟩ := List.getElem_of_mem hp
    have := (tk_outs ok R hi).2
    omega
  have e2 : (r.map fun p => (outs ps r p).length + (1 + b2n (byS ps p))).sum = (r.map fun p => (init ps r p).length + wt ps r p).sum := by
    congr 1
    refine List.map_congr_left fun p hp => ?_
    have := len_init ok (r := r) p
    unfold wt
    omega
  have e3 : (r.map (wt ps r)).sum = wt ps r q0 + (q.map (wt ps r)).sum := by
    have := sum_perm ((pm.map (wt ps r)))
    rw [← this, hq]
    rfl
  rw [e1, e2, sum_add, e3, List.length_append, len_flatMap]
  unfold turn
  rw [List.length_append, List.length_append, len_brings ok R _ (fun p hp => pm.mem_iff.mp hp) t1, hq]
  show _ + ((preH ps r q0 h0 ho).length + (q.map (wt ps r)).sum + 1) + _ = _
  have e4 : (preH ps r q0 h0 ho).length + 1 + b2n (byS ps r[a]) = wt ps r q0 + b2n ho.isNone := by
    unfold wt
    rw [eq0]
    cases ho with
    | none =>
      show (hold ps r r[a] h0).length + 1 + _ = _
      rw [len_hold]
      show _ = _ + 1
      omega
    | some k =>
      have nl := HO.2.1
      unfold late
      rw [if_neg nl]
      show 0 + 1 + _ = 1 + 0 + _ + 0
      omega
  omega
end M59
/-! ## k59: mathematics E -/
namespace M59
/-! ### where a ring can be opened -/
def openAt (ps : Prs) (r : List Nat) (p fo : Nat) : Option (Option Nat) :=
  if byS ps p = true then some none
  else match fstR (outs ps r p) with
    | some k => some (some k)
    | none => if (outs ps r p).isEmpty = false ∧ isR p = true ∧ isR fo = true then some (outs ps r p).head? else none
def opensGo (ps : Prs) (r : List Nat) : List Nat → Option (Nat × Option Nat)
  | [] => none
  | i :: l => match openAt ps r (r.getD i 0) (fol r i) with
    | some o => some (i, o)
    | none => opensGo ps r l
def opens (ps : Prs) (r : List Nat) : Option (Nat × Option Nat) := opensGo ps r (List.range r.length)
theorem opensGo_some {ps : Prs} {r : List Nat} {a : Nat} {o : Option Nat} : ∀ {l : List Nat}, opensGo ps r l = some (a, o) → a ∈ l ∧ openAt ps r (r.getD a 0) (fol r a) = some o
  | [], h => by cases h
  | i :: l, h => by
    unfold opensGo at h
    cases e : openAt ps r (r.getD i 0) (fol r i) with
    | some o' =>
      rw [e] at h
      cases h
      exact ⟨List.mem_cons_self .., e⟩
    | none =>
      rw [e] at h
      obtain ⟨p, q⟩ := opensGo_some (l := l) h
      exact ⟨List.mem_cons_of_mem _ p, q⟩
theorem opensGo_none {ps : Prs} {r : List Nat} : ∀ {l : List Nat}, opensGo ps r l = none → ∀ i ∈ l, openAt ps r (r.getD i 0) (fol r i) = none
  | [], _, i, hi => nomatch hi
  | j :: l, h, i, hi => by
    unfold opensGo at h
    cases e : openAt ps r (r.getD j 0) (fol r j) with
    | some o' => rw [e] at h; cases h
    | none =>
      rw [e] at h
      rcases List.mem_cons.mp hi with rfl | hi
      · exact e
      · exact opensGo_none h i hi
theorem getD_at {r : List Nat} {a : Nat} (ha : a < r.length) : r.getD a 0 = r[a] := by
  rw [List.getD_eq_getElem?_getD, List.getElem?_eq_getElem ha]
  rfl
theorem openAt_hold {ps : Prs} {r : List Nat} {p fo : Nat} {o : Option Nat} (h : openAt ps r p fo = some o) : HoldOk ps r p fo o ∧ (o = none ↔ byS ps p = true) := by
  unfold openAt at h
  by_cases c : byS ps p = true
  · rw [if_pos c] at h
    cases h
    exact ⟨trivial, by simp [c]⟩
  rw [if_neg c] at h
  cases hk : fstR (outs ps r p) with
  | some k =>
    rw [hk] at h
    cases h
    have hk1 := fstR_mem hk
    exact ⟨⟨hk1.1, (fun z => by have := z.2; rw [hk] at this; cases this), .inl hk1.2⟩, by simp [c]⟩
  | none =>
    rw [hk] at h
    by_cases d : (outs ps r p).isEmpty = false ∧ isR p = true ∧ isR fo = true
    · have h : (if (outs ps r p).isEmpty = false ∧ isR p = true ∧ isR fo = true then some (outs ps r p).head? else none) = some o := h
      rw [if_pos d] at h
      cases ho : outs ps r p with
      | nil => rw [ho] at d; exact absurd d.1 (by decide)
      | cons k l =>
        rw [ho] at h
        cases h
        refine ⟨⟨by rw [ho]; exact List.mem_cons_self .., (fun z => by have := z.1; rw [d.2.1] at this; cases this), .inr d.2.2⟩, by simp [c]⟩
    · have h : (if (outs ps r p).isEmpty = false ∧ isR p = true ∧ isR fo = true then some (outs ps r p).head? else none) = some o := h
      rw [if_neg d] at h
      cases h
def ringRows (ps : Prs) (h0 h1 : Nat) (r : List Nat) : Prs := r.flatMap (init ps r) ++ turn ps r (turned r ((opens ps r).getD (0, none)).1) ((opens ps r).getD (0, none)).2 h0 h1
theorem RingP.opens {ps : Prs} (ok : Ok ps) {r : List Nat} (R : RingP ps r) : ∃ (a : Nat) (ho : Option Nat) (ha : a < r.length), (M59.opens ps r).getD (0, none) = (a, ho) ∧ HoldOk ps r r[a] (fol r a) ho ∧ (b2n ho.isNone = b2n (byS ps r[a]) + b2n (M59.opens ps r).isNone) := by
  have pos : 0 < r.length := List.length_pos_iff.mpr R.ne
  cases h : M59.opens ps r with
  | some x =>
    obtain ⟨a, o⟩ := x
    obtain ⟨h1, h2⟩ := opensGo_some h
    have ha := List.mem_range.mp h1
    rw [getD_at ha] at h2
    obtain ⟨h3, h4⟩ := openAt_hold h2
    refine ⟨a, o, ha, rfl, h3, ?_⟩
    cases o with
    | none => rw [h4.mp rfl]; rfl
    | some k =>
      have : byS ps r[a] = false := by
        cases e : byS ps r[a] with
        | false => rfl
        | true => exact absurd (h4.mpr e) (by simp)
      rw [this]
      rfl
  | none =>
    refine ⟨0, none, pos, rfl, trivial, ?_⟩
    have h2 := opensGo_none h 0 (List.mem_range.mpr pos)
    rw [getD_at pos] at h2
    have : byS ps r[0] = false := by
      cases e : byS ps r[0] with
      | false => rfl
      | true =>
        unfold openAt at h2
        rw [if_pos e] at h2
        cases h2
    rw [this]
    rfl
theorem ringRows_ok {ps : Prs} (ok : Ok ps) {h0 h1 : Nat} (f0 : Free ps h0) (f1 : Free ps h1) (h01 : h0 ≠ h1) {r : List Nat} (R : RingP ps r) {st : Nat → Nat} (hst : ∀ p ∈ r, st p = p) (x : Nat) (x0 : x ≠ h0) (x1 : x ≠ h1) :
    ex st (ringRows ps h0 h1 r) x = if src ps x ∈ r ∧ src ps x ≠ x then src ps x else st x := by
  obtain ⟨a, ho, ha, e, H, _⟩ := R.opens ok
  unfold ringRows
  rw [e]
  exact ring_ok ok f0 f1 h01 R ha H hst x x0 x1
theorem ringRows_val {ps : Prs} (ok : Ok ps) {h0 h1 : Nat} (e0 : isR h0 = true) (e1 : isR h1 = true) {r : List Nat} (R : RingP ps r) : Val (ringRows ps h0 h1 r) := by
  obtain ⟨a, ho, ha, e, H, _⟩ := R.opens ok
  unfold ringRows
  rw [e]
  exact val_ring ok e0 e1 R ha H
theorem ringRows_len {ps : Prs} (ok : Ok ps) {h0 h1 : Nat} {r : List Nat} (R : RingP ps r) : (ringRows ps h0 h1 r).length = (r.map fun p => (tk ps p).length + b2n (byS ps p)).sum + b2n (M59.opens ps r).isNone := by
  obtain ⟨a, ho, ha, e, H, k⟩ := R.opens ok
  unfold ringRows
  rw [e]
  have := len_ring ok (h0 := h0) (h1 := h1) R ha H
  show (r.flatMap (init ps r) ++ turn ps r (turned r a) ho h0 h1).length = _
  omega
/-! ### the rings of pairs -/
def isT (ps : Prs) (t : Nat) : Bool := decide (t ∈ (mov ps).map (·.1))
theorem isT_iff {ps : Prs} (ok : Ok ps) {t : Nat} : isT ps t = true ↔ src ps t ≠ t := by
  unfold isT
  rw [decide_eq_true_eq]
  constructor
  · intro h
    obtain ⟨⟨a, b⟩, hm, rfl⟩ := List.mem_map.mp h
    rw [src_of ok hm]
    exact fun z => (mov_mem.mp hm).2 z.symm
  · intro h
    rcases src_cases ok t with ⟨a, _⟩ | ⟨a, _⟩
    · exact List.mem_map.mpr ⟨_, a, rfl⟩
    · exact absurd a h
def chase (ps : Prs) (p : Nat) : Nat → Nat → List Nat → Nat × List Nat
  | 0, a, back => (a, back)
  | k + 1, a, back => if isT ps a = true ∧ a ≠ p then chase ps p k (src ps a) (back ++ [a]) else (a, back)
def ringAt (ps : Prs) (p : Nat) : Option (List Nat) := if (chase ps p (mov ps).length (src ps p) []).1 = p then some (p :: (chase ps p (mov ps).length (src ps p) []).2.reverse) else none
/-- how many steps until p is met, for the first time -/
inductive Hit (f : Nat → Nat) (p : Nat) : Nat → Nat → Prop
  | z {x : Nat} (h : f x = p) : Hit f p x 0
  | s {x n : Nat} (h : f x ≠ p) (t : Hit f p (f x) n) : Hit f p x (n + 1)
theorem Hit.one {f : Nat → Nat} {p x n : Nat} (h : Hit f p x n) : ∀ {m : Nat}, Hit f p x m → n = m := by
  induction h with
  | z h => intro m g; cases g with
    | z _ => rfl
    | s a _ => exact absurd h a
  | s h t ih => intro m g; cases g with
    | z a => exact absurd a h
    | s _ u => rw [ih u]
/-- a way to p: nodup -/
theorem hit_way {f : Nat → Nat} {p : Nat} : ∀ (w : List Nat), Chn f w → (∀ x, w.getLast? = some x → f x = p) → (∀ x ∈ w, x ≠ p) → ∀ i x, w[i]? = some x → Hit f p x (w.length - 1 - i)
  | [], _, _, _, i, x, h => by simp at h
  | [a], _, hl, _, i, x, h => by
    cases i with
    | zero => cases h; exact .z (hl a rfl)
    | succ i => simp at h
  | a :: b :: w, ch, hl, hp, i, x, h => by
    have ih := hit_way (b :: w) ch.2 (fun x e => hl x (by rw [List.getLast?_cons_cons]; exact e)) fun x hx => hp x (List.mem_cons_of_mem _ hx)
    cases i with
    | zero =>
      cases h
      have := ih 0 b rfl
      have e : (a :: b :: w).length - 1 - 0 = ((b :: w).length - 1 - 0) + 1 := by simp
      rw [e]
      refine .s (by rw [ch.1]; exact hp b (List.mem_cons_of_mem _ (List.mem_cons_self ..))) ?_
      rw [ch.1]
      exact this
    | succ i =>
      have := ih i x (by simpa using h)
      have e : (a :: b :: w).length - 1 - (i + 1) = (b :: w).length - 1 - i := by simp only [List.length_cons]; omega
      rw [e]
      exact this
theorem hit_nodup {f : Nat → Nat} {p : Nat} {w : List Nat} (ch : Chn f w) (hl : ∀ x, w.getLast? = some x → f x = p) (hp : ∀ x ∈ w, x ≠ p) : w.Nodup := by
  rw [List.nodup_iff_pairwise_ne, List.pairwise_iff_getElem]
  intro i j hi hj hij e
  have h1 := hit_way w ch hl hp i w[i] (List.getElem?_eq_getElem hi)
  have h2 := hit_way w ch hl hp j w[j] (List.getElem?_eq_getElem hj)
  rw [e] at h1
  have := h1.one h2
  omega
/-- what the chase gathers -/
structure Cz (ps : Prs) (p a : Nat) (back : List Nat) : Prop where
  ch : Chn (src ps) back
  hd : ∀ x, back.head? = some x → x = src ps p
  la : ∀ x, back.getLast? = some x → src ps x = a
  em : back = [] → a = src ps p
  ne : ∀ x ∈ back, x ≠ p ∧ isT ps x = true
theorem chase_ok {ps : Prs} {p : Nat} : ∀ (k a : Nat) (back : List Nat), Cz ps p a back → Cz ps p (chase ps p k a back).1 (chase ps p k a back).2
  | 0, a, back, h => h
  | k + 1, a, back, h => by
    unfold chase
    by_cases c : isT ps a = true ∧ a ≠ p
    · rw [if_pos c]
      refine chase_ok k _ _ ⟨chn_app h.ch trivial fun x y e1 e2 => by cases e2; exact h.la x e1, fun x e => ?_, fun x e => ?_, fun e => absurd e (by simp), fun x hx => ?_⟩
      · cases hb : back with
        | nil => rw [hb] at e; cases e; exact h.em hb
        | cons b l =>
          rw [hb] at e
          have eb : b = x := by simpa using e
          exact h.hd x (by rw [hb, eb]; rfl)
      · rw [List.getLast?_append] at e
        cases e
        rfl
      · rcases List.mem_append.mp hx with hx | hx
        · exact h.ne x hx
        · rw [List.mem_singleton.mp hx]
          exact ⟨c.2, c.1⟩
    · rw [if_neg c]
      exact h
theorem rch_rev {f : Nat → Nat} : ∀ {l : List Nat}, Chn f l → RCh f l.reverse
  | [], _ => trivial
  | [a], _ => trivial
  | a :: b :: l, h => by
    have ih := rch_rev h.2
    rw [List.reverse_cons]
    have app : ∀ (X : List Nat) (y : Nat), RCh f X → (∀ x, X.getLast? = some x → f y = x) → RCh f (X ++ [y]) := by
      intro X
      induction X with
      | nil => intro y _ _; trivial
      | cons x X ih2 =>
        intro y h1 h2
        cases X with
        | nil => exact ⟨h2 x rfl, trivial⟩
        | cons z X => exact ⟨h1.1, ih2 y h1.2 fun w e => h2 w (by rw [List.getLast?_cons_cons]; exact e)⟩
    refine app _ _ ih fun x e => ?_
    rw [List.getLast?_reverse] at e
    cases e
    exact h.1
theorem ring_of_cz {ps : Prs} (ok : Ok ps) {p : Nat} {back : List Nat} (hp : isT ps p = true) (C : Cz ps p p back) : RingP ps (p :: back.reverse) := by
  have bn : back ≠ [] := fun z => (isT_iff ok).mp hp (C.em z).symm
  have nd : back.Nodup := hit_nodup C.ch C.la fun x hx => (C.ne x hx).1
  have all : ∀ x ∈ p :: back.reverse, src ps x ≠ x := fun x hx => by
    rcases List.mem_cons.mp hx with rfl | hx
    · exact (isT_iff ok).mp hp
    · exact (isT_iff ok).mp (C.ne x (List.mem_reverse.mp hx)).2
  have hrev := rch_rev C.ch
  obtain ⟨b0, hb0⟩ : ∃ b, back.head? = some b := by
    cases e : back with
    | nil => exact absurd e bn
    | cons b l => exact ⟨b, rfl⟩
  have ch : RCh (src ps) (p :: back.reverse) := by
    cases e : back.reverse with
    | nil => trivial
    | cons b l =>
      refine ⟨?_, by rw [← e]; exact hrev⟩
      refine C.la b ?_
      rw [← List.head?_reverse, e]
      rfl
  have cl : ∀ (a b : Nat), (p :: back.reverse).head? = some a → (p :: back.reverse).getLast? = some b → src ps a = b := fun a b e1 e2 => by
    cases e1
    have : (p :: back.reverse).getLast? = some b0 := by
      rw [List.getLast?_cons, List.getLast?_reverse, hb0]
      rfl
    rw [this] at e2
    cases e2
    exact (C.hd b0 hb0).symm
  refine ⟨List.nodup_cons.mpr ⟨fun z => (C.ne p (List.mem_reverse.mp z)).1 rfl, (List.reverse_perm _).nodup_iff.mpr nd⟩, ch, cl, by simp, fun x hx => ⟨?_, all x hx⟩⟩
  -- closed
  obtain ⟨i, hi, rfl⟩ := List.getElem_of_mem hx
  generalize hr : p :: back.reverse = r at *
  cases i with
  | zero =>
    have h0 : r.head? = some r[0] := by rw [List.head?_eq_getElem?, List.getElem?_eq_getElem hi]
    have hl : r.getLast? = some r[r.length - 1] := by rw [List.getLast?_eq_getElem?, List.getElem?_eq_getElem (by omega)]
    rw [cl _ _ h0 hl]
    exact List.getElem_mem _
  | succ i =>
    have e1 : r.take (i + 1) ++ r.drop (i + 1) = r := List.take_append_drop ..
    obtain ⟨_, _, c3⟩ := rch_app (X := r.take (i + 1)) (Y := r.drop (i + 1)) (by rw [e1]; exact ch)
    have hX : (r.take (i + 1)).getLast? = some r[i] := by
      rw [List.getLast?_eq_getElem?, List.length_take, Nat.min_eq_left (by omega), Nat.add_sub_cancel, List.getElem?_take, if_pos (by omega), List.getElem?_eq_getElem (by omega)]
    rw [c3 r[i] r[i + 1] hX (by rw [List.head?_drop, List.getElem?_eq_getElem hi])]
    exact List.getElem_mem _
theorem ringAt_ok {ps : Prs} (ok : Ok ps) {p : Nat} (hp : isT ps p = true) {r : List Nat} (h : ringAt ps p = some r) : RingP ps r ∧ r.head? = some p := by
  have C := chase_ok (ps := ps) (p := p) (mov ps).length (src ps p) [] ⟨trivial, fun x e => (by cases e), fun x e => (by cases e), fun _ => rfl, fun x hx => nomatch hx⟩
  unfold ringAt at h
  generalize chase ps p (mov ps).length (src ps p) [] = c at C h
  by_cases e : c.1 = p
  · rw [if_pos e] at h
    cases h
    rw [e] at C
    exact ⟨ring_of_cz ok hp C, rfl⟩
  · rw [if_neg e] at h
    cases h
end M59
/-! ## k59: mathematics F -/
namespace M59
theorem sub_len : ∀ {l N : List Nat}, l.Nodup → (∀ x ∈ l, x ∈ N) → l.length ≤ N.length
  | [], _, _, _ => Nat.zero_le _
  | a :: l, N, nd, h => by
    rw [List.nodup_cons] at nd
    have ha : a ∈ N := h a (List.mem_cons_self ..)
    have ih := sub_len (l := l) (N := N.erase a) nd.2 fun x hx => (List.mem_erase_of_ne fun z => nd.1 (by rw [← z]; exact hx)).mpr (h x (List.mem_cons_of_mem _ hx))
    rw [List.length_erase_of_mem ha] at ih
    have : 0 < N.length := List.length_pos_of_mem ha
    rw [List.length_cons]
    omega
/-! ### each ring once -/
theorem head_in {f : Nat → Nat} {C : List Nat} (hC : ∀ x ∈ C, f x ∈ C) : ∀ {l : List Nat}, RCh f l → ∀ {y : Nat}, y ∈ l → y ∈ C → ∀ p, l.head? = some p → p ∈ C
  | [], _, _, h, _, _, _ => nomatch h
  | [a], _, y, h, hy, p, e => by
    cases e
    rw [List.mem_singleton.mp h] at hy
    exact hy
  | a :: b :: l, ch, y, h, hy, p, e => by
    cases e
    rcases List.mem_cons.mp h with rfl | h
    · exact hy
    · have := head_in hC (l := b :: l) ch.2 h hy b rfl
      rw [← ch.1]
      exact hC b this
structure Rgs (ps : Prs) (L : List Nat) (F : List (List Nat)) : Prop where
  ok : ∀ r ∈ F, RingP ps r
  nd : F.flatten.Nodup
  all : ∀ p ∈ L, (ringAt ps p).isSome = true → p ∈ F.flatten
def rstep (ps : Prs) (F : List (List Nat)) (p : Nat) : List (List Nat) := match ringAt ps p with
  | some r => if p ∈ F.flatten then F else F ++ [r]
  | none => F
def tgs (ps : Prs) : List Nat := (List.range 18).filter (isT ps)
def rings (ps : Prs) : List (List Nat) := (tgs ps).foldl (rstep ps) []
theorem Rgs.step {ps : Prs} (ok : Ok ps) {L : List Nat} {F : List (List Nat)} (R : Rgs ps L F) {p : Nat} (hp : isT ps p = true) : Rgs ps (L ++ [p]) (rstep ps F p) := by
  unfold rstep
  cases h : ringAt ps p with
  | none =>
    refine ⟨R.ok, R.nd, fun q hq e => ?_⟩
    rcases List.mem_append.mp hq with hq | hq
    · exact R.all q hq e
    · rw [List.mem_singleton.mp hq, h] at e
      cases e
  | some r =>
    obtain ⟨P, hd⟩ := ringAt_ok ok hp h
    by_cases c : p ∈ F.flatten
    · show Rgs ps (L ++ [p]) (if p ∈ F.flatten then F else F ++ [r])
      rw [if_pos c]
      refine ⟨R.ok, R.nd, fun q hq e => ?_⟩
      rcases List.mem_append.mp hq with hq | hq
      · exact R.all q hq e
      · rw [List.mem_singleton.mp hq]
        exact c
    · show Rgs ps (L ++ [p]) (if p ∈ F.flatten then F else F ++ [r])
      rw [if_neg c]
      refine ⟨fun q hq => ?_, ?_, fun q hq e => ?_⟩
      · rcases List.mem_append.mp hq with hq | hq
        · exact R.ok q hq
        · rw [List.mem_singleton.mp hq]
          exact P
      · rw [List.flatten_append]
        refine List.nodup_append.mpr ⟨R.nd, by simpa using P.nd, fun x hx y hy e => c ?_⟩
        subst e
        have hy : x ∈ r := by simpa using hy
        obtain ⟨r', hr', hx'⟩ := List.mem_flatten.mp hx
        exact List.mem_flatten.mpr ⟨r', hr', head_in (fun z hz => ((R.ok r' hr').mv z hz).1) P.ch hy hx' p hd⟩
      · rw [List.flatten_append]
        rcases List.mem_append.mp hq with hq | hq
        · exact List.mem_append_left _ (R.all q hq e)
        · rw [List.mem_singleton.mp hq]
          refine List.mem_append_right _ ?_
          have : p ∈ r := List.mem_of_mem_head? hd
          simpa using this
theorem Rgs.fold {ps : Prs} (ok : Ok ps) : ∀ (l L : List Nat) (F : List (List Nat)), (∀ p ∈ l, isT ps p = true) → Rgs ps L F → Rgs ps (L ++ l) (l.foldl (rstep ps) F)
  | [], L, F, _, R => by simpa using R
  | p :: l, L, F, h, R => by
    have := Rgs.fold ok l (L ++ [p]) (rstep ps F p) (fun q hq => h q (List.mem_cons_of_mem _ hq)) (R.step ok (h p (List.mem_cons_self ..)))
    rw [List.append_assoc] at this
    exact this
theorem rings_ok {ps : Prs} (ok : Ok ps) : Rgs ps (tgs ps) (rings ps) := by
  have := Rgs.fold ok (tgs ps) [] [] (fun p hp => (List.mem_filter.mp hp).2) ⟨(fun r h => nomatch h), .nil, (fun p h => nomatch h)⟩
  rw [List.nil_append] at this
  exact this
theorem tgs_mem {ps : Prs} (ok : Ok ps) {p : Nat} : p ∈ tgs ps ↔ isT ps p = true := by
  unfold tgs
  rw [List.mem_filter, List.mem_range]
  exact ⟨fun h => h.2, fun h => ⟨(mov_src ok ((isT_iff ok).mp h)).1, h⟩⟩
/-! ### what leads nowhere else is a ring -/
def it (f : Nat → Nat) : Nat → Nat → Nat
  | 0, x => x
  | k + 1, x => it f k (f x)
theorem it_add (f : Nat → Nat) : ∀ (i j x : Nat), it f (i + j) x = it f j (it f i x)
  | 0, j, x => by rw [Nat.zero_add]; rfl
  | i + 1, j, x => by
    rw [show i + 1 + j = (i + j) + 1 by omega]
    exact it_add f i j (f x)
theorem it_hit {f : Nat → Nat} {p : Nat} : ∀ (d x : Nat), 1 ≤ d → it f d x = p → ∃ n, Hit f p x n
  | 0, _, h, _ => absurd h (by omega)
  | d + 1, x, _, e => by
    by_cases c : f x = p
    · exact ⟨0, .z c⟩
    · cases d with
      | zero => exact absurd e c
      | succ d =>
        obtain ⟨n, h⟩ := it_hit (d + 1) (f x) (by omega) e
        exact ⟨n + 1, .s c h⟩
theorem chase_hit {ps : Prs} {p : Nat} {S : Nat → Prop} (hS : ∀ x, S x → isT ps x = true ∧ S (src ps x)) : ∀ (k : Nat) {n a : Nat} (back : List Nat), Hit (src ps) p a n → S a → a ≠ p → n < k → (chase ps p k a back).1 = p
  | 0, _, _, _, _, _, _, h => absurd h (Nat.not_lt_zero _)
  | k + 1, n, a, back, h, ha, hn, hk => by
    unfold chase
    rw [if_pos ⟨(hS a ha).1, hn⟩]
    cases h with
    | z e =>
      rw [e]
      cases k with
      | zero => rfl
      | succ k =>
        unfold chase
        rw [if_neg (fun z => z.2 rfl)]
    | s e t =>
      exact chase_hit hS k _ t (hS a ha).2 e (by omega)
theorem closed_has {ps : Prs} (ok : Ok ps) {S : Nat → Prop} (hS : ∀ x, S x → isT ps x = true ∧ S (src ps x)) {x0 : Nat} (h0 : S x0) : ∃ p, S p ∧ (ringAt ps p).isSome = true := by
  have itS : ∀ k x, S x → S (it (src ps) k x) := by
    intro k
    induction k with
    | zero => exact fun x h => h
    | succ k ih => exact fun x h => ih _ (hS x h).2
  -- two iterates are equal
  have two : ∃ i j, i < j ∧ it (src ps) i x0 = it (src ps) j x0 := by
    refine Classical.byContradiction fun hno => ?_
    have nd : ((List.range 19).map fun k => it (src ps) k x0).Nodup := by
      rw [List.nodup_iff_pairwise_ne, List.pairwise_map]
      refine List.Pairwise.imp_of_mem (fun {a b} _ _ hab e => hno ⟨a, b, hab, e⟩) List.pairwise_lt_range
    have := sub_len (N := List.range 18) nd fun x hx => by
      obtain ⟨k, _, rfl⟩ := List.mem_map.mp hx
      exact List.mem_range.mpr (mov_src ok ((isT_iff ok).mp (hS _ (itS k x0 h0)).1)).1
    rw [List.length_map, List.length_range, List.length_range] at this
    omega
  obtain ⟨i, j, hij, e⟩ := two
  refine ⟨it (src ps) i x0, itS i x0 h0, ?_⟩
  generalize hp : it (src ps) i x0 = p at *
  have hpS : S p := hp ▸ itS i x0 h0
  have per : it (src ps) (j - i) p = p := by
    have := it_add (src ps) i (j - i) x0
    rw [show i + (j - i) = j by omega, hp, ← e] at this
    exact this.symm
  have tp := (hS p hpS).1
  have sp : src ps p ≠ p := (isT_iff ok).mp tp
  have per2 : it (src ps) (j - i - 1) (src ps p) = p := by
    have := per
    rw [show j - i = (j - i - 1) + 1 by omega] at this
    exact this
  have d1 : 1 ≤ j - i - 1 := by
    rcases Nat.eq_zero_or_pos (j - i - 1) with z | z
    · rw [z] at per2
      exact absurd per2 sp
    · exact z
  obtain ⟨n, hn⟩ := it_hit _ _ d1 per2
  -- with fuel enough
  have big := chase_hit hS (n + 1) [] hn (hS p hpS).2 sp (by omega)
  have C := chase_ok (ps := ps) (p := p) (n + 1) (src ps p) [] ⟨trivial, fun x e => (by cases e), fun x e => (by cases e), fun _ => rfl, fun x hx => nomatch hx⟩
  have len : ∀ (k a m : Nat) (back : List Nat), Hit (src ps) p a m → S a → a ≠ p → m < k → (chase ps p k a back).2.length = back.length + m + 1 := by
    intro k
    induction k with
    | zero => intro a m back _ _ _ h; exact absurd h (Nat.not_lt_zero _)
    | succ k ih =>
      intro a m back h ha hna hk
      unfold chase
      rw [if_pos ⟨(hS a ha).1, hna⟩]
      cases h with
      | z e =>
        rw [e]
        cases k with
        | zero => show (back ++ [a]).length = _; rw [List.length_append]; rfl
        | succ k =>
          unfold chase
          rw [if_neg (fun z => z.2 rfl)]
          show (back ++ [a]).length = _
          rw [List.length_append]
          rfl
      | s e t =>
        rw [ih _ _ _ t (hS a ha).2 e (by omega), List.length_append, List.length_singleton]
        omega
  have l1 := len (n + 1) (src ps p) n [] hn (hS p hpS).2 sp (by omega)
  rw [big] at C
  have R := ring_of_cz ok tp C
  have l2 := sub_len (N := (mov ps).map (·.1)) R.nd fun x hx => by
    have := (isT_iff ok).mpr (R.mv x hx).2
    unfold isT at this
    exact of_decide_eq_true this
  rw [List.length_cons, List.length_reverse, l1, List.length_map] at l2
  have fin := chase_hit hS (mov ps).length [] hn (hS p hpS).2 sp (by simp at l2; omega)
  unfold ringAt
  rw [if_pos fin]
  rfl
/-! ### from the roots downwards -/
def keys (ps : Prs) : List Nat := (List.range 18).filter fun p => !(tk ps p).isEmpty
theorem keys_mem {ps : Prs} (ok : Ok ps) {p : Nat} : p ∈ keys ps ↔ tk ps p ≠ [] := by
  unfold keys
  rw [List.mem_filter, List.mem_range]
  constructor
  · intro h
    simpa using h.2
  · intro h
    refine ⟨?_, by simpa using h⟩
    obtain ⟨t, ht⟩ := List.exists_mem_of_ne_nil _ h
    exact (tk_lt ok ht).2
structure Bq (ps : Prs) (fx roots D Q : List Nat) : Prop where
  nd : (D ++ Q).Nodup
  inn : ∀ x ∈ D ++ Q, x ∈ roots ∨ (x ∉ fx ∧ isT ps x = true ∧ src ps x ∈ D)
  up : ∀ x ∈ D, ∀ t ∈ tk ps x, t ∉ fx → t ∈ D ++ Q
  rts : ∀ x ∈ roots, x ∈ D ++ Q
  ord : ∀ A x B, D ++ Q = A ++ x :: B → x ∉ roots → src ps x ∈ A
structure Rts (ps : Prs) (fx roots : List Nat) : Prop where
  nd : roots.Nodup
  fxs : ∀ x ∈ fx, x ∈ roots
  no : ∀ x ∈ roots, x ∈ fx ∨ isT ps x = false
  key : ∀ x ∈ keys ps, isT ps x = false → x ∈ roots
  lt : ∀ x ∈ roots, x < 18
theorem Bq.start {ps : Prs} {fx roots : List Nat} (R : Rts ps fx roots) : Bq ps fx roots [] roots := by
  refine ⟨R.nd, fun x hx => .inl hx, (fun x h => nomatch h), fun x hx => hx, fun A x B e n => ?_⟩
  exact absurd (by rw [show roots = A ++ x :: B from e]; simp) n
theorem app_split {α : Type} : ∀ {D X A B : List α} {x : α}, D ++ X = A ++ x :: B → (∃ C, D = A ++ x :: C) ∨ ∃ C, A = D ++ C ∧ X = C ++ x :: B
  | [], X, A, B, x, h => .inr ⟨A, rfl, h⟩
  | d :: D, X, [], B, x, h => by
    injection h with h1 h2
    exact .inl ⟨D, by rw [h1]; rfl⟩
  | d :: D, X, a :: A, B, x, h => by
    injection h with h1 h2
    rcases app_split h2 with ⟨C, e⟩ | ⟨C, e1, e2⟩
    · exact .inl ⟨C, by rw [h1, e]; rfl⟩
    · exact .inr ⟨C, by rw [h1, e1]; rfl, e2⟩
theorem Bq.step {ps : Prs} (ok : Ok ps) {fx roots D Q : List Nat} {x : Nat} (R : Rts ps fx roots) (B : Bq ps fx roots D (x :: Q)) : Bq ps fx roots (D ++ [x]) (Q ++ (tk ps x).filter fun t => decide (t ∉ fx)) := by
  have eq : (D ++ [x]) ++ (Q ++ (tk ps x).filter fun t => decide (t ∉ fx)) = (D ++ x :: Q) ++ (tk ps x).filter fun t => decide (t ∉ fx) := by simp
  have new : ∀ t ∈ (tk ps x).filter (fun t => decide (t ∉ fx)), t ∈ tk ps x ∧ t ∉ fx := fun t ht => by
    have := List.mem_filter.mp ht
    exact ⟨this.1, by simpa using this.2⟩
  have newT : ∀ t ∈ tk ps x, src ps t = x ∧ isT ps t = true := fun t ht => by
    obtain ⟨a, b⟩ := (tk_src ok).mp ht
    exact ⟨a, (isT_iff ok).mpr fun z => b (z.symm.trans a)⟩
  have newR : ∀ t, t ∈ tk ps x → t ∉ fx → t ∉ roots := fun t ht hf hr => by
    rcases R.no t hr with z | z
    · exact hf z
    · rw [(newT t ht).2] at z
      cases z
  have xD : x ∉ D := fun z => by
    have := (List.nodup_append.mp B.nd).2.2 x z x (List.mem_cons_self ..)
    exact this rfl
  refine ⟨?_, fun y hy => ?_, fun y hy t ht hf => ?_, fun y hy => ?_, fun A y C e n => ?_⟩
  · rw [eq]
    refine List.nodup_append.mpr ⟨B.nd, List.Nodup.sublist (List.filter_sublist ..) (tk_nodup ok x), fun y hy t ht e => ?_⟩
    subst e
    obtain ⟨h1, h2⟩ := new y ht
    rcases B.inn y hy with z | ⟨_, _, z⟩
    · exact newR y h1 h2 z
    · rw [(newT y h1).1] at z
      exact xD z
  · rw [eq] at hy
    rcases List.mem_append.mp hy with hy | hy
    · rcases B.inn y hy with z | ⟨a, b, c⟩
      · exact .inl z
      · exact .inr ⟨a, b, List.mem_append_left _ c⟩
    · obtain ⟨h1, h2⟩ := new y hy
      exact .inr ⟨h2, (newT y h1).2, List.mem_append_right _ (by rw [(newT y h1).1]; exact List.mem_singleton.mpr rfl)⟩
  · rw [eq]
    rcases List.mem_append.mp hy with hy | hy
    · exact List.mem_append_left _ (B.up y hy t ht hf)
    · rw [List.mem_singleton.mp hy] at ht
      exact List.mem_append_right _ (List.mem_filter.mpr ⟨ht, by simpa using hf⟩)
  · rw [eq]
    exact List.mem_append_left _ (B.rts y hy)
  · rw [eq] at e
    rcases app_split e with ⟨E, h⟩ | ⟨E, h1, h2⟩
    · exact B.ord A y E h n
    · have : y ∈ (tk ps x).filter fun t => decide (t ∉ fx) := by rw [h2]; simp
      obtain ⟨g1, _⟩ := new y this
      rw [(newT y g1).1, h1]
      exact List.mem_append_left _ (List.mem_append_right _ (List.mem_cons_self ..))
theorem Bq.lt {ps : Prs} (ok : Ok ps) {fx roots D Q : List Nat} (R : Rts ps fx roots) (B : Bq ps fx roots D Q) : D.length + Q.length ≤ 18 := by
  have := sub_len (N := List.range 18) B.nd fun x hx => by
    rcases B.inn x hx with z | ⟨_, z, _⟩
    · exact List.mem_range.mpr (R.lt x z)
    · exact List.mem_range.mpr (mov_src ok ((isT_iff ok).mp z)).1
  rw [List.length_append, List.length_range] at this
  exact this
/-- the order of what is told ahead of the rings -/
structure Lp (ps : Prs) (fx L : List Nat) : Prop where
  nd : L.Nodup
  mem : ∀ p, p ∈ L ↔ p ∈ keys ps ∧ p ∉ fx
  ord : ∀ A p B, L = A ++ p :: B → src ps p ∉ A
theorem Bq.lp {ps : Prs} (ok : Ok ps) {fx roots D : List Nat} (R : Rts ps fx roots) (B : Bq ps fx roots D []) (hfx : ∀ p, isT ps p = true → (ringAt ps p).isSome = true → p ∈ fx) : Lp ps fx ((D.reverse).filter fun p => decide (p ∈ keys ps ∧ p ∉ fx)) := by
  have nd : D.Nodup := by have := B.nd; rwa [List.append_nil] at this
  have inD : ∀ p, p ∈ keys ps → p ∉ fx → p ∈ D := by
    intro p hp hf
    refine Classical.byContradiction fun hD => ?_
    obtain ⟨q, ⟨q1, q2, q3⟩, hq⟩ := closed_has ok (S := fun p => p ∈ keys ps ∧ p ∉ fx ∧ p ∉ D) (fun x hx => by
      obtain ⟨h1, h2, h3⟩ := hx
      have tx : isT ps x = true := by
        cases e : isT ps x with
        | true => rfl
        | false =>
          have := B.rts x (R.key x h1 e)
          rw [List.append_nil] at this
          exact absurd this h3
      have sx := (isT_iff ok).mp tx
      have xk : x ∈ tk ps (src ps x) := (tk_src ok).mpr ⟨rfl, fun z => sx z.symm⟩
      have notD : src ps x ∉ D := fun z => by
        have := B.up _ z x xk h2
        rw [List.append_nil] at this
        exact h3 this
      refine ⟨tx, (keys_mem ok).mpr (fun z => by rw [z] at xk; exact nomatch xk), fun z => ?_, notD⟩
      have := B.rts _ (R.fxs _ z)
      rw [List.append_nil] at this
      exact notD this) (x0 := p) ⟨hp, hf, hD⟩
    have tq : isT ps q = true := by
      cases e : isT ps q with
      | true => rfl
      | false =>
        have := B.rts q (R.key q q1 e)
        rw [List.append_nil] at this
        exact absurd this q3
    exact q2 (hfx q tq hq)
  refine ⟨List.Nodup.sublist (List.filter_sublist ..) ((List.reverse_perm D).nodup_iff.mpr nd), fun p => ?_, fun A p C e hA => ?_⟩
  · rw [List.mem_filter, List.mem_reverse]
    simp only [decide_eq_true_eq]
    exact ⟨fun h => h.2, fun h => ⟨inD p h.1 h.2, h⟩⟩
  · -- p stands behind its source
    have hp : p ∈ (D.reverse).filter fun p => decide (p ∈ keys ps ∧ p ∉ fx) := by rw [e]; simp
    have hp2 := List.mem_filter.mp hp
    have pD : p ∈ D := List.mem_reverse.mp hp2.1
    have pk : p ∈ keys ps ∧ p ∉ fx := by simpa using hp2.2
    have nd2 : ((D.reverse).filter fun p => decide (p ∈ keys ps ∧ p ∉ fx)).Nodup := List.Nodup.sublist (List.filter_sublist ..) ((List.reverse_perm D).nodup_iff.mpr nd)
    by_cases c : p ∈ roots
    · -- a root that is no ring's: no source
      rcases R.no p c with z | z
      · exact pk.2 z
      · have : src ps p = p := Classical.byContradiction fun n => by rw [(isT_iff ok).mpr n] at z; cases z
        rw [this] at hA
        rw [e] at nd2
        exact (List.nodup_append.mp nd2).2.2 p hA p (List.mem_cons_self ..) rfl
    · obtain ⟨X, Y, hXY⟩ := List.append_of_mem pD
      have hs := B.ord X p Y (by rw [List.append_nil]; exact hXY) c
      -- in the reversed list the source is behind p
      have hs2 : src ps p ∈ (D.reverse).filter fun p => decide (p ∈ keys ps ∧ p ∉ fx) := by rw [e]; exact List.mem_append_left _ hA
      have eR : (D.reverse).filter (fun p => decide (p ∈ keys ps ∧ p ∉ fx)) = (Y.reverse.filter fun p => decide (p ∈ keys ps ∧ p ∉ fx)) ++ p :: (X.reverse.filter fun p => decide (p ∈ keys ps ∧ p ∉ fx)) := by
        rw [hXY, List.reverse_append, List.reverse_cons, List.append_assoc, List.filter_append]
        show _ ++ List.filter _ (p :: X.reverse) = _
        rw [List.filter_cons_of_pos (by simpa using pk)]
      have same : A = Y.reverse.filter fun p => decide (p ∈ keys ps ∧ p ∉ fx) := by
        have h3 := e.symm.trans eR
        rcases app_split h3 with ⟨E, h⟩ | ⟨E, h1, h2⟩
        · exfalso
          rw [e] at nd2
          have : p ∈ A := by rw [h]; simp
          exact (List.nodup_append.mp nd2).2.2 p this p (List.mem_cons_self ..) rfl
        · cases E with
          | nil => rw [h1, List.append_nil]
          | cons b E =>
            exfalso
            injection h2 with h2 h4
            rw [eR] at nd2
            have : p ∈ Y.reverse.filter fun p => decide (p ∈ keys ps ∧ p ∉ fx) := by rw [h1, ← h2]; simp
            exact (List.nodup_append.mp nd2).2.2 p this p (List.mem_cons_self ..) rfl
      rw [same] at hA
      have hY : src ps p ∈ Y := List.mem_reverse.mp (List.mem_filter.mp hA).1
      rw [hXY] at nd
      exact (List.nodup_append.mp nd).2.2 _ hs _ (List.mem_cons_of_mem _ hY) rfl
end M59
/-! ## k59: mathematics G -/
namespace M59
def fixed (ps : Prs) : List Nat := (rings ps).flatten
def allRows (ps : Prs) (h0 h1 : Nat) (L : List Nat) : Prs := L.flatMap (fun p => taken p (tk ps p) h0) ++ (rings ps).flatMap (ringRows ps h0 h1)
/-- the places whose sources are told stand as they shall -/
def Dn (ps : Prs) (h0 h1 : Nat) (D : List Nat) (st : Nat → Nat) : Prop := ∀ x, x ≠ h0 → x ≠ h1 → st x = if src ps x ∈ D ∧ src ps x ≠ x then src ps x else x
theorem Free.src {ps : Prs} (ok : Ok ps) {h p : Nat} (f : Free ps h) (hp : src ps p ≠ p) : p ≠ h := by
  rcases src_cases ok p with ⟨a, _⟩ | ⟨a, _⟩
  · exact (f _ (mov_mem.mp a).1).1
  · exact absurd a hp
theorem Free.key {ps : Prs} (ok : Ok ps) {h p : Nat} (f : Free ps h) (hp : p ∈ keys ps) : p ≠ h := by
  obtain ⟨t, ht⟩ := List.exists_mem_of_ne_nil _ ((keys_mem ok).mp hp)
  exact (f _ (mov_mem.mp (tk_mem.mp ht)).1).2
theorem phase1 {ps : Prs} (ok : Ok ps) {h0 h1 : Nat} (f0 : Free ps h0) (f1 : Free ps h1) : ∀ (L D : List Nat) (st : Nat → Nat), Dn ps h0 h1 D st → (∀ p ∈ L, p ∈ keys ps) → (∀ A p B, L = A ++ p :: B → src ps p ∉ D ++ A) → Dn ps h0 h1 (D ++ L) (ex st (L.flatMap fun p => taken p (tk ps p) h0))
  | [], D, st, h, _, _ => by simpa [ex] using h
  | p :: L, D, st, h, hk, ho => by
    have pk := hk p (List.mem_cons_self ..)
    have sp : src ps p ∉ D := by
      have := ho [] p L rfl
      rwa [List.append_nil] at this
    have stp : st p = p := by
      rw [h p (f0.key ok pk) (f1.key ok pk), if_neg (fun z => sp z.1)]
    rw [List.flatMap_cons, ex_app]
    have step : Dn ps h0 h1 (D ++ [p]) (ex st (taken p (tk ps p) h0)) := fun x x0 x1 => by
      rw [ex_taken (fun z => ((tk_src ok).mp z).2 rfl) x (fun _ => x0), stp, h x x0 x1]
      by_cases c : x ∈ tk ps p
      · obtain ⟨a, b⟩ := (tk_src ok).mp c
        rw [if_pos c, if_pos ⟨by rw [a]; simp, by rw [a]; exact fun z => b z.symm⟩, a]
      · rw [if_neg c]
        by_cases d : src ps x ∈ D ∧ src ps x ≠ x
        · rw [if_pos d, if_pos ⟨List.mem_append_left _ d.1, d.2⟩]
        · rw [if_neg d, if_neg]
          rintro ⟨a, b⟩
          rcases List.mem_append.mp a with a | a
          · exact d ⟨a, b⟩
          · have a := List.mem_singleton.mp a
            exact c ((tk_src ok).mpr ⟨a, fun z => b (a.trans z.symm)⟩)
    have := phase1 ok f0 f1 L (D ++ [p]) _ step (fun q hq => hk q (List.mem_cons_of_mem _ hq)) fun A q B e => by
      have := ho (p :: A) q B (by rw [e]; rfl)
      rw [List.append_assoc]
      exact this
    rw [List.append_assoc] at this
    exact this
theorem phase2 {ps : Prs} (ok : Ok ps) {h0 h1 : Nat} (f0 : Free ps h0) (f1 : Free ps h1) (h01 : h0 ≠ h1) : ∀ (F : List (List Nat)) (D : List Nat) (st : Nat → Nat), Dn ps h0 h1 D st → (∀ r ∈ F, RingP ps r) → (D ++ F.flatten).Nodup → Dn ps h0 h1 (D ++ F.flatten) (ex st (F.flatMap (ringRows ps h0 h1)))
  | [], D, st, h, _, _ => by simpa [ex] using h
  | r :: F, D, st, h, hr, nd => by
    have R := hr r (List.mem_cons_self ..)
    have disj : ∀ x ∈ r, x ∉ D := fun x hx hD => (List.nodup_append.mp nd).2.2 x hD x (by rw [List.flatten_cons]; exact List.mem_append_left _ hx) rfl
    have str : ∀ p ∈ r, st p = p := fun p hp => by
      obtain ⟨a, b⟩ := R.mv p hp
      rw [h p (f0.src ok b) (f1.src ok b), if_neg (fun z => disj _ a z.1)]
    rw [List.flatMap_cons, ex_app]
    have step : Dn ps h0 h1 (D ++ r) (ex st (ringRows ps h0 h1 r)) := fun x x0 x1 => by
      rw [ringRows_ok ok f0 f1 h01 R str x x0 x1, h x x0 x1]
      by_cases c : src ps x ∈ r ∧ src ps x ≠ x
      · rw [if_pos c, if_pos ⟨List.mem_append_right _ c.1, c.2⟩]
      · rw [if_neg c]
        by_cases d : src ps x ∈ D ∧ src ps x ≠ x
        · rw [if_pos d, if_pos ⟨List.mem_append_left _ d.1, d.2⟩]
        · rw [if_neg d, if_neg]
          rintro ⟨a, b⟩
          rcases List.mem_append.mp a with a | a
          · exact d ⟨a, b⟩
          · exact c ⟨a, b⟩
    rw [List.flatten_cons, ← List.append_assoc] at nd ⊢
    exact phase2 ok f0 f1 h01 F (D ++ r) _ step (fun q hq => hr q (List.mem_cons_of_mem _ hq)) nd
theorem ring_key {ps : Prs} (ok : Ok ps) {r : List Nat} (R : RingP ps r) {p : Nat} (hp : p ∈ r) : p ∈ keys ps := by
  obtain ⟨i, hi, rfl⟩ := List.getElem_of_mem hp
  have := (tk_outs ok R hi).1
  exact (keys_mem ok).mpr fun z => by rw [z] at this; exact nomatch this
theorem fixed_key {ps : Prs} (ok : Ok ps) {p : Nat} (hp : p ∈ fixed ps) : p ∈ keys ps := by
  obtain ⟨r, hr, h⟩ := List.mem_flatten.mp hp
  exact ring_key ok ((rings_ok ok).ok r hr) h
theorem lp_perm {ps : Prs} (ok : Ok ps) {L : List Nat} (h : Lp ps (fixed ps) L) : (L ++ fixed ps).Perm (keys ps) ∧ (L ++ fixed ps).Nodup := by
  have nd : (L ++ fixed ps).Nodup := List.nodup_append.mpr ⟨h.nd, (rings_ok ok).nd, fun x hx y hy e => ((h.mem x).mp hx).2 (e ▸ hy)⟩
  refine ⟨?_, nd⟩
  have ndk : (keys ps).Nodup := List.Nodup.sublist (List.filter_sublist ..) List.nodup_range
  refine (List.perm_ext_iff_of_nodup nd ndk).mpr fun p => ?_
  rw [List.mem_append, h.mem]
  constructor
  · rintro (z | z)
    · exact z.1
    · exact fixed_key ok z
  · intro z
    by_cases c : p ∈ fixed ps
    · exact .inr c
    · exact .inl ⟨z, c⟩
/-- all at once -/
theorem moves_ok {ps : Prs} (ok : Ok ps) {h0 h1 : Nat} (f0 : Free ps h0) (f1 : Free ps h1) (h01 : h0 ≠ h1) {L : List Nat} (h : Lp ps (fixed ps) L) (x : Nat) (x0 : x ≠ h0) (x1 : x ≠ h1) : ex id (allRows ps h0 h1 L) x = src ps x := by
  obtain ⟨pm, nd⟩ := lp_perm ok h
  unfold allRows
  rw [ex_app]
  have s0 : Dn ps h0 h1 [] id := fun x _ _ => by
    rw [if_neg (fun z => nomatch z.1)]
    rfl
  have p1 := phase1 ok f0 f1 L [] id s0 (fun p hp => ((h.mem p).mp hp).1) fun A p B e => by
    rw [List.nil_append]
    exact h.ord A p B e
  rw [List.nil_append] at p1
  have p2 := phase2 ok f0 f1 h01 (rings ps) L _ p1 (rings_ok ok).ok nd
  rw [p2 x x0 x1]
  by_cases c : src ps x ≠ x
  · have hin : src ps x ∈ L ++ (rings ps).flatten := by
      refine pm.mem_iff.mpr ((keys_mem ok).mpr fun z => ?_)
      have : x ∈ tk ps (src ps x) := (tk_src ok).mpr ⟨rfl, fun z => c z.symm⟩
      rw [z] at this
      cases this
    rw [if_pos ⟨hin, c⟩]
  · have c : src ps x = x := Classical.byContradiction c
    rw [if_neg (fun z => z.2 c), c]
theorem moves_val {ps : Prs} (ok : Ok ps) {h0 h1 : Nat} (e0 : isR h0 = true) (e1 : isR h1 = true) {L : List Nat} (h : Lp ps (fixed ps) L) : Val (allRows ps h0 h1 L) := by
  refine Val.app (fun m hm => ?_) fun m hm => ?_
  · obtain ⟨p, hp, hm⟩ := List.mem_flatMap.mp hm
    obtain ⟨t, ht⟩ := List.exists_mem_of_ne_nil _ ((keys_mem ok).mp ((h.mem p).mp hp).1)
    exact val_taken (tk_lt ok ht).2 (fun t ht => (tk_lt ok ht).1) e0 m hm
  · obtain ⟨r, hr, hm⟩ := List.mem_flatMap.mp hm
    exact ringRows_val ok e0 e1 ((rings_ok ok).ok r hr) m hm
theorem key_sum {ps : Prs} (ok : Ok ps) : ((keys ps).map fun p => (tk ps p).length).sum = (mov ps).length := by
  have go : ∀ (K : List Nat), K.Nodup → ∀ l : Prs, (∀ m ∈ l, m.2 ∈ K) → (K.map fun p => ((l.filter fun m => decide (m.2 = p)).map (·.1)).length).sum = l.length := by
    intro K nd l
    induction l with
    | nil =>
      intro _
      clear nd
      induction K with
      | nil => rfl
      | cons a K ih => rw [List.map_cons, List.sum_cons, ih (fun m hm => nomatch hm)]; rfl
    | cons m l ih =>
      intro h
      have h1 := ih fun m hm => h m (List.mem_cons_of_mem _ hm)
      have h2 := h m (List.mem_cons_self ..)
      have e : (K.map fun p => (((m :: l).filter fun m => decide (m.2 = p)).map (·.1)).length).sum = (K.map fun p => ((l.filter fun m => decide (m.2 = p)).map (·.1)).length + (if m.2 = p then 1 else 0)).sum := by
        congr 1
        refine List.map_congr_left fun p _ => ?_
        by_cases c : m.2 = p
        · rw [List.filter_cons_of_pos (by simpa using c), if_pos c]
          rfl
        · rw [List.filter_cons_of_neg (by simpa using c), if_neg c]
          rfl
      rw [e, sum_add, h1, List.length_cons]
      congr 1
      clear e h1 ih h
      induction K with
      | nil => exact nomatch h2
      | cons a K ih =>
        rw [List.nodup_cons] at nd
        rw [List.map_cons, List.sum_cons]
        by_cases c : m.2 = a
        · rw [if_pos c]
          have : ∀ K' : List Nat, m.2 ∉ K' → (K'.map fun p => if m.2 = p then 1 else 0).sum = 0 := by
            intro K'
            induction K' with
            | nil => intro _; rfl
            | cons b K' ih2 =>
              intro hb
              rw [List.map_cons, List.sum_cons, ih2 (fun z => hb (List.mem_cons_of_mem _ z)), if_neg (fun z => hb (by rw [z]; exact List.mem_cons_self ..))]
          rw [this K (c ▸ nd.1)]
        · rw [if_neg c, Nat.zero_add]
          exact ih nd.2 ((List.mem_cons.mp h2).resolve_left c)
  refine go (keys ps) (List.Nodup.sublist (List.filter_sublist ..) List.nodup_range) (mov ps) fun m hm => (keys_mem ok).mpr fun z => ?_
  have : m.1 ∈ tk ps m.2 := tk_mem.mpr hm
  rw [z] at this
  exact nomatch this
theorem b2n_sum {α : Type} (f : α → Bool) : ∀ l : List α, (l.map fun x => b2n (f x)).sum = (l.filter f).length
  | [] => rfl
  | a :: l => by
    rw [List.map_cons, List.sum_cons, b2n_sum f l]
    cases e : f a with
    | true =>
      rw [List.filter_cons_of_pos e, List.length_cons]
      show 1 + _ = _
      omega
    | false =>
      rw [List.filter_cons_of_neg (by rw [e]; decide)]
      show 0 + _ = _
      omega
def nOpen (ps : Prs) : Nat := ((keys ps).filter (byS ps)).length + ((rings ps).filter fun r => (opens ps r).isNone).length
theorem moves_len {ps : Prs} (ok : Ok ps) {h0 h1 : Nat} (f0 : Free ps h0) {L : List Nat} (h : Lp ps (fixed ps) L) : (allRows ps h0 h1 L).length = (mov ps).length + nOpen ps := by
  obtain ⟨pm, nd⟩ := lp_perm ok h
  unfold allRows
  rw [List.length_append, len_flatMap, len_flatMap]
  have e1 : (L.map fun p => (taken p (tk ps p) h0).length) = L.map fun p => (tk ps p).length + b2n (byS ps p) := by
    refine List.map_congr_left fun p hp => ?_
    have ne := (keys_mem ok).mp ((h.mem p).mp hp).1
    rw [len_taken (tk_nodup ok p) fun _ z => (f0 _ (mov_mem.mp (tk_mem.mp z)).1).1 rfl]
    congr 1
    unfold b2n
    have iff : (isR p = false ∧ fstR (tk ps p) = none) ↔ byS ps p = true := by
      unfold byS
      simp only [Bool.and_eq_true, Bool.not_eq_true', List.all_eq_true, List.isEmpty_eq_false_iff]
      constructor
      · rintro ⟨a, b⟩
        exact ⟨a, ne, fstR_none b⟩
      · rintro ⟨a, _, c⟩
        refine ⟨a, ?_⟩
        cases hk : fstR (tk ps p) with
        | none => rfl
        | some k =>
          have hk1 := fstR_mem hk
          rw [c k hk1.1] at hk1
          exact absurd hk1.2 (by decide)
    by_cases c : isR p = false ∧ fstR (tk ps p) = none
    · rw [if_pos c, if_pos (iff.mp c)]
    · rw [if_neg c, if_neg (fun z => c (iff.mpr z))]
  have e2 : ((rings ps).map fun r => (ringRows ps h0 h1 r).length) = (rings ps).map fun r => (r.map fun p => (tk ps p).length + b2n (byS ps p)).sum + b2n (opens ps r).isNone := List.map_congr_left fun r hr => ringRows_len ok ((rings_ok ok).ok r hr)
  rw [e1, e2, sum_add (fun r : List Nat => (r.map fun p => (tk ps p).length + b2n (byS ps p)).sum), b2n_sum (fun r => (opens ps r).isNone)]
  have e3 : ∀ F : List (List Nat), (F.map fun r => (r.map fun p => (tk ps p).length + b2n (byS ps p)).sum).sum = (F.flatten.map fun p => (tk ps p).length + b2n (byS ps p)).sum := by
    intro F
    induction F with
    | nil => rfl
    | cons r F ih => rw [List.map_cons, List.sum_cons, ih, List.flatten_cons, List.map_append, List.sum_append]
  rw [e3]
  have e4 := sum_perm (pm.map fun p => (tk ps p).length + b2n (byS ps p))
  rw [List.map_append, List.sum_append] at e4
  have e5 : ((keys ps).map fun p => (tk ps p).length + b2n (byS ps p)).sum = (mov ps).length + ((keys ps).filter (byS ps)).length := by rw [sum_add, key_sum ok, b2n_sum]
  unfold nOpen fixed at *
  omega
/-- what is not written stays -/
theorem ex_not : ∀ (rows : Prs) (st : Nat → Nat) (x : Nat), (∀ m ∈ rows, m.1 ≠ x) → ex st rows x = st x
  | [], _, _, _ => rfl
  | m :: rows, st, x, h => by
    show ex _ rows x = _
    rw [ex_not rows _ x fun m hm => h m (List.mem_cons_of_mem _ hm), if_neg (fun z => h m (List.mem_cons_self ..) z.symm)]
end M59
abbrev FnP (K : PySem.W.Frag) (x : Str) (st : Stmt) (f : Addr) (fd : FuncData) : Prop := FunD K x x (defArgs st) (defBody st) (defScope st) [] [] f fd
section
variable {P : Program} {w : World} {K : PySem.W.Frag} {mg : Str → Option Value} {base : Heap}
theorem getI {ns : List Int} {i : Nat} {y : V} (h : (ns.map V.int)[i]? = some y) : ∃ z, ns[i]? = some z ∧ y = .int z := by
  rw [List.getElem?_map] at h
  cases e : ns[i]? with
  | none => rw [e] at h; cases h
  | some z => rw [e] at h; exact ⟨z, rfl, (Option.some.inj h).symm⟩
theorem sl_of {n : Nat} (h : n ≤ 100000) : n ≤ sizeLine := Nat.le_trans h (by decide)
theorem sc_mixed : FnScope ["_law_draw", "_law_turn", "_law_found", "_law_prime", "_law_blend", "_law_cell"] ["_law_draw"] (defScope s_law_mixed) := ⟨rfl, rfl, rfl, by decide +kernel, rfl, by decide +kernel, by decide +kernel⟩
theorem primes_ok {i : Nat} {y : V} (h : ([V.int 2147483629, V.int 2147483587, V.int 2147483579, V.int 2147483563] : List V)[i]? = some y) : ∃ z : Int, y = .int z ∧ 2147483563 ≤ z ∧ z ≤ 2147483629 := by
  match i, h with
  | 0, h => cases h; exact ⟨_, rfl, by decide, by decide⟩
  | 1, h => cases h; exact ⟨_, rfl, by decide, by decide⟩
  | 2, h => cases h; exact ⟨_, rfl, by decide, by decide⟩
  | 3, h => cases h; exact ⟨_, rfl, by decide, by decide⟩
  | n + 4, h => cases h
theorem ok_mixed {f : Addr} {fd : FuncData} (F : FnP K "_law_mixed" s_law_mixed f fd) (gI : mg "int" = none) : FnOk P w K mg base CX0 1 f fd ["_law_draw"] spMixed := by
  refine F.ok sc_mixed (fun vs H Q E h => ?_) (fun cdv A outer s H vs Q E hr h => ?_)
  · obtain ⟨d, w, c, ws, cs, rest, turn, rfl, _⟩ := h
    rfl
  · obtain ⟨d, w, c, ws, cs, rest, turn, rfl, hT, D, k⟩ := h
    have hu := hu_of hr
    have nd := sc_mixed.nd
    refine ⟨_, PSs.nox (pss_cons (ps_par (i := 1) (j := 2) rfl nd rfl rfl (by decide) rfl rfl (pa_cons (pe_op op_add (pe_dget hu (pv 0) pe_str (fun _ _ => rfl)) pe_int) (pa_cons pe_int pa_nil)) (by rfl))
      (pss_cons (ps_dput hu (pv 0) pe_str (pv 1) rfl)
      (pss_cons (ps_for PassesOwn.never rfl (pi_list (pe_lst (pa_cons pe_int (pa_cons pe_int (pa_cons pe_int (pa_cons pe_int pa_nil)))))) (pg_name (i := 3) nd rfl (Or.inl rfl))
        (pss_cons (ps_set (i := 4) nd rfl (Or.inl rfl) (pe_op op_add (pe_op op_mul pe_int (pv 1)) (pe_op op_fdivN (pv 3) pe_int)))
        (pss_cons (ps_for PassesOwn.never rfl (pi_list (pe_dget hu (pv 0) pe_str (fun _ _ => rfl))) (pg_name (i := 5) nd rfl (Or.inl rfl))
          (pss_one (ps_set (i := 4) nd rfl (Or.inl rfl) (pe_op op_modN (pe_callTy call_int1 (by rfl) gI (by decide +kernel) (pa_cons (pe_op op_add (pe_op op_add (pe_op op_mul (pv 4) pe_int) (pv 5)) (pv 1)) pa_nil)) (pv 3)))))
        (pss_one (ps_set (i := 2) nd rfl (Or.inl rfl) (pe_op op_add (pe_op op_mul (pv 2) pe_int) (pe_op op_modN (pe_callTy call_int1 (by rfl) gI (by decide +kernel) (pa_cons (pe_op op_pow (pv 4) pe_int) pa_nil)) (pv 3))))))))
      (pss_one (ps_ret (pv 2)))))), ?_⟩
    have T0 := D.tn
    refine ⟨_, rfl, d, _, rfl, dget_turn D.hd, _, _, rfl, rfl, _, _, rfl, ?_⟩
    refine ⟨_, rfl, _, rfl, d, _, rfl, dput_turn _ D.hd, ?_⟩
    have D1 := D.setD (t2 := turn + 1) D.rn (by omega)
    have K1 : ∀ b o, H b = some o → b ≠ d → (upd H d (.dK (drK w c rest (turn + 1)))) b = some o := fun b o e n => by rw [upd_ne n]; exact e
    generalize upd H d (.dK (drK w c rest (turn + 1))) = H1 at D1 K1
    refine ⟨sl_of (by decide), fun p hp => ⟨p, rfl, ⟨_, SqL.of upd_same⟩, ?_⟩⟩
    have ndp : d ≠ p := ne_of_none D1.hd hp
    have nwp : w ≠ p := ne_of_none D1.hw hp
    have ncp : c ≠ p := ne_of_none D1.hc hp
    refine for_list (K := K) (a := p) (xs := [V.int 2147483629, V.int 2147483587, V.int 2147483579, V.int 2147483563]) (fun i σ H' => ∃ (fnd : Int) (v3 v4 v5 : Option V), σ = [some (.ref d), some (.int (turn + 1)), some (.int fnd), v3, v4, v5] ∧ 0 ≤ fnd ∧ H' = upd H1 p (.lst [V.int 2147483629, V.int 2147483587, V.int 2147483579, V.int 2147483563]))
      ⟨0, none, none, none, rfl, by decide, rfl⟩ (fun i σ H' _ ⟨_, _, _, _, _, _, e⟩ => by rw [e]; exact SqL.of upd_same) ?_ ?_
    · rintro i y σ H' hi ⟨fnd, v3, v4, v5, rfl, hf, rfl⟩
      obtain ⟨z, rfl, z1, z2⟩ := primes_ok hi
      have z0 : z ≠ 0 := by omega
      have D2 := D1.updo (o := .lst [V.int 2147483629, V.int 2147483587, V.int 2147483579, V.int 2147483563]) ndp.symm nwp.symm ncp.symm
      refine ⟨_, rfl, _, _, rfl, rfl, .inl ⟨by decide, by decide⟩, _, rfl, _, _, rfl, rfl, ⟨by decide, by decide⟩, _, _, rfl, rfl, ?_⟩
      refine ⟨_, rfl, d, _, rfl, dget_cells D2.hd, c, rfl, ⟨_, SqL.of D2.hc⟩, ?_⟩
      have b0 : 0 ≤ 61441 * (turn + 1) + z.fdiv 19 := by
        rw [Int.fdiv_eq_ediv_of_nonneg _ (by decide)]
        omega
      have b1 : 61441 * (turn + 1) + z.fdiv 19 < 2 ^ 63 := by
        rw [Int.fdiv_eq_ediv_of_nonneg _ (by decide)]
        have : turn < 1099511627776 := hT
        omega
      refine for_list (K := K) (a := c) (xs := cs.map V.int) (fun j σ H' => ∃ (bl : Int) (v5 : Option V), σ = [some (.ref d), some (.int (turn + 1)), some (.int fnd), some (.int z), some (.int bl), v5] ∧ 0 ≤ bl ∧ bl < 2 ^ 63 ∧ H' = upd H1 p (.lst [V.int 2147483629, V.int 2147483587, V.int 2147483579, V.int 2147483563]))
        ⟨_, v5, rfl, b0, b1, rfl⟩ (fun j σ H' _ ⟨_, _, _, _, _, e⟩ => by rw [e]; exact SqL.of D2.hc) ?_ ?_
      · rintro j y σ H' hj ⟨bl, v6, rfl, h0, h1, rfl⟩
        obtain ⟨q, _, rfl⟩ := getI hj
        refine ⟨_, rfl, _, _, rfl, rfl, .inr ⟨by decide, by decide⟩, _, rfl, _, _, rfl, rfl, _, rfl, _, _, rfl, rfl, .inl ⟨_, rfl, ?_⟩⟩
        refine ⟨_, rfl, _, _, rfl, rfl, z0, ?_⟩
        have m0 := Int.fmod_nonneg_of_pos (bl * 48271 + q + (turn + 1)) (b := z) (by omega)
        have m1 := Int.fmod_lt_of_pos (bl * 48271 + q + (turn + 1)) (b := z) (by omega)
        exact ⟨_, _, rfl, m0, by omega, rfl⟩
      · rintro σ H' ⟨bl, v6, rfl, h0, h1, rfl⟩
        refine ⟨_, rfl, _, _, rfl, rfl, .inr ⟨by decide, by decide⟩, _, rfl, _, _, rfl, rfl, ⟨by decide, by decide, by omega⟩, .inl ⟨_, rfl, ?_⟩⟩
        refine ⟨_, rfl, _, _, rfl, rfl, z0, _, _, rfl, rfl, ?_⟩
        have m0 := Int.fmod_nonneg_of_pos (bl ^ Int.toNat 5) (b := z) (by omega)
        exact ⟨_, _, _, _, rfl, by omega, rfl⟩
    · rintro σ H' ⟨fnd, v3, v4, v5, rfl, hf, rfl⟩
      refine ⟨_, rfl, ?_⟩
      refine k _ _ hf (D1.updo ndp.symm nwp.symm ncp.symm) fun b o e n => ?_
      have e1 := K1 b o e n
      rw [upd_ne (ne_of_none e1 hp)]
      exact e1
end
section
variable {P : Program} {w : World} {K : PySem.W.Frag} {mg : Str → Option Value} {base : Heap}
theorem sc_take : FnScope ["_law_draw", "_law_many", "_law_found"] ["_law_draw", "_law_many"] (defScope s_law_take) := ⟨rfl, rfl, rfl, by decide +kernel, rfl, by decide +kernel, by decide +kernel⟩
theorem dpAll_ints {K : PySem.W.Frag} {H : Hp} : ∀ ns : List Int, DpAll K H (ns.map V.int) (ns.map PyData.int)
  | [] => .nil
  | n :: ns => .cons (.int n) (dpAll_ints ns)
theorem shaped_lst (ns : List Int) : SeqAt.shaped (.list (ns.map PyData.int)) = true := PySem.W.ke_shaped_ints ns
theorem eqv_nil (ns : List Int) : PyData.eqv (.list (ns.map PyData.int)) (.list []) = ns.isEmpty := by
  cases ns <;> simp [PyData.eqv, PyData.eqvAll]
theorem ok_take {f fM : Addr} {fd fdM : FuncData} (F : FnP K "_law_take" s_law_take f fd) (FM : FnP K "_law_mixed" s_law_mixed fM fdM) (gM : mg "_law_mixed" = some (.ref fM)) (gI : mg "int" = none) : FnOk P w K mg base CX0 2 f fd ["_law_draw", "_law_many"] spTake := by
  have GM : FnOk P w K mg base CX0 1 fM fdM ["_law_draw"] spMixed := ok_mixed FM gI
  have bM : Binds K fdM ["_law_draw"] [] := FM.bindsN fun _ _ _ _ _ _ us hl => match us, hl with | [_], _ => rfl
  refine F.ok sc_take (fun vs H Q E h => ?_) (fun cdv A outer s H vs Q E hr h => ?_)
  · obtain ⟨t, H0, d, n, rfl, _⟩ := h
    rfl
  · obtain ⟨t, H0, d, n, rfl, hD, ht, n0, n1, k⟩ := h
    have hu := hu_of hr
    have nd := sc_take.nd
    obtain ⟨sm, w, c, ws, cs, rest, turn, h1, h2, h3, htu, D⟩ := hD
    refine ⟨_, PSs.nox (pss_cons (ps_if (pt_cmpR op_eq (pe_dget hu (pv 0) pe_str (fun _ _ => rfl)) pe_int (nomark _))
       (pss_one (ps_dput hu (pv 0) pe_str (pe_ifExp (pt_cmpR (op_neD hr.units) (pe_dget hu (pv 0) pe_str (fun _ _ => rfl)) (pe_lst pa_nil) (nomark _))
          (pe_bm PySem.F.plainAttrs_list PySem.F.slot_list_pop PySem.F.type_list_pop mt_popAt (pe_dget hu (pv 0) pe_str (fun _ _ => rfl)) (pa_cons pe_int pa_nil))
          (pe_call GM hr rfl gM FM.kp bM .nil pass0 (pa_cons (pv 0) pa_nil))) rfl)) pss_nil)
      (pss_cons (ps_set (i := 2) nd rfl (.inl rfl) (pe_op op_modN (pe_callTy call_int1 (by rfl) gI (by decide +kernel) (pa_cons (pe_dget hu (pv 0) pe_str (fun _ _ => rfl)) pa_nil)) (pv 1)))
      (pss_cons (ps_dput hu (pv 0) pe_str (pe_op op_fdivW (pe_dget hu (pv 0) pe_str (fun _ _ => rfl)) (pv 1)) rfl)
      (pss_one (ps_ret (pv 2)))))), ?_⟩
    -- what follows the if
    have fin : ∀ (ws : List Int) (rest turn : Int) (H1 : Hp), turn ≤ (t + 1 : Nat) → Same H0 H1 → DrD H1 d w c ws cs rest turn →
        tSeq (tAsg (tOp (rI (fun _ j => j ≠ 0) fun i j => .int (i.fmod j)) (tCB (fun xs H Q => (∃ i, xs = [.int i] ∧ Q (.int i) H) ∨ ∃ k, xs = [.bl k] ∧ Q (.int (if k then 1 else 0)) H) (tCons (tDGet (tVar 0) (tC (.str "rest"))) tNil)) (tVar 1)) (gName 2))
          (tSeq (sDPut (tVar 0) (tC (.str "rest")) (tOp (rI CDivW fun i j => .int (i / j)) (tDGet (tVar 0) (tC (.str "rest"))) (tVar 1))) (tRet (tVar 2))) { nx := fun _ H' => Q .non H', rt := Q } [some (.ref d), some (.int n), none] H1 := by
      intro ws rest turn H1 hle sm1 D1
      refine ⟨_, rfl, d, _, rfl, dget_rest D1.hd, .inl ⟨_, rfl, _, rfl, _, _, rfl, rfl, by omega, ?_⟩⟩
      have r0 := D1.rn
      have q0 : 0 ≤ rest / n := Int.ediv_nonneg r0 (by omega)
      refine ⟨_, rfl, d, _, rfl, dget_rest D1.hd, _, rfl, _, _, rfl, rfl, wide_div n0 (b := 60) (by omega) (by decide) (by decide), _, rfl, d, _, rfl, dput_rest _ D1.hd, _, rfl, ?_⟩
      refine k _ _ (Int.fmod_nonneg_of_pos _ n0) (Int.fmod_lt_of_pos _ n0) ⟨same_sub sm1 h1, w, c, ws, cs, _, turn, h1, h2, h3, hle, D1.setD q0 D1.tn⟩
    refine ⟨_, rfl, d, _, rfl, dget_rest D.hd, rfl, _, rfl, ?_⟩
    by_cases e : rest = 0
    · subst e
      refine iteT ?_
      refine ⟨_, rfl, d, _, rfl, dget_wide D.hd, Nat.zero_le _, fun p hp => ?_⟩
      have ndp : d ≠ p := ne_of_none D.hd hp
      have nwp : w ≠ p := ne_of_none D.hw hp
      have ncp : c ≠ p := ne_of_none D.hc hp
      have D2 := D.updo (o := .lst []) ndp.symm nwp.symm ncp.symm
      refine ⟨_, _, .lst (SqL.of D2.hw) (dpAll_ints ws), .lst (SqL.of upd_same) .nil, shaped_lst ws, shaped_lst [], _, rfl, ?_⟩
      rw [eqv_nil]
      have sm2 : Same H0 (upd H p (.lst [])) := same_sub sm (sm.free hp)
      generalize upd H p (.lst []) = H2 at D2 sm2
      cases ws with
      | nil =>
        refine iteF ?_
        refine ⟨_, rfl, ?_⟩
        refine ⟨d, w, c, [], cs, 0, turn, rfl, by have : t < 1099511627776 := ht; show turn < 1099511627776; omega, D2, fun m H3 m0 D3 k3 => ?_⟩
        refine ⟨_, rfl, d, _, rfl, dput_rest _ D3.hd, ?_⟩
        have sm3 : Same H0 H3 := fun b o e => k3 b o (sm2 b o e) (ne_of_none e h1)
        exact fin _ _ _ _ (by omega) (same_sub sm3 h1) (D3.setD m0 D3.tn)
      | cons m ws =>
        refine iteT ?_
        refine ⟨_, rfl, d, _, rfl, dget_wide D2.hd, .inl ⟨rfl, _, SqL.of D2.hw⟩, w, _, 0, 0, .int m, rfl, rfl, D2.hw, by decide, by decide, ?_, rfl, ?_⟩
        · simp [seqIndex?]
        · have nwd := D2.ne_dw
          refine ⟨_, rfl, d, _, rfl, dput_rest _ (by rw [upd_ne nwd]; exact D2.hd), ?_⟩
          have m0 := D2.wn m (List.mem_cons_self ..)
          have l0 := D2.wl
          rw [List.length_cons] at l0
          have D3 : DrD (upd H2 w (.lst (ws.map V.int))) d w c ws cs 0 turn := ⟨by rw [upd_ne nwd]; exact D2.hd, upd_same, by rw [upd_ne D2.wc.symm]; exact D2.hc, D2.wc, by omega, fun x hx => D2.wn x (List.mem_cons_of_mem _ hx), D2.cl, by decide, D2.tn⟩
          exact fin _ _ _ _ (by omega) (same_sub (same_sub sm2 h2) h1) (D3.setD m0 D3.tn)
    · have e2 : decide (V.int rest = V.int 0) = false := decide_eq_false fun z => e (by injection z)
      rw [e2]
      refine iteF ?_
      exact fin _ _ _ _ (by omega) sm D
end
theorem Same.seqT {K : PySem.W.Frag} {H H' : Hp} {a : Addr} {xs : List V} (e : Same H H') (h : SqT K H a xs) : SqT K H' a xs := by
  rcases h with (h | ⟨o, h⟩) | h
  · exact .inl (.inl (e _ _ h))
  · exact .inl (.inr ⟨o, e _ _ h⟩)
  · exact .inr h
theorem yesIf {σ : L2.St} {H : Hp} {A B : Hp → Prop} (h : A H) : tYes σ H (fun b H3 => if b = true then A H3 else B H3) := by
  show if true = true then A H else B H
  exact iteT h
section
variable {P : Program} {w : World} {K : PySem.W.Frag} {mg : Str → Option Value} {base : Heap}
theorem sc_pick : FnScope ["_law_draw", "_law_some"] ["_law_draw", "_law_some"] (defScope s_law_pick) := ⟨rfl, rfl, rfl, by decide +kernel, rfl, by decide +kernel, by decide +kernel⟩
theorem toNat_get {xs : List V} {k : Int} (h0 : 0 ≤ k) (h1 : k < (xs.length : Int)) : ∃ v, v ∈ xs ∧ xs[k.toNat]? = some v := by
  have h : k.toNat < xs.length := by omega
  exact ⟨xs[k.toNat], List.getElem_mem h, List.getElem?_eq_getElem h⟩
theorem atI_int {α : Type} {xs : List α} {k : Int} {v : α} (h0 : 0 ≤ k) (h : xs[k.toNat]? = some v) : atI xs k = some v := by
  have e : ((k.toNat : Nat) : Int) = k := by omega
  rw [← e]
  exact atI_nat h
theorem ok_pick {f fT : Addr} {fd fdT : FuncData} (F : FnP K "_law_pick" s_law_pick f fd) (gT : mg "_law_take" = some (.ref fT)) (kT : PySem.W.keepIn K (.ref fT) = true) (bT : Binds K fdT ["_law_draw", "_law_many"] []) (GT : FnOk P w K mg base CX0 2 fT fdT ["_law_draw", "_law_many"] spTake) (gL : mg "len" = none) :
    FnOk P w K mg base CX0 3 f fd ["_law_draw", "_law_some"] (spPick K) := by
  refine F.ok sc_pick (fun vs H Q E h => ?_) (fun cdv A outer s H vs Q E hr h => ?_)
  · obtain ⟨t, H0, d, x, xs, rfl, _⟩ := h
    rfl
  · obtain ⟨t, H0, d, x, xs, rfl, hD, ht, hx, l0, l1, k⟩ := h
    refine ⟨_, PSs.nox (pss_one (ps_ret (pe_ix ix_seq (pv 1) (pe_call GT hr rfl gT kT bT .nil pass0 (pa_cons (pv 0) (pa_cons (pe_callB call_len (by rfl) gL PySem.boot_len (pa_cons (pv 1) pa_nil)) pa_nil))) (fun _ _ => rfl)))), ?_⟩
    have hl : LenV K x H xs.length := by
      cases hx with
      | lst h => exact .inl ⟨_, hD.same.seq h, rfl⟩
      | tup h => exact .inr ⟨_, Same.seqT hD.same h, rfl⟩
      | str h =>
        rw [List.length_map]
        exact ⟨sl_of h, rfl⟩
    refine ⟨_, rfl, _, rfl, _, rfl, _, _, rfl, hl, ?_⟩
    refine ⟨t, H0, d, xs.length, rfl, hD, ht, by omega, by omega, fun i H' i0 i1 hD' => ?_⟩
    obtain ⟨v, hv, hg⟩ := toNat_get i0 i1
    have q := k v H' hv hD'
    cases hx with
    | lst h => exact .inl ⟨_, _, _, _, rfl, rfl, hD'.same.seq h, atI_int i0 hg, q⟩
    | tup h => exact .inr (.inl ⟨_, _, _, _, rfl, rfl, Same.seqT hD'.same h, atI_int i0 hg, q⟩)
    | @str z h =>
      rw [List.getElem?_map] at hg
      cases e : z.cps.toList[i.toNat]? with
      | none => rw [e] at hg; cases hg
      | some c =>
        rw [e] at hg
        cases (Option.some.inj hg)
        exact .inr (.inr ⟨_, _, _, rfl, rfl, sl_of h, atI_int i0 e, q⟩)
theorem sc_begun : FnScope ["_law_script", "_law_wide", "_law_cell"] ["_law_script"] (defScope s_law_begun) := ⟨rfl, rfl, rfl, by decide +kernel, rfl, by decide +kernel, by decide +kernel⟩
theorem ok_begun {f : Addr} {fd : FuncData} (F : FnP K "_law_begun" s_law_begun f fd) (gI : mg "int" = none) (gA : mg "abs" = none) : FnOk P w K mg base CX0 1 f fd ["_law_script"] (spBegun K) := by
  refine F.ok sc_begun (fun vs H Q E h => ?_) (fun cdv A outer s H vs Q E hr h => ?_)
  · obtain ⟨a, ns, rfl, _⟩ := h
    rfl
  · obtain ⟨a, ns, rfl, hS, hl, k⟩ := h
    have hu := hu_of hr
    have nd := sc_begun.nd
    refine ⟨_, PSs.nox (pss_cons (ps_setLc (i := 1) (own := [("_law_cell", 2)]) (g := gName 2) rfl nd rfl rfl (sw_true rfl rfl rfl (by decide +kernel)) (pi_list (pv 0)) (blkOk_by (own := [("_law_cell", 2)]) (N := ["_law_script", "_law_wide", "_law_cell"]) (sc := defScope s_law_begun) (by decide +kernel))
        (fun _ _ _ _ _ => pg_name (i := 2) nd rfl (Or.inl rfl))
        (fun _ _ _ _ _ => pts_one (pt_cmpR op_ge (pe_callB call_abs (by rfl) gA (by decide +kernel) (pa_cons (pv 2) pa_nil)) (pe_op op_pow pe_int pe_int) (nomark _)))
        (fun _ _ _ _ _ => pe_op op_sub (pe_callB call_abs (by rfl) gA (by decide +kernel) (pa_cons (pv 2) pa_nil)) (pe_op op_pow pe_int pe_int)))
      (pss_one (ps_ret (pe_disp (pps_cons pe_str (pv 1) (pps_cons pe_str
        (pe_lc (own := [("_law_cell", 2)]) (g := gName 2) rfl nd (pi_list (pv 0)) (blkOk_by (own := [("_law_cell", 2)]) (N := ["_law_script", "_law_wide", "_law_cell"]) (sc := defScope s_law_begun) (by decide +kernel))
          (fun _ _ _ _ _ => pg_name (i := 2) nd rfl (Or.inl rfl)) (fun _ _ _ _ _ => pts_nil)
          (fun _ _ _ _ _ => pe_op op_modN (pe_callTy call_int1 (by rfl) gI (by decide +kernel) (pa_cons (pe_callB call_abs (by rfl) gA (by decide +kernel) (pa_cons (pv 2) pa_nil)) pa_nil)) pe_int))
        (pps_cons pe_str pe_int (pps_cons pe_str pe_int pps_nil)))) (by rfl) (by rfl) (fun z => by cases z) (by decide))))), ?_⟩
    refine ⟨_, rfl, a, rfl, ⟨_, hS⟩, fun D hD => ?_⟩
    have sD : ∀ o, Same H (upd H D o) := fun o => same_new hD
    refine lc_list (K := K) (a := a) (xs := ns.map V.int) (fun i H' => ∃ acc : List Int, H' = upd H D (.lst (acc.map V.int)) ∧ acc.length ≤ i ∧ ∀ x ∈ acc, 0 ≤ x) ⟨[], rfl, Nat.le_refl _, by simp⟩ (fun i H' _ ⟨acc, e, _⟩ => by rw [e]; exact (sD _).seq hS) ?_ ?_
    · rintro i x H' hi ⟨acc, rfl, hal, ha⟩
      obtain ⟨z, hz, rfl⟩ := getI hi
      have hil : i < ns.length := (List.getElem?_eq_some_iff.mp hz).1
      refine ⟨rfl, ?_⟩
      refine ⟨_, rfl, _, rfl, _, _, rfl, rfl, ⟨by decide, by decide, by decide⟩, _, _, rfl, rfl, _, rfl, ?_⟩
      refine ite2 (fun c => ?_) (fun c => ?_)
      · have c1 := of_decide_eq_true c
        refine ⟨_, rfl, _, rfl, _, _, rfl, rfl, ⟨by decide, by decide, by decide⟩, _, _, rfl, rfl, _, upd_same, ?_, acc ++ [(if z < 0 then -z else z) - 10 ^ Int.toNat 18], ?_, ?_, ?_⟩
        · rw [List.length_map]
          exact Nat.lt_of_lt_of_le (show acc.length < 64 by omega) (by decide)
        · rw [upd_upd, List.map_append]
          rfl
        · rw [List.length_append]
          exact Nat.succ_le_succ hal
        · intro x hx
          rcases List.mem_append.mp hx with h | h
          · exact ha x h
          · rw [List.mem_singleton.mp h]
            omega
      · exact ⟨acc, rfl, by omega, ha⟩
    · rintro H' ⟨ws, rfl, hwl, hw⟩
      rw [List.length_map] at hwl
      intro p hp
      have npD : p ≠ D := fun z => by rw [z, upd_same] at hp; cases hp
      have s1 : Same H (upd (upd H D (.lst (ws.map V.int))) p (.dK [])) := (sD _).trans (same_new hp)
      refine ⟨_, rfl, ?_⟩
      refine ⟨_, rfl, a, rfl, ⟨_, s1.seq hS⟩, fun D2 hD2 => ?_⟩
      have nDD : D ≠ D2 := fun z => by rw [← z, upd_ne npD.symm, upd_same] at hD2; cases hD2
      have npD2 : p ≠ D2 := fun z => by rw [← z, upd_same] at hD2; cases hD2
      refine lc_list (K := K) (a := a) (xs := ns.map V.int) (fun i H' => ∃ acc : List Int, H' = upd (upd (upd H D (.lst (ws.map V.int))) p (.dK [])) D2 (.lst (acc.map V.int)) ∧ acc.length ≤ i) ⟨[], rfl, Nat.le_refl _⟩ (fun i H' _ ⟨acc, e, _⟩ => by rw [e]; exact (s1.trans (same_new hD2)).seq hS) ?_ ?_
      · rintro i x H' hi ⟨acc, rfl, hal⟩
        obtain ⟨z, hz, rfl⟩ := getI hi
        have hil : i < ns.length := (List.getElem?_eq_some_iff.mp hz).1
        refine ⟨rfl, yesIf ?_⟩
        refine ⟨_, rfl, _, rfl, .inl ⟨_, rfl, _, _, rfl, rfl, (show (2147483629 : Int) ≠ 0 by decide), ?_⟩⟩
        refine ⟨_, upd_same, ?_, acc ++ [(if z < 0 then -z else z).fmod 2147483629], ?_, ?_⟩
        · rw [List.length_map]
          exact Nat.lt_of_lt_of_le (show acc.length < 64 by omega) (by decide)
        · rw [upd_upd, List.map_append]
          rfl
        · rw [List.length_append]
          exact Nat.succ_le_succ hal
      · rintro H' ⟨cs, rfl, hcl⟩
        rw [List.length_map] at hcl
        refine ⟨by rw [upd_ne npD2, upd_same], drK D D2 0 0, rfl, (show 4 ≤ 15 by decide), ?_⟩
        rw [dr_made]
        have hpn : H p = none := (sD _).free hp
        have hD2n : H D2 = none := s1.free hD2
        refine k _ p ⟨fun b o e => ?_, D, D2, ws, cs, 0, 0, hpn, hD, hD2n, Int.le_refl _, ⟨upd_same, ?_, ?_, nDD, by omega, hw, by omega, Int.le_refl _, Int.le_refl _⟩⟩ hpn
        · rw [upd_ne (ne_of_none e hpn), upd_ne (ne_of_none e hD2n), upd_ne (ne_of_none e hpn), upd_ne (ne_of_none e hD)]
          exact e
        · rw [upd_ne npD.symm, upd_ne nDD, upd_ne npD.symm, upd_same]
        · rw [upd_ne npD2.symm, upd_same]
end
/-! ## what k57 shares with k83 -/
/-- values that are no numbers -/
inductive OtV (H : Hp) : V → Prop where
  | non : OtV H .non
  | bl (b : Bool) : OtV H (.bl b)
  | str (z : Str) : OtV H (.str z)
  | lst {a : Addr} {xs : List V} (e : H a = some (.lst xs)) : OtV H (.ref a)
  | tup {a : Addr} {xs : List V} (e : H a = some (.tup xs)) : OtV H (.ref a)
  | dic {a : Addr} {kvs : List (Key × V)} (e : H a = some (.dK kvs)) : OtV H (.ref a)
theorem OtV.same {H H' : Hp} {v : V} (s : Same H H') (h : OtV H v) : OtV H' v := by
  cases h with
  | non => exact .non
  | bl b => exact .bl b
  | str z => exact .str z
  | lst e => exact .lst (s _ _ e)
  | tup e => exact .tup (s _ _ e)
  | dic e => exact .dic (s _ _ e)
structure NkF (K : PySem.W.Frag) (mg : Str → Option Value) : Prop where
  isi : mg "isinstance" = none
  int : mg "int" = none
  str : mg "str" = none
  len : mg "len" = none
  bool : mg "bool" = none
mutual
inductive Dt (G : Addr → Prop) (H : Hp) : V → PyData → Prop
  | non : Dt G H .non .none
  | bl (b : Bool) : Dt G H (.bl b) (.bool b)
  | int (i : Int) : Dt G H (.int i) (.int i)
  | str (x : Str) : Dt G H (.str x) (.str x)
  | lst {a : Addr} {xs : List V} {ds : List PyData} : G a → H a = some (.lst xs) → DtA G H xs ds → Dt G H (.ref a) (.list ds)
  | tup {a : Addr} {xs : List V} {ds : List PyData} : G a → H a = some (.tup xs) → DtA G H xs ds → Dt G H (.ref a) (.tuple ds)
  | dic {a : Addr} : G a → H a = some (.dK []) → Dt G H (.ref a) (.dict [])
inductive DtA (G : Addr → Prop) (H : Hp) : List V → List PyData → Prop
  | nil : DtA G H [] []
  | cons {v : V} {vs : List V} {d : PyData} {ds : List PyData} : Dt G H v d → DtA G H vs ds → DtA G H (v :: vs) (d :: ds)
end
mutual
theorem Dt.to {G G' : Addr → Prop} {H H' : Hp} (t : ∀ b o, G b → H b = some o → H' b = some o ∧ G' b) : ∀ {d : PyData} {v : V}, Dt G H v d → Dt G' H' v d
  | _, _, .non => .non
  | _, _, .bl b => .bl b
  | _, _, .int i => .int i
  | _, _, .str x => .str x
  | _, _, .lst g e h => .lst (t _ _ g e).2 (t _ _ g e).1 (DtA.to t h)
  | _, _, .tup g e h => .tup (t _ _ g e).2 (t _ _ g e).1 (DtA.to t h)
  | _, _, .dic g e => .dic (t _ _ g e).2 (t _ _ g e).1
theorem DtA.to {G G' : Addr → Prop} {H H' : Hp} (t : ∀ b o, G b → H b = some o → H' b = some o ∧ G' b) : ∀ {ds : List PyData} {vs : List V}, DtA G H vs ds → DtA G' H' vs ds
  | _, _, .nil => .nil
  | _, _, .cons h1 h2 => .cons (Dt.to t h1) (DtA.to t h2)
end
theorem Dt.same {G : Addr → Prop} {H H' : Hp} {d : PyData} {v : V} (h : Dt G H v d) (s : Same H H') : Dt G H' v d := h.to fun b o g e => ⟨s b o e, g⟩
theorem DtA.same {G : Addr → Prop} {H H' : Hp} {ds : List PyData} {vs : List V} (h : DtA G H vs ds) (s : Same H H') : DtA G H' vs ds := h.to fun b o g e => ⟨s b o e, g⟩
theorem DtA.app {G : Addr → Prop} {H : Hp} : ∀ {as bs : List V} {ds es : List PyData}, DtA G H as ds → DtA G H bs es → DtA G H (as ++ bs) (ds ++ es)
  | [], _, _, _, .nil, h => h
  | _ :: _, _, _, _, .cons h1 h2, h => .cons h1 (h2.app h)
theorem DtA.length {G : Addr → Prop} {H : Hp} : ∀ {vs : List V} {ds : List PyData}, DtA G H vs ds → vs.length = ds.length
  | _, _, .nil => rfl
  | _, _, .cons _ h => congrArg Nat.succ h.length
theorem Room.u101 {k : Nat} {A : Around} (r : Room k A) : A.units + 101 < cLine := by have := r.un; omega
theorem iteNe {a b : V} {A B : Prop} (e : a = b) (h : B) : if (!decide (a = b)) = true then A else B := by
  rw [decide_eq_true e]
  exact iteF h
theorem iteNt {a b : V} {A B : Prop} (e : a ≠ b) (h : A) : if (!decide (a = b)) = true then A else B := by
  rw [decide_eq_false e]
  exact iteT h
theorem iteN0 {A B : Prop} (h : A) : if (!false) = true then A else B := iteT h
abbrev anyA : Addr → Prop := fun _ => True
def numD : PyData → Bool
  | .int _ => true
  | _ => false
section
variable {K : PySem.W.Frag} {G : Addr → Prop} {H : Hp}
theorem dt_tup {d : PyData} {v : V} (h : Dt G H v d) : (∃ a xs ds, v = .ref a ∧ d = .tuple ds ∧ H a = some (.tup xs) ∧ DtA G H xs ds) ∨ ((∃ t, TyX K H v t ∧ PySem.W.kitOne K t (.type "tuple") = some false) ∧ ∀ ds, d ≠ .tuple ds) := by
  cases h with
  | non => exact .inr ⟨⟨_, .base .non, kit_ty (by decide +kernel)⟩, fun _ z => by cases z⟩
  | bl b => exact .inr ⟨⟨_, .base (.bl b), kit_ty (by decide +kernel)⟩, fun _ z => by cases z⟩
  | int i => exact .inr ⟨⟨_, .base (.int i), kit_ty (by decide +kernel)⟩, fun _ z => by cases z⟩
  | str z => exact .inr ⟨⟨_, .base (.str z), kit_ty (by decide +kernel)⟩, fun _ z => by cases z⟩
  | lst g e _ => exact .inr ⟨⟨_, .base (.lst e), kit_ty (by decide +kernel)⟩, fun _ z => by cases z⟩
  | tup g e t => exact .inl ⟨_, _, _, rfl, rfl, e, t⟩
  | dic g e => exact .inr ⟨⟨_, .base (.dK e), kit_ty (by decide +kernel)⟩, fun _ z => by cases z⟩
theorem dt_num {d : PyData} {v : V} (h : Dt G H v d) : (∃ i, v = .int i ∧ d = .int i) ∨ (OtV H v ∧ numD d = false) := by
  cases h with
  | non => exact .inr ⟨.non, rfl⟩
  | bl b => exact .inr ⟨.bl b, rfl⟩
  | int i => exact .inl ⟨i, rfl, rfl⟩
  | str z => exact .inr ⟨.str z, rfl⟩
  | lst g e _ => exact .inr ⟨.lst e, rfl⟩
  | tup g e t => exact .inr ⟨.tup e, rfl⟩
  | dic g e => exact .inr ⟨.dic e, rfl⟩
end
def spDa (g : PyData → Bool) : Sp := fun vs H Q _ => ∃ (x : V) (d : PyData), vs = [x] ∧ Dt anyA H x d ∧ ∀ H', Same H H' → Q (.bl (g d)) H'
def Cal (P : Program) (w : World) (K : PySem.W.Frag) (mg : Str → Option Value) (base : Heap) (k : Nat) (x : Str) (ps : List Str) (sp : Sp) : Prop :=
  ∃ (f : Addr) (fd : FuncData), mg x = some (.ref f) ∧ PySem.W.keepIn K (.ref f) = true ∧ Binds K fd ps [] ∧ FnOk P w K mg base CX0 k f fd ps sp
theorem take_snoc2 {α : Type} {l : List α} {i : Nat} {a : α} (h : l[i]? = some a) : l.take (i + 1) = l.take i ++ [a] := by
  rw [List.take_succ, h]
  rfl
theorem DtA.at {G : Addr → Prop} {H : Hp} : ∀ {vs : List V} {ds : List PyData} {i : Nat} {x : V}, DtA G H vs ds → vs[i]? = some x → ∃ d, ds[i]? = some d ∧ Dt G H x d
  | _, _, _, _, .nil, e => by simp at e
  | _, _, 0, _, .cons h _, e => by
    simp at e
    subst e
    exact ⟨_, rfl, h⟩
  | _, _, i + 1, _, .cons _ t, e => t.at (i := i) (by simpa using e)
/-! ## enumerate of a tuple -/
section
open PySem.Spec PyProof.Rows
theorem meets_enumerate_newB1 {v : Value} {o : Obj} {H : Heap → Prop} (B : Begins v o H) :
    Meets (Builtin.«enumerate.__new__» ⟨[.type "enumerate", v], []⟩) (fun _ R s => H s.heap ∧
      R (.ok (.ret (.ref (s.heap.push o).objs.size))) { s with heap := (s.heap.push o).push { cls := .type "enumerate", data := .fields #[.none, .bool false, .ref s.heap.objs.size, rawInt 0, .none, .none] } }) :=
  .of_wp fun prog w A R s h => by
    obtain ⟨hp, g, d, tk, os⟩ := s; obtain ⟨h1, h⟩ := h
    have hsub := sub_enumerate
    have q1 : ∀ {A' : Around} {E : Value → Shared → Prop} {Q : Value → Shared → Prop}, Q (.ref hp.objs.size) ⟨hp.push o, g, d, tk, os⟩ → wpAny (model prog w) A' (pyIter v) Q E ⟨hp, g, d, tk, os⟩ :=
      fun q => B.iter prog w _ _ ⟨hp, g, d, tk, os⟩ _ h1 q
    wp_walk using q1
    refine wpAny_stack_any fun st => wpAny_pure ?_
    split
    · rename_i c _ _ _ _ _
      cases (c == Value.type "enumerate")
      · wp_walk using q1
        exact ⟨_, rfl, h⟩
      · wp_walk using q1
        exact ⟨_, rfl, h⟩
    · wp_walk using q1
      exact ⟨_, rfl, h⟩
theorem enum_begins1 {prog : Program} {w : World} {A : Around} {E : Value → Shared → Prop} {s : Shared} {v : Value} {o : Obj} {H : Heap → Prop} {Q : Value → Shared → Prop} (B : Begins v o H) (h1 : H s.heap)
    (h : ∀ h', IsEnum h' (s.heap.objs.size + 1) s.heap.objs.size 0 .none → h'.get? s.heap.objs.size = some o → h'.objs.size = s.heap.objs.size + 2 →
      (∀ b o, s.heap.get? b = some o → h'.get? b = some o) → Q (.ref (s.heap.objs.size + 1)) { s with heap := h' }) :
    wpAny (model prog w) A (call (.type "enumerate") [v]) Q E s := by
  refine callType_new F.called_enumerate (by decide) (F.typeCall_enumerate_1 _) (F.newCall_enumerate_1 _) (fun obj => F.args_object_init_2 obj _) F.entry_enumerate_new
    (meets_enumerate_newB1 B) ⟨h1, ?_⟩
  have hz : (s.heap.push o).objs.size = s.heap.objs.size + 1 := Heap.size_push ..
  show _ ∧ _
  rw [hz]
  have he : IsEnum ((s.heap.push o).push { cls := .type "enumerate", data := .fields #[.none, .bool false, .ref s.heap.objs.size, rawInt 0, .none, .none] }) (s.heap.objs.size + 1) s.heap.objs.size 0 .none := by
    have := Heap.get?_push_size (s.heap.push o) (o := { cls := .type "enumerate", data := .fields #[.none, .bool false, .ref s.heap.objs.size, rawInt 0, .none, .none] }) rfl
    rw [hz] at this; exact this
  refine ⟨⟨_, he, rfl⟩, h _ he (Heap.get?_push_of_some _ (Heap.get?_push_size _ B.free)) (by rw [Heap.size_push, hz]) fun b o x => Heap.get?_push_of_some _ (Heap.get?_push_of_some _ x)⟩
def IteT (K : PySem.W.Frag) (a : Addr) : It :=
  ⟨fun i H => ∃ (xs : List V) (x : V), SqT K H a xs ∧ xs[i]? = some x, fun i H v H' => ∃ T x, v = .ref T ∧ H T = none ∧ H' = upd H T (.tup [.int (i : Nat), x]) ∧ ∀ xs, SqT K H a xs → xs[i]? = some x, fun i H => ∃ xs : List V, SqT K H a xs ∧ i = xs.length⟩
theorem turn_enumT {P : Program} {w : World} {K : PySem.W.Frag} {elts : List Expr} {kk : Nat} {tpos : Pos} (a e it : Addr) :
    Turn P w K (.Tuple elts kk tpos) (IteT K a) [e, it] e (fun i h => (∃ old, IsEnum h e it ((i : Nat) : Int) old) ∧ h.IsTupleIter it a i ∧ e ≠ it ∧ e ≠ a ∧ it ≠ a) where
  mem := by simp
  obj := fun i h st b hb => by
    obtain ⟨⟨old, he⟩, ⟨o, ho, hc, hd⟩, _⟩ := st
    have e' : b = e ∨ b = it := by simpa using hb
    rcases e' with z | z
    · rw [z]; exact ⟨_, he, fun v q => nomatch q⟩
    · rw [z]; exact ⟨o, ho, fun v q => by rw [hd] at q; cases q⟩
  keep := fun i h h' st k => let ⟨⟨old, he⟩, hi, hne⟩ := st; ⟨⟨old, k e (by simp) _ he⟩, hi.at fun o q => k it (by simp) o q, hne⟩
  item := by
    intro X hP hw hK hc i pins s σ H E I hf st hg
    subst hP hw hK
    obtain ⟨⟨old, he⟩, hit, hne, hea, hia⟩ := st
    obtain ⟨xs, x, hq, hx⟩ := hg
    obtain ⟨its, rv, p, hz⟩ := I.tuple hq
    obtain ⟨u, hu, ru⟩ := rv.get hx
    have hel : e < s.heap.objs.size := Heap.lt_size he
    have hil : it < s.heap.objs.size := by obtain ⟨_, q, _⟩ := hit; exact Heap.lt_size q
    have hlt : i < its.toArray.size := by
      have := (List.getElem?_eq_some_iff.mp hu).1
      simpa using this
    refine wpAny_pyNext_enum_itemD (Draws.tuple (by exact I.ok.hd hc) it a (Ne.symm hia) its.toArray) he ⟨hit, p⟩ hlt hne (by simp; exact ⟨hne, hea⟩) fun x2 h' tk y2 ho hit' hT hsz hk => ?_
    have e2 : x2 = u := by
      have : its.toArray[i]? = some u := by simpa using hu
      rw [this] at y2
      exact (Option.some.inj y2).symm
    subst e2
    refine ⟨_, rfl, wpAny_letOwnedTupleGo_enum (s := { s with heap := h', toks := tk + 1 }) ho fun h'' he' sb => ?_⟩
    have hT2 : h''.get? s.heap.objs.size = some { cls := .type "tuple", data := .seq #[.int i tk, x2] } := (sb.2 _ (Nat.ne_of_gt hel)).trans hT
    have new : ObjOk X.prog X.w (upd H s.heap.objs.size (.tup [.int (i : Nat), x])) h'' s.heap.objs.size (.tup [.int (i : Nat), x]) :=
      ⟨by show 2 ≤ sizeLine; decide, [.int i tk, x2], .cons ⟨_, rfl⟩ (.cons ru .nil), ⟨_, hT2, rfl, _, rfl⟩⟩
    have I1 : Inv X pins σ (upd H s.heap.objs.size (.tup [.int (i : Nat), x])) { s with heap := h'', toks := tk + 1 } :=
      I.turnedNew (ch := [e, it]) (fun b ob hb q => (sb.2 b (fun z => hb (by simp [z]))).trans (hk b ob (fun z => hb (by simp [z])) (fun z => hb (by simp [z])) q)) hf (Nat.le_refl _) new
    refine ⟨.ref s.heap.objs.size, _, I1, rfl, ⟨_, x, rfl, I.hok.fresh (Nat.le_refl _), rfl, fun ys hy => by rw [I.tuple_inj hy hq]; exact hx⟩, ⟨⟨x2, ?_⟩, hit'.1.at fun o q => (sb.2 it (Ne.symm hne)).trans q, hne, hea, hia⟩, fun b hb => ?_⟩
    · have e1 : ((i + 1 : Nat) : Int) = (i : Int) + 1 := by omega
      rw [e1]; exact he'
    · have hb' : b < s.heap.objs.size := by
        have e' : b = e ∨ b = it := by simpa using hb
        rcases e' with z | z
        · rw [z]; exact hel
        · rw [z]; exact hil
      rw [upd_ne (Nat.ne_of_lt hb')]
      exact (hf b hb).1
  done := by
    intro X hP hw hK hc i pins s σ H E I hf st hg
    subst hP hw hK
    obtain ⟨⟨old, he⟩, hit, hne, hea, hia⟩ := st
    obtain ⟨xs, hq, hx⟩ := hg
    obtain ⟨its, rv, p, hz⟩ := I.tuple hq
    obtain ⟨f0, f1, f2, f3, f4, f5⟩ := hf it (by simp)
    have hl := rv.length
    have e1 : i = its.toArray.size := by rw [List.size_toArray]; omega
    subst e1
    exact wpAny_pyNext_enum_endD (Draws.tuple (by exact I.ok.hd hc) it a (Ne.symm hia) its.toArray) he ⟨hit, p⟩ fun h' eb => ⟨rfl, I.turned (t' := s.toks) (fun b o hb q => eb b o hb q) f0 f1 f3 f4 f5⟩
  self := fun A i s Q E st h => let ⟨⟨_, he⟩, _⟩ := st; wpAny_pyIter_enum he h
def iEnumT (K : PySem.W.Frag) (ta : TA) : TI := fun σ H R => ta σ H fun vs H1 => ∃ a xs, vs = [.ref a] ∧ SqT K H1 a xs ∧ R (IteT K a) H1
theorem pi_enumT {X : Cx} {e : Expr} {ta : TA} {p pos tpos : Pos} {elts : List Expr} {kk : Nat} (hg : Gl X "enumerate") (hm : X.mg "enumerate" = none) (ha : PA X [e] ta) (hs : starEach [e] X.env = [(false, eval e X.env)] := by rfl) :
    PI X (.Tuple elts kk tpos) (.Call (.Name "enumerate" p) [e] [] pos) (iEnumT X.K ta) := by
  refine ⟨fun pins s σ H R I h => ?_⟩
  refine Call_ (ld_blt I hg hm boot_enumerate (PyProof.Rows.callWith_type1 (thn (ha.run pos pins s σ H _ I h) fun us s1 ⟨vs, H1, I1, r1, q1⟩ => ?_) hs rfl))
  obtain ⟨a, xs, ex, hq, q⟩ := q1
  subst ex
  cases r1 with
  | cons r rr =>
    cases rr
    cases r
    obtain ⟨its, rv, p', hz⟩ := I1.tuple hq
    obtain ⟨o2, ho2, _⟩ := id p'
    have la : a < s1.heap.objs.size := Heap.lt_size ho2
    refine enum_begins1 (begins_tuple a its.toArray) p' fun h' he hit hsz hk => wpAny_pyIter_enum he ?_
    have I2 : Inv X pins σ H1 { s1 with heap := h' } := I1.kept (t' := s1.toks) hk
    refine ⟨s1.heap.objs.size + 1, [s1.heap.objs.size + 1, s1.heap.objs.size], _, _, H1, rfl, I2, turn_enumT a (s1.heap.objs.size + 1) s1.heap.objs.size, ⟨⟨.none, he⟩, ⟨_, hit, rfl, rfl⟩, Nat.succ_ne_self _, Nat.ne_of_gt (Nat.lt_succ_of_lt la), Nat.ne_of_gt la⟩, fun b hb => ?_, q⟩
    have e' : b = s1.heap.objs.size + 1 ∨ b = s1.heap.objs.size := by simpa using hb
    have hle : s1.heap.objs.size ≤ b := by
      rcases e' with z | z
      · rw [z]; exact Nat.le_add_right _ _
      · rw [z]; exact Nat.le_refl _
    exact I1.fpOk hle (I1.hok.fresh hle)
theorem walk_enumT {K : PySem.W.Frag} {a : Addr} {xs : List V} : Walk (IteT K a) xs.length (fun H => SqT K H a xs) (YPair (fun i => some (.int (i : Nat))) (fun i => xs[i]?)) := by
  refine ⟨fun i _ hi q => ⟨xs, xs[i], q, by simp [hi]⟩, fun _ q => ⟨xs, q, rfl⟩, fun i H v H' _ q y => ?_⟩
  obtain ⟨T, x, h1, h2, h3, h4⟩ := y
  exact ⟨T, .int (i : Nat), x, h1, h2, h3, rfl, h4 xs q⟩
/-! ## two readings of one text -/
def iOr (a b : TI) : TI := fun σ H R => a σ H R ∨ b σ H R
theorem pi_or {X : Cx} {tg it : Expr} {a b : TI} (h1 : PI X tg it a) (h2 : PI X tg it b) : PI X tg it (iOr a b) :=
  ⟨fun pins s σ H R I h => h.elim (fun h => h1.run pins s σ H R I h) (fun h => h2.run pins s σ H R I h)⟩
end
def SeqH (H : Hp) (a : Addr) (xs : List V) : Prop := H a = some (.lst xs) ∨ H a = some (.tup xs)
theorem SeqH.same {H H' : Hp} {a : Addr} {xs : List V} (s : Same H H') : SeqH H a xs → SeqH H' a xs := Or.imp (s _ _) (s _ _)
section
variable {K : PySem.W.Frag} {σ : L2.St} {H : Hp} {a : Addr} {xs : List V} {R : It → Hp → Prop} {i : Nat}
theorem ior_enum (hσ : σ[i]? = some (some (.ref a))) (h : SeqH H a xs) (k : ∀ (J : It) (G : Hp → Prop), Walk J xs.length G (YPair (fun i => some (.int (i : Nat))) (fun i => xs[i]?)) → (∀ H', Same H H' → G H') → R J H) : iOr (iEnum K (tCons (tVar i) tNil)) (iEnumT K (tCons (tVar i) tNil)) σ H R := by
  rcases h with h | h
  · exact .inl ⟨_, hσ, a, xs, rfl, SqL.of h, k _ _ walk_enum fun H' s => SqL.of (s _ _ h)⟩
  · exact .inr ⟨_, hσ, a, xs, rfl, SqT.of h, k _ _ walk_enumT fun H' s => SqT.of (s _ _ h)⟩
theorem ior_seq (hσ : σ[i]? = some (some (.ref a))) (h : SeqH H a xs) (k : ∀ (J : It) (G : Hp → Prop), Walk J xs.length G (YAt xs) → (∀ H', Same H H' → G H') → R J H) : iOr (iList K (tVar i)) (iTup K (tVar i)) σ H R := by
  rcases h with h | h
  · exact .inl ⟨_, hσ, a, rfl, ⟨xs, SqL.of h⟩, k _ _ walk_list fun H' s => SqL.of (s _ _ h)⟩
  · exact .inr ⟨_, hσ, a, rfl, ⟨xs, SqT.of h⟩, k _ _ walk_tup fun H' s => SqT.of (s _ _ h)⟩
end
/-- no list and no tuple -/
inductive NsV (H : Hp) : V → Prop where
  | non : NsV H .non
  | bl (b : Bool) : NsV H (.bl b)
  | int (i : Int) : NsV H (.int i)
  | str (z : Str) : NsV H (.str z)
  | dic {a : Addr} {kvs : List (Key × V)} (e : H a = some (.dK kvs)) : NsV H (.ref a)
theorem NsV.ty {K : PySem.W.Frag} {H : Hp} {v : V} (h : NsV H v) : ∃ t, TyX K H v t ∧ PySem.W.kitOne K t (.type "list") = some false ∧ PySem.W.kitOne K t (.type "tuple") = some false := by
  cases h with
  | non => exact ⟨_, .base .non, kit_ty (by decide +kernel), kit_ty (by decide +kernel)⟩
  | bl b => exact ⟨_, .base (.bl b), kit_ty (by decide +kernel), kit_ty (by decide +kernel)⟩
  | int i => exact ⟨_, .base (.int i), kit_ty (by decide +kernel), kit_ty (by decide +kernel)⟩
  | str z => exact ⟨_, .base (.str z), kit_ty (by decide +kernel), kit_ty (by decide +kernel)⟩
  | dic e => exact ⟨_, .base (.dK e), kit_ty (by decide +kernel), kit_ty (by decide +kernel)⟩
theorem NsV.same {H H' : Hp} {v : V} (s : Same H H') (h : NsV H v) : NsV H' v := by
  cases h with
  | non => exact .non
  | bl b => exact .bl b
  | int i => exact .int i
  | str z => exact .str z
  | dic e => exact .dic (s _ _ e)
def atE (CI : Addr) (v : V) (H : Hp) (E : XK) : Prop := ∀ H' d, Same H H' → H' d = some (.xd [("at", v)]) → H d = none → E (.ref CI) (some d) H'
theorem atE.same {CI : Addr} {v : V} {H H1 : Hp} {E : XK} (s : Same H H1) (k : atE CI v H E) : atE CI v H1 E := fun H' d s' e n => k H' d (s.trans s') e (s.free n)
def CalX (P : Program) (w : World) (K : PySem.W.Frag) (mg : Str → Option Value) (base : Heap) (k : Nat) (x : Str) (ps : List Str) (sp : Sp) : Prop :=
  ∃ (f : Addr) (fd : FuncData), mg x = some (.ref f) ∧ PySem.W.keepIn K (.ref f) = true ∧ Binds K fd ps [] ∧ FnOk P w K mg base (L2.CX P w) k f fd ps sp
section
variable {P : Program} {w : World} {K : PySem.W.Frag} {mg : Str → Option Value} {base : Heap}
structure PlnX (K : PySem.W.Frag) (mg : Str → Option Value) (x : Str) (C : Addr) : Prop where
  g : mg x = some (.ref C)
  x : PySem.W.excIn K C He.veBase "ValueError.__new__" = true
  o : OexC K C
/-- an own __init__ of one parameter -/
def spI1 (C : Addr) (a : Str) : Sp := fun vs H Q _ => ∃ (e : Addr) (l : V), vs = [.ref e, l] ∧ H e = some (exo e C none) ∧ ∀ dx, H dx = none → Q .non (upd (upd H dx (exd dx [(a, l)])) e (exo e C (some dx)))
theorem raise_i1 {C : Addr} {a : Str} {H : Hp} {l : V} {Q : XK} (k : ∀ H' d, Same H H' → H' d = some (.xd [(a, l)]) → H d = none → Q (.ref C) (some d) H') :
    ([l] : List V).length ≤ 1000 ∧ ∀ e, H e = none → spI1 C a (.ref e :: ([l] ++ [])) (upd H e (exo e C none)) (fun v H2 => v = .non ∧ ∃ (d : Addr) (fs : List (Str × V)), H2 e = some (exo e C (some d)) ∧ H2 d = some (exd d fs) ∧ H d = none ∧ Q (.ref C) (some d) (upd (del H2 e) d (.xd fs))) (fun _ _ _ => False) := by
  refine ⟨by show 1 ≤ 1000; decide, fun e he => ⟨e, l, rfl, upd_same, fun dx hd => ?_⟩⟩
  have hne : dx ≠ e := fun z => by rw [z, upd_same] at hd; cases hd
  have hd0 : H dx = none := by rw [upd_ne hne] at hd; exact hd
  refine ⟨rfl, dx, _, upd_same, by rw [upd_ne hne, upd_same], hd0, k _ _ (fun b o q => ?_) upd_same hd0⟩
  have n1 : b ≠ dx := ne_of_none q hd0
  have n2 : b ≠ e := ne_of_none q he
  rw [upd_ne n1, del_ne n2, upd_ne n2, upd_ne n1, upd_ne n2]
  exact q
structure Ix1 (P : Program) (w : World) (K : PySem.W.Frag) (mg : Str → Option Value) (base : Heap) (x : Str) (C : Addr) (a : Str) : Prop where
  g : mg x = some (.ref C)
  o : OexC K C
  i : ∃ (f : Addr) (fd : FuncData), PySem.W.findIn K (.ref C) "__init__" = some (some (.ref f)) ∧ PySem.W.typeIn K (.ref f) = some (.type "function") ∧ FnOk P w K mg base CX0 1 f fd ["self", a] (spI1 C a) ∧ Binds K fd ["self", a] []
theorem sc_BadPairs : ScopeS ["self", "at"] (defScope s_BadPairs___init__) := ⟨rfl, rfl, rfl, by decide +kernel, by decide +kernel, by decide +kernel, rfl, rfl⟩
theorem ok_BadPairs {f cc cda C : Addr} {fd : FuncData} (F : SupF P K mg C f cc cda "BadPairs.__init__" (defArgs s_BadPairs___init__) (defBody s_BadPairs___init__) (defScope s_BadPairs___init__) fd) (T : OexC K C) (n1 : PySem.W.findIn K (.ref C) "at" = some none) :
    FnOk P w K mg base CX0 1 f fd ["self", "at"] (spI1 C "at") := by
  refine fn_super F T sc_BadPairs ⟨fun _ _ _ _ => rfl, fun _ _ _ _ => rfl, ⟨_, fun _ _ _ _ => rfl⟩⟩ rfl rfl (fun vs H Q E h => ?_) (fun vs H Q E h => ?_) (fun A outer s H vs Q E h => ?_)
  · obtain ⟨e, l, rfl, _⟩ := h
    rfl
  · obtain ⟨e, l, rfl, he, _⟩ := h
    exact ⟨e, _, rfl, he⟩
  · obtain ⟨e, l, rfl, he, k⟩ := h
    refine ⟨_, PSs.nox (pss_one (ps_ost (pv 0) (pv 1))), ?_⟩
    exact ⟨_, rfl, _, rfl, e, C, rfl, T, n1, .inl ⟨he, fun dx hd _ => k dx hd⟩⟩
end
/-! ## sorted(xs, key=f): f a def of the program that only makes objects, its answers tuples of two ints -/
namespace SkF
open PySem PySem.Spec PySem.Calls PyProof.Rows PySem.W L2
theorem run1 {X : Cx} {pins : List (Addr × Obj)} {σ : L2.St} {H : Hp} {s : Shared} {k : Nat} {f : Addr} {fd : FuncData} {a : Str} {sp : Sp} {A : Around} {u : Value} {v : V} {Q : VK} {E : XK} (F : FnOk X.prog X.w X.K X.mg X.base CX0 k f fd [a] sp) (hb : L2.Binds X.K fd [a] []) (I : Inv X pins σ H s) (hA : A.frames = X.A.frames) (hr : Room k A) (r : RelV v u) (h : sp [v] H Q E) :
    wpAny (model X.prog X.w) A (call (.ref f) [u]) (fun z s' => CE X.stack X.prog X.w H s Q z s') (fun _ _ => False) s := by
  have e0 : Env0 X.prog X.w X.K X.mg X.base A X.stack s H := by
    have e := I.env0
    exact ⟨by rw [hA]; exact e.frames, e.mod, e.bs, e.bsz, e.funs, e.frf, e.hok, e.bare⟩
  refine wpAny_call (codeAny_mono (F.run A X.stack s H ⟨[u], []⟩ [u] [v] Q E hr e0 (by have := hb s [u] I.kIn rfl; simpa using this) (.cons r .nil) h) fun r s' hq => ?_)
  cases r with
  | error e => exact False.elim hq
  | ok fl =>
    cases fl with
    | ret z => exact hq
    | next => exact False.elim hq
    | brk => exact False.elim hq
    | cont => exact False.elim hq
def kd (k : Int × Int) : PyData := .tuple [.int k.1, .int k.2]
def KeyAt (H : Hp) (v : Value) (k : Int × Int) : Prop := ∃ p, v = .ref p ∧ H p = some (.tup [.int k.1, .int k.2])
theorem each_mono {α β : Type} {R R' : α → β → Prop} (h : ∀ a b, R a b → R' a b) : ∀ {l : List α} {m : List β}, EachIs R l m → EachIs R' l m
  | _, _, .nil => .nil
  | _, _, .cons a b => .cons (h _ _ a) (each_mono h b)
theorem each_snoc {α β : Type} {R : α → β → Prop} {a : α} {b : β} (h : R a b) : ∀ {l : List α} {m : List β}, EachIs R l m → EachIs R (l ++ [a]) (m ++ [b])
  | _, _, .nil => .cons h .nil
  | _, _, .cons x y => .cons x (each_snoc h y)
theorem each_map {α β γ : Type} {R : α → γ → Prop} {f : β → γ} : ∀ {l : List α} {m : List β}, EachIs (fun a b => R a (f b)) l m → EachIs R l (m.map f)
  | _, _, .nil => .nil
  | _, _, .cons x y => .cons x (each_map y)
section
variable {X : Cx} {pins : List (Addr × Obj)} {σ : L2.St} {H : Hp} {A : Around} {f a kS : Addr} {e1 : Nat} {vs : List Value} {kz : List (Int × Int)} {P : PySem.Fin → Shared → Prop} {Ex : Value → Shared → Prop} {s : Shared}
theorem fp_un {H' : Hp} {h h' : Heap} {o : Obj} (I : Inv X pins σ H s) (fk : FpOk X pins H kS) (un : Un (frs X.stack) [] H H' s.heap h') (e : s.heap.get? kS = some o) : FpOk X pins H' kS ∧ h'.get? kS = some o := by
  obtain ⟨n, hL, nf, h1, h2, h3⟩ := fk
  have nst : kS ∉ frs X.stack := fun z => (List.mem_cons.mp (I.stkSub kS z)).elim hL nf
  exact ⟨⟨un.free _ _ e n (fun z => nomatch z), hL, nf, h1, h2, h3⟩, un.keep _ _ e n nst (fun z => nomatch z)⟩
theorem rest (I : Inv X pins σ H s) (nk : s.heap.get? kS = some (seqObj "list" #[] 0)) (na : s.heap.get? a = some (seqObj "list" #[] e1)) (fk : FpOk X pins H kS) (fa : FpOk X pins H a) (hka : kS ≠ a) (hlen : kz.length = vs.length) (hZ : vs.length ≤ sizeLine) (hu : A.units + 2 < cLine)
    (turn : ∀ (i : Nat) (v : Value) (k : Int × Int), vs[i]? = some v → kz[i]? = some k → ∀ (s' : Shared) (H' : Hp), Inv X pins σ H' s' → Same H H' →
      wpAny (model X.prog X.w) A (call (.ref f) [v]) (fun z s'' => CE X.stack X.prog X.w H' s' (fun y H'' => Same H' H'' ∧ ∃ p, y = .ref p ∧ H'' p = some (.tup [.int k.1, .int k.2])) z s'') (fun _ _ => False) s')
    (h : ∀ (H' : Hp) (s' : Shared) (out : List Value) (c : Nat), Inv X pins σ H' s' → Same H H' → FpOk X pins H' a → s'.heap.get? a = some (seqObj "list" out.toArray c) → KeyedOut false (kz.map kd) vs out → P (.done (.ret .none)) s') :
    wpAny (model X.prog X.w) A (ksk_rest a (.ref f) false vs.toArray e1 (.ref kS)) P Ex s := by
  unfold ksk_rest
  refine wpAny_bind (wpAny_rule ?_)
  first
    | rw [List.forIn_toArray]
    | (rw [← Array.forIn_toList]; simp only [List.toList_toArray])
    | rw [← Array.forIn_toList]
  refine wpAny_bind (ksk_fold (fun i s' => ∃ (H' : Hp) (kA : Array Value) (e : Nat), Inv X pins σ H' s' ∧ Same H H' ∧ s'.heap.get? kS = some (seqObj "list" kA e) ∧ s'.heap.get? a = some (seqObj "list" #[] e1) ∧ FpOk X pins H' kS ∧ FpOk X pins H' a ∧ EachIs (KeyAt H') kA.toList (kz.take i)) vs 0 s
    ⟨H, #[], 0, I, Same.refl _, nk, na, fk, fa, by rw [List.take_zero]; exact EachIs.nil⟩ ?step ?done)
  case step =>
    rintro j x s' hx ⟨H', kA, e, I', S', nk', na', fk', fa', hk⟩
    simp only [Nat.zero_add] at hk ⊢
    have hj : j < vs.length := (List.getElem?_eq_some_iff.mp hx).1
    obtain ⟨k, hkj⟩ : ∃ k, kz[j]? = some k := ⟨_, List.getElem?_eq_getElem (by omega)⟩
    have hz : kA.size ≤ vs.length := by
      have h1 := hk.length
      rw [Array.length_toList, List.length_take] at h1
      omega
    refine wpAny_bind (wpAny_attempt (wpAny_mono (turn j x k hx hkj s' H' I' S') (fun v s'' he => ?_) fun _ _ hF => hF.elim))
    obtain ⟨y, H2, eos, bare, un, hok, ry, S2, p, rfl, hp⟩ := he
    have I2 := I'.call' (ch := []) eos un hok bare (fun b z => nomatch z)
    obtain ⟨fk2, nk2⟩ := fp_un (h := s'.heap) I' fk' un nk'
    obtain ⟨fa2, na2⟩ := fp_un (h := s'.heap) I' fa' un na'
    cases (show v = Value.ref p from ry)
    try dsimp only
    have s1 := Heap.SameBut.update s''.heap kS (Obj.mapSeq (·.push (Value.ref p)))
    obtain ⟨c2, hc2⟩ : ∃ c2, (s''.heap.update kS (Obj.mapSeq (·.push (Value.ref p)))).get? kS = some (seqObj "list" (kA.push (Value.ref p)) c2) := ⟨_, get?_update_seq nk2 (·.push (Value.ref p))⟩
    have ek : kz.take (j + 1) = kz.take j ++ [k] := by rw [List.take_add_one, hkj]; simp
    have ea : (kA.push (Value.ref p)).toList = kA.toList ++ [Value.ref p] := by simp
    refine wpAny_bind (listUpdate_at nk2 rfl ?_ (Nat.le_trans hz hZ) (Nat.le_trans (Nat.le_of_eq (Array.size_push ..)) (Nat.succ_le_succ (Nat.le_trans hz hZ))))
    obtain ⟨n0, hL, nf, g1, g2, g3⟩ := id fk2
    have I3 := I2.turned (h' := s''.heap.update kS (Obj.mapSeq (·.push (Value.ref p)))) (t' := s''.toks) (it := kS) (fun b o hb q => (s1.2 b hb).trans q) n0 hL g1 g2 g3
    refine wpAny_pure ⟨rfl, H2, kA.push (Value.ref p), c2, I3, S'.trans S2, hc2, (s1.2 a hka.symm).trans na2, fk2, fa2, ?_⟩
    rw [ea, ek]
    exact each_snoc ⟨p, rfl, hp⟩ (each_mono (fun v k ⟨q, e1, e2⟩ => ⟨q, e1, S2 _ _ e2⟩) hk)
  case done =>
    rintro s' ⟨H', kA, e, I', S', nk', na', fk', fa', hk⟩
    have e3 : kz.take (0 + vs.length) = kz := List.take_of_length_le (by omega)
    rw [e3] at hk
    have hk' : EachIs (fun v d => ∃ as, Reads s'.heap v d as) kA.toList (kz.map kd) := each_map (each_mono (fun v k ⟨q, e1, e2⟩ => by
      subst e1
      have d : Dp X.K H' (V.ref q) (kd k) := .tup (SqT.of e2) (.cons (.int _) (.cons (.int _) .nil))
      exact Dp.reads I' (kd k) _ _ d rfl) hk)
    have hsz : kA.size = vs.length := by
      have h1 := hk.length
      rw [Array.length_toList] at h1
      omega
    have hal : AllAlike (kz.map kd) := fun d hd d' hd' => by
      obtain ⟨k, _, rfl⟩ := List.mem_map.mp hd
      obtain ⟨k', _, rfl⟩ := List.mem_map.mp hd'
      rfl
    have hsk : Sortable (kz.map kd) := .inl fun d hd => by
      obtain ⟨k, _, rfl⟩ := List.mem_map.mp hd
      exact ⟨_, _, rfl⟩
    have hdep : ∀ d, d ∈ kz.map kd → A.units + d.depth < cLine := fun d hd => by
      obtain ⟨k, _, rfl⟩ := List.mem_map.mp hd
      have : (kd k).depth ≤ 2 := by simp [kd, PyData.depth, PyData.depthAll]
      omega
    obtain ⟨G, gy, gn⟩ := restrict s'.heap fun b => decide (b ≠ kS)
    have kp : KeepsBut a G s'.heap := fun b o hb q => by
      by_cases c : b = kS
      · rw [gn b (by simpa using c)] at q
        cases q
      · rw [gy b (by simpa using c)] at q
        exact q
    refine wpAny_bind (listItems_at nk' rfl ?_)
    refine keyH_end (κ := dataKind s'.heap (kz.map kd)) (h₁ := G) kp (gn kS (by simp)) nk' na' hka (SortsAt.data (s := s') hk' hal hsk hdep) hsz hZ fun h3 tk3 c k3 n3 => ?_
    have I4 := I'.turnedL (h' := h3) (t' := tk3) (ch := [a, kS]) (fun b o hb q => k3 b o (fun z => hb (by simp [z])) (by rw [gy b (by simp; exact fun z => hb (by simp [z]))]; exact q)) (fun b hb => by
      rcases List.mem_cons.mp hb with rfl | hb
      · exact fa'
      · rw [List.mem_singleton.mp hb]; exact fk')
    exact h H' _ _ c I4 S' fa' n3 ⟨s'.heap, kA.toList, hal, rfl, hk'⟩
end
end SkF
/-! ## texts as lists of codes -/
def sT (t : List Nat) : Str := ⟨t.toArray⟩
theorem sT_len (t : List Nat) : (sT t).length = t.length := by show t.toArray.size = t.length; simp
theorem sT_cps (t : List Nat) : (sT t).cps.toList = t := by show t.toArray.toList = t; simp
theorem sT_of (z : Str) : sT z.cps.toList = z := by cases z; simp [sT]
theorem sT_inj {a b : List Nat} (h : sT a = sT b) : a = b := by rw [← sT_cps a, ← sT_cps b, h]
def chV (c : Nat) : V := .str ⟨#[c]⟩
theorem chV_sT (c : Nat) : chV c = .str (sT [c]) := rfl
theorem cut_nat (t : List Nat) (a b : Nat) : cutS (sT t) (some (a : Int)) (some (b : Int)) = sT ((t.drop a).take (b - a)) := by
  unfold cutS
  rw [sT_len, sT_cps, HT.sIx_nat, HT.sIx_nat]
  unfold sT
  congr 2
  apply List.ext_getElem?
  intro i
  simp only [List.getElem?_take, List.getElem?_drop]
  by_cases h : a ≤ t.length
  · rw [Nat.min_eq_left h]
    by_cases h2 : b ≤ t.length
    · rw [Nat.min_eq_left h2]
    · rw [Nat.min_eq_right (by omega)]
      by_cases h3 : i < t.length - a
      · rw [if_pos h3, if_pos (by omega)]
      · rw [if_neg h3]
        by_cases h4 : i < b - a
        · rw [if_pos h4, List.getElem?_eq_none (by omega)]
        · rw [if_neg h4]
  · rw [Nat.min_eq_right (show t.length ≤ a by omega), if_neg (by omega)]
    by_cases h4 : i < b - a
    · rw [if_pos h4, List.getElem?_eq_none (by omega)]
    · rw [if_neg h4]
theorem cut_from (t : List Nat) (a : Nat) : cutS (sT t) (some (a : Int)) none = sT (t.drop a) := by
  unfold cutS
  rw [sT_len, sT_cps, HT.sIx_nat, HT.sIx_none]
  unfold sT
  congr 2
  apply List.ext_getElem?
  intro i
  simp only [List.getElem?_take, List.getElem?_drop]
  by_cases h : a ≤ t.length
  · rw [Nat.min_eq_left h]
    by_cases h3 : i < t.length - a
    · rw [if_pos h3]
    · rw [if_neg h3, List.getElem?_eq_none (by omega)]
  · rw [Nat.min_eq_right (by omega), if_neg (by omega), List.getElem?_eq_none (by omega)]
theorem cut_to (t : List Nat) (b : Nat) : cutS (sT t) none (some (b : Int)) = sT (t.take b) := by
  have h := cut_nat t 0 b
  rw [List.drop_zero, Nat.sub_zero] at h
  rw [← h]
  unfold cutS
  rw [HT.sIx_none]
  rfl
def isSmall (c : Nat) : Bool := decide (97 ≤ c) && decide (c ≤ 122)
def isBig (c : Nat) : Bool := decide (65 ≤ c) && decide (c ≤ 90)
def isFig (c : Nat) : Bool := decide (48 ≤ c) && decide (c ≤ 57)
def isInner (c : Nat) : Bool := isSmall c || isBig c || isFig c || decide (c = 95)
def isGood (c : Nat) : Bool := decide (c = 10) || (decide (32 ≤ c) && decide (c ≤ 126) && !decide (c = 37))
theorem cps_small : ("abcdefghijklmnopqrstuvwxyz" : Str).cps.toList = [97, 98, 99, 100, 101, 102, 103, 104, 105, 106, 107, 108, 109, 110, 111, 112, 113, 114, 115, 116, 117, 118, 119, 120, 121, 122] := by decide +kernel
theorem cps_fig : ("0123456789" : Str).cps.toList = [48, 49, 50, 51, 52, 53, 54, 55, 56, 57] := by decide +kernel
theorem cps_inner : ("abcdefghijklmnopqrstuvwxyzABCDEFGHIJKLMNOPQRSTUVWXYZ0123456789_" : Str).cps.toList = [97, 98, 99, 100, 101, 102, 103, 104, 105, 106, 107, 108, 109, 110, 111, 112, 113, 114, 115, 116, 117, 118, 119, 120, 121, 122, 65, 66, 67, 68, 69, 70, 71, 72, 73, 74, 75, 76, 77, 78, 79, 80, 81, 82, 83, 84, 85, 86, 87, 88, 89, 90, 48, 49, 50, 51, 52, 53, 54, 55, 56, 57, 95] := by decide +kernel
theorem cps_blank : (" \n" : Str).cps.toList = [32, 10] := by decide +kernel
theorem mem_small (c : Nat) : decide (c ∈ ("abcdefghijklmnopqrstuvwxyz" : Str).cps.toList) = isSmall c := by
  rw [cps_small]
  unfold isSmall
  rw [← Bool.decide_and]
  apply decide_eq_decide.mpr
  simp only [List.mem_cons, List.not_mem_nil, or_false]
  omega
theorem mem_fig (c : Nat) : decide (c ∈ ("0123456789" : Str).cps.toList) = isFig c := by
  rw [cps_fig]
  unfold isFig
  rw [← Bool.decide_and]
  apply decide_eq_decide.mpr
  simp only [List.mem_cons, List.not_mem_nil, or_false]
  omega
theorem mem_inner (c : Nat) : decide (c ∈ ("abcdefghijklmnopqrstuvwxyzABCDEFGHIJKLMNOPQRSTUVWXYZ0123456789_" : Str).cps.toList) = isInner c := by
  rw [cps_inner]
  unfold isInner isSmall isBig isFig
  rw [← Bool.decide_and, ← Bool.decide_and, ← Bool.decide_and, ← Bool.decide_or, ← Bool.decide_or, ← Bool.decide_or]
  apply decide_eq_decide.mpr
  simp only [List.mem_cons, List.not_mem_nil, or_false]
  omega
theorem mem_blank (c : Nat) : decide (c ∈ (" \n" : Str).cps.toList) = (decide (c = 32) || decide (c = 10)) := by
  rw [cps_blank, ← Bool.decide_or]
  apply decide_eq_decide.mpr
  simp only [List.mem_cons, List.not_mem_nil, or_false]
/-- c between two signs, as the law says it -/
theorem le_sign (a c : Nat) : (!decide ([c] < [a])) = decide (a ≤ c) := by
  rw [← decide_not]
  apply decide_eq_decide.mpr
  rw [List.cons_lt_cons_iff]
  simp
/-! the longest word that begins a rest -/
def isLong : List Nat → Bool
  | [] => false
  | c :: r => isInner c || (decide (c = 45) && (match r with | [] => false | d :: _ => isFig d))
theorem isLong_cons (c : Nat) (r : List Nat) : isLong (c :: r) = (isInner c || (decide (c = 45) && (match r with | [] => false | d :: _ => isFig d))) := rfl
def wl (t : List Nat) : Nat := if isLong t = true then 1 + ((t.drop 1).takeWhile isInner).length else if t.take 2 = [60, 61] ∨ t.take 2 = [61, 61] then 2 else 1
theorem take_prefix_tw (p : Nat → Bool) : ∀ t : List Nat, (t.takeWhile p).length ≤ t.length
  | [] => Nat.le_refl _
  | c :: r => by
    unfold List.takeWhile
    split
    · exact Nat.succ_le_succ (take_prefix_tw p r)
    · exact Nat.zero_le _
theorem wl_pos (t : List Nat) : 1 ≤ wl t := by unfold wl; split <;> try split <;> omega
                                               all_goals omega
theorem wl_le {t : List Nat} (h : t ≠ []) : wl t ≤ t.length := by
  obtain ⟨c, r, rfl⟩ := List.exists_cons_of_ne_nil h
  unfold wl
  split
  · have := take_prefix_tw isInner r
    simp only [List.drop_one, List.tail_cons, List.length_cons]
    omega
  · split
    · rename_i q
      have : ((c :: r).take 2).length = 2 := by rcases q with q | q <;> rw [q] <;> rfl
      rw [List.length_take] at this
      omega
    · simp
theorem tw_take (p : Nat → Bool) : ∀ t : List Nat, (t.take (t.takeWhile p).length).takeWhile p = t.takeWhile p
  | [] => rfl
  | c :: r => by
    by_cases h : p c = true
    · have e : (c :: r).takeWhile p = c :: r.takeWhile p := by simp [List.takeWhile, h]
      rw [e, List.length_cons, List.take_succ_cons]
      simp only [List.takeWhile, h]
      rw [tw_take p r]
    · have e : (c :: r).takeWhile p = [] := by simp [List.takeWhile, h]
      rw [e]
      rfl
theorem wl_take {t : List Nat} (h : t ≠ []) : wl (t.take (wl t)) = wl t := by
  obtain ⟨c, r, rfl⟩ := List.exists_cons_of_ne_nil h
  by_cases hl : isLong (c :: r) = true
  · have e : wl (c :: r) = 1 + (r.takeWhile isInner).length := by unfold wl; rw [if_pos hl]; rfl
    rw [e, Nat.add_comm, List.take_succ_cons]
    have hl2 : isLong (c :: r.take (r.takeWhile isInner).length) = true := by
      rw [isLong_cons] at hl ⊢
      cases hi : isInner c with
      | true => rfl
      | false =>
        rw [hi, Bool.false_or] at hl
        rw [Bool.false_or]
        cases r with
        | nil => simpa using hl
        | cons d q =>
          simp only [Bool.and_eq_true] at hl
          have hd : isInner d = true := by unfold isInner; rw [hl.2]; simp
          simp only [List.takeWhile, hd, List.length_cons, List.take_succ_cons, Bool.and_eq_true]
          exact hl
    unfold wl
    rw [if_pos hl2]
    simp only [List.drop_one, List.tail_cons]
    rw [tw_take, Nat.add_comm]
  · have hlf : isLong (c :: r) = false := by simpa using hl
    by_cases q : (c :: r).take 2 = [60, 61] ∨ (c :: r).take 2 = [61, 61]
    · have e : wl (c :: r) = 2 := by unfold wl; rw [if_neg hl, if_pos q]
      rw [e]
      rcases q with q | q <;> rw [q] <;> rfl
    · have e : wl (c :: r) = 1 := by unfold wl; rw [if_neg hl, if_neg q]
      rw [e]
      have h1 : ([c] : List Nat).take 2 ≠ [60, 61] ∧ ([c] : List Nat).take 2 ≠ [61, 61] := ⟨by simp, by simp⟩
      show wl [c] = 1
      unfold wl
      split
      · rfl
      · rw [if_neg (by simp)]
/-- a text's words with their places -/
def cutF : Nat → List Nat → Nat → Nat → List (List Nat × Nat × Nat)
  | 0, _, _, _ => []
  | _ + 1, [], _, _ => []
  | n + 1, c :: r, l, k => if c = 10 then cutF n r (l + 1) 1 else if c = 32 then cutF n r l (k + 1) else ((c :: r).take (wl (c :: r)), l, k) :: cutF n ((c :: r).drop (wl (c :: r))) l (k + wl (c :: r))
abbrev cutT (t : List Nat) : List (List Nat × Nat × Nat) := cutF t.length t 1 1
theorem cutF_nil (n l k : Nat) : cutF n [] l k = [] := by cases n <;> rfl
theorem cutF_mem {n : Nat} : ∀ {t : List Nat} {l k : Nat} {x : List Nat × Nat × Nat}, x ∈ cutF n t l k → (∀ c ∈ x.1, c ∈ t) ∧ x.1 ≠ [] ∧ x.1.length ≤ t.length ∧ cutT x.1 = [(x.1, 1, 1)] := by
  induction n with
  | zero => intro t l k x h; cases h
  | succ n ih =>
    intro t l k x h
    cases t with
    | nil => cases h
    | cons c r =>
      unfold cutF at h
      split at h
      · obtain ⟨h1, h2, h3, h4⟩ := ih h
        exact ⟨fun d hd => List.mem_cons_of_mem _ (h1 d hd), h2, by simp only [List.length_cons]; omega, h4⟩
      · split at h
        · obtain ⟨h1, h2, h3, h4⟩ := ih h
          exact ⟨fun d hd => List.mem_cons_of_mem _ (h1 d hd), h2, by simp only [List.length_cons]; omega, h4⟩
        · rename_i n1 n2
          rcases List.mem_cons.mp h with h | h
          · subst h
            have p1 := wl_pos (c :: r)
            have p2 := wl_le (t := c :: r) (by simp)
            have ht := wl_take (t := c :: r) (by simp)
            have e : (c :: r).take (wl (c :: r)) = c :: r.take (wl (c :: r) - 1) := by
              obtain ⟨m, hm⟩ : ∃ m, wl (c :: r) = m + 1 := ⟨wl (c :: r) - 1, by omega⟩
              rw [hm, List.take_succ_cons]; rfl
            refine ⟨fun d hd => List.mem_of_mem_take hd, by simp only [e]; simp, by simp only [List.length_take]; omega, ?_⟩
            have hlen : ((c :: r).take (wl (c :: r))).length = wl (c :: r) := by rw [List.length_take]; omega
            show cutF ((c :: r).take (wl (c :: r))).length _ 1 1 = _
            obtain ⟨m, hm⟩ : ∃ m, ((c :: r).take (wl (c :: r))).length = m + 1 := ⟨wl (c :: r) - 1, by omega⟩
            rw [hm]
            generalize hw : (c :: r).take (wl (c :: r)) = w at *
            rw [e]
            unfold cutF
            rw [if_neg n1, if_neg n2, ← e, ht, List.take_of_length_le (by omega), List.drop_of_length_le (by omega), cutF_nil]
          · obtain ⟨h1, h2, h3, h4⟩ := ih h
            refine ⟨fun d hd => List.mem_of_mem_drop (h1 d hd), h2, ?_, h4⟩
            rw [List.length_drop] at h3
            omega
theorem cutF_len {n : Nat} : ∀ {t : List Nat} {l k : Nat}, (cutF n t l k).length ≤ t.length := by
  induction n with
  | zero => intro t l k; exact Nat.zero_le _
  | succ n ih =>
    intro t l k
    cases t with
    | nil => exact Nat.zero_le _
    | cons c r =>
      unfold cutF
      split
      · exact Nat.le_succ_of_le ih
      · split
        · exact Nat.le_succ_of_le ih
        · have h := ih (t := (c :: r).drop (wl (c :: r))) (l := l) (k := k + wl (c :: r))
          rw [List.length_drop] at h
          have := wl_pos (c :: r)
          have := wl_le (t := c :: r) (by simp)
          simp only [List.length_cons] at *
          omega
/-! sorts -/
def keptV : List V := [V.str "and", V.str "at", V.str "choice", V.str "else", V.str "fail", V.str "false", V.str "function", V.str "if", V.str "let", V.str "long", V.str "make", V.str "match", V.str "new", V.str "not", V.str "number", V.str "of", V.str "or", V.str "over", V.str "put", V.str "rest", V.str "return", V.str "row", V.str "set", V.str "show", V.str "true", V.str "truth", V.str "try", V.str "unit", V.str "uses", V.str "while"]
def signsV : List V := [V.str "(", V.str ")", V.str "{", V.str "}", V.str ",", V.str ":", V.str "=", V.str "|", V.str "+", V.str "-", V.str "*", V.str "<", V.str "<=", V.str "=="]
def keptB (t : List Nat) : Bool := inV (.str (sT t)) keptV
def signB (t : List Nat) : Bool := inV (.str (sT t)) signsV
def nameB (t : List Nat) : Bool := decide (1 ≤ t.length) && decide (t.length ≤ 8) && !keptB t && t.all isSmall
def figsOf (t : List Nat) : List Nat := if t.take 1 = [45] then t.drop 1 else t
def numB (t : List Nat) : Bool := !decide (figsOf t = []) && (figsOf t).all isFig && (decide (t = [48]) || !decide ((figsOf t).take 1 = [48]))
def goodB (t : List Nat) : Bool := t.all isGood
def sortF (t : List Nat) : Str := if keptB t = true ∨ signB t = true then sT t else if numB t = true then "figures" else if nameB t = true then "name" else "strange"
theorem name_num {t : List Nat} (h : nameB t = true) : numB t = false := by
  unfold nameB at h
  simp only [Bool.and_eq_true, decide_eq_true_eq, List.all_eq_true] at h
  obtain ⟨⟨⟨h1, _⟩, _⟩, h2⟩ := h
  cases t with
  | nil => simp at h1
  | cons c r =>
    have hc := h2 c (List.mem_cons_self ..)
    unfold isSmall at hc
    simp only [Bool.and_eq_true, decide_eq_true_eq] at hc
    unfold numB figsOf
    rw [if_neg (by simp; omega)]
    have : isFig c = false := by unfold isFig; simp; omega
    simp [this]
/-! ## the program's functions of words -/
/-- a comprehension over a text's signs that keeps those of p -/
theorem lc_chars {t : List Nat} {g : TG} {tt : TT} {te : TE} {vs : List Nat} {σ : L2.St} {H1 : Hp} {D : Addr} {Qd : Hp → Prop} (p : Nat → Bool) (hl : t.length ≤ 100000) (hD : H1 D = none)
    (hs : ∀ (c : Nat) (H' : Hp) (A : VK) (B : Hp → Prop), c ∈ t → Same H1 H' → (p c = true → A (chV c) H') → (p c = false → B H') → g (chV c) (wipe σ vs) H' fun σ2 H2 => wipe σ2 vs = wipe σ vs ∧ tt σ2 H2 fun b H3 => if b = true then te σ2 H3 A else B H3)
    (hd : Qd (upd H1 D (.lst ((t.filter p).map chV)))) :
    ∃ W : Nat → Nat → Hp → Prop, (∃ m, W 0 m (upd H1 D (.lst []))) ∧ ∀ i m H, W i m H →
      ((Its (sT t)).stop i H ∧ Qd H) ∨ ((Its (sT t)).go i H ∧ ∃ Nx : Hp → Prop, (∀ H', Nx H' → ∃ m', m' < m ∧ W (i + 1) m' H') ∧ ∀ x H', (Its (sT t)).yld i H x H' → g x (wipe σ vs) H' fun σ2 H2 => wipe σ2 vs = wipe σ vs ∧ tt σ2 H2 fun b H3 =>
        if b = true then te σ2 H3 fun y H4 => ∃ acc, H4 D = some (.lst acc) ∧ acc.length < sizeLine ∧ Nx (upd H4 D (.lst (acc ++ [y]))) else Nx H3) := by
  refine lc_it walk_str (fun i H => H = upd H1 D (.lst (((t.take i).filter p).map chV))) rfl (fun _ _ _ _ => trivial) ?_ ?_
  · rintro i x H H' hi rfl ⟨rfl, c, hc, rfl⟩
    have hc2 : t[i]? = some c := by
      rw [← sT_cps t, Array.getElem?_toList]; exact hc
    have e : t.take (i + 1) = t.take i ++ [c] := by
      have hlt := (List.getElem?_eq_some_iff.mp hc2).1
      rw [List.take_succ, hc2]; rfl
    refine hs c _ _ _ (List.mem_of_getElem? hc2) (same_new hD) (fun h => ⟨_, upd_same, ?_, ?_⟩) (fun h => ?_)
    · rw [List.length_map]
      refine Nat.lt_of_lt_of_le (Nat.lt_succ_of_le (Nat.le_trans (List.length_filter_le _ _) (Nat.le_trans (List.length_take_le' _ _) hl))) (by decide)
    · rw [upd_upd, e, List.filter_append, List.map_append]
      simp [h]
    · rw [e, List.filter_append]
      simp [h]
  · rintro H rfl
    have e : t.take (sT t).cps.size = t := by
      have : (sT t).cps.size = t.length := sT_len t
      rw [this, List.take_length]
    rw [e]
    exact hd
theorem dpAll_strs {K : PySem.W.Frag} {H : Hp} : ∀ l : List Nat, DpAll K H (l.map chV) (l.map fun c => PyData.str ⟨#[c]⟩)
  | [] => .nil
  | c :: l => .cons (.str ⟨#[c]⟩) (dpAll_strs l)
/-- texts of plain signs, of any length that is in reach -/
def tx (t : List Nat) : Prop := t.length ≤ 100000 ∧ ∀ c ∈ t, c < 128
theorem tx_sub {t u : List Nat} (h : tx t) (hl : u.length ≤ t.length) (hm : ∀ c ∈ u, c ∈ t) : tx u := ⟨Nat.le_trans hl h.1, fun c hc => h.2 c (hm c hc)⟩
theorem tx_take {t : List Nat} (h : tx t) (n : Nat) : tx (t.take n) := tx_sub h (List.length_take_le' _ _) fun c hc => List.mem_of_mem_take hc
theorem tx_drop {t : List Nat} (h : tx t) (n : Nat) : tx (t.drop n) := tx_sub h (by rw [List.length_drop]; omega) fun c hc => List.mem_of_mem_drop hc
theorem strOk_tx {t : List Nat} (h : ∀ c ∈ t, c < 128) : PyData.strOk (sT t) = true := by
  unfold PyData.strOk
  show (t.toArray).all _ = true
  rw [List.all_toArray, List.all_eq_true]
  intro c hc
  have := h c hc
  exact decide_eq_true (by omega)
theorem shaped_strs (l : List Nat) (h : ∀ c ∈ l, c < 128) : SeqAt.shaped (.list (l.map fun c => PyData.str ⟨#[c]⟩)) = true := by
  have h1 : PyData.canLayAll0 (l.map fun c => PyData.str ⟨#[c]⟩) = true := by
    induction l with
    | nil => rfl
    | cons c l ih =>
      show (PyData.strOk (sT [c]) && PyData.canLayAll0 (l.map fun c => PyData.str ⟨#[c]⟩)) = true
      rw [ih fun d hd => h d (List.mem_cons_of_mem _ hd), strOk_tx fun d hd => by rw [List.mem_singleton.mp hd]; exact h c (List.mem_cons_self ..)]
      rfl
  have h2 : PyData.depthAll (l.map fun c => PyData.str ⟨#[c]⟩) = 0 := by
    clear h h1
    induction l with
    | nil => rfl
    | cons c l ih => simp [PyData.depthAll, PyData.depth, ih]
  simp [SeqAt.shaped, PyData.canLay0, PyData.depth, h1, h2]
theorem eqv_nilS (l : List Nat) : PyData.eqv (.list (l.map fun c => PyData.str ⟨#[c]⟩)) (.list []) = l.isEmpty := by
  cases l <;> simp [PyData.eqv, PyData.eqvAll]
abbrev Wd := List Nat × Nat × Nat
def wordD (x : Wd) : PyData := .tuple [.str (sT x.1), .int (x.2.1 : Int), .int (x.2.2 : Int)]
def wordV (x : Wd) : List V := [.str (sT x.1), .int (x.2.1 : Int), .int (x.2.2 : Int)]
theorem eqv_word (x y : Wd) : PyData.eqv (wordD x) (wordD y) = decide (x = y) := by
  obtain ⟨a, l, k⟩ := x
  obtain ⟨b, m, n⟩ := y
  simp only [wordD, PyData.eqv, PyData.eqvAll, Bool.and_true]
  rw [Bool.eq_iff_iff]
  simp only [Bool.and_eq_true, beq_iff_eq, decide_eq_true_eq, Prod.mk.injEq]
  constructor
  · rintro ⟨h1, h2, h3⟩
    exact ⟨sT_inj h1, by omega, by omega⟩
  · rintro ⟨h1, h2, h3⟩
    exact ⟨by rw [h1], by omega, by omega⟩
theorem eqv_words : ∀ xs ys : List Wd, PyData.eqvAll (xs.map wordD) (ys.map wordD) = decide (xs = ys)
  | [], [] => by simp [PyData.eqvAll]
  | [], _ :: _ => by simp [PyData.eqvAll]
  | _ :: _, [] => by simp [PyData.eqvAll]
  | x :: xs, y :: ys => by
    simp only [List.map_cons, PyData.eqvAll, eqv_words xs ys, eqv_word]
    by_cases h : x = y <;> by_cases h' : xs = ys <;> simp [h, h']
def txw (xs : List Wd) : Prop := ∀ x ∈ xs, tx x.1
theorem shaped_words (xs : List Wd) (h : txw xs) : SeqAt.shaped (.list (xs.map wordD)) = true := by
  have h1 : PyData.canLayAll0 (xs.map wordD) = true := by
    induction xs with
    | nil => rfl
    | cons x l ih =>
      show ((PyData.strOk (sT x.1) && true) && PyData.canLayAll0 (l.map wordD)) = true
      rw [ih fun d hd => h d (List.mem_cons_of_mem _ hd), strOk_tx (h x (List.mem_cons_self ..)).2]
      rfl
  have h2 : PyData.depthAll (xs.map wordD) ≤ 1 := by
    clear h h1
    induction xs with
    | nil => exact Nat.zero_le _
    | cons x l ih => simp [PyData.depthAll, PyData.depth, wordD, ih]
  simp [SeqAt.shaped, PyData.canLay0, PyData.depth, h1]
  omega
/-- the words' list at a -/
def WordsAt (H : Hp) (a : Addr) (xs : List Wd) : Prop := ∃ ps : List Addr, H a = some (.lst (ps.map V.ref)) ∧ ps.length = xs.length ∧ ∀ (i : Nat) (p : Addr) (x : Wd), ps[i]? = some p → xs[i]? = some x → H p = some (.tup (wordV x))
theorem WordsAt.same {H H' : Hp} {a : Addr} {xs : List Wd} (s : Same H H') (h : WordsAt H a xs) : WordsAt H' a xs := by
  obtain ⟨ps, h1, h2, h3⟩ := h
  exact ⟨ps, s _ _ h1, h2, fun i p x e1 e2 => s _ _ (h3 i p x e1 e2)⟩
theorem dp_word {K : PySem.W.Frag} {H : Hp} {p : Addr} {x : Wd} (h : H p = some (.tup (wordV x))) : Dp K H (.ref p) (wordD x) :=
  .tup (SqT.of h) (.cons (.str _) (.cons (.int _) (.cons (.int _) .nil)))
theorem dp_wordsAll {K : PySem.W.Frag} {H : Hp} : ∀ {ps : List Addr} {xs : List Wd}, ps.length = xs.length → (∀ (i : Nat) (p : Addr) (x : Wd), ps[i]? = some p → xs[i]? = some x → H p = some (.tup (wordV x))) → DpAll K H (ps.map V.ref) (xs.map wordD)
  | [], [], _, _ => .nil
  | [], _ :: _, e, _ => by simp at e
  | _ :: _, [], e, _ => by simp at e
  | p :: ps, x :: xs, e, h => .cons (dp_word (h 0 p x rfl rfl)) (dp_wordsAll (Nat.succ.inj e) fun i p x e1 e2 => h (i + 1) p x e1 e2)
theorem WordsAt.dp {K : PySem.W.Frag} {H : Hp} {a : Addr} {xs : List Wd} (h : WordsAt H a xs) : Dp K H (.ref a) (.list (xs.map wordD)) := by
  obtain ⟨ps, h1, h2, h3⟩ := h
  exact .lst (SqL.of h1) (dp_wordsAll h2 h3)
/-- .. all of it new -/
def WordsNew (H H' : Hp) (a : Addr) (xs : List Wd) : Prop := ∃ ps : List Addr, (H' a = some (.lst (ps.map V.ref)) ∧ H a = none) ∧ ps.length = xs.length ∧ ∀ (i : Nat) (p : Addr) (x : Wd), ps[i]? = some p → xs[i]? = some x → H' p = some (.tup (wordV x)) ∧ H p = none
theorem WordsNew.at {H H' : Hp} {a : Addr} {xs : List Wd} (h : WordsNew H H' a xs) : WordsAt H' a xs := by
  obtain ⟨ps, h1, h2, h3⟩ := h
  exact ⟨ps, h1.1, h2, fun i p x e1 e2 => (h3 i p x e1 e2).1⟩
/-- what is seen, with all that is new -/
def seen (H0 H H' : Hp) : Hp := fun b => match H b with | none => H' b | some _ => H0 b
theorem seen_vs {H0 H H' : Hp} (s : Same H0 H) (s2 : Same H H') : Vs H0 H (seen H0 H H') H' := by
  refine ⟨fun b o e => ?_, fun b o e => ?_, fun b o e => ?_⟩
  · unfold seen; rw [s _ _ e]; exact e
  · unfold seen at e
    cases h : H b with
    | none => rw [h] at e; exact e
    | some u => rw [h] at e; exact s2 _ _ (s _ _ e)
  · unfold seen at e
    cases h : H b with
    | none => exact .inr rfl
    | some u => rw [h] at e; exact .inl e
theorem seen_new {H0 H H' : Hp} {b : Addr} (h : H b = none) : seen H0 H H' b = H' b := by unfold seen; rw [h]
theorem WordsNew.seen {H0 H H' : Hp} {a : Addr} {xs : List Wd} (h : WordsNew H H' a xs) : WordsAt (seen H0 H H') a xs := by
  obtain ⟨ps, h1, h2, h3⟩ := h
  exact ⟨ps, by rw [seen_new h1.2]; exact h1.1, h2, fun i p x e1 e2 => by rw [seen_new (h3 i p x e1 e2).2]; exact (h3 i p x e1 e2).1⟩
theorem WordsNew.same {H H' H'' : Hp} {a : Addr} {xs : List Wd} (h : WordsNew H H' a xs) (s : Same H' H'') : WordsNew H H'' a xs := by
  obtain ⟨ps, h1, h2, h3⟩ := h
  exact ⟨ps, ⟨s _ _ h1.1, h1.2⟩, h2, fun i p x e1 e2 => ⟨s _ _ (h3 i p x e1 e2).1, (h3 i p x e1 e2).2⟩⟩
/-! promises -/
def NotStr (K : PySem.W.Frag) (H : Hp) (x : V) : Prop := ∃ t, TyX K H x t ∧ PySem.W.kitOne K t (.type "str") = some false
def spTx (g : List Nat → V) : Sp := fun vs H Q _ => ∃ t, vs = [.str (sT t)] ∧ tx t ∧ ∀ H', Same H H' → Q (g t) H'
def spTxO (K : PySem.W.Frag) (g : List Nat → Bool) : Sp := fun vs H Q _ => ∃ x, vs = [x] ∧ ((∃ t, x = .str (sT t) ∧ tx t ∧ ∀ H', Same H H' → Q (.bl (g t)) H') ∨ (NotStr K H x ∧ ∀ H', Same H H' → Q (.bl false) H'))
def spSize : Sp := fun vs H Q _ => ∃ (t : List Nat) (i : Nat), vs = [.str (sT t), .int (i : Int)] ∧ tx t ∧ i < t.length ∧ ∀ H', Same H H' → Q (.int (wl (t.drop i) : Nat)) H'
def spCut : Sp := fun vs H Q _ => ∃ t, vs = [.str (sT t)] ∧ tx t ∧ ∀ H' a, Same H H' → WordsNew H H' a (cutT t) → Q (.ref a) H'
abbrev sSmall : Str := "abcdefghijklmnopqrstuvwxyz"
abbrev sFigs : Str := "0123456789"
abbrev sInner : Str := "abcdefghijklmnopqrstuvwxyzABCDEFGHIJKLMNOPQRSTUVWXYZ0123456789_"
/-- the module's constants -/
structure GkF (K : PySem.W.Frag) (mg : Str → Option Value) : Prop where
  kept : ∃ a, mg "KEPT" = some (.ref a) ∧ ∀ H, SqT K H a keptV
  small : ∃ t, mg "SMALL" = some (.str "abcdefghijklmnopqrstuvwxyz" t)
  isi : mg "isinstance" = none
  str : mg "str" = none
  len : mg "len" = none
section
variable {P : Program} {w : World} {K : PySem.W.Frag} {mg : Str → Option Value} {base : Heap}
theorem flat_kept : keptV.all flatV = true := rfl
theorem flat_signs : signsV.all flatV = true := rfl
theorem kit_str_str : PySem.W.kitOne K (.type "str") (.type "str") = some true := kit_ty (by decide +kernel)
theorem isEmpty_filter_not (p : Nat → Bool) (t : List Nat) : (t.filter fun c => !p c).isEmpty = t.all p := by
  induction t with
  | nil => rfl
  | cons c t ih => cases h : p c <;> simp [h, List.filter_cons, ih]
end
section
variable {P : Program} {w : World} {K : PySem.W.Frag} {mg : Str → Option Value} {base : Heap}
theorem str_eq (a : List Nat) (z : Str) : decide (V.str (sT a) = V.str z) = decide (a = z.cps.toList) := by
  apply decide_eq_decide.mpr
  constructor
  · intro h
    injection h with h
    rw [← h, sT_cps]
  · rintro rfl
    rw [sT_of]
theorem Str_beq (a : List Nat) (z : Str) : (z == sT a) = decide (a = z.cps.toList) := by
  rw [Bool.eq_iff_iff, beq_iff_eq, decide_eq_true_eq]
  constructor
  · rintro rfl
    rw [sT_cps]
  · rintro rfl
    rw [sT_of]
/-- .. == [], .. != [] of a text's signs -/
theorem empty_end {K : PySem.W.Frag} {H : Hp} {D : Addr} {t : List Nat} {p : Nat → Bool} (ht : tx t) (hD : H D = none) {Q : VK} (k : ∀ H', Same H H' → Q (.bl (t.all p)) H') :
    ([] : List V).length ≤ sizeLine ∧ ∀ q, (upd H D (.lst ((t.filter fun c => !p c).map chV))) q = none → rEqD K (.ref D) (.ref q) (upd (upd H D (.lst ((t.filter fun c => !p c).map chV))) q (.lst [])) Q := by
  refine ⟨sl_of (by decide), fun q hq => ⟨_, _, .lst (SqL.of ((same_new hq) _ _ upd_same)) (dpAll_strs _), .lst (SqL.of upd_same) .nil, shaped_strs _ (fun c hc => ht.2 c (List.mem_filter.mp hc).1), rfl, ?_⟩⟩
  rw [eqv_nilS, isEmpty_filter_not]
  exact k _ ((same_new hD).trans (same_new hq))
theorem empty_endN {K : PySem.W.Frag} {H : Hp} {D : Addr} {t : List Nat} {p : Nat → Bool} (ht : tx t) (hD : H D = none) {Q : VK} (k : ∀ H', Same H H' → Q (.bl (!t.all p)) H') :
    ([] : List V).length ≤ sizeLine ∧ ∀ q, (upd H D (.lst ((t.filter fun c => !p c).map chV))) q = none → rNeD K (.ref D) (.ref q) (upd (upd H D (.lst ((t.filter fun c => !p c).map chV))) q (.lst [])) Q := by
  refine ⟨sl_of (by decide), fun q hq => ⟨_, _, .lst (SqL.of ((same_new hq) _ _ upd_same)) (dpAll_strs _), .lst (SqL.of upd_same) .nil, shaped_strs _ (fun c hc => ht.2 c (List.mem_filter.mp hc).1), rfl, ?_⟩⟩
  rw [eqv_nilS, isEmpty_filter_not]
  exact k _ ((same_new hD).trans (same_new hq))
theorem cps_minus : ("-" : Str).cps.toList = [45] := by decide +kernel
theorem cps_empty : ("" : Str).cps.toList = [] := by decide +kernel
theorem cps_0 : ("0" : Str).cps.toList = [48] := by decide +kernel
theorem figs_sub (t : List Nat) : (figsOf t).length ≤ t.length ∧ ∀ c ∈ figsOf t, c ∈ t := by
  unfold figsOf
  split
  · exact ⟨by rw [List.length_drop]; omega, fun c hc => List.mem_of_mem_drop hc⟩
  · exact ⟨Nat.le_refl _, fun c hc => hc⟩
theorem tx_figs {t : List Nat} (h : tx t) : tx (figsOf t) := tx_sub h (figs_sub t).1 (figs_sub t).2
end
/-! ## places by their text -/
def sortQ (c : Nat) (fs : List Nat) : Option Nat :=
  if fs = [] then none else if ¬ (c = 118 ∨ c = 114 ∨ c = 115) then none
  else if 4 < fs.length ∨ fs.all isFig = false then none
  else if fs.take 1 = [48] ∧ ¬ fs = [48] then none
  else if NumText.digitsVal fs ≤ (if c = 118 then 9999 else if c = 114 then 8 else 999) then some c else none
def sortP : List Nat → Option Nat
  | [] => none
  | c :: fs => sortQ c fs
def sortV (t : List Nat) : V := match sortP t with | none => .non | some c => .str (sT [c])
def spSort (K : PySem.W.Frag) : Sp := fun vs H Q _ => ∃ x, vs = [x] ∧ ((∃ t, x = .str (sT t) ∧ tx t ∧ ∀ H', Same H H' → Q (sortV t) H') ∨ (NotStr K H x ∧ ∀ H', Same H H' → Q .non H'))
structure PlF (mg : Str → Option Value) : Prop where
  mn : ∃ t, mg "MOST_NUMBER" = some (.int 9999 t)
  mr : ∃ t, mg "MOST_REGISTER" = some (.int 8 t)
  ms : ∃ t, mg "MOST_SLOT" = some (.int 999 t)
section
variable {P : Program} {w : World} {K : PySem.W.Frag} {mg : Str → Option Value} {base : Heap}
theorem two_of {t : List Nat} (h : ¬ t.length < 2) : ∃ c fs, t = c :: fs ∧ ¬ fs = [] := by
  match t, h with
  | [], h => exact absurd (by decide) h
  | [c], h => exact absurd (Nat.lt_succ_self 1) h
  | c :: d :: r, _ => exact ⟨c, d :: r, rfl, fun z => by cases z⟩
theorem sort_short {t : List Nat} (h : t.length < 2) : sortP t = none := by
  match t, h with
  | [], _ => rfl
  | [c], _ => rfl
theorem mem_vrs (c : Nat) : decide (c ∈ ("vrs" : Str).cps.toList) = decide (c = 118 ∨ c = 114 ∨ c = 115) := by
  rw [show ("vrs" : Str).cps.toList = [118, 114, 115] by decide +kernel]
  simp
def mostK : List (Key × V) := [(Sum.inr "v", .int 9999), (Sum.inr "r", .int 8), (Sum.inr "s", .int 999)]
theorem most_at {c : Nat} (h : c = 118 ∨ c = 114 ∨ c = 115) : valV (mergeK [] mostK) (Sum.inr (sT [c])) = some (.int (((if c = 118 then 9999 else if c = 114 then 8 else 999 : Nat)) : Int)) := by
  rcases h with rfl | rfl | rfl <;> decide +kernel
theorem sc_sort : FnScope ["thing", "figures", "sign", "most"] ["thing"] (defScope s_sort_of_place) := ⟨rfl, rfl, rfl, by decide +kernel, rfl, by decide +kernel, by decide +kernel⟩
theorem ok_sort {CX : CXT} {f : Addr} {fd : FuncData} (F : FnP K "sort_of_place" s_sort_of_place f fd) (G : NkF K mg) (C : PlF mg) : FnOk P w K mg base CX 1 f fd ["thing"] (spSort K) := by
  obtain ⟨t1, g1⟩ := C.mn
  obtain ⟨t2, g2⟩ := C.mr
  obtain ⟨t3, g3⟩ := C.ms
  refine F.ok sc_sort (fun vs H Q E h => ?_) (fun cdv A outer s H vs Q E hr h => ?_)
  · obtain ⟨x, rfl, _⟩ := h
    rfl
  · obtain ⟨x, rfl, h⟩ := h
    have hu := hu_of hr
    have nd := sc_sort.nd
    apply Exists.intro
    apply And.intro
    case left =>
     apply PSs.nox
     apply pss_cons
     · exact ps_if (PW.pt (pw_or (pt_not (pt_val (pe_callB call_isi (by rfl) G.isi (by decide +kernel) (pa_cons (pv 0) (pa_cons (pe_bltn (v := .ty "str") (by rfl) G.str (by decide +kernel) rfl) pa_nil)))))
         (pw_or (pt_cmpR op_lt (pe_callB call_len_str (by rfl) G.len PySem.boot_len (pa_cons (pv 0) pa_nil)) pe_int (nomark _)) (pw_or1 (pt_cmpR op_notIn_sign (pe_ix ix_str (pv 0) pe_int (fun _ _ => rfl)) pe_str (by rfl)))))) (pss_one (ps_ret pe_non)) pss_nil
     apply pss_cons
     · exact ps_set (i := 1) nd rfl (.inl rfl) (pe_slice sl_str (pv 0) (po_some pe_int) po_none)
     apply pss_cons
     · exact ps_if (PW.pt (pw_or (pt_cmpR op_gt (pe_callB call_len_str (by rfl) G.len PySem.boot_len (pa_cons (pv 1) pa_nil)) pe_int (nomark _)) (pw_or1 (pt_cmpR (op_neD hr.units) (pe_lc (own := [("sign", 2)]) (g := gName 2) rfl nd (pi_str (pv 1)) (blkOk_by (own := [("sign", 2)]) (N := ["thing", "figures", "sign", "most"]) (sc := defScope s_sort_of_place) (by decide +kernel))
          (fun _ _ _ _ _ => pg_name (i := 2) nd rfl (Or.inl rfl)) (fun _ _ _ _ _ => pts_one (pt_cmpR op_notIn_sign (pv 2) pe_str (by rfl))) (fun _ _ _ _ _ => pv 2)) (pe_lst pa_nil) (nomark _))))) (pss_one (ps_ret pe_non)) pss_nil
     apply C8.pss_cut
     · exact ps_if (PW.pt (pw_and (pt_cmpR op_eq (pe_ix ix_str (pv 1) pe_int (fun _ _ => rfl)) pe_str (nomark _)) (pw_and1 (pt_cmpR op_ne (pv 1) pe_str (nomark _))))) (pss_one (ps_ret pe_non)) pss_nil
     apply pss_cons
     · exact ps_set (i := 3) nd rfl (.inl rfl) (pe_dget hu (pe_disp (pps_cons pe_str (pe_glob (v := .int 9999) (by rfl) g1 ⟨_, rfl⟩) (pps_cons pe_str (pe_glob (v := .int 8) (by rfl) g2 ⟨_, rfl⟩) (pps_cons pe_str (pe_glob (v := .int 999) (by rfl) g3 ⟨_, rfl⟩) pps_nil))) rfl rfl (by decide) (by decide)) (pe_ix ix_str (pv 0) pe_int (fun _ _ => rfl)) (fun _ _ => rfl))
     apply pss_one
     exact ps_ret (pe_ifExp (pt_cmpR op_le (pe_callTy call_int_str (by rfl) G.int (by decide +kernel) (pa_cons (pv 1) pa_nil)) (pv 3) (nomark _)) (pe_ix ix_str (pv 0) pe_int (fun _ _ => rfl)) pe_non)
    case right =>
      rcases h with ⟨t, rfl, ht, k⟩ | ⟨⟨ty, h1, h2⟩, k⟩
      · refine ⟨_, rfl, _, _, _, _, true, rfl, .ty "str", .base (.str _), kit_str_str, true, rfl, iteF ?_⟩
        refine ⟨_, rfl, _, rfl, sl_of (by rw [sT_len]; exact ht.1), _, _, rfl, rfl, _, rfl, ?_⟩
        rw [sT_len]
        have kN : sortP t = none → ∀ H', Same H H' → Q .non H' := fun e H' s' => by
          have q : Q (sortV t) H' := k H' s'
          unfold sortV at q
          rw [e] at q
          exact q
        have kS : ∀ c, sortP t = some c → ∀ H', Same H H' → Q (.str (sT [c])) H' := fun c e H' s' => by
          have q : Q (sortV t) H' := k H' s'
          unfold sortV at q
          rw [e] at q
          exact q
        clear k
        by_cases c1 : t.length < 2
        · rw [decide_eq_true (show (t.length : Int) < 2 by omega)]
          exact iteT (iteT (kN (sort_short c1) _ (Same.refl _)))
        rw [decide_eq_false (show ¬ (t.length : Int) < 2 by omega)]
        obtain ⟨c, fs, rfl, hf⟩ := two_of c1
        have slt : (sT (c :: fs)).length ≤ sizeLine := sl_of (by rw [sT_len]; exact ht.1)
        have at0 : atI (sT (c :: fs)).cps.toList 0 = some c := by rw [sT_cps]; exact atI_nat (j := 0) rfl
        have hx : tx fs := tx_sub ht (by rw [List.length_cons]; omega) fun d hd => List.mem_cons_of_mem _ hd
        refine iteF ⟨_, rfl, _, _, c, rfl, rfl, slt, at0, _, _, rfl, rfl, _, rfl, ?_⟩
        rw [mem_vrs]
        by_cases c2 : c = 118 ∨ c = 114 ∨ c = 115
        · rw [decide_eq_true c2]
          refine iteF ⟨_, rfl, _, rfl, _, rfl, slt, ?_⟩
          have e2 : cutS (sT (c :: fs)) (some 1) none = sT fs := cut_from (c :: fs) 1
          rw [e2]
          have slf : (sT fs).length ≤ sizeLine := sl_of (by rw [sT_len]; exact hx.1)
          refine ⟨_, rfl, _, rfl, slf, _, _, rfl, rfl, _, rfl, ?_⟩
          rw [sT_len]
          by_cases c3 : 4 < fs.length
          · rw [decide_eq_true (show (4 : Int) < (fs.length : Int) by omega)]
            exact iteT (iteT (kN (by show sortQ c _ = _; unfold sortQ; rw [if_neg hf, if_neg (fun z => z c2), if_pos (.inl c3)]) _ (Same.refl _)))
          rw [decide_eq_false (show ¬ (4 : Int) < (fs.length : Int) by omega)]
          refine iteF ⟨_, rfl, _, rfl, fun D hD => lc_chars (fun c => !isFig c) hx.1 hD (fun c H' A B hc s h1 h2 => ⟨rfl, _, rfl, _, _, rfl, rfl, _, rfl, ?_⟩) (empty_endN hx hD fun H' s' => ⟨_, rfl, ?_⟩)⟩
          · rw [mem_fig]
            exact ite2 (fun e => ⟨_, rfl, h1 e⟩) (fun e => h2 (by simpa using e))
          · by_cases c4 : fs.all isFig = true
            · rw [c4]
              refine iteF ?_
              obtain ⟨f0, r, rfl⟩ := List.exists_cons_of_ne_nil hf
              have atf : atI (sT (f0 :: r)).cps.toList 0 = some f0 := by rw [sT_cps]; exact atI_nat (j := 0) rfl
              have base : ∀ {o}, (if (f0 :: r).take 1 = [48] ∧ ¬ (f0 :: r) = [48] then none else if NumText.digitsVal (f0 :: r) ≤ (if c = 118 then 9999 else if c = 114 then 8 else 999) then some c else none) = o → sortP (c :: f0 :: r) = o := fun {o} e => by
                show sortQ c _ = _
                unfold sortQ
                rw [if_neg hf, if_neg (fun z => z c2), if_neg (by rintro (z | z); exact c3 z; rw [c4] at z; cases z)]
                exact e
              refine ⟨fun σ H2 => H2 = H' ∧ ¬ ((f0 :: r).take 1 = [48] ∧ ¬ (f0 :: r) = [48]) ∧ ∃ v2, σ = [some (.str (sT (c :: f0 :: r))), some (.str (sT (f0 :: r))), v2, none], ?_, ?_⟩
              · refine ⟨_, rfl, _, _, f0, rfl, rfl, slf, atf, rfl, _, rfl, ?_⟩
                show (if decide (V.str (sT [f0]) = V.str "0") = true then _ else _)
                rw [str_eq, cps_0]
                refine ite2 (fun c5 => ?_) (fun c5 => ?_)
                · have c5 := of_decide_eq_true c5
                  refine ⟨_, rfl, rfl, _, rfl, ?_⟩
                  rw [str_eq, cps_0]
                  by_cases c6 : (f0 :: r) = [48]
                  · rw [decide_eq_true c6]
                    exact iteF ⟨rfl, fun z => z.2 c6, _, rfl⟩
                  · rw [decide_eq_false c6]
                    exact iteT (kN (base (if_pos ⟨c5, c6⟩)) _ s')
                · have c5 : ¬ [f0] = [48] := fun z => c5 (decide_eq_true z)
                  exact ⟨rfl, fun z => c5 z.1, _, rfl⟩
              · rintro σ H2 ⟨rfl, c5, v2, rfl⟩
                refine fun p hp => ⟨upd_same, mostK, rfl, by decide, ?_⟩
                rw [upd_upd]
                have dg := DGet.k (k := Sum.inr (sT [c])) (upd_same (H := H2) (a := p) (o := .dK (mergeK [] mostK)))
                rw [most_at c2] at dg
                refine ⟨_, rfl, _, _, c, rfl, rfl, slt, at0, p, _, rfl, dg, ?_⟩
                have dig : NumText.AllDigits (f0 :: r) := fun d hd => by
                  have := List.all_eq_true.mp c4 d hd
                  unfold isFig at this
                  simpa using this
                have itx := PySem.intText_digits (x := sT (f0 :: r)) (by rw [sT_cps]; exact dig) (by rw [sT_cps]; exact hf) (by rw [sT_len]; omega)
                rw [sT_cps] at itx
                refine ⟨_, rfl, _, _, rfl, itx, by rw [sT_len]; omega, _, rfl, _, _, rfl, rfl, _, rfl, ?_⟩
                have sp := s'.trans (same_new (o := .dK (mergeK [] mostK)) hp)
                by_cases c7 : NumText.digitsVal (f0 :: r) ≤ (if c = 118 then 9999 else if c = 114 then 8 else 999)
                · rw [decide_eq_true (by omega)]
                  refine iteT ⟨_, rfl, _, _, c, rfl, rfl, slt, at0, ?_⟩
                  exact kS c (base (by rw [if_neg c5, if_pos c7])) _ sp
                · rw [decide_eq_false (by omega)]
                  exact iteF (kN (base (by rw [if_neg c5, if_neg c7])) _ sp)
            · have c4 : fs.all isFig = false := by simpa using c4
              rw [c4]
              exact iteT (kN (by show sortQ c _ = _; unfold sortQ; rw [if_neg hf, if_neg (fun z => z c2), if_pos (.inr c4)]) _ s')
        · rw [decide_eq_false c2]
          exact iteT (kN (by show sortQ c _ = _; unfold sortQ; rw [if_neg hf, if_pos c2]) _ (Same.refl _))
      · refine ⟨_, rfl, _, _, _, _, false, rfl, .ty "str", h1, h2, false, rfl, iteT (iteT ?_)⟩
        exact k _ (Same.refl _)
end
/-! ## k59: the places by their rank -/
theorem cps_r : ("r" : Str) = sT [114] := by
  have h := sT_of "r"
  rw [show ("r" : Str).cps.toList = [114] by decide +kernel] at h
  exact h.symm
def plL : List Str := ["r0", "r1", "r2", "r3", "r4", "r5", "r6", "r7", "r8", "s0", "s1", "s2", "s5", "s9", "s10", "s77", "s78", "s999"]
def pl (i : Nat) : Str := plL.getD i ""
abbrev plV (i : Nat) : V := V.str (pl i)
def plN : List Int := [0, 1, 2, 3, 4, 5, 6, 7, 8, 0, 1, 2, 5, 9, 10, 77, 78, 999]
def gP (i : Nat) : Int × Int := (if i < 9 then 1 else 2, plN.getD i 0)
def gL (i : Nat) : Int × Int := (if i < 9 then 0 else 1, plN.getD i 0)
theorem pl_eq : ∀ i < 18, ∀ j < 18, decide (pl i = pl j) = decide (i = j) := by decide +kernel
theorem pl_inj {i j : Nat} (hi : i < 18) (hj : j < 18) (h : pl i = pl j) : i = j := by
  have := pl_eq i hi j hj
  rw [decide_eq_true h] at this
  exact of_decide_eq_true this.symm
theorem gP_le : ∀ i < 18, ∀ j < 18, PySem.W.dataLe false (fun i => SkF.kd (gP i)) i j = decide (i ≤ j) := by decide +kernel
theorem gL_le : ∀ i < 18, ∀ j < 18, PySem.W.dataLe false (fun i => SkF.kd (gL i)) i j = decide (i ≤ j) := by decide +kernel
def ascL (l : List Nat) : List Nat := (List.range 18).filter fun i => decide (i ∈ l)
theorem asc_eq : ∀ {l m : List Nat}, l.Pairwise (· < ·) → m.Pairwise (· < ·) → (∀ x, x ∈ l ↔ x ∈ m) → l = m
  | [], [], _, _, _ => rfl
  | [], b :: m, _, _, h => absurd ((h b).mpr (List.mem_cons_self ..)) (fun z => nomatch z)
  | a :: l, [], _, _, h => absurd ((h a).mp (List.mem_cons_self ..)) (fun z => nomatch z)
  | a :: l, b :: m, hl, hm, h => by
    rw [List.pairwise_cons] at hl hm
    have ab : a = b := by
      have h1 := (h a).mp (List.mem_cons_self ..)
      have h2 := (h b).mpr (List.mem_cons_self ..)
      rcases List.mem_cons.mp h1 with e | h1
      · exact e
      · rcases List.mem_cons.mp h2 with e | h2
        · exact e.symm
        · have := hm.1 a h1
          have := hl.1 b h2
          omega
    subst ab
    rw [asc_eq hl.2 hm.2 fun x => ?_]
    have := h x
    rw [List.mem_cons, List.mem_cons] at this
    constructor
    · intro hx
      rcases this.mp (.inr hx) with e | e
      · subst e
        exact absurd (hl.1 x hx) (Nat.lt_irrefl _)
      · exact e
    · intro hx
      rcases this.mpr (.inr hx) with e | e
      · subst e
        exact absurd (hm.1 x hx) (Nat.lt_irrefl _)
      · exact e
theorem sorted_asc {g : Nat → Int × Int} (hg : ∀ i < 18, ∀ j < 18, PySem.W.dataLe false (fun i => SkF.kd (g i)) i j = decide (i ≤ j)) {ks : List Nat} (nd : ks.Nodup) (h18 : ∀ k ∈ ks, k < 18) : ks.mergeSort (PySem.W.dataLe false fun i => SkF.kd (g i)) = ascL ks := by
  have pm := List.mergeSort_perm ks (PySem.W.dataLe false fun i => SkF.kd (g i))
  have pw := PySem.W.sort_pairwise (PySem.W.sortLe_total (PyProof.Rows.listOrd PyProof.Rows.itemOrd) false fun i => PySem.W.keyToks (SkF.kd (g i))) ks
  refine asc_eq ?_ (List.Pairwise.sublist (List.filter_sublist ..) List.pairwise_lt_range) fun x => ?_
  · have nd2 := pm.nodup_iff.mpr nd
    have both := (List.pairwise_and_iff.mpr ⟨pw, nd2⟩ : List.Pairwise (fun a b => PySem.W.dataLe false (fun i => SkF.kd (g i)) a b = true ∧ a ≠ b) (ks.mergeSort (PySem.W.dataLe false fun i => SkF.kd (g i))))
    refine List.Pairwise.imp_of_mem (fun {a b} ha hb h => ?_) both
    have h1 := h.1
    rw [hg a (h18 a (pm.mem_iff.mp ha)) b (h18 b (pm.mem_iff.mp hb))] at h1
    have := of_decide_eq_true h1
    have := h.2
    omega
  · rw [pm.mem_iff]
    unfold ascL
    rw [List.mem_filter, List.mem_range]
    simp only [decide_eq_true_eq]
    exact ⟨fun h => ⟨h18 x h, h⟩, fun h => h.2⟩
def spRank (g : Nat → Int × Int) : Sp := fun vs H Q _ => ∃ i, i < 18 ∧ vs = [plV i] ∧ ∀ (H' : Hp) (p : Addr), Same H H' → H' p = some (.tup [.int (g i).1, .int (g i).2]) → Q (.ref p) H'
namespace SkF
open PySem PySem.Spec PySem.Calls PyProof.Rows PySem.W L2
section
variable {X : Cx} {pins : List (Addr × Obj)} {σ : L2.St} {H : Hp} {A : Around} {f a : Addr} {vs : List Value} {kz : List (Int × Int)} {P : PySem.Fin → Shared → Prop} {Ex : Value → Shared → Prop} {s : Shared}
theorem tree {n : Nat} (I : Inv X pins σ H s) (ho : s.heap.get? a = some (seqObj "list" vs.toArray n)) (fa : FpOk X pins H a) (hlen : kz.length = vs.length) (hZ : vs.length ≤ sizeLine) (hu : A.units + 2 < cLine)
    (turn : ∀ (i : Nat) (v : Value) (k : Int × Int), vs[i]? = some v → kz[i]? = some k → ∀ (s' : Shared) (H' : Hp), Inv X pins σ H' s' → Same H H' →
      wpAny (model X.prog X.w) A (call (.ref f) [v]) (fun z s'' => CE X.stack X.prog X.w H' s' (fun y H'' => Same H' H'' ∧ ∃ p, y = .ref p ∧ H'' p = some (.tup [.int k.1, .int k.2])) z s'') (fun _ _ => False) s')
    (h : ∀ (H' : Hp) (s' : Shared) (out : List Value) (c : Nat), Inv X pins σ H' s' → Same H H' → FpOk X pins H' a → s'.heap.get? a = some (seqObj "list" out.toArray c) → KeyedOut false (kz.map kd) vs out → P (.done (.ret .none)) s') :
    wpAny (model X.prog X.w) A (ksk_tree a (.ref f) false) P Ex s := by
  have ha : a < s.heap.objs.size := Heap.lt_size ho
  obtain ⟨e1, ho1⟩ : ∃ e1, (s.heap.update a (Obj.mapSeq fun _ => (#[] : Array Value))).get? a = some (seqObj "list" #[] e1) := ⟨_, get?_update_seq ho fun _ => #[]⟩
  have hkS : ((s.heap.update a (Obj.mapSeq fun _ => (#[] : Array Value))).push (seqObj "tuple" vs.toArray 0)).objs.size = s.heap.objs.size + 1 := by rw [size_push', Heap.size_update]
  unfold ksk_tree
  refine wpAny_bind (listItems_at ho rfl ?_)
  refine wpAny_bind (listUpdate_at ho rfl ?_ (by rw [List.size_toArray]; exact hZ) (Nat.zero_le _))
  refine wpAny_bind (seqEpoch_at ho1 rfl ?_)
  refine wpAny_bind (wpAny_newTuple ?_ (by show vs.length ≤ _; exact hZ))
  refine wpAny_bind (wpAny_newList ?_ (Nat.zero_le _))
  refine wpAny_holding ?_
  obtain ⟨n0, hL, nf, g1, g2, g3⟩ := id fa
  have kp : ∀ b o, b ≠ a → s.heap.get? b = some o → (((s.heap.update a (Obj.mapSeq fun _ => (#[] : Array Value))).push (seqObj "tuple" vs.toArray 0)).push (seqObj "list" #[] 0)).get? b = some o := fun b o hb q =>
    Heap.get?_push_of_some _ (Heap.get?_push_of_some _ (((Heap.SameBut.update s.heap a (Obj.mapSeq fun _ => (#[] : Array Value))).2 b hb).trans q))
  have I1 := I.turned (it := a) (h' := ((s.heap.update a (Obj.mapSeq fun _ => (#[] : Array Value))).push (seqObj "tuple" vs.toArray 0)).push (seqObj "list" #[] 0)) (t' := s.toks) kp n0 hL g1 g2 g3
  have nk0 : H ((s.heap.update a (Obj.mapSeq fun _ => (#[] : Array Value))).push (seqObj "tuple" vs.toArray 0)).objs.size = none := I.hok.fresh (by rw [hkS]; exact Nat.le_succ _)
  exact rest (kS := ((s.heap.update a (Obj.mapSeq fun _ => (#[] : Array Value))).push (seqObj "tuple" vs.toArray 0)).objs.size) I1 (Heap.get?_push_size _ rfl) (Heap.get?_push_of_some _ (Heap.get?_push_of_some _ ho1)) (I.fpOk (by rw [hkS]; exact Nat.le_succ _) nk0) fa (by rw [hkS]; exact Nat.ne_of_gt (Nat.lt_succ_of_lt ha)) hlen hZ hu turn h
theorem each_at {α β : Type} {R : α → β → Prop} : ∀ {l : List α} {m : List β}, EachIs R l m → ∀ (i : Nat) (a : α) (b : β), l[i]? = some a → m[i]? = some b → R a b
  | _, _, .nil, i, a, b, h, _ => by simp at h
  | _, _, .cons h t, 0, a, b, e1, e2 => by
    injection e1 with e1
    injection e2 with e2
    rw [← e1, ← e2]
    exact h
  | _, _, .cons h t, i + 1, a, b, e1, e2 => each_at t i a b (by simpa using e1) (by simpa using e2)
theorem each_of_vals : ∀ {ks : List Nat} {us : List Value}, Vals (ks.map plV) us → EachIs (fun v i => RelV (plV i) v) us ks
  | [], _, .nil => .nil
  | _ :: _, _, .cons r t => .cons r (each_of_vals t)
theorem vals_of_each : ∀ {ks : List Nat} {us : List Value}, EachIs (fun v i => RelV (plV i) v) us ks → Vals (ks.map plV) us
  | _, _, .nil => .nil
  | _, _, .cons r t => .cons r (vals_of_each t)
/-- the turn of a def that ranks places -/
theorem rank_turn {g : Nat → Int × Int} {k : Nat} {fd : FuncData} {x : Str} (F : FnOk X.prog X.w X.K X.mg X.base CX0 k f fd [x] (spRank g)) (hb : L2.Binds X.K fd [x] []) (hA : A.frames = X.A.frames) (hr : Room k A) {ks : List Nat} (h18 : ∀ i ∈ ks, i < 18) (e : EachIs (fun v i => RelV (plV i) v) vs ks) :
    ∀ (i : Nat) (v : Value) (z : Int × Int), vs[i]? = some v → (ks.map g)[i]? = some z → ∀ (s' : Shared) (H' : Hp), Inv X pins σ H' s' → Same H H' →
      wpAny (model X.prog X.w) A (call (.ref f) [v]) (fun y s'' => CE X.stack X.prog X.w H' s' (fun y H'' => Same H' H'' ∧ ∃ p, y = .ref p ∧ H'' p = some (.tup [.int z.1, .int z.2])) y s'') (fun _ _ => False) s' := by
  intro i v z hv hz s' H' I' _
  rw [List.getElem?_map] at hz
  cases q : ks[i]? with
  | none => rw [q] at hz; cases hz
  | some j =>
    rw [q] at hz
    cases hz
    exact run1 (E := E0) F hb I' hA hr (each_at e i v j hv q) ⟨j, h18 j (List.mem_of_getElem? q), rfl, fun H2 p s2 e2 => ⟨s2, p, rfl, e2⟩⟩
theorem out_asc {g : Nat → Int × Int} (hg : ∀ i < 18, ∀ j < 18, dataLe false (fun i => kd (g i)) i j = decide (i ≤ j)) {ks : List Nat} (nd : ks.Nodup) (h18 : ∀ k ∈ ks, k < 18) {out : List Value} (e : EachIs (fun v i => RelV (plV i) v) vs ks) (ko : KeyedOut false ((ks.map g).map kd) vs out) : Vals ((ascL ks).map plV) out := by
  rw [List.map_map] at ko
  have := keyedOut_each (R := fun v i => RelV (plV i) v) (fun i => kd (g i)) ko e
  rw [sorted_asc hg nd h18] at this
  exact vals_of_each this
/-- what is sorted: a list of places, a dict whose keys are places -/
def Src (K : PySem.W.Frag) (H : Hp) (a : Addr) (ks : List Nat) : Prop := SqL K H a (ks.map plV) ∨ ∃ kvs, Rd H a (.dK kvs) ∧ kvs.map (·.1) = ks.map fun i => (Sum.inr (pl i) : Key)
def rSortedF (K : PySem.W.Frag) (f : Addr) : List V → List V → Hp → VK → Prop := fun vs zs H Q => ∃ (a : Addr) (ks : List Nat), vs = [V.ref a] ∧ zs = [V.ref f] ∧ Src K H a ks ∧ ks.Nodup ∧ (∀ k ∈ ks, k < 18) ∧ ∀ (H' : Hp) (p : Addr), Same H H' → H p = none → H' p = some (.lst ((ascL ks).map plV)) → Q (.ref p) H'
theorem len18 {ks : List Nat} (nd : ks.Nodup) (h18 : ∀ k ∈ ks, k < 18) : ks.length ≤ 18 := by
  have := M59.sub_len nd (N := List.range 18) fun x hx => List.mem_range.mpr (h18 x hx)
  rwa [List.length_range] at this
end
end SkF
/-! ## registers and slots judged -/
theorem sort_some {t : List Nat} {c : Nat} (h : sortP t = some c) : ∃ fs, t = c :: fs ∧ NumText.AllDigits fs ∧ ¬ fs = [] ∧ fs.length ≤ 4 ∧ ¬ (fs.take 1 = [48] ∧ ¬ fs = [48]) ∧ NumText.digitsVal fs ≤ (if c = 118 then 9999 else if c = 114 then 8 else 999) := by
  match t, h with
  | d :: fs, h =>
    have h : sortQ d fs = some c := h
    unfold sortQ at h
    split at h
    · cases h
    rename_i h1
    split at h
    · cases h
    split at h
    · cases h
    rename_i h3
    split at h
    · cases h
    rename_i h4
    by_cases h5 : NumText.digitsVal fs ≤ (if d = 118 then 9999 else if d = 114 then 8 else 999)
    · rw [if_pos h5] at h
      injection h with h
      subst h
      refine ⟨fs, rfl, fun x hx => ?_, h1, Nat.le_of_not_lt fun z => h3 (.inl z), h4, h5⟩
      have ha : fs.all isFig = true := by
        cases e : fs.all isFig with
        | true => rfl
        | false => exact absurd (.inr e) h3
      have := List.all_eq_true.mp ha x hx
      unfold isFig at this
      simpa using this
    · rw [if_neg h5] at h
      cases h
def regB (r : Nat) (t : List Nat) : Bool := decide (sortP t = some 114) && decide (NumText.digitsVal (t.drop 1) < r)
def slotB (t : List Nat) : Bool := decide (sortP t = some 115)
def spNumOf : Sp := fun vs H Q _ => ∃ (c : Nat) (fs : List Nat), vs = [.str (sT (c :: fs))] ∧ NumText.AllDigits fs ∧ ¬ fs = [] ∧ fs.length ≤ 600 ∧ Q (.int ((NumText.digitsVal fs : Nat) : Int)) H
def spReg (K : PySem.W.Frag) : Sp := fun vs H Q _ => ∃ (x : V) (r : Nat), vs = [x, .int (r : Int)] ∧ ((∃ t, x = .str (sT t) ∧ tx t ∧ ∀ H', Same H H' → Q (.bl (regB r t)) H') ∨ (NotStr K H x ∧ ∀ H', Same H H' → Q (.bl false) H'))
theorem sV_eq (t : List Nat) (c : Nat) (z : Str) (hz : z = sT [c]) : scal (sortV t) (.str z) = true ∧ decide (sortV t = V.str z) = decide (sortP t = some c) := by
  subst hz
  unfold sortV
  cases e : sortP t with
  | none => exact ⟨rfl, by rw [decide_eq_false (fun z => by cases z), decide_eq_false (fun z => by cases z)]⟩
  | some d =>
    refine ⟨rfl, decide_eq_decide.mpr ⟨fun h => ?_, fun h => ?_⟩⟩
    · injection h with h
      have := sT_inj h
      injection this with this
      rw [this]
    · injection h with h
      rw [h]
theorem cps_s : ("s" : Str) = sT [115] := by
  have h := sT_of "s"
  rw [show ("s" : Str).cps.toList = [115] by decide +kernel] at h
  exact h.symm
section
variable {P : Program} {w : World} {K : PySem.W.Frag} {mg : Str → Option Value} {base : Heap}
theorem sc_numof : FnScope ["place"] ["place"] (defScope s_number_of) := ⟨rfl, rfl, rfl, by decide +kernel, rfl, by decide +kernel, by decide +kernel⟩
theorem ok_numof {CX : CXT} {f : Addr} {fd : FuncData} (F : FnP K "number_of" s_number_of f fd) (G : NkF K mg) : FnOk P w K mg base CX 1 f fd ["place"] spNumOf := by
  refine F.ok sc_numof (fun vs H Q E h => ?_) (fun cdv A outer s H vs Q E hr h => ?_)
  · obtain ⟨c, fs, rfl, _⟩ := h
    rfl
  · obtain ⟨c, fs, rfl, dig, hf, hl, q⟩ := h
    refine ⟨_, PSs.nox (pss_one (ps_ret (pe_callTy call_int_str (by rfl) G.int (by decide +kernel) (pa_cons (pe_slice sl_str (pv 0) (po_some pe_int) po_none) pa_nil)))), ?_⟩
    have e2 : cutS (sT (c :: fs)) (some 1) none = sT fs := cut_from (c :: fs) 1
    have itx := PySem.intText_digits (x := sT fs) (by rw [sT_cps]; exact dig) (by rw [sT_cps]; exact hf) (by rw [sT_len]; omega)
    rw [sT_cps] at itx
    refine ⟨_, rfl, _, rfl, _, rfl, sl_of (by rw [sT_len, List.length_cons]; omega), ?_⟩
    rw [e2]
    exact ⟨_, _, rfl, itx, by rw [sT_len]; omega, q⟩
theorem sc_isreg : FnScope ["thing", "registers"] ["thing", "registers"] (defScope s_is_register) := ⟨rfl, rfl, rfl, by decide +kernel, rfl, by decide +kernel, by decide +kernel⟩
theorem ok_isreg {CX : CXT} {f fS fN : Addr} {fd fdS fdN : FuncData} (F : FnP K "is_register" s_is_register f fd) (FS : FnP K "sort_of_place" s_sort_of_place fS fdS) (gS : mg "sort_of_place" = some (.ref fS)) (FN : FnP K "number_of" s_number_of fN fdN) (gN : mg "number_of" = some (.ref fN)) (G : NkF K mg) (C : PlF mg) : FnOk P w K mg base CX 2 f fd ["thing", "registers"] (spReg K) := by
  have GS : FnOk P w K mg base CX0 1 fS fdS ["thing"] (spSort K) := ok_sort FS G C
  have bS : Binds K fdS ["thing"] [] := FS.bindsN fun _ _ _ _ _ _ us hl => match us, hl with | [_], _ => rfl
  have GN : FnOk P w K mg base CX0 1 fN fdN ["place"] spNumOf := ok_numof FN G
  have bN : Binds K fdN ["place"] [] := FN.bindsN fun _ _ _ _ _ _ us hl => match us, hl with | [_], _ => rfl
  refine F.ok sc_isreg (fun vs H Q E h => ?_) (fun cdv A outer s H vs Q E hr h => ?_)
  · obtain ⟨x, r, rfl, _⟩ := h
    rfl
  · obtain ⟨x, r, rfl, h⟩ := h
    refine ⟨_, PSs.nox (pss_one (ps_ret (pe_and (pe_cmpR op_eq (pe_call GS hr rfl gS FS.kp bS .nil pass0 (pa_cons (pv 0) pa_nil)) pe_str (nomark _)) (pe_one (pe_cmpR op_lt (pe_call GN hr rfl gN FN.kp bN .nil pass0 (pa_cons (pv 0) pa_nil)) (pv 1) (nomark _)))))), ?_⟩
    rcases h with ⟨t, rfl, ht, k⟩ | ⟨hN, k⟩
    · refine ⟨_, rfl, _, rfl, .inl ⟨t, rfl, ht, fun H1 s1 => ?_⟩⟩
      obtain ⟨e1, e2⟩ := sV_eq t 114 "r" cps_r
      refine ⟨e1, _, rfl, ?_⟩
      rw [e2]
      by_cases c : sortP t = some 114
      · rw [decide_eq_true c]
        obtain ⟨fs, rfl, dig, hf, hl, _⟩ := sort_some c
        refine iteT ⟨_, rfl, 114, fs, rfl, dig, hf, by omega, _, rfl, _, _, rfl, rfl, ?_⟩
        have q := k H1 s1
        unfold regB at q
        rw [decide_eq_true c, Bool.true_and] at q
        have e3 : decide (NumText.digitsVal ((114 :: fs).drop 1) < r) = decide (((NumText.digitsVal fs : Nat) : Int) < (r : Int)) := decide_eq_decide.mpr ⟨fun z => Int.ofNat_lt.mpr z, fun z => Int.ofNat_lt.mp z⟩
        rw [e3] at q
        exact q
      · rw [decide_eq_false c]
        have q := k H1 s1
        unfold regB at q
        rw [decide_eq_false c, Bool.false_and] at q
        exact iteF q
    · refine ⟨_, rfl, _, rfl, .inr ⟨hN, fun H1 s1 => ?_⟩⟩
      refine ⟨rfl, _, rfl, ?_⟩
      rw [decide_eq_false (fun z => by cases z)]
      exact iteF (k _ s1)
theorem sc_isslot : FnScope ["thing"] ["thing"] (defScope s_is_slot) := ⟨rfl, rfl, rfl, by decide +kernel, rfl, by decide +kernel, by decide +kernel⟩
theorem ok_isslot {CX : CXT} {f fS : Addr} {fd fdS : FuncData} (F : FnP K "is_slot" s_is_slot f fd) (FS : FnP K "sort_of_place" s_sort_of_place fS fdS) (gS : mg "sort_of_place" = some (.ref fS)) (G : NkF K mg) (C : PlF mg) : FnOk P w K mg base CX 2 f fd ["thing"] (spTxO K slotB) := by
  have GS : FnOk P w K mg base CX0 1 fS fdS ["thing"] (spSort K) := ok_sort FS G C
  have bS : Binds K fdS ["thing"] [] := FS.bindsN fun _ _ _ _ _ _ us hl => match us, hl with | [_], _ => rfl
  refine F.ok sc_isslot (fun vs H Q E h => ?_) (fun cdv A outer s H vs Q E hr h => ?_)
  · obtain ⟨x, rfl, _⟩ := h
    rfl
  · obtain ⟨x, rfl, h⟩ := h
    refine ⟨_, PSs.nox (pss_one (ps_ret (pe_cmpR op_eq (pe_call GS hr rfl gS FS.kp bS .nil pass0 (pa_cons (pv 0) pa_nil)) pe_str (nomark _)))), ?_⟩
    rcases h with ⟨t, rfl, ht, k⟩ | ⟨hN, k⟩
    · refine ⟨_, rfl, _, rfl, .inl ⟨t, rfl, ht, fun H1 s1 => ?_⟩⟩
      obtain ⟨e1, e2⟩ := sV_eq t 115 "s" cps_s
      refine ⟨e1, ?_⟩
      rw [e2]
      exact k H1 s1
    · refine ⟨_, rfl, _, rfl, .inr ⟨hN, fun H1 s1 => ⟨rfl, ?_⟩⟩⟩
      rw [decide_eq_false (fun z => by cases z)]
      exact k _ s1
end
/-! ## sorted(xs, key=f), f a def that ranks places -/
namespace SkF
open PySem PySem.Spec PySem.Calls PyProof.Rows PySem.W L2
section
variable {X : Cx}
theorem keyed_asc {g : Nat → Int × Int} (hg : ∀ i < 18, ∀ j < 18, dataLe false (fun i => kd (g i)) i j = decide (i ≤ j)) {pins : List (Addr × Obj)} {σ : L2.St} {H : Hp} {A : Around} {f a : Addr} {k : Nat} {fd : FuncData} {x : Str} {s : Shared} {n : Nat} {ks : List Nat} {vs : List Value} {Q : VK}
    (F : FnOk X.prog X.w X.K X.mg X.base CX0 k f fd [x] (spRank g)) (hb : L2.Binds X.K fd [x] []) (hA : A.frames = X.A.frames) (hr : Room k A) (hu : A.units + 2 < cLine) (I : Inv X pins σ H s) (ho : s.heap.get? a = some (seqObj "list" vs.toArray n)) (fa : FpOk X pins H a) (h18 : ∀ i ∈ ks, i < 18) (nd : ks.Nodup) (e : EachIs (fun v i => RelV (plV i) v) vs ks)
    (q : ∀ (H' : Hp) (p : Addr), Same H H' → H p = none → H' p = some (.lst ((ascL ks).map plV)) → Q (.ref p) H') :
    wpAny (model X.prog X.w) A (ksk_tree a (.ref f) false) (fun r s' => r = .done (.ret .none) ∧ EP X pins σ Q (.ref a) s') (fun _ _ => False) s := by
  have hl18 : vs.length ≤ 18 := by rw [e.length]; exact len18 nd h18
  have hZ : vs.length ≤ sizeLine := Nat.le_trans hl18 (by decide)
  refine tree (kz := ks.map g) I ho fa (by rw [List.length_map]; exact e.length.symm) hZ hu (rank_turn F hb hA hr h18 e) ?_
  intro H' s' out c I' S' fa' ho' ko
  have hv := out_asc hg nd h18 e ko
  have hlen : ((ascL ks).map plV).length ≤ sizeLine := by
    rw [List.length_map]
    have : (ascL ks).length ≤ (List.range 18).length := List.length_filter_le _ _
    rw [List.length_range] at this
    exact Nat.le_trans this (by decide)
  refine ⟨rfl, .ref a, upd H' a (.lst ((ascL ks).map plV)), ?_, rfl, q _ a (S'.trans (same_new fa'.1)) fa.1 upd_same⟩
  exact I'.take (h' := s'.heap) (t' := s'.toks) (fun b o _ e => e) fa' ⟨hlen, out, c, hv, ho'⟩
end
end SkF
namespace SkF
open PySem PySem.Spec PySem.Calls PyProof.Rows PySem.W L2
section
variable {X : Cx}
theorem cr_sortedF {g : Nat → Int × Int} (hg : ∀ i < 18, ∀ j < 18, dataLe false (fun i => kd (g i)) i j = decide (i ≤ j)) {K : PySem.W.Frag} {f : Addr} {k : Nat} {fd : FuncData} {x : Str}
    (F : FnOk X.prog X.w X.K X.mg X.base CX0 k f fd [x] (spRank g)) (hb : L2.Binds X.K fd [x] []) (hr : Room (k + 2) X.A) (hu : X.A.units + 64 < cLine) (hcalm : X.calm = true) (eK : X.K = K := by rfl) : CallRK X (.builtin "sorted") [Str.ofString "key"] (rSortedF K f) := by
  subst eK
  intro pins s σ H vs zs us ws Q I r rz h
  obtain ⟨a, ks, rfl, rfl, hS, nd, h18, q⟩ := h
  obtain rfl := Vals.ref1 r
  obtain rfl := Vals.ref1 rz
  have h18' := len18 nd h18
  have hr2 : Room k X.A.in1.in1 := (show Room (k + 1) X.A.in1 from Room.in1 hr).in1
  have hu2 : X.A.in1.in1.units + 2 < cLine := by
    show X.A.units + 1 + 1 + 2 < cLine
    omega
  rcases hS with hs | ⟨kvs, hd, hks⟩
  · obtain ⟨its, rv, hl, hz⟩ := I.list hs
    have e := each_of_vals rv
    have hl18 : its.length ≤ 18 := by rw [e.length]; exact h18'
    refine sorted_of_sort (Q := EP X pins σ Q) (E := X.xe) hl.isList (Nat.le_trans hl18 (by decide)) (ksk_s1 _ _) (fun _ => ksk_l1 _ _) fun E' => ?_
    show wpAny _ _ (Builtin.«list.sort» ⟨[.ref (s.heap.objs.size + 1)], [(Str.ofString "key", .ref f)]⟩) _ _ _
    rw [ksk_t1]
    have I1 : Inv X pins σ H { s with heap := copyHeap s.heap its, toks := s.toks } := I.kept fun b o q => copyHeap_old q
    refine wpAny_mono (keyed_asc hg F hb rfl hr2 hu2 I1 (copyHeap_at s.heap its) (I.fpOk (Nat.le_succ _) (I.hok.fresh (Nat.le_succ _))) h18 nd e q) (fun r s' h => h) fun _ _ h => h.elim
  · obtain ⟨z, lo, vs, rel, dd⟩ := dk_rd I.hok hd
    obtain ⟨ep, hat⟩ := dd.dictAt
    have hkeys : vs.map (·.1) = ks.map fun i => (Sum.inr (pl i) : Key) := rel.keys.symm.trans hks
    have hl : vs.length = ks.length := by
      have e := congrArg List.length hkeys
      rw [List.length_map, List.length_map] at e
      exact e
    have h16 : vs.length ≤ sizeLine := by rw [hl]; exact Nat.le_trans h18' (by decide)
    refine call_function_entry_kw kind_sorted plain_sorted entry_sorted (ksk_s1 _ _) ?_
    unfold Builtin.«sorted»
    refine wpAny_bind (m := checkCount "sorted" 1 1 _) (wpAny_pure ?_)
    refine wpAny_bind (PySem.W.kdu_collect (A := X.A.in1) (PySem.W.kdl_dict (knd := mixKind X.prog X.w) (kvs := vs) (ep := ep) lo) (I.ok.hd hcalm) hat h16 fun h' tk acc hk hacc => ?_)
    have hal : acc.toList.length = ks.length := by rw [Array.length_toList, hacc.1, hl]
    have hV := keys_at (us := acc.toList) (vs := vs) (by rw [hal, hl]) fun j v e => by
      obtain ⟨k, x, e1, e2⟩ := hacc.2 j v (by rw [← Array.getElem?_toList]; exact e)
      exact ⟨k, x, e1, e2⟩
    have hV2 : Vals (ks.map plV) acc.toList := by
      have e9 : (vs.map fun p => kV p.1) = ks.map plV := by
        have := congrArg (List.map kV) hkeys
        rw [List.map_map, List.map_map] at this
        exact this
      rw [← e9]
      exact hV
    have e := each_of_vals hV2
    have I1 : Inv X pins σ H { s with heap := h', toks := tk } := I.kept hk
    refine wpAny_bind (wpAny_newList ?_ (by rw [hal]; exact Nat.le_trans h18' (by decide)))
    have hoL : (h'.push (seqObj "list" acc.toList.toArray 0)).get? h'.objs.size = some (seqObj "list" acc.toList.toArray 0) := Heap.get?_push_size _ rfl
    have I2 : Inv X pins σ H { s with heap := h'.push (seqObj "list" acc.toList.toArray 0), toks := tk } := I.kept fun b o q => Heap.get?_push_of_some _ (hk b o q)
    show wpAny _ _ _ _ _ { s with heap := h'.push (seqObj "list" acc.toList.toArray 0), toks := tk }
    refine wpAny_bind (wpAny_holding (wpAny_call_entry_kw slot_list_sort ⟨_, hoL, rfl⟩ entry_list_sort ?body (ksk_l1 _ _)))
    case body =>
      show wpAny _ X.A.in1.in1 (Builtin.«list.sort» ⟨[.ref h'.objs.size], [(Str.ofString "key", .ref f)]⟩) _ _ _
      rw [ksk_t1]
      refine wpAny_mono (keyed_asc hg F hb rfl hr2 hu2 I2 hoL (I1.fpOk (Nat.le_refl _) (I1.hok.fresh (Nat.le_refl _))) h18 nd e q) (fun r s' h => ?_) fun _ _ h => h.elim
      obtain ⟨rfl, hq⟩ := h
      exact ⟨_, rfl, wpAny_pure ⟨_, rfl, hq⟩⟩
end
end SkF
/-! ## places, judged -/
open M59 (isR)
def pc (i : Nat) : List Nat := (pl i).cps.toList
theorem pl_pc (i : Nat) : pl i = sT (pc i) := (sT_of _).symm
theorem pc_tx (i : Nat) (hi : i < 18) : tx (pc i) := by
  have h : ∀ i < 18, (pc i).length ≤ 100000 ∧ ∀ c ∈ pc i, c < 128 := by decide +kernel
  exact h i hi
theorem pc_reg : ∀ i < 18, regB 9 (pc i) = isR i := by decide +kernel
theorem pc_slot : ∀ i < 18, slotB (pc i) = !isR i := by decide +kernel
section
variable {K : PySem.W.Frag} {H : Hp} {Q : VK} {E : XK} {i : Nat}
theorem reg_pl (hi : i < 18) (k : ∀ H', Same H H' → Q (.bl (isR i)) H') : spReg K [plV i, .int ((9 : Nat) : Int)] H Q E :=
  ⟨_, 9, rfl, .inl ⟨pc i, congrArg V.str (pl_pc i), pc_tx i hi, fun H' s => by rw [pc_reg i hi]; exact k H' s⟩⟩
theorem slot_pl (hi : i < 18) (k : ∀ H', Same H H' → Q (.bl (!isR i)) H') : spTxO K slotB [plV i] H Q E :=
  ⟨_, rfl, .inl ⟨pc i, congrArg V.str (pl_pc i), pc_tx i hi, fun H' s => by rw [pc_slot i hi]; exact k H' s⟩⟩
/-- [x for x in places if p(x)] -/
theorem lc_pf {a D : Addr} {ts : List Nat} {j : Nat} {tt : TT} {vs : List Nat} {σ : L2.St} {H1 : Hp} {Qd : Hp → Prop} (p : Nat → Bool) (ha : H1 a = some (.lst (ts.map plV))) (hD : H1 D = none) (hl : ts.length ≤ 18)
    (hw : ∀ y, wipe ((wipe σ vs).set j (some y)) vs = wipe σ vs) (hg : ∀ y : V, ((wipe σ vs).set j (some y))[j]? = some (some y))
    (ht : ∀ (t : Nat) (H' : Hp) (Q : Bool → Hp → Prop), t ∈ ts → Same H1 H' → (∀ H'', Same H' H'' → Q (p t) H'') → tt ((wipe σ vs).set j (some (plV t))) H' Q)
    (hd : ∀ H', Same H1 H' → H' D = some (.lst ((ts.filter p).map plV)) → Qd H') :
    ∃ W : Nat → Nat → Hp → Prop, (∃ m, W 0 m (upd H1 D (.lst []))) ∧ ∀ i m H, W i m H →
      ((Itl K a).stop i H ∧ Qd H) ∨ ((Itl K a).go i H ∧ ∃ Nx : Hp → Prop, (∀ H', Nx H' → ∃ m', m' < m ∧ W (i + 1) m' H') ∧ ∀ x H', (Itl K a).yld i H x H' → gName j x (wipe σ vs) H' fun σ2 H2 => wipe σ2 vs = wipe σ vs ∧ tt σ2 H2 fun b H3 =>
        if b = true then tVar j σ2 H3 fun y H4 => ∃ acc, H4 D = some (.lst acc) ∧ acc.length < sizeLine ∧ Nx (upd H4 D (.lst (acc ++ [y]))) else Nx H3) := by
  refine lc_list (K := K) (a := a) (xs := ts.map plV) (fun i H' => Same H1 H' ∧ H' D = some (.lst (((ts.take i).filter p).map plV))) ⟨same_new hD, upd_same⟩ (fun i H' _ h => SqL.of (h.1 _ _ ha)) ?_ fun H' h => hd H' h.1 (by have h2 := h.2; rw [List.length_map, List.take_length] at h2; exact h2)
  rintro i x H' hx ⟨s1, e1⟩
  obtain ⟨t, hti, rfl⟩ : ∃ t, ts[i]? = some t ∧ x = plV t := by
    rw [List.getElem?_map] at hx
    cases q : ts[i]? with
    | none => rw [q] at hx; cases hx
    | some t => rw [q] at hx; injection hx with hx; exact ⟨t, rfl, hx.symm⟩
  have tk : (ts.take (i + 1)).filter p = (ts.take i).filter p ++ if p t = true then [t] else [] := by
    rw [take_snoc2 hti, List.filter_append, List.filter_cons, List.filter_nil]
  refine ⟨hw _, ht t H' _ (List.mem_of_getElem? hti) s1 fun H2 s2 => ?_⟩
  have s12 := s1.trans s2
  have e2 := s2 _ _ e1
  cases c : p t with
  | false =>
    rw [c] at tk
    refine iteF ⟨s12, ?_⟩
    rw [tk]
    simpa using e2
  | true =>
    rw [c] at tk
    refine iteT ⟨_, hg _, _, e2, ?_, same_sub s12 hD, ?_⟩
    · rw [List.length_map]
      have h1 : ((ts.take i).filter p).length ≤ (ts.take i).length := List.length_filter_le _ _
      have h2 := List.length_take_le' i ts
      exact Nat.lt_of_le_of_lt (show ((ts.take i).filter p).length ≤ 18 by omega) (by decide)
    · rw [upd_same, tk]
      simp
end
/-! ## k83's law: judged by the law's own functions -/
theorem TyOf.sm {K : PySem.W.Frag} {H H' : Hp} {x : V} {t : Value} (s : Same H H') (h : TyOf K H x t) : TyOf K H' x t := by
  cases h with
  | non => exact .non
  | bl b => exact .bl b
  | int i => exact .int i
  | str z => exact .str z
  | flt z => exact .flt z
  | lst e => exact .lst (s _ _ e)
  | frz e => exact .frz (s _ _ e)
  | tup e => exact .tup (s _ _ e)
  | dK e => exact .dK (s _ _ e)
  | dT e => exact .dT (s _ _ e)
  | ins e c a b d m => exact .ins (s _ _ e) c a b d m
theorem TyX.sm {K : PySem.W.Frag} {H H' : Hp} {x : V} {t : Value} (s : Same H H') (h : TyX K H x t) : TyX K H' x t := by
  cases h with
  | base h => exact .base (TyOf.sm s h)
  | byt b => exact .byt b
  | set e => exact .set (s _ _ e)
  | kList e c => exact .kList e c
  | kTuple e c => exact .kTuple e c
  | kDict e c => exact .kDict e c
  | fTuple e => exact .fTuple (s _ _ e)
  | fDict e => exact .fDict (s _ _ e)
theorem notStr_sm {K : PySem.W.Frag} {H H' : Hp} {x : V} (s : Same H H') : NotStr K H x → NotStr K H' x := fun ⟨t, h1, h2⟩ => ⟨t, TyX.sm s h1, h2⟩
/-! ## k59: the ranks of places, and what is a place -/
open M59 (isR)
section
variable {P : Program} {w : World} {K : PySem.W.Frag} {mg : Str → Option Value} {base : Heap}
theorem sort_pl (i : Nat) (hi : i < 18) : sortP (pc i) = some (if isR i = true then 114 else 115) := by
  have h : ∀ i < 18, sortP (pc i) = some (if isR i = true then 114 else 115) := by decide +kernel
  exact h i hi
theorem pc_cons (i : Nat) (hi : i < 18) : ∃ fs, pc i = (if isR i = true then 114 else 115) :: fs ∧ NumText.AllDigits fs ∧ ¬ fs = [] ∧ fs.length ≤ 600 ∧ ((NumText.digitsVal fs : Nat) : Int) = plN.getD i 0 := by
  obtain ⟨fs, h1, h2, h3, h4, _⟩ := sort_some (sort_pl i hi)
  refine ⟨fs, h1, h2, h3, by omega, ?_⟩
  have h : ∀ i < 18, ((NumText.digitsVal ((pc i).drop 1) : Nat) : Int) = plN.getD i 0 := by decide +kernel
  have := h i hi
  rw [h1] at this
  exact this
theorem sort_at {i : Nat} {H : Hp} {Q : VK} {E : XK} (hi : i < 18) (k : ∀ H', Same H H' → Q (.str (if isR i = true then "r" else "s")) H') : spSort K [plV i] H Q E := by
  refine ⟨_, rfl, .inl ⟨pc i, congrArg V.str (pl_pc i), pc_tx i hi, fun H' s => ?_⟩⟩
  have e : sortV (pc i) = V.str (if isR i = true then "r" else "s") := by
    unfold sortV
    rw [sort_pl i hi]
    cases isR i
    · exact congrArg V.str cps_s.symm
    · exact congrArg V.str cps_r.symm
  rw [e]
  exact k H' s
/-- a call's promise at one argument, at one argument and a constant -/
theorem rd1 {sp : Sp} {v : V} {σ : L2.St} {H : Hp} {Q : VK} {E : XK} (h : sp [v] H Q E) : tNil σ H fun xs H2 => (fun vs H1 => sp (vs ++ []) H1 Q E) (v :: xs) H2 := h
theorem rd2 {sp : Sp} {v c : V} {σ : L2.St} {H : Hp} {Q : VK} {E : XK} (h : sp [v, c] H Q E) : tCons (tC c) tNil σ H fun xs H2 => (fun vs H1 => sp (vs ++ []) H1 Q E) (v :: xs) H2 := h
def mplB (t : List Nat) : Bool := regB 9 t || slotB t
theorem sc_place_rank : FnScope ["thing", "sort"] ["thing"] (defScope s_place_rank) := ⟨rfl, rfl, rfl, by decide +kernel, rfl, by decide +kernel, by decide +kernel⟩
theorem ok_rank {f : Addr} {fd : FuncData} (F : FnP K "place_rank" s_place_rank f fd) (c_sort_of_place : Cal P w K mg base 1 "sort_of_place" ["thing"] (spSort K)) (c_number_of : Cal P w K mg base 1 "number_of" ["place"] spNumOf) (G : NkF K mg) : FnOk P w K mg base CX0 2 f fd ["thing"] (spRank gP) := by
  obtain ⟨f_sort_of_place, fd_sort_of_place, g_sort_of_place, k_sort_of_place, b_sort_of_place, G_sort_of_place⟩ := c_sort_of_place
  obtain ⟨f_number_of, fd_number_of, g_number_of, k_number_of, b_number_of, G_number_of⟩ := c_number_of
  refine F.ok sc_place_rank (fun vs H Q E h => ?_) (fun cdv A outer s H vs Q E hr h => ?_)
  · obtain ⟨x, _, rfl, _⟩ := h
    rfl
  · obtain ⟨i, hi, rfl, h⟩ := h
    have nd := sc_place_rank.nd
    have hu := hu_of hr
    apply Exists.intro
    apply And.intro
    case left =>
     apply PSs.nox
     apply pss_cons
     · exact (ps_set (i := 1) nd rfl (.inl rfl) (pe_call G_sort_of_place (hr.mono (by decide)) rfl g_sort_of_place k_sort_of_place b_sort_of_place .nil pass0 (pa_cons (pv 0) pa_nil)))
     apply pss_one
     exact (ps_ret (pe_ifExp (pt_cmpR op_isN (pv 1) pe_non (nomark _)) pe_non (pe_tup (pa_cons (pe_bm PySem.F.plainAttrs_str PySem.F.slot_str_find PySem.F.type_str_find mt_find pe_str (pa_cons (pv 1) pa_nil)) (pa_cons (pe_call G_number_of (hr.mono (by decide)) rfl g_number_of k_number_of b_number_of .nil pass0 (pa_cons (pv 0) pa_nil)) pa_nil)))))
    case right =>
      refine ⟨_, rfl, rd1 (sort_at hi fun H1 s1 => ?_)⟩
      obtain ⟨fs, e1, e2, e3, e4, e5⟩ := pc_cons i hi
      refine ⟨_, rfl, rfl, _, rfl, ?_⟩
      rw [decide_eq_false (fun z => by cases z)]
      refine iteF ?_
      refine ⟨rfl, _, rfl, _, _, rfl, rfl, ?_⟩
      refine ⟨_, rfl, _, fs, congrArg (fun z => [V.str z]) ((pl_pc i).trans (congrArg sT e1)), e2, e3, e4, (show 2 ≤ sizeLine by decide), fun p hp => h _ p (s1.trans (same_new hp)) ?_⟩
      rw [upd_same, e5]
      have ef : ∀ i < 18, (Txt.find "vrs" (if isR i = true then "r" else "s") : Int) = (gP i).1 := by decide +kernel
      rw [← ef i hi]
      rfl
theorem sc_is_machine_place : FnScope ["thing"] ["thing"] (defScope s_is_machine_place) := ⟨rfl, rfl, rfl, by decide +kernel, rfl, by decide +kernel, by decide +kernel⟩
theorem ok_mpl {f : Addr} {fd : FuncData} (F : FnP K "is_machine_place" s_is_machine_place f fd) (c_is_register : Cal P w K mg base 2 "is_register" ["thing", "registers"] (spReg K)) (c_is_slot : Cal P w K mg base 2 "is_slot" ["thing"] (spTxO K slotB)) (g_MOST_REGISTERS : ∃ t, mg "MOST_REGISTERS" = some (.int 9 t)) : FnOk P w K mg base CX0 3 f fd ["thing"] (spTxO K mplB) := by
  obtain ⟨f_is_register, fd_is_register, g_is_register, k_is_register, b_is_register, G_is_register⟩ := c_is_register
  obtain ⟨f_is_slot, fd_is_slot, g_is_slot, k_is_slot, b_is_slot, G_is_slot⟩ := c_is_slot
  obtain ⟨_, g_MOST_REGISTERS⟩ := g_MOST_REGISTERS
  refine F.ok sc_is_machine_place (fun vs H Q E h => ?_) (fun cdv A outer s H vs Q E hr h => ?_)
  · obtain ⟨x, rfl, _⟩ := h
    rfl
  · obtain ⟨x, rfl, h⟩ := h
    have nd := sc_is_machine_place.nd
    have hu := hu_of hr
    apply Exists.intro
    apply And.intro
    case left =>
     apply PSs.nox
     apply pss_one
     exact (ps_ret (pe_or (pe_call G_is_register (hr.mono (by decide)) rfl g_is_register k_is_register b_is_register .nil pass0 (pa_cons (pv 0) (pa_cons (pe_glob (v := .int 9) (by rfl) g_MOST_REGISTERS ⟨_, rfl⟩) pa_nil))) (pe_one (pe_call G_is_slot (hr.mono (by decide)) rfl g_is_slot k_is_slot b_is_slot .nil pass0 (pa_cons (pv 0) pa_nil)))))
    case right =>
      rcases h with ⟨t, rfl, ht, k⟩ | ⟨hN, k⟩
      · refine ⟨_, rfl, _, 9, rfl, .inl ⟨t, rfl, ht, fun H1 s1 => ⟨_, rfl, ?_⟩⟩⟩
        have k2 := k
        unfold mplB at k2
        cases e : regB 9 t with
        | true =>
          rw [e] at k2
          exact iteT (k2 _ s1)
        | false =>
          rw [e] at k2
          refine iteF ?_
          exact ⟨_, rfl, _, rfl, .inl ⟨t, rfl, ht, fun H2 s2 => k2 _ (s1.trans s2)⟩⟩
      · refine ⟨_, rfl, _, 9, rfl, .inr ⟨hN, fun H1 s1 => ⟨_, rfl, ?_⟩⟩⟩
        refine iteF ?_
        exact ⟨_, rfl, _, rfl, .inr ⟨notStr_sm s1 hN, fun H2 s2 => k _ (s1.trans s2)⟩⟩
end
/-! ## rules within comprehensions -/
/-- a dict comprehension over what is walked -/
theorem dc_it {J : It} {n : Nat} {GG : Hp → Prop} {Y : Nat → Hp → V → Hp → Prop} (w : Walk J n GG Y) {g : TG} {tt : TT} {tk tv : TE} {vs : List Nat} {σ : L2.St} {H1 : Hp} {D : Addr} {Qd : Hp → Prop} (Pv : Nat → Hp → Prop) (h0 : Pv 0 (upd H1 D (.dK []))) (hG : ∀ i H, i ≤ n → Pv i H → GG H)
    (hs : ∀ i x H H', i < n → Pv i H → Y i H x H' → g x (wipe σ vs) H' fun σ2 H2 => wipe σ2 vs = wipe σ vs ∧ tt σ2 H2 fun b H3 =>
      if b = true then tk σ2 H3 fun y H4 => tv σ2 H4 fun z H5 => ∃ kvs k, y = kV k ∧ H5 D = some (.dK kvs) ∧ kvs.length < sizeLine ∧ Pv (i + 1) (upd H5 D (.dK (putK kvs k z))) else Pv (i + 1) H3) (hd : ∀ H, Pv n H → Qd H) :
    ∃ W : Nat → Nat → Hp → Prop, (∃ m, W 0 m (upd H1 D (.dK []))) ∧ ∀ i m H, W i m H →
      (J.stop i H ∧ Qd H) ∨ (J.go i H ∧ ∃ Nx : Hp → Prop, (∀ H', Nx H' → ∃ m', m' < m ∧ W (i + 1) m' H') ∧ ∀ x H', J.yld i H x H' → g x (wipe σ vs) H' fun σ2 H2 => wipe σ2 vs = wipe σ vs ∧ tt σ2 H2 fun b H3 =>
        if b = true then tk σ2 H3 fun y H4 => tv σ2 H4 fun z H5 => ∃ kvs k, y = kV k ∧ H5 D = some (.dK kvs) ∧ kvs.length < sizeLine ∧ Nx (upd H5 D (.dK (putK kvs k z))) else Nx H3) := by
  refine ⟨fun i m H => m = n - i ∧ i ≤ n ∧ Pv i H, ⟨n, by simp, Nat.zero_le _, h0⟩, ?_⟩
  rintro i m H ⟨rfl, hi, p⟩
  have q := hG i H hi p
  by_cases hlt : i < n
  · exact .inr ⟨w.goes i H hlt q, Pv (i + 1), fun H' p' => ⟨n - (i + 1), by omega, rfl, hlt, p'⟩, fun x H' y => hs i x H H' hlt p (w.yields i H x H' hlt q y)⟩
  · have e : i = n := by omega
    subst e
    exact .inl ⟨w.stops H q, hd H p⟩
theorem pi_listK {X : Cx} {K : PySem.W.Frag} {tg e : Expr} {te : TE} (he : PE X e te) (e2 : X.K = K := by rfl) : PI X tg e (iList K te) := by
  subst e2
  exact pi_list he
def rListOf (K : PySem.W.Frag) : List V → Hp → VK → Prop := fun xs H Q => ∃ p ys, xs = [.ref p] ∧ (SqL K H p ys ∨ SqT K H p ys) ∧ ∀ l, H l = none → Q (.ref l) (upd H l (.lst ys))
theorem call_list_ofK {X : Cx} {K : PySem.W.Frag} (e : X.K = K := by rfl) : CallR X (.type "list") (rListOf K) := by
  subst e
  exact call_list_of
theorem cr_allK {X : Cx} {K : PySem.W.Frag} (hc : X.calm = true) (e : X.K = K := by rfl) : CallR X (.builtin "all") (rAll K) := by
  subst e
  exact cr_all hc
theorem op_in_seqK {X : Cx} {K : PySem.W.Frag} (e : X.K = K := by rfl) : OpR X (compareOp .In) (rIn K false) := by
  subst e
  exact op_in_seq
theorem op_notIn_seqK {X : Cx} {K : PySem.W.Frag} (e : X.K = K := by rfl) : OpR X (compareOp .NotIn) (rIn K true) := by
  subst e
  exact op_notIn_seq
def relab (scope sc0 : Scope) : Scope := { scope with names := scope.names.map fun (n, k) => if (k == .free && sc0.kind == .function && sc0.names.lookup n == some .cell) then (n, .cell) else (n, k) }
theorem blkOk_in {N : List Str} {scope0 sc0 scope : Scope} {own : List (Str × Nat)} {cl : List (Str × Addr)} {C : Addr} {env : Env} (h : blkC N (relab scope0 sc0) scope own = true) (e : env.scope = sc0 := by rfl) : BlkOk N (compEnvC scope0 cl C env).scope scope own := by
  subst e
  exact blkOk_by h
/-! ## any list == [] -/
def rEqEL (K : PySem.W.Frag) : R2 := fun x y H Q => ∃ a b xs, x = .ref a ∧ y = .ref b ∧ SqL K H a xs ∧ SqL K H b [] ∧ Q (.bl xs.isEmpty) H
theorem op_eqEL {X : Cx} (hu : X.A.units < cLine) : OpR X (compareOp .Eq) (rEqEL X.K) := by
  intro pins s σ H x y v u Q I rx ry h
  obtain ⟨a, b, xs, rfl, rfl, h1, h2, q⟩ := h
  cases rx
  cases ry
  obtain ⟨its, rv, p1, _⟩ := I.list h1
  obtain ⟨its2, rv2, p2, _⟩ := I.list h2
  cases rv2
  cases rv with
  | nil =>
    have r := SeqAt.RcAt.lists (e := fun _ => true) (A := X.A) p1.isList p2.isList rfl hu (fun j _ h2 => absurd h2 (Nat.not_lt_zero _))
    exact r _ _ _ _ ⟨.bl true, H, I, rfl, q⟩
  | cons g r0 =>
    have r := SeqAt.RcAt.lists_lengths (A := X.A) p1.isList p2.isList (by simp) hu
    exact r _ _ _ _ ⟨.bl false, H, I, rfl, q⟩
/-! lists of whatever, unlike [] -/
def rNeEL (K : PySem.W.Frag) : R2 := fun x y H Q => ∃ a b xs, x = .ref a ∧ y = .ref b ∧ SqL K H a xs ∧ SqL K H b [] ∧ Q (.bl (!xs.isEmpty)) H
theorem op_neEL {X : Cx} (hu : X.A.units < cLine) : OpR X (compareOp .NotEq) (rNeEL X.K) := by
  intro pins s σ H x y v u Q I rx ry h
  obtain ⟨a, b, xs, rfl, rfl, h1, h2, q⟩ := h
  cases rx
  cases ry
  obtain ⟨its, rv, p1, _⟩ := I.list h1
  obtain ⟨its2, rv2, p2, _⟩ := I.list h2
  cases rv2
  cases rv with
  | nil =>
    have r := PySem.SeqAt.RcNeAt.lists (e := fun _ => true) (A := X.A) p1.isList p2.isList rfl hu (fun j _ h2 => absurd h2 (Nat.not_lt_zero _))
    exact r _ _ _ _ ⟨.bl false, H, I, rfl, q⟩
  | cons g r0 =>
    have r := PySem.SeqAt.RcNeAt.lists_lengths (A := X.A) p1.isList p2.isList (by simp) hu
    exact r _ _ _ _ ⟨.bl true, H, I, rfl, q⟩
theorem op_eqELK {X : Cx} {K : PySem.W.Frag} (hu : X.A.units < cLine) (e : X.K = K := by rfl) : OpR X (compareOp .Eq) (rEqEL K) := by
  subst e
  exact op_eqEL hu
theorem op_neELK {X : Cx} {K : PySem.W.Frag} (hu : X.A.units < cLine) (e : X.K = K := by rfl) : OpR X (compareOp .NotEq) (rNeEL K) := by
  subst e
  exact op_neEL hu
theorem pi_tupK {X : Cx} {K : PySem.W.Frag} {tg e : Expr} {te : TE} (he : PE X e te) (e2 : X.K = K := by rfl) : PI X tg e (iTup K te) := by
  subst e2
  exact pi_tup he
/-! ## tuples in rows; takers in a dict -/
open M59 (isR)
inductive TuA {α : Type} (c : α → List V) (H : Hp) : List Addr → List α → Prop
  | nil : TuA c H [] []
  | cons {a : Addr} {m : α} {as : List Addr} {ms : List α} (h : H a = some (.tup (c m))) (t : TuA c H as ms) : TuA c H (a :: as) (m :: ms)
section
variable {α : Type} {c : α → List V} {H H' : Hp}
theorem TuA.same (s : Same H H') : ∀ {as : List Addr} {ms : List α}, TuA c H as ms → TuA c H' as ms
  | _, _, .nil => .nil
  | _, _, .cons h t => .cons (s _ _ h) (t.same s)
theorem TuA.app : ∀ {as bs : List Addr} {ms ns : List α}, TuA c H as ms → TuA c H bs ns → TuA c H (as ++ bs) (ms ++ ns)
  | _, _, _, _, .nil, g => g
  | _, _, _, _, .cons h t, g => .cons h (t.app g)
theorem TuA.one {a : Addr} {m : α} (h : H a = some (.tup (c m))) : TuA c H [a] [m] := .cons h .nil
theorem TuA.length : ∀ {as : List Addr} {ms : List α}, TuA c H as ms → as.length = ms.length
  | _, _, .nil => rfl
  | _, _, .cons _ t => congrArg (· + 1) t.length
theorem TuA.put {x : Addr} {o u : HO} (e : H x = some u) (hu : ∀ vs, u ≠ .tup vs) : ∀ {as : List Addr} {ms : List α}, TuA c H as ms → TuA c (upd H x o) as ms
  | _, _, .nil => .nil
  | _, _, .cons (a := q) h t => .cons (by
      have : q ≠ x := fun z => by
        rw [z, e] at h
        exact hu _ (Option.some.inj h)
      rw [upd_ne this]
      exact h) (t.put e hu)
theorem TuA.at : ∀ {as : List Addr} {ms : List α}, TuA c H as ms → ∀ {i : Nat} {a : Addr}, as[i]? = some a → ∃ m, ms[i]? = some m ∧ H a = some (.tup (c m))
  | _, _, .nil, i, a, h => by simp at h
  | _, _, .cons h t, 0, a, e => by
    injection e with e
    subst e
    exact ⟨_, rfl, h⟩
  | _, _, .cons h t, i + 1, a, e => t.at (i := i) (by simpa using e)
theorem TuA.at' : ∀ {as : List Addr} {ms : List α}, TuA c H as ms → ∀ {i : Nat} {m : α}, ms[i]? = some m → ∃ a, as[i]? = some a ∧ H a = some (.tup (c m))
  | _, _, .nil, i, a, h => by simp at h
  | _, _, .cons h t, 0, a, e => by
    injection e with e
    subst e
    exact ⟨_, rfl, h⟩
  | _, _, .cons h t, i + 1, a, e => t.at' (i := i) (by simpa using e)
theorem TuA.ref {as : List Addr} {ms : List α} (h : TuA c H as ms) {i : Nat} {x : V} (e : (as.map V.ref)[i]? = some x) : ∃ a m, x = .ref a ∧ as[i]? = some a ∧ ms[i]? = some m ∧ H a = some (.tup (c m)) := by
  rw [List.getElem?_map] at e
  cases q : as[i]? with
  | none => rw [q] at e; cases e
  | some a =>
    rw [q] at e
    injection e with e
    obtain ⟨m, h1, h2⟩ := h.at q
    exact ⟨a, m, e.symm, rfl, h1, h2⟩
end
/-- a list of tuples -/
def TuL {α : Type} (c : α → List V) (H : Hp) (L : Addr) (ms : List α) : Prop := ∃ as, H L = some (.lst (as.map V.ref)) ∧ TuA c H as ms
theorem TuL.same {α : Type} {c : α → List V} {H H' : Hp} {L : Addr} {ms : List α} (s : Same H H') (h : TuL c H L ms) : TuL c H' L ms := by
  obtain ⟨as, h1, h2⟩ := h
  exact ⟨as, s _ _ h1, h2.same s⟩
def rowC (m : Nat × Nat) : List V := [plV m.1, .str "copy", plV m.2]
def prC (m : Nat × Nat) : List V := [plV m.1, plV m.2]
def rgC (r : List Nat) : List V := r.map plV
def keyP (i : Nat) : Key := Sum.inr (pl i)
theorem keyP_inj {i j : Nat} (hi : i < 18) (hj : j < 18) (h : keyP i = keyP j) : i = j := pl_inj hi hj (by injection h)
theorem plV_inj {i j : Nat} (hi : i < 18) (hj : j < 18) (h : plV i = plV j) : i = j := pl_inj hi hj (by injection h)
theorem plV_dec {i j : Nat} (hi : i < 18) (hj : j < 18) : decide (plV i = plV j) = decide (i = j) := by
  by_cases c : i = j
  · subst c
    rw [decide_eq_true rfl, decide_eq_true rfl]
  · rw [decide_eq_false c, decide_eq_false fun z => c (plV_inj hi hj z)]
/-- the dict from the sources to their takers, in place order -/
def TkD (H : Hp) (d : Addr) (ps : M59.Prs) : Prop := ∃ kvs, Rd H d (.dK kvs) ∧ kvs.map (·.1) = (M59.keys ps).map keyP ∧ ∀ p ∈ M59.keys ps, ∃ L, valV kvs (keyP p) = some (.ref L) ∧ H L = some (.lst ((M59.tk ps p).map plV))
theorem TkD.same {H H' : Hp} {d : Addr} {ps : M59.Prs} (s : Same H H') (h : TkD H d ps) : TkD H' d ps := by
  obtain ⟨kvs, h1, h2, h3⟩ := h
  refine ⟨kvs, h1.imp (s _ _) fun ⟨o, h⟩ => ⟨o, s _ _ h⟩, h2, fun p hp => ?_⟩
  obtain ⟨L, a, b⟩ := h3 p hp
  exact ⟨L, a, s _ _ b⟩
theorem keys_lt {ps : M59.Prs} {p : Nat} (h : p ∈ M59.keys ps) : p < 18 := List.mem_range.mp (List.mem_filter.mp h).1
theorem TkD.get {H : Hp} {d : Addr} {ps : M59.Prs} (h : TkD H d ps) {p : Nat} (hp : p < 18) : ∃ o, DGet H d (plV p) o ∧ o.isSome = decide (p ∈ M59.keys ps) ∧ ∀ v, o = some v → ∃ L, v = .ref L ∧ H L = some (.lst ((M59.tk ps p).map plV)) := by
  obtain ⟨kvs, h1, h2, h3⟩ := h
  refine ⟨valV kvs (keyP p), .inl ⟨kvs, keyP p, h1, rfl, rfl⟩, ?_, fun v hv => ?_⟩
  · by_cases c : p ∈ M59.keys ps
    · obtain ⟨L, a, _⟩ := h3 p c
      rw [a, decide_eq_true c]
      rfl
    · rw [decide_eq_false c]
      cases e : valV kvs (keyP p) with
      | none => rfl
      | some v =>
        have := valV_in e
        rw [h2] at this
        obtain ⟨q, hq, e2⟩ := List.mem_map.mp this
        exact absurd (keyP_inj (keys_lt hq) hp e2 ▸ hq) c
  · have := valV_in hv
    rw [h2] at this
    obtain ⟨q, hq, e2⟩ := List.mem_map.mp this
    have e3 := keyP_inj (keys_lt hq) hp e2
    subst e3
    obtain ⟨L, a, b⟩ := h3 _ hq
    rw [a] at hv
    exact ⟨L, (Option.some.inj hv).symm, b⟩
theorem TkD.at {H : Hp} {d : Addr} {ps : M59.Prs} (h : TkD H d ps) {p : Nat} (hp : p ∈ M59.keys ps) : ∃ L, DGet H d (plV p) (some (.ref L)) ∧ H L = some (.lst ((M59.tk ps p).map plV)) := by
  obtain ⟨kvs, h1, h2, h3⟩ := h
  obtain ⟨L, a, b⟩ := h3 p hp
  exact ⟨L, .inl ⟨kvs, keyP p, h1, rfl, a.symm⟩, b⟩
theorem tk_len {ps : M59.Prs} (ok : M59.Ok ps) (p : Nat) : (M59.tk ps p).length ≤ 18 := SkF.len18 (M59.tk_nodup ok p) fun t ht => (M59.tk_lt ok ht).1
/-- [p(x) for x in places] -/
theorem lc_bl {K : PySem.W.Frag} {a D : Addr} {ts : List Nat} {j : Nat} {te : TE} {vs : List Nat} {σ : L2.St} {H1 : Hp} {Qd : Hp → Prop} (p : Nat → Bool) (ha : H1 a = some (.lst (ts.map plV))) (hD : H1 D = none) (hl : ts.length ≤ 18)
    (hw : ∀ y, wipe ((wipe σ vs).set j (some y)) vs = wipe σ vs)
    (he : ∀ (t : Nat) (H' : Hp) (Q : VK), t ∈ ts → Same H1 H' → (∀ (H'' : Hp), Same H' H'' → Q (.bl (p t)) H'') → te ((wipe σ vs).set j (some (plV t))) H' Q)
    (hd : ∀ (H' : Hp), Same H1 H' → H' D = some (.lst ((ts.map p).map V.bl)) → Qd H') :
    ∃ W : Nat → Nat → Hp → Prop, (∃ m, W 0 m (upd H1 D (.lst []))) ∧ ∀ i m H, W i m H →
      ((Itl K a).stop i H ∧ Qd H) ∨ ((Itl K a).go i H ∧ ∃ Nx : Hp → Prop, (∀ H', Nx H' → ∃ m', m' < m ∧ W (i + 1) m' H') ∧ ∀ x H', (Itl K a).yld i H x H' → gName j x (wipe σ vs) H' fun σ2 H2 => wipe σ2 vs = wipe σ vs ∧ tYes σ2 H2 fun b H3 =>
        if b = true then te σ2 H3 fun y H4 => ∃ acc, H4 D = some (.lst acc) ∧ acc.length < sizeLine ∧ Nx (upd H4 D (.lst (acc ++ [y]))) else Nx H3) := by
  refine lc_list (K := K) (a := a) (xs := ts.map plV) (fun i H' => Same H1 H' ∧ H' D = some (.lst (((ts.take i).map p).map V.bl))) ⟨same_new hD, upd_same⟩ (fun i H' _ h => SqL.of (h.1 _ _ ha)) ?_ fun H' ⟨s1, h1⟩ => hd H' s1 (by rw [List.length_map, List.take_length] at h1; exact h1)
  rintro i x H' hx ⟨s1, e1⟩
  obtain ⟨t, hti, rfl⟩ : ∃ t, ts[i]? = some t ∧ x = plV t := by
    rw [List.getElem?_map] at hx
    cases q : ts[i]? with
    | none => rw [q] at hx; cases hx
    | some t => rw [q] at hx; injection hx with hx; exact ⟨t, rfl, hx.symm⟩
  refine ⟨hw _, yesIf (he t H' _ (List.mem_of_getElem? hti) s1 fun H2 s2 => ⟨_, s2 _ _ e1, ?_, same_sub (s1.trans s2) hD, ?_⟩)⟩
  · rw [List.length_map, List.length_map]
    have h2 := List.length_take_le' i ts
    exact Nat.lt_of_le_of_lt (show (ts.take i).length ≤ 18 by omega) (by decide)
  · rw [upd_same, take_snoc2 hti, List.map_append, List.map_append]
    rfl
/-- [(x, .., ..) for x in places if p(x)] -/
theorem lc_tu {K : PySem.W.Frag} {a D : Addr} {ts : List Nat} {j : Nat} {tt : TT} {te : TE} {vs : List Nat} {σ : L2.St} {H1 : Hp} {Qd : Hp → Prop} {α : Type} (c : α → List V) (f : Nat → α) (p : Nat → Bool) (ha : H1 a = some (.lst (ts.map plV))) (hD : H1 D = none) (hl : ts.length ≤ 18)
    (hw : ∀ y, wipe ((wipe σ vs).set j (some y)) vs = wipe σ vs)
    (ht : ∀ (t : Nat) (H' : Hp) (Q : Bool → Hp → Prop), t ∈ ts → Same H1 H' → (∀ H'', Same H' H'' → Q (p t) H'') → tt ((wipe σ vs).set j (some (plV t))) H' Q)
    (he : ∀ (t : Nat) (H' : Hp) (Q : VK), t ∈ ts → p t = true → Same H1 H' → (∀ (q : Addr) (H'' : Hp), Same H' H'' → H'' q = some (.tup (c (f t))) → Q (.ref q) H'') → te ((wipe σ vs).set j (some (plV t))) H' Q)
    (hd : ∀ (H' : Hp) (as : List Addr), Same H1 H' → H' D = some (.lst (as.map V.ref)) → TuA c H' as ((ts.filter p).map f) → Qd H') :
    ∃ W : Nat → Nat → Hp → Prop, (∃ m, W 0 m (upd H1 D (.lst []))) ∧ ∀ i m H, W i m H →
      ((Itl K a).stop i H ∧ Qd H) ∨ ((Itl K a).go i H ∧ ∃ Nx : Hp → Prop, (∀ H', Nx H' → ∃ m', m' < m ∧ W (i + 1) m' H') ∧ ∀ x H', (Itl K a).yld i H x H' → gName j x (wipe σ vs) H' fun σ2 H2 => wipe σ2 vs = wipe σ vs ∧ tt σ2 H2 fun b H3 =>
        if b = true then te σ2 H3 fun y H4 => ∃ acc, H4 D = some (.lst acc) ∧ acc.length < sizeLine ∧ Nx (upd H4 D (.lst (acc ++ [y]))) else Nx H3) := by
  refine lc_list (K := K) (a := a) (xs := ts.map plV) (fun i H' => Same H1 H' ∧ ∃ as : List Addr, H' D = some (.lst (as.map V.ref)) ∧ TuA c H' as (((ts.take i).filter p).map f)) ⟨same_new hD, [], upd_same, .nil⟩ (fun i H' _ h => SqL.of (h.1 _ _ ha)) ?_ fun H' ⟨s1, as, h1, h2⟩ => hd H' as s1 h1 (by rw [List.length_map, List.take_length] at h2; exact h2)
  rintro i x H' hx ⟨s1, as, e1, tu⟩
  obtain ⟨t, hti, rfl⟩ : ∃ t, ts[i]? = some t ∧ x = plV t := by
    rw [List.getElem?_map] at hx
    cases q : ts[i]? with
    | none => rw [q] at hx; cases hx
    | some t => rw [q] at hx; injection hx with hx; exact ⟨t, rfl, hx.symm⟩
  have tin := List.mem_of_getElem? hti
  have tk : (ts.take (i + 1)).filter p = (ts.take i).filter p ++ if p t = true then [t] else [] := by
    rw [take_snoc2 hti, List.filter_append, List.filter_cons, List.filter_nil]
  refine ⟨hw _, ht t H' _ tin s1 fun H2 s2 => ?_⟩
  have s12 := s1.trans s2
  have e2 := s2 _ _ e1
  have tu2 := tu.same s2
  cases cc : p t with
  | false =>
    rw [cc] at tk
    refine iteF ⟨s12, as, e2, ?_⟩
    rw [tk]
    simpa using tu2
  | true =>
    rw [cc] at tk
    refine iteT (he t H2 _ tin cc s12 fun q H3 s3 eq => ?_)
    have e3 := s3 _ _ e2
    refine ⟨_, e3, ?_, same_sub (s12.trans s3) hD, as ++ [q], ?_, ?_⟩
    · have h0 := tu.length
      rw [List.length_map] at h0 ⊢
      have h1 : ((ts.take i).filter p).length ≤ (ts.take i).length := List.length_filter_le _ _
      have h2 := List.length_take_le' i ts
      exact Nat.lt_of_le_of_lt (show as.length ≤ 18 by omega) (by decide)
    · rw [upd_same, List.map_append]
      rfl
    · rw [tk]
      rw [if_pos rfl, List.map_append]
      exact ((tu2.same s3).app (.one eq)).put e3 fun vs z => by cases z
/-! ## k59: taken, by_slots, opens -/
open M59 (isR fstR Ok byS tk)
def spTaken : Sp := fun vs H Q _ => ∃ (i : Nat) (L : Addr) (ts : List Nat) (hv : V) (h : Nat), vs = [plV i, .ref L, hv] ∧ i < 18 ∧ H L = some (.lst (ts.map plV)) ∧ ts.length ≤ 18 ∧ (∀ t ∈ ts, t < 18) ∧ ((hv = plV h ∧ h < 18) ∨ (hv = .non ∧ ¬ (isR i = false ∧ fstR ts = none))) ∧
  ∀ (H' : Hp) (q : Addr), Same H H' → H q = none → TuL rowC H' q (M59.taken i ts h) → Q (.ref q) H'
section
variable {P : Program} {w : World} {K : PySem.W.Frag} {mg : Str → Option Value} {base : Heap}
theorem sc_taken : FnScope ["place", "takers", "helper", "taker", "registers", "first"] ["place", "takers", "helper"] (defScope s_taken) := ⟨rfl, rfl, rfl, by decide +kernel, rfl, by decide +kernel, by decide +kernel⟩
theorem ok_taken {f : Addr} {fd : FuncData} (F : FnP K "taken" s_taken f fd) (c_is_register : Cal P w K mg base 2 "is_register" ["thing", "registers"] (spReg K)) (g_MOST_REGISTERS : ∃ t, mg "MOST_REGISTERS" = some (.int 9 t)) : FnOk P w K mg base CX0 3 f fd ["place", "takers", "helper"] spTaken := by
  obtain ⟨f_is_register, fd_is_register, g_is_register, k_is_register, b_is_register, G_is_register⟩ := c_is_register
  obtain ⟨_, g_MOST_REGISTERS⟩ := g_MOST_REGISTERS
  refine F.ok sc_taken (fun vs H Q E h => ?_) (fun cdv A outer s H vs Q E hr h => ?_)
  · obtain ⟨i, L, ts, hv, h, rfl, _⟩ := h
    rfl
  · obtain ⟨i, L, ts, hv, h, rfl, hi, eL, hl, h18, hh, k⟩ := h
    have nd := sc_taken.nd
    have hu := hu_of hr
    apply Exists.intro
    apply And.intro
    case left =>
     apply PSs.nox
     apply pss_cons
     · exact (ps_if (pt_val (pe_call G_is_register (hr.mono (by decide)) rfl g_is_register k_is_register b_is_register .nil pass0 (pa_cons (pv 0) (pa_cons (pe_glob (v := .int 9) (by rfl) g_MOST_REGISTERS ⟨_, rfl⟩) pa_nil)))) (pss_one (ps_ret (pe_lc (own := [("taker", 3)]) (g := gName 3) rfl nd (pi_list (pv 1)) (blkOk_by (own := [("taker", 3)]) (N := ["place", "takers", "helper", "taker", "registers", "first"]) (sc := defScope s_taken) (by decide +kernel)) (fun _ _ _ _ _ => (pg_name (i := 3) nd rfl (Or.inl rfl))) (fun _ _ _ _ _ => pts_nil) (fun _ _ _ _ _ => (pe_tup (pa_cons (pv 3) (pa_cons pe_str (pa_cons (pv 0) pa_nil)))))))) pss_nil)
     apply pss_cons
     · exact (ps_setLc (i := 4) (own := [("taker", 3)]) (g := gName 3) rfl nd rfl rfl (sw_true rfl rfl rfl (by decide +kernel)) (pi_list (pv 1)) (blkOk_by (own := [("taker", 3)]) (N := ["place", "takers", "helper", "taker", "registers", "first"]) (sc := defScope s_taken) (by decide +kernel)) (fun _ _ _ _ _ => (pg_name (i := 3) nd rfl (Or.inl rfl))) (fun _ _ _ _ _ => pts_one (pt_val (pe_call G_is_register (hr.mono (by decide)) rfl g_is_register k_is_register b_is_register .nil pass0 (pa_cons (pv 3) (pa_cons (pe_glob (v := .int 9) (by rfl) g_MOST_REGISTERS ⟨_, rfl⟩) pa_nil))))) (fun _ _ _ _ _ => (pv 3)))
     apply C8.pss_cut
     · exact (ps_set (i := 5) nd rfl (.inr rfl) (pe_ifExp (pt_cmpR (op_neEL (Nat.lt_of_le_of_lt (Nat.le_add_right _ 64) hr.units)) (pv 4) (pe_lst pa_nil) (nomark _)) (pe_ix ix_list (pv 4) pe_int (fun _ _ => rfl)) (pv 2)))
     apply pss_one
     exact (ps_ret (pe_op op_cat (pe_lst (pa_cons (pe_tup (pa_cons (pv 5) (pa_cons pe_str (pa_cons (pv 0) pa_nil)))) pa_nil)) (pe_lc (own := [("taker", 3)]) (g := gName 3) rfl nd (pi_list (pv 1)) (blkOk_by (own := [("taker", 3)]) (N := ["place", "takers", "helper", "taker", "registers", "first"]) (sc := defScope s_taken) (by decide +kernel)) (fun _ _ _ _ _ => (pg_name (i := 3) nd rfl (Or.inl rfl))) (fun _ _ _ _ _ => pts_one (pt_cmpR op_ne (pv 3) (pv 5) (nomark _))) (fun _ _ _ _ _ => (pe_tup (pa_cons (pv 3) (pa_cons pe_str (pa_cons (pv 5) pa_nil))))))))
    case right =>
      refine ⟨_, rfl, rd2 (reg_pl hi fun H1 s1 => ?_)⟩
      have eL1 := s1 _ _ eL
      unfold M59.taken at k
      cases e : isR i with
      | true =>
        refine ⟨_, rfl, iteT ⟨_, rfl, L, rfl, ⟨_, SqL.of eL1⟩, fun D hD => ?_⟩⟩
        refine lc_tu (K := K) (j := 3) rowC (fun t => (t, i)) (fun _ => true) eL1 hD hl (fun _ => rfl) (fun t H' Q _ s h => h H' (Same.refl _)) (fun t H' Q _ _ s h => ⟨_, rfl, _, rfl, (show 3 ≤ sizeLine by decide), fun q hq => h q _ (same_new hq) upd_same⟩) fun H2 as s2 e2 tu => ?_
        refine k _ D (s1.trans s2) (s1.free hD) ⟨as, e2, ?_⟩
        rw [if_pos e]
        rw [List.filter_eq_self.mpr fun _ _ => rfl] at tu
        exact tu
      | false =>
        refine ⟨_, rfl, iteF ?_⟩
        rw [e, if_neg Bool.false_ne_true] at k
        refine ⟨_, rfl, L, rfl, ⟨_, SqL.of eL1⟩, fun D hD => ?_⟩
        refine lc_pf (K := K) (j := 3) isR eL1 hD hl (fun _ => rfl) (fun _ => rfl) (fun t H' Q ht s h => ⟨_, rfl, rd2 (reg_pl (h18 t ht) fun H2 s2 => ⟨_, rfl, h _ s2⟩)⟩) fun H2 s2 eD => ?_
        have s02 := s1.trans s2
        have eL2 := s2 _ _ eL1
        refine ⟨fun σ H' => ∃ w3, σ = [some (plV i), some (.ref L), some hv, w3, some (.ref D), some (plV ((fstR ts).getD h))] ∧ Same H2 H' ∧ (fstR ts).getD h < 18, ?_, ?_⟩
        · refine ⟨_, rfl, (show 0 ≤ sizeLine by decide), fun q hq => ⟨D, q, _, rfl, rfl, SqL.of ((same_new hq) _ _ eD), SqL.of upd_same, _, rfl, ?_⟩⟩
          have sq := same_new (o := .lst []) hq
          have eD3 := sq _ _ eD
          generalize upd H2 q (.lst []) = H3 at sq eD3 ⊢
          have em : ((List.filter isR ts).map plV).isEmpty = (fstR ts).isNone := by
            unfold fstR
            cases List.filter isR ts <;> rfl
          rw [em]
          cases e3 : fstR ts with
          | none =>
            refine iteF ?_
            rcases hh with ⟨rfl, h9⟩ | ⟨_, hn⟩
            · exact ⟨_, rfl, _, rfl, sq, h9⟩
            · exact absurd ⟨e, e3⟩ hn
          | some z =>
            refine iteT ?_
            have hz := M59.fstR_mem e3
            refine ⟨_, rfl, D, _, 0, _, rfl, rfl, SqL.of eD3, ?_, _, rfl, sq, h18 z hz.1⟩
            unfold fstR at e3
            cases e4 : List.filter isR ts with
            | nil => rw [e4] at e3; cases e3
            | cons a r =>
              rw [e4] at e3
              injection e3 with e3
              subst e3
              exact atI_nat (j := 0) rfl
        rintro σ H4 ⟨w3, rfl, s4, hf⟩
        have s04 := s02.trans s4
        have eL4 := s4 _ _ eL2
        refine ⟨_, rfl, _, rfl, (show 3 ≤ sizeLine by decide), fun q1 hq1 => ⟨(show 1 ≤ sizeLine by decide), fun L1 hL1 => ?_⟩⟩
        have s5 := (same_new (o := .tup [plV ((fstR ts).getD h), .str "copy", plV i]) hq1).trans (same_new (o := .lst [V.ref q1]) hL1)
        have e5 : (upd (upd H4 q1 (.tup [plV ((fstR ts).getD h), .str "copy", plV i])) L1 (.lst [V.ref q1])) q1 = some (.tup [plV ((fstR ts).getD h), .str "copy", plV i]) := (same_new hL1) _ _ upd_same
        have eL5 := s5 _ _ eL4
        have e6 : (upd (upd H4 q1 (.tup [plV ((fstR ts).getD h), .str "copy", plV i])) L1 (.lst [V.ref q1])) L1 = some (.lst ([q1].map V.ref)) := upd_same
        refine ⟨_, rfl, L, rfl, ⟨_, SqL.of eL5⟩, fun D2 hD2 => ?_⟩
        have s05 := s04.trans s5
        change (upd (upd H4 q1 (.tup [plV ((fstR ts).getD h), .str "copy", plV i])) L1 (.lst [V.ref q1])) D2 = none at hD2
        generalize upd (upd H4 q1 (.tup [plV ((fstR ts).getD h), .str "copy", plV i])) L1 (.lst [V.ref q1]) = H5 at hD2 e5 eL5 e6 s05 ⊢
        refine lc_tu (K := K) (j := 3) rowC (fun t => (t, (fstR ts).getD h)) (fun t => decide (t ≠ (fstR ts).getD h)) eL5 hD2 hl (fun _ => rfl) (fun t H' Q ht s hk => ?_) (fun t H' Q _ _ s h => ⟨_, rfl, _, rfl, (show 3 ≤ sizeLine by decide), fun q hq => h q _ (same_new hq) upd_same⟩) fun H6 as s6 e7 tu => ?_
        · refine ⟨_, rfl, _, rfl, rfl, _, rfl, ?_⟩
          rw [show decide (plV t = plV ((fstR ts).getD h)) = decide (t = (fstR ts).getD h) from plV_dec (h18 t ht) hf]
          have hk := hk _ (Same.refl _)
          by_cases c : t = (fstR ts).getD h
          · rw [decide_eq_true c]
            rw [decide_eq_false (fun z => z c)] at hk
            exact hk
          · rw [decide_eq_false c]
            rw [decide_eq_true c] at hk
            exact hk
        · refine ⟨_, _, _, _, rfl, rfl, s6 _ _ e6, e7, ?_, fun q hq => ?_⟩
          · have h0 := tu.length
            rw [List.length_map] at h0
            have h1 : (ts.filter fun t => decide (t ≠ (fstR ts).getD h)).length ≤ ts.length := List.length_filter_le _ _
            rw [List.length_map, List.length_map]
            exact Nat.le_trans (show [q1].length + as.length ≤ 19 by rw [List.length_singleton]; omega) (by decide)
          · refine k _ q ((s05.trans s6).trans (same_new hq)) ((s05.trans s6).free hq) ⟨[q1] ++ as, ?_, ?_⟩
            · rw [upd_same, List.map_append]
            · exact (TuA.app (TuA.one (c := rowC) (m := ((fstR ts).getD h, i)) (s6 _ _ e5)) tu).same (same_new hq)
end
/-! ## k59: by_slots, opens -/
open M59 (isR fstR Ok byS tk)
def spByS : Sp := fun vs H Q _ => ∃ (d : Addr) (i : Nat) (ps : M59.Prs), vs = [.ref d, plV i] ∧ i < 18 ∧ TkD H d ps ∧ Ok ps ∧ ∀ H', Same H H' → Q (.bl (byS ps i)) H'
def OpV (H : Hp) (v : V) : Option (Nat × Option Nat) → Prop
  | none => v = .non
  | some (a, h) => ∃ p, v = .ref p ∧ H p = some (.tup [.int ((a : Nat) : Int), match h with | none => .non | some k => plV k])
def spOpens : Sp := fun vs H Q _ => ∃ (d R : Addr) (r : List Nat) (ps : M59.Prs), vs = [.ref d, .ref R] ∧ H R = some (.tup (r.map plV)) ∧ TkD H d ps ∧ Ok ps ∧ M59.RingP ps r ∧ ∀ H' v, Same H H' → OpV H' v (M59.opens ps r) → Q v H'
theorem atI_fol {r : List Nat} {i : Nat} (hi : i < r.length) : atI (r.map plV) ((i : Int) + 1 - (r.length : Int)) = some (plV (M59.fol r i)) := by
  have h1 : (i + 1) % r.length < r.length := Nat.mod_lt _ (by omega)
  have e : ixN (r.map plV).length ((i : Int) + 1 - (r.length : Int)) = some ((i + 1) % r.length) := by
    rw [List.length_map]
    unfold ixN
    by_cases c : i + 1 = r.length
    · have : (i : Int) + 1 - (r.length : Int) = 0 := by omega
      rw [this, if_pos (Int.le_refl 0), if_pos (by omega), c, Nat.mod_self]
      rfl
    · have h2 : (i + 1) % r.length = i + 1 := Nat.mod_eq_of_lt (by omega)
      rw [if_neg (by omega), if_pos (by omega), h2]
      congr 1
      omega
  unfold atI
  rw [e]
  show (r.map plV)[(i + 1) % r.length]? = _
  rw [List.getElem?_map]
  unfold M59.fol
  rw [List.getD_eq_getElem?_getD, List.getElem?_eq_getElem h1]
  rfl
section
variable {P : Program} {w : World} {K : PySem.W.Frag} {mg : Str → Option Value} {base : Heap}
theorem sc_by_slots : FnScope ["takers", "place", "taker"] ["takers", "place"] (defScope s_by_slots) := ⟨rfl, rfl, rfl, by decide +kernel, rfl, by decide +kernel, by decide +kernel⟩
theorem ok_bys {f : Addr} {fd : FuncData} (F : FnP K "by_slots" s_by_slots f fd) (c_is_slot : Cal P w K mg base 2 "is_slot" ["thing"] (spTxO K slotB)) (m_all : mg "all" = none) : FnOk P w K mg base CX0 3 f fd ["takers", "place"] spByS := by
  obtain ⟨f_is_slot, fd_is_slot, g_is_slot, k_is_slot, b_is_slot, G_is_slot⟩ := c_is_slot
  refine F.ok sc_by_slots (fun vs H Q E h => ?_) (fun cdv A outer s H vs Q E hr h => ?_)
  · obtain ⟨d, i, ps, rfl, _⟩ := h
    rfl
  · obtain ⟨d, i, ps, rfl, hi, hT, ok, k⟩ := h
    have nd := sc_by_slots.nd
    have hu := hu_of hr
    apply Exists.intro
    apply And.intro
    case left =>
     apply PSs.nox
     apply pss_one
     exact (ps_ret (pe_and (pe_call G_is_slot (hr.mono (by decide)) rfl g_is_slot k_is_slot b_is_slot .nil pass0 (pa_cons (pv 1) pa_nil)) (pe_and (pe_cmp (pc_din hu (pv 1) (pv 0))) (pe_one (pe_callB (cr_allK rfl) (by rfl) m_all (by decide +kernel) (pa_cons (pe_lc (own := [("taker", 2)]) (g := gName 2) rfl nd (pi_list (pe_dget hu (pv 0) (pv 1) (fun _ _ => rfl))) (blkOk_by (own := [("taker", 2)]) (N := ["takers", "place", "taker"]) (sc := defScope s_by_slots) (by decide +kernel)) (fun _ _ _ _ _ => (pg_name (i := 2) nd rfl (Or.inl rfl))) (fun _ _ _ _ _ => pts_nil) (fun _ _ _ _ _ => (pe_call G_is_slot (hr.mono (by decide)) rfl g_is_slot k_is_slot b_is_slot .nil pass0 (pa_cons (pv 2) pa_nil)))) pa_nil))))))
    case right =>
      refine ⟨_, rfl, rd1 (slot_pl hi fun H1 s1 => ⟨_, rfl, ?_⟩)⟩
      unfold byS at k
      cases e : isR i with
      | true =>
        rw [e] at k
        exact iteF (k _ s1)
      | false =>
        rw [e] at k
        refine iteT ?_
        have hT1 := hT.same s1
        obtain ⟨o, g1, g2, g3⟩ := hT1.get hi
        refine ⟨_, rfl, _, rfl, d, o, rfl, g1, _, rfl, ?_⟩
        rw [g2]
        by_cases c : i ∈ M59.keys ps
        · have hne := (M59.keys_mem ok).mp c
          rw [decide_eq_true c]
          refine iteT ?_
          obtain ⟨L, gL, eL⟩ := hT1.at c
          refine ⟨_, rfl, _, rfl, d, _, rfl, gL, ?_⟩
          refine ⟨L, rfl, ⟨_, SqL.of eL⟩, fun D hD => ?_⟩
          refine lc_bl (K := K) (j := 2) (fun t => !isR t) eL hD (tk_len ok i) (fun _ => rfl) (fun t H' Q ht s h => ⟨_, rfl, rd1 (slot_pl (M59.tk_lt ok ht).1 h)⟩) fun H2 s2 e2 => ⟨D, _, rfl, SqL.of e2, ?_⟩
          have q := k _ (s1.trans s2)
          have e3 : (tk ps i).isEmpty = false := by
            cases z : tk ps i with
            | nil => exact absurd z hne
            | cons a r => rfl
          rw [e3] at q
          rw [List.all_map]
          exact q
        · rw [decide_eq_false c]
          have hne : tk ps i = [] := Classical.byContradiction fun z => c ((M59.keys_mem ok).mpr z)
          rw [hne] at k
          exact iteF (k _ s1)
theorem sc_opens : FnScope ["takers", "ring", "at", "place", "following", "outside", "taker", "registers"] ["takers", "ring"] (defScope s_opens) := ⟨rfl, rfl, rfl, by decide +kernel, rfl, by decide +kernel, by decide +kernel⟩
theorem ok_opens {f : Addr} {fd : FuncData} (F : FnP K "opens" s_opens f fd) (c_by_slots : Cal P w K mg base 3 "by_slots" ["takers", "place"] spByS) (c_is_register : Cal P w K mg base 2 "is_register" ["thing", "registers"] (spReg K)) (g_MOST_REGISTERS : ∃ t, mg "MOST_REGISTERS" = some (.int 9 t)) (G : NkF K mg) (m_enumerate : mg "enumerate" = none) : FnOk P w K mg base CX0 4 f fd ["takers", "ring"] spOpens := by
  obtain ⟨f_by_slots, fd_by_slots, g_by_slots, k_by_slots, b_by_slots, G_by_slots⟩ := c_by_slots
  obtain ⟨f_is_register, fd_is_register, g_is_register, k_is_register, b_is_register, G_is_register⟩ := c_is_register
  obtain ⟨_, g_MOST_REGISTERS⟩ := g_MOST_REGISTERS
  refine F.ok sc_opens (fun vs H Q E h => ?_) (fun cdv A outer s H vs Q E hr h => ?_)
  · obtain ⟨d, R, r, ps, rfl, _⟩ := h
    rfl
  · obtain ⟨d, R, r, ps, rfl, eR, hT, ok, RP, k⟩ := h
    have nd := sc_opens.nd
    have hu := hu_of hr
    apply Exists.intro
    apply And.intro
    case left =>
     apply PSs.nox
     apply pss_cons
     · apply ps_for PassesOwn.never rfl
       · exact (pi_enumT (by rfl) m_enumerate (pa_cons (pv 1) pa_nil))
       · exact (pg_tup rfl (pgs_cons (pg_name (i := 2) nd rfl (Or.inl rfl)) (pgs_cons (pg_name (i := 3) nd rfl (Or.inl rfl)) pgs_nil)))
       · apply pss_cons
         · exact (ps_set (i := 4) nd rfl (.inr rfl) (pe_ix ix_tup (pv 1) (pe_op op_sub (pe_op op_add (pv 2) pe_int) (pe_callB call_len (by rfl) G.len PySem.boot_len (pa_cons (pv 1) pa_nil))) (fun _ _ => rfl)))
         apply pss_cons
         · exact (ps_setLc (i := 5) (own := [("taker", 6)]) (g := gName 6) rfl nd rfl rfl (sw_true rfl rfl rfl (by decide +kernel)) (pi_list (pe_dget hu (pv 0) (pv 3) (fun _ _ => rfl))) (blkOk_by (own := [("taker", 6)]) (N := ["takers", "ring", "at", "place", "following", "outside", "taker", "registers"]) (sc := defScope s_opens) (by decide +kernel)) (fun _ _ _ _ _ => (pg_name (i := 6) nd rfl (Or.inl rfl))) (fun _ _ _ _ _ => pts_one (pt_cmpR op_ne (pv 6) (pv 4) (nomark _))) (fun _ _ _ _ _ => (pv 6)))
         apply pss_cons
         · exact (ps_setLc (i := 7) (own := [("taker", 6)]) (g := gName 6) rfl nd rfl rfl (sw_true rfl rfl rfl (by decide +kernel)) (pi_list (pv 5)) (blkOk_by (own := [("taker", 6)]) (N := ["takers", "ring", "at", "place", "following", "outside", "taker", "registers"]) (sc := defScope s_opens) (by decide +kernel)) (fun _ _ _ _ _ => (pg_name (i := 6) nd rfl (Or.inl rfl))) (fun _ _ _ _ _ => pts_one (pt_val (pe_call G_is_register (hr.mono (by decide)) rfl g_is_register k_is_register b_is_register .nil pass0 (pa_cons (pv 6) (pa_cons (pe_glob (v := .int 9) (by rfl) g_MOST_REGISTERS ⟨_, rfl⟩) pa_nil))))) (fun _ _ _ _ _ => (pv 6)))
         apply pss_cons
         · exact (ps_if (pt_val (pe_call G_by_slots (hr.mono (by decide)) rfl g_by_slots k_by_slots b_by_slots .nil pass0 (pa_cons (pv 0) (pa_cons (pv 3) pa_nil)))) (pss_one (ps_ret (pe_tup (pa_cons (pv 2) (pa_cons pe_non pa_nil))))) pss_nil)
         apply pss_cons
         · exact (ps_if (pt_cmpR (op_neEL (Nat.lt_of_le_of_lt (Nat.le_add_right _ 64) hr.units)) (pv 7) (pe_lst pa_nil) (nomark _)) (pss_one (ps_ret (pe_tup (pa_cons (pv 2) (pa_cons (pe_ix ix_list (pv 7) pe_int (fun _ _ => rfl)) pa_nil))))) pss_nil)
         apply pss_one
         exact (ps_if (PW.pt (pw_and (pt_cmpR (op_neEL (Nat.lt_of_le_of_lt (Nat.le_add_right _ 64) hr.units)) (pv 5) (pe_lst pa_nil) (nomark _)) (pw_and (pt_val (pe_call G_is_register (hr.mono (by decide)) rfl g_is_register k_is_register b_is_register .nil pass0 (pa_cons (pv 3) (pa_cons (pe_glob (v := .int 9) (by rfl) g_MOST_REGISTERS ⟨_, rfl⟩) pa_nil)))) (pw_and1 (pt_val (pe_call G_is_register (hr.mono (by decide)) rfl g_is_register k_is_register b_is_register .nil pass0 (pa_cons (pv 4) (pa_cons (pe_glob (v := .int 9) (by rfl) g_MOST_REGISTERS ⟨_, rfl⟩) pa_nil)))))))) (pss_one (ps_ret (pe_tup (pa_cons (pv 2) (pa_cons (pe_ix ix_list (pv 5) pe_int (fun _ _ => rfl)) pa_nil))))) pss_nil)
     apply pss_one
     exact (ps_ret pe_non)
    case right =>
      refine ⟨_, rfl, R, _, rfl, SqT.of eR, ?_⟩
      refine for_it walk_enumT (fun i σ H' => Same H H' ∧ M59.opens ps r = M59.opensGo ps r ((List.range r.length).drop i) ∧ ∃ w2 w3 w4 w5 w6 w7, σ = [some (.ref d), some (.ref R), w2, w3, w4, w5, w6, w7]) ⟨Same.refl _, rfl, _, _, _, _, _, _, rfl⟩ (fun i σ H' _ h => SqT.of (h.1 _ _ eR)) ?_ ?_
      · rintro i x σ H' Hx hi ⟨s1, ho, w2, w3, w4, w5, w6, w7, rfl⟩ ⟨Tp, x1, x2, rfl, hTp, rfl, hx1, hx2⟩
        cases hx1
        have sT := same_new (o := .tup [.int (i : Int), x2]) hTp
        refine ⟨Tp, _, rfl, SqT.of upd_same, rfl, _, _, rfl, _, _, rfl, rfl, ?_⟩
        have s1 := s1.trans sT
        generalize upd H' Tp (.tup [.int (i : Int), x2]) = H1 at s1 ⊢
        clear sT hTp
        rw [List.length_map] at hi
        have hx3 : x2 = plV r[i] := by
          have hx2 : (r.map plV)[i]? = some x2 := hx2
          rw [List.getElem?_map, List.getElem?_eq_getElem hi] at hx2
          exact (Option.some.inj hx2).symm
        subst hx3
        refine ⟨_, rfl, _, rfl, _, _, rfl, rfl, _, rfl, _, _, rfl, .inr ⟨_, SqT.of (s1 _ _ eR), rfl⟩, _, _, rfl, rfl, _, _, _, _, rfl, rfl, SqT.of (s1 _ _ eR), by rw [List.length_map]; exact atI_fol hi, ?_⟩
        have rk : r[i] ∈ M59.keys ps := M59.ring_key ok RP (List.getElem_mem hi)
        have r18 := keys_lt rk
        obtain ⟨L, gL, eL⟩ := (hT.same s1).at rk
        refine ⟨_, rfl, _, rfl, d, _, rfl, gL, L, rfl, ⟨_, SqL.of eL⟩, fun D hD => ?_⟩
        have f18 : M59.fol r i < 18 := RP.lt ok _ ((M59.tk_outs ok RP hi).1 |> fun h => (RP.fol_iff hi ((M59.tk_src ok).mp h).1).mpr rfl)
        have hop := M59.RingP.outs_fol ok RP hi
        refine lc_pf (K := K) (j := 6) (fun t => decide (t ≠ M59.fol r i)) eL hD (tk_len ok _) (fun _ => rfl) (fun _ => rfl) (fun t H' Q ht s hk => ?_) fun H2 s2 eO => ?_
        · refine ⟨_, rfl, _, rfl, rfl, _, rfl, ?_⟩
          rw [show decide (plV t = plV (M59.fol r i)) = decide (t = M59.fol r i) from plV_dec (M59.tk_lt ok ht).1 f18]
          have hk := hk _ (Same.refl _)
          by_cases c : t = M59.fol r i
          · rw [decide_eq_true c]
            rw [decide_eq_false (fun z => z c)] at hk
            exact hk
          · rw [decide_eq_false c]
            rw [decide_eq_true c] at hk
            exact hk
        rw [hop] at eO
        have ol : (M59.outs ps r r[i]).length ≤ 18 := by
          have : (M59.outs ps r r[i]).length ≤ (tk ps r[i]).length := List.length_filter_le _ _
          have := tk_len ok r[i]
          omega
        have o18 : ∀ t ∈ M59.outs ps r r[i], t < 18 := fun t ht => M59.outs_lt ok ht
        refine ⟨_, rfl, D, rfl, ⟨_, SqL.of eO⟩, fun D2 hD2 => ?_⟩
        refine lc_pf (K := K) (j := 6) isR eO hD2 ol (fun _ => rfl) (fun _ => rfl) (fun t H' Q ht s hk => ⟨_, rfl, rd2 (reg_pl (o18 t ht) fun H2 s2 => ⟨_, rfl, hk _ s2⟩)⟩) fun H3 s3 eG => ?_
        have s13 := (s1.trans s2).trans s3
        have eO := s3 _ _ eO
        have hdr : (List.range r.length).drop i = i :: (List.range r.length).drop (i + 1) := by
          rw [List.drop_eq_getElem_cons (by rw [List.length_range]; exact hi)]
          simp
        rw [hdr] at ho
        have egd : r.getD i 0 = r[i] := M59.getD_at hi
        unfold M59.opensGo at ho
        rw [egd] at ho
        unfold M59.openAt at ho
        refine ⟨_, rfl, _, rfl, d, r[i], ps, rfl, r18, hT.same s13, ok, fun H4 s4 => ⟨_, rfl, ?_⟩⟩
        have s14 := s13.trans s4
        have eO := s4 _ _ eO
        have eG := s4 _ _ eG
        cases c1 : byS ps r[i] with
        | true =>
          rw [c1, if_pos rfl] at ho
          refine iteT ⟨_, rfl, (show 2 ≤ sizeLine by decide), fun p hp => k _ _ (s14.trans (same_new hp)) ?_⟩
          rw [ho]
          exact ⟨p, rfl, upd_same⟩
        | false =>
        rw [c1, if_neg Bool.false_ne_true] at ho
        refine iteF ?_
        refine ⟨_, rfl, (show 0 ≤ sizeLine by decide), fun q hq => ⟨D2, q, _, rfl, rfl, SqL.of ((same_new hq) _ _ eG), SqL.of upd_same, _, rfl, ?_⟩⟩
        have sq := same_new (o := .lst []) hq
        have s14 := s14.trans sq
        have eO := sq _ _ eO
        have eG := sq _ _ eG
        generalize upd H4 q (.lst []) = H5 at s14 eO eG ⊢
        have em : ((List.filter isR (M59.outs ps r r[i])).map plV).isEmpty = (fstR (M59.outs ps r r[i])).isNone := by
          unfold fstR
          cases List.filter isR (M59.outs ps r r[i]) <;> rfl
        rw [em]
        cases c2 : fstR (M59.outs ps r r[i]) with
        | some z =>
          rw [c2] at ho
          refine iteT ⟨_, rfl, _, rfl, D2, _, 0, _, rfl, rfl, SqL.of eG, atI_nat (j := 0) (v := plV z) ?_, (show 2 ≤ sizeLine by decide), fun p hp => k _ _ (s14.trans (same_new hp)) ?_⟩
          · unfold fstR at c2
            cases e4 : List.filter isR (M59.outs ps r r[i]) with
            | nil => rw [e4] at c2; cases c2
            | cons a l =>
              rw [e4] at c2
              injection c2 with c2
              subst c2
              rfl
          · rw [ho]
            exact ⟨p, rfl, upd_same⟩
        | none =>
        rw [c2] at ho
        refine iteF ?_
        refine ⟨_, rfl, (show 0 ≤ sizeLine by decide), fun q hq => ⟨D, q, _, rfl, rfl, SqL.of ((same_new hq) _ _ eO), SqL.of upd_same, _, rfl, ?_⟩⟩
        have sq := same_new (o := .lst []) hq
        have s14 := s14.trans sq
        have eO := sq _ _ eO
        generalize upd H5 q (.lst []) = H6 at s14 eO ⊢
        have em2 : ((M59.outs ps r r[i]).map plV).isEmpty = (M59.outs ps r r[i]).isEmpty := by
          cases M59.outs ps r r[i] <;> rfl
        rw [em2]
        have next : ∀ (H' : Hp) (w6 : Option V), Same H H' → (¬ ((M59.outs ps r r[i]).isEmpty = false ∧ isR r[i] = true ∧ isR (M59.fol r i) = true)) → Same H H' ∧ M59.opens ps r = M59.opensGo ps r ((List.range r.length).drop (i + 1)) ∧ ∃ w2 w3 w4 w5 w6' w7, [some (.ref d), some (.ref R), some (.int (i : Int)), some (plV r[i]), some (plV (M59.fol r i)), some (.ref D), w6, some (.ref D2)] = [some (V.ref d), some (.ref R), w2, w3, w4, w5, w6', w7] := fun H' w6 s' hc => by
          refine ⟨s', ?_, _, _, _, _, _, _, rfl⟩
          rw [ho]
          simp only [hc, if_false]
        cases c3 : (M59.outs ps r r[i]).isEmpty with
        | true =>
          exact iteF (iteF (next _ _ s14 fun z => by rw [c3] at z; cases z.1))
        | false =>
        refine iteT ⟨_, rfl, rd2 (reg_pl r18 fun H7 s7 => ⟨_, rfl, ?_⟩)⟩
        have s17 := s14.trans s7
        cases c4 : isR r[i] with
        | false =>
          exact iteF (iteF (next _ _ s17 fun z => by rw [c4] at z; cases z.2.1))
        | true =>
        refine iteT ⟨_, rfl, rd2 (reg_pl f18 fun H8 s8 => ⟨_, rfl, ?_⟩)⟩
        have s18 := s17.trans s8
        have eO8 := s8 _ _ (s7 _ _ eO)
        cases c5 : isR (M59.fol r i) with
        | false =>
          exact iteF (next _ _ s18 fun z => by rw [c5] at z; cases z.2.2)
        | true =>
        cases e5 : M59.outs ps r r[i] with
        | nil => rw [e5] at c3; cases c3
        | cons z l =>
        rw [e5] at eO8 ho
        refine iteT ⟨_, rfl, _, rfl, D, _, 0, _, rfl, rfl, SqL.of eO8, atI_nat (j := 0) (v := plV z) rfl, (show 2 ≤ sizeLine by decide), fun p hp => k _ _ (s18.trans (same_new hp)) ?_⟩
        have ho2 : M59.opens ps r = some (i, some z) := by
          rw [ho, c4, c5]
          rfl
        rw [ho2]
        exact ⟨p, rfl, upd_same⟩
      · rintro σ H2 ⟨s2, ho, w2, w3, w4, w5, w6, w7, rfl⟩
        rw [List.length_map, List.drop_of_length_le (by rw [List.length_range]; exact Nat.le_refl _)] at ho
        refine k _ _ s2 ?_
        rw [ho]
        rfl
end
/-! ## takers gathered -/
open M59 (isR fstR Ok byS tk)
theorem tk_app (a b : M59.Prs) (p : Nat) : tk (a ++ b) p = tk a p ++ tk b p := by
  unfold tk M59.mov
  rw [List.filter_append, List.filter_append, List.map_append]
theorem tk_one (m : Nat × Nat) (p : Nat) : tk [m] p = if m.1 ≠ m.2 ∧ m.2 = p then [m.1] else [] := by
  unfold tk M59.mov
  by_cases c1 : m.1 = m.2
  · simp [c1]
  · by_cases c2 : m.2 = p
    · have c3 : ¬ m.1 = p := fun z => c1 (z.trans c2.symm)
      simp [List.filter_cons, c1, c2, c3]
    · simp [List.filter_cons, c1, c2]
theorem tk_snoc {ps : M59.Prs} {i : Nat} {m : Nat × Nat} (h : ps[i]? = some m) (p : Nat) : tk (ps.take (i + 1)) p = tk (ps.take i) p ++ if m.1 ≠ m.2 ∧ m.2 = p then [m.1] else [] := by
  rw [take_snoc2 h, tk_app, tk_one]
theorem okTake {ps : M59.Prs} (ok : Ok ps) (i : Nat) : Ok (ps.take i) := ⟨List.Nodup.sublist (List.Sublist.map _ (List.take_sublist _ _)) ok.one, fun m hm => ok.lt m (List.mem_of_mem_take hm)⟩
structure TkI (H0 H : Hp) (D : Addr) (qs : M59.Prs) (ks : List Nat) (kvs : List (Key × V)) (Lf : Nat → Addr) : Prop where
  e : H D = some (.dK kvs)
  hk : kvs.map (·.1) = ks.map keyP
  nd : ks.Nodup
  k18 : ∀ p ∈ ks, p < 18
  m1 : ∀ p, tk qs p ≠ [] → p ∈ ks
  val : ∀ p ∈ ks, valV kvs (keyP p) = some (.ref (Lf p)) ∧ H (Lf p) = some (.lst ((tk qs p).map plV)) ∧ H0 (Lf p) = none
  inj : ∀ p ∈ ks, ∀ q ∈ ks, Lf p = Lf q → p = q
  sm : Same H0 H
  fr : H0 D = none
section
variable {H0 H : Hp} {D : Addr} {qs : M59.Prs} {ks : List Nat} {kvs : List (Key × V)} {Lf : Nat → Addr}
theorem TkI.same {H' : Hp} (h : TkI H0 H D qs ks kvs Lf) (s : Same H H') : TkI H0 H' D qs ks kvs Lf :=
  ⟨s _ _ h.e, h.hk, h.nd, h.k18, h.m1, fun p hp => ⟨(h.val p hp).1, s _ _ (h.val p hp).2.1, (h.val p hp).2.2⟩, h.inj, h.sm.trans s, h.fr⟩
theorem TkI.len (h : TkI H0 H D qs ks kvs Lf) : kvs.length ≤ 18 := by
  have := congrArg List.length h.hk
  rw [List.length_map, List.length_map] at this
  rw [this]
  exact SkF.len18 h.nd h.k18
theorem TkI.no (h : TkI H0 H D qs ks kvs Lf) {s : Nat} (hs : s ∉ ks) (h18 : s < 18) : valV kvs (keyP s) = none := by
  cases e : valV kvs (keyP s) with
  | none => rfl
  | some v =>
    have := valV_in e
    rw [h.hk] at this
    obtain ⟨q, hq, e2⟩ := List.mem_map.mp this
    exact absurd (keyP_inj (h.k18 q hq) h18 e2 ▸ hq) hs
theorem TkI.new (h : TkI H0 H D qs ks kvs Lf) {s : Nat} {L0 : Addr} (hs : s ∉ ks) (h18 : s < 18) (hL : H L0 = some (.lst [])) (hn : H0 L0 = none) (hf : ∀ p ∈ ks, Lf p ≠ L0) :
    TkI H0 (upd H D (.dK (putK kvs (keyP s) (.ref L0)))) D qs (ks ++ [s]) (putK kvs (keyP s) (.ref L0)) (fun p => if p = s then L0 else Lf p) := by
  have nin := h.no hs h18
  have t0 : tk qs s = [] := Classical.byContradiction fun z => hs (h.m1 s z)
  have LD : L0 ≠ D := fun z => by rw [z, h.e] at hL; cases hL
  refine ⟨upd_same, ?_, ?_, ?_, fun p hp => List.mem_append_left _ (h.m1 p hp), ?_, ?_, same_sub h.sm h.fr, h.fr⟩
  · rw [putK_new _ nin, List.map_append, h.hk, List.map_append]
    rfl
  · exact List.nodup_append.mpr ⟨h.nd, by simp, fun x hx y hy e => hs (by rw [← List.mem_singleton.mp hy, ← e]; exact hx)⟩
  · intro p hp
    rcases List.mem_append.mp hp with hp | hp
    · exact h.k18 p hp
    · rw [List.mem_singleton.mp hp]
      exact h18
  · intro p hp
    rw [valV_put]
    by_cases c : p = s
    · subst c
      refine ⟨by rw [if_pos rfl, if_pos rfl], ?_, ?_⟩
      · rw [if_pos rfl, upd_ne LD, hL, t0]
        rfl
      · rw [if_pos rfl]
        exact hn
    · have hp2 : p ∈ ks := by
        rcases List.mem_append.mp hp with hp | hp
        · exact hp
        · exact absurd (List.mem_singleton.mp hp) c
      obtain ⟨g1, g2, g3⟩ := h.val p hp2
      have nk : ¬ keyP p = keyP s := fun z => c (keyP_inj (h.k18 p hp2) h18 z)
      have PD : Lf p ≠ D := fun z => by rw [z, h.e] at g2; cases g2
      rw [if_neg nk, if_neg c, upd_ne PD]
      exact ⟨g1, g2, g3⟩
  · intro p hp q hq e
    have inks : ∀ x, x ∈ ks ++ [s] → x ≠ s → x ∈ ks := fun x hx c => by
      rcases List.mem_append.mp hx with hx | hx
      · exact hx
      · exact absurd (List.mem_singleton.mp hx) c
    by_cases c : p = s <;> by_cases c2 : q = s
    · rw [c, c2]
    · rw [if_pos c, if_neg c2] at e
      exact absurd e.symm (hf q (inks q hq c2))
    · rw [if_neg c, if_pos c2] at e
      exact absurd e (hf p (inks p hp c))
    · rw [if_neg c, if_neg c2] at e
      exact h.inj p (inks p hp c) q (inks q hq c2) e
theorem TkI.add (h : TkI H0 H D qs ks kvs Lf) {t s : Nat} (hs : s ∈ ks) (ne : t ≠ s) : TkI H0 (upd H (Lf s) (.lst ((tk qs s).map plV ++ [plV t]))) D (qs ++ [(t, s)]) ks kvs Lf := by
  obtain ⟨g1, g2, g3⟩ := h.val s hs
  have LD : Lf s ≠ D := fun z => by rw [z, h.e] at g2; cases g2
  refine ⟨by rw [upd_ne (Ne.symm LD)]; exact h.e, h.hk, h.nd, h.k18, fun p hp => ?_, fun p hp => ?_, h.inj, same_sub h.sm g3, h.fr⟩
  · rw [tk_app, tk_one] at hp
    by_cases c : s = p
    · subst c
      exact hs
    · rw [if_neg (fun z => c z.2), List.append_nil] at hp
      exact h.m1 p hp
  · obtain ⟨k1, k2, k3⟩ := h.val p hp
    refine ⟨k1, ?_, k3⟩
    rw [tk_app, tk_one]
    by_cases c : s = p
    · subst c
      rw [upd_same, if_pos ⟨ne, rfl⟩, List.map_append]
      rfl
    · have : Lf p ≠ Lf s := fun z => c (h.inj p hp s hs z).symm
      rw [if_neg (fun z => c z.2), List.append_nil, upd_ne this]
      exact k2
theorem TkI.skip (h : TkI H0 H D qs ks kvs Lf) {t s : Nat} (e : t = s) : TkI H0 H D (qs ++ [(t, s)]) ks kvs Lf := by
  have e2 : ∀ p, tk (qs ++ [(t, s)]) p = tk qs p := fun p => by
    rw [tk_app, tk_one, if_neg (fun z => z.1 e), List.append_nil]
  refine ⟨h.e, h.hk, h.nd, h.k18, fun p hp => h.m1 p (by rw [← e2]; exact hp), fun p hp => by rw [e2]; exact h.val p hp, h.inj, h.sm, h.fr⟩
end
section
variable {K : PySem.W.Frag} {σ : L2.St} {H0 H : Hp} {a : Addr} {xs : List V} {R : It → Hp → Prop} {i : Nat}
theorem ior_seqB (hσ : σ[i]? = some (some (.ref a))) (h : SeqH H0 a xs) (s : Same H0 H) (k : ∀ (J : It) (G : Hp → Prop), Walk J xs.length G (YAt xs) → (∀ H', Same H0 H' → G H') → R J H) : iOr (iList K (tVar i)) (iTup K (tVar i)) σ H R := by
  rcases h with h | h
  · exact .inl ⟨_, hσ, a, rfl, ⟨xs, SqL.of (s _ _ h)⟩, k _ _ walk_list fun H' s => SqL.of (s _ _ h)⟩
  · exact .inr ⟨_, hσ, a, rfl, ⟨xs, SqT.of (s _ _ h)⟩, k _ _ walk_tup fun H' s => SqT.of (s _ _ h)⟩
theorem ior_enumB (hσ : σ[i]? = some (some (.ref a))) (h : SeqH H0 a xs) (s : Same H0 H) (k : ∀ (J : It) (G : Hp → Prop), Walk J xs.length G (YPair (fun i => some (.int (i : Nat))) (fun i => xs[i]?)) → (∀ H', Same H0 H' → G H') → R J H) : iOr (iEnum K (tCons (tVar i) tNil)) (iEnumT K (tCons (tVar i) tNil)) σ H R := by
  rcases h with h | h
  · exact .inl ⟨_, hσ, a, xs, rfl, SqL.of (s _ _ h), k _ _ walk_enum fun H' s => SqL.of (s _ _ h)⟩
  · exact .inr ⟨_, hσ, a, xs, rfl, SqT.of (s _ _ h), k _ _ walk_enumT fun H' s => SqT.of (s _ _ h)⟩
end
theorem iteN1 {A B : Prop} (h : B) : if (!true) = true then A else B := iteF h
/-! ## k59: takers_of -/
open M59 (isR fstR Ok byS tk)
/-- pairs in a list or tuple -/
def PsH (H : Hp) (a : Addr) (ps : M59.Prs) : Prop := ∃ as : List Addr, SeqH H a (as.map V.ref) ∧ TuA prC H as ps
theorem PsH.same {H H' : Hp} {a : Addr} {ps : M59.Prs} (s : Same H H') (h : PsH H a ps) : PsH H' a ps := by
  obtain ⟨as, h1, h2⟩ := h
  exact ⟨as, h1.same s, h2.same s⟩
def spTakers : Sp := fun vs H Q _ => ∃ (a : Addr) (ps : M59.Prs), vs = [.ref a] ∧ PsH H a ps ∧ Ok ps ∧ ∀ (H' : Hp) (d : Addr) (kvs : List (Key × V)), Same H H' → H d = none → H' d = some (.dK kvs) → TkD H' d ps → Q (.ref d) H'
section
variable {P : Program} {w : World} {K : PySem.W.Frag} {mg : Str → Option Value} {base : Heap}
theorem sc_takers_of : FnScope ["pairs", "found", "target", "source", "row"] ["pairs"] (defScope s_takers_of) := ⟨rfl, rfl, rfl, by decide +kernel, rfl, by decide +kernel, by decide +kernel⟩
theorem ok_takers {f : Addr} {fd : FuncData} (F : FnP K "takers_of" s_takers_of f fd) (c_place_rank : Cal P w K mg base 2 "place_rank" ["thing"] (spRank gP)) (m_sorted : mg "sorted" = none) : FnOk P w K mg base CX0 5 f fd ["pairs"] spTakers := by
  obtain ⟨f_place_rank, fd_place_rank, g_place_rank, k_place_rank, b_place_rank, G_place_rank⟩ := c_place_rank
  refine F.ok sc_takers_of (fun vs H Q E h => ?_) (fun cdv A outer s H vs Q E hr h => ?_)
  · obtain ⟨a, ps, rfl, _⟩ := h
    rfl
  · obtain ⟨a, ps, rfl, ⟨as, hS, hA⟩, ok, k⟩ := h
    have nd := sc_takers_of.nd
    have hu := hu_of hr
    apply Exists.intro
    apply And.intro
    case left =>
     apply PSs.nox
     apply pss_cons
     · exact (ps_set (i := 1) nd rfl (.inr rfl) pe_dnewK)
     apply pss_cons
     · apply ps_for PassesOwn.never rfl
       · exact (pi_or (pi_list (pv 0)) (pi_tup (pv 0)))
       · exact (pg_tup rfl (pgs_cons (pg_name (i := 2) nd rfl (Or.inl rfl)) (pgs_cons (pg_name (i := 3) nd rfl (Or.inl rfl)) pgs_nil)))
       · apply pss_one
         exact (ps_if (pt_cmpR op_ne (pv 2) (pv 3) (nomark _)) (pss_cons (ps_set (i := 4) nd rfl (.inl rfl) (pe_dsetd (pv 1) (pv 3) (pe_lst pa_nil) ⟨by rfl, by rfl, by rfl, by rfl⟩)) (pss_one (ps_expr (pe_bm PySem.F.plainAttrs_list PySem.F.slot_list_append PySem.F.type_list_append mt_append (pv 4) (pa_cons (pv 2) pa_nil))))) pss_nil)
     apply pss_one
     exact (ps_ret (pe_dc (own := [("source", 3)]) (g := gName 3) rfl nd (pi_list (pe_callBK (SkF.cr_sortedF gP_le G_place_rank b_place_rank (hr.mono (by decide)) hr.units (by rfl)) (by rfl) m_sorted (by decide +kernel) (pa_cons (pv 1) pa_nil) (pk_cons (pe_glob (v := .ref f_place_rank) (by rfl) g_place_rank rfl) pk_nil))) (blkOk_by (own := [("source", 3)]) (N := ["pairs", "found", "target", "source", "row"]) (sc := defScope s_takers_of) (by decide +kernel)) (fun _ _ _ _ _ => (pg_name (i := 3) nd rfl (Or.inl rfl))) (fun _ _ _ _ _ => pts_nil) (fun _ _ _ _ _ => (pv 3)) (fun _ _ _ _ _ => (pe_dget (by exact hu) (pv 1) (pv 3) (fun _ _ => rfl)))))
    case right =>
      intro F0 hF0
      refine ior_seqB rfl hS (same_new hF0) fun J GG hw hG => ?_
      refine for_it hw (fun i σ H' => ∃ ks kvs Lf w2 w3 w4, TkI H H' F0 (ps.take i) ks kvs Lf ∧ (∀ p ∈ ks, tk (ps.take i) p ≠ []) ∧ σ = [some (.ref a), some (.ref F0), w2, w3, w4]) ⟨[], [], fun _ => 0, _, _, _, ⟨upd_same, rfl, .nil, (fun _ h => nomatch h), fun p hp => absurd rfl hp, (fun _ h => nomatch h), (fun _ h => nomatch h), same_new hF0, hF0⟩, (fun _ h => nomatch h), rfl⟩ (fun i σ H' _ ⟨_, _, _, _, _, _, I, _⟩ => hG _ I.sm) ?_ ?_
      · rintro i x σ Hx H' hi ⟨ks, kvs, Lf, w2, w3, w4, I, m2, rfl⟩ ⟨rfl, hx⟩
        obtain ⟨q, m, rfl, hq, hm, eq⟩ := hA.ref hx
        obtain ⟨t, s⟩ := m
        have eq1 := I.sm _ _ eq
        have m18 := ok.lt _ (List.mem_of_getElem? hm)
        refine ⟨q, _, rfl, SqT.of eq1, rfl, _, _, rfl, _, _, rfl, rfl, ?_⟩
        refine ⟨_, rfl, _, rfl, rfl, _, rfl, ?_⟩
        rw [show decide (plV t = plV s) = decide (t = s) from plV_dec m18.1 m18.2, take_snoc2 hm]
        by_cases c : t = s
        · rw [decide_eq_true c]
          refine iteN1 ⟨ks, kvs, Lf, _, _, _, I.skip c, fun p hp => ?_, rfl⟩
          rw [tk_app]
          exact fun z => m2 p hp (List.append_eq_nil_iff.mp z).1
        rw [decide_eq_false c]
        refine iteN0 ?_
        refine ⟨_, rfl, F0, rfl, .inl ⟨_, .inl I.e⟩, _, rfl, (show 0 ≤ sizeLine by decide), fun L0 hL0 => ?_⟩
        have I2 := I.same (same_new (o := .lst []) hL0)
        have hL2 : (upd H' L0 (.lst [])) L0 = some (.lst []) := upd_same
        have l18 := I.len
        have hn0 : H L0 = none := I.sm.free hL0
        have hLf : ∀ p ∈ ks, Lf p ≠ L0 := fun p hp z => by
          have := (I.val p hp).2.1
          rw [z, hL0] at this
          cases this
        generalize upd H' L0 (.lst []) = H2 at I2 hL2 ⊢
        have fin : ∀ (H3 : Hp) (ks3 : List Nat) (kvs3 : List (Key × V)) (Lf3 : Nat → Addr), TkI H H3 F0 (ps.take i) ks3 kvs3 Lf3 → s ∈ ks3 → (∀ p ∈ ks3, p ≠ s → tk (ps.take i) p ≠ []) → ((tk (ps.take i) s).map plV).length < sizeLine ∧
            ∃ ks4 kvs4 Lf4, TkI H (upd H3 (Lf3 s) (.lst ((tk (ps.take i) s).map plV ++ [plV t]))) F0 (ps.take i ++ [(t, s)]) ks4 kvs4 Lf4 ∧ ∀ p ∈ ks4, tk (ps.take i ++ [(t, s)]) p ≠ [] := fun H3 ks3 kvs3 Lf3 I3 hs h3 => by
          refine ⟨?_, ks3, kvs3, Lf3, I3.add hs c, fun p hp => ?_⟩
          · rw [List.length_map]
            exact Nat.lt_of_le_of_lt (tk_len (okTake ok i) s) (by decide)
          · rw [tk_app, tk_one]
            by_cases c2 : s = p
            · rw [if_pos ⟨c, c2⟩]
              simp
            · exact fun z => h3 p hp (Ne.symm c2) (List.append_eq_nil_iff.mp z).1
        refine ⟨kvs, keyP s, I2.e, rfl, Nat.lt_of_le_of_lt l18 (by decide), fun v hv => ?_, fun hv => ?_⟩
        · have hs : s ∈ ks := Classical.byContradiction fun z => by
            rw [I.no z m18.2] at hv
            cases hv
          obtain ⟨g1, g2, g3⟩ := I2.val s hs
          rw [g1] at hv
          cases hv
          obtain ⟨f1, ks4, kvs4, Lf4, f2, f3⟩ := fin _ _ _ _ I2 hs fun p hp _ => m2 p hp
          exact ⟨_, rfl, .inl ⟨rfl, _, SqL.of g2⟩, _, rfl, _, _, _, rfl, rfl, g2, f1, ks4, kvs4, Lf4, _, _, _, f2, f3, rfl⟩
        · have hs : s ∉ ks := fun z => by
            rw [(I.val s z).1] at hv
            cases hv
          have I3 := I2.new hs m18.2 hL2 hn0 hLf
          have g2 := (I3.val s (List.mem_append_right _ (List.mem_singleton.mpr rfl))).2.1
          obtain ⟨f1, ks4, kvs4, Lf4, f2, f3⟩ := fin _ _ _ _ I3 (List.mem_append_right _ (List.mem_singleton.mpr rfl)) fun p hp hne => by
            rcases List.mem_append.mp hp with hp | hp
            · exact m2 p hp
            · exact absurd (List.mem_singleton.mp hp) hne
          rw [if_pos rfl] at g2 f2
          exact ⟨_, rfl, .inl ⟨rfl, _, SqL.of g2⟩, _, rfl, _, _, _, rfl, rfl, g2, f1, ks4, kvs4, Lf4, _, _, _, f2, f3, rfl⟩
      · rintro σ H2 ⟨ks, kvs, Lf, w2, w3, w4, I, m2, rfl⟩
        have hal : (as.map V.ref).length = ps.length := by rw [List.length_map]; exact hA.length
        rw [hal, List.take_length] at I m2
        have ek : ascL ks = M59.keys ps := by
          unfold ascL M59.keys
          refine List.filter_congr fun p hp => ?_
          have h1 : p ∈ ks ↔ tk ps p ≠ [] := ⟨m2 p, I.m1 p⟩
          by_cases c : p ∈ ks
          · rw [decide_eq_true c]
            have := h1.mp c
            cases e : tk ps p with
            | nil => exact absurd e this
            | cons _ _ => rfl
          · rw [decide_eq_false c]
            have : tk ps p = [] := Classical.byContradiction fun z => c (h1.mpr z)
            rw [this]
            rfl
        refine ⟨_, rfl, F0, ks, rfl, rfl, .inr ⟨kvs, .inl I.e, I.hk⟩, I.nd, I.k18, fun H3 p s3 hp e3 => ⟨p, rfl, ⟨_, SqL.of e3⟩, fun D hD => ?_⟩⟩
        rw [ek] at e3
        have I3 := I.same s3
        have fd0 : H D = none := I3.sm.free hD
        have inks : ∀ q ∈ M59.keys ps, q ∈ ks := fun q hq => I.m1 q ((M59.keys_mem ok).mp hq)
        have kn : (M59.keys ps).Nodup := List.Nodup.sublist (List.filter_sublist ..) List.nodup_range
        refine dc_it (walk_list (xs := (M59.keys ps).map plV)) (fun i H' => ∃ kv2, H' D = some (.dK kv2) ∧ kv2.map (·.1) = ((M59.keys ps).take i).map keyP ∧ (∀ q ∈ (M59.keys ps).take i, valV kv2 (keyP q) = some (.ref (Lf q))) ∧ Same H3 H') ⟨[], upd_same, rfl, (fun _ h => nomatch h), same_new hD⟩ (fun i H' _ ⟨_, _, _, _, s4⟩ => SqL.of (s4 _ _ e3)) ?_ ?_
        · rintro i x Hx H' hi ⟨kv2, eD, hk2, hv2, s4⟩ ⟨rfl, hx⟩
          obtain ⟨q, hq, rfl⟩ : ∃ q, (M59.keys ps)[i]? = some q ∧ x = plV q := by
            rw [List.getElem?_map] at hx
            cases z : (M59.keys ps)[i]? with
            | none => rw [z] at hx; cases hx
            | some t => rw [z] at hx; injection hx with hx; exact ⟨t, rfl, hx.symm⟩
          have qk := List.mem_of_getElem? hq
          obtain ⟨g1, g2, g3⟩ := I3.val q (inks q qk)
          refine ⟨rfl, yesIf ⟨_, rfl, _, rfl, _, rfl, F0, .ref (Lf q), rfl, .inl ⟨kvs, keyP q, .inl (s4 _ _ I3.e), rfl, g1.symm⟩, kv2, keyP q, rfl, eD, ?_, ?_⟩⟩
          · have lk := congrArg List.length hk2
            rw [List.length_map, List.length_map] at lk
            have h1 := List.length_take_le' i (M59.keys ps)
            have h2 := SkF.len18 kn fun z hz => keys_lt hz
            exact Nat.lt_of_le_of_lt (show kv2.length ≤ 18 by omega) (by decide)
          · have nin : valV kv2 (keyP q) = none := by
              cases e : valV kv2 (keyP q) with
              | none => rfl
              | some v =>
                have := valV_in e
                rw [hk2] at this
                obtain ⟨q2, hq2, e5⟩ := List.mem_map.mp this
                have e6 := keyP_inj (keys_lt (List.mem_of_mem_take hq2)) (keys_lt qk) e5
                subst e6
                have h7 : ((M59.keys ps).take (i + 1)).Nodup := List.Nodup.sublist (List.take_sublist _ _) kn
                rw [take_snoc2 hq] at h7
                exact ((List.nodup_append.mp h7).2.2 _ hq2 _ (List.mem_singleton.mpr rfl) rfl).elim
            refine ⟨_, upd_same, ?_, fun q2 hq2 => ?_, same_sub s4 hD⟩
            · rw [putK_new _ nin, List.map_append, hk2, take_snoc2 hq, List.map_append]
              rfl
            · rw [take_snoc2 hq] at hq2
              rw [valV_put]
              rcases List.mem_append.mp hq2 with hq2 | hq2
              · have g4 := hv2 q2 hq2
                have : ¬ keyP q2 = keyP q := fun z => by rw [z, nin] at g4; cases g4
                rw [if_neg this]
                exact g4
              · rw [List.mem_singleton.mp hq2, if_pos rfl]
        · rintro H4 ⟨kv2, eD, hk2, hv2, s4⟩
          rw [List.length_map, List.take_length] at hk2 hv2
          have I4 := I3.same s4
          exact k H4 D kv2 I4.sm fd0 eD ⟨kv2, .inl eD, hk2, fun q hq => ⟨Lf q, hv2 q hq, (I4.val q (inks q hq)).2.1⟩⟩
end
/-! ## xs[::-1] -/
section
open PySem.Spec PyProof.Rows PySem.W
def tRev (K : PySem.W.Frag) (te : TE) (tk : TO) : TE := fun σ H Q => te σ H fun x H1 => tk σ H1 fun o H2 => ∃ a xs, o = some (-1) ∧ x = .ref a ∧ SqL K H2 a xs ∧ ∀ p, H2 p = none → Q (.ref p) (upd H2 p (.lst xs.reverse))
theorem pe_rev {X : Cx} {e ek : Expr} {te : TE} {tk : TO} {pos p2 : Pos} (he : PE X e te) (hk : PO X (some ek) tk) : PE X (.Subscript e (.Slice none none (some ek) p2) pos) (tRev X.K te tk) := by
  refine ⟨fun pins s σ H Q I h => ?_⟩
  refine Subscript_ (thn (he.run pins s σ H _ I h) fun v s1 ⟨x, H1, I1, r1, q1⟩ => ?_)
  have part := hk.run pins s1 σ H1 _ I1 q1
  refine wpAny_Slice ?_
  rw [evalPart_none]
  refine wpAny_pure (wpAny_pure ?_)
  refine thn part fun vk s2 ⟨o, H2, I2, pk, q2⟩ => ?_
  obtain ⟨a, xs, rfl, rfl, hx, q⟩ := q2
  cases r1
  obtain ⟨its, r, ht, hz⟩ := I2.list hx
  have I3 : Inv X pins σ H2 { s2 with heap := s2.heap.push { cls := .type "slice", data := .fields #[.none, .none, vk] } } := I2.kept (t' := s2.toks) fun b ob q => Heap.get?_push_of_some _ q
  obtain ⟨its2, r2, ht2, hz2⟩ := I3.list hx
  show wpAny (model X.prog X.w) X.A (subscriptTail e (.Slice none none (some ek) p2) (.ref a) (.ref s2.heap.objs.size)) (EP X pins σ Q) X.xe { s2 with heap := s2.heap.push { cls := .type "slice", data := .fields #[.none, .none, vk] } }
  refine tail_any (ops := [.ref a, .ref s2.heap.objs.size]) ht2.isList.typeIs slot_list_getitem.lookup ?_ (by with_unfolding_all rfl)
  refine wpAny_getItem_list_slice ht2.isList (Heap.IsSliceOf.new ..) .none .none pk (by decide) ?_ (by rw [List.size_toArray, ← r2.length]; exact hz2)
  rw [krv_pick]
  refine ⟨.ref _, _, I3.laid (t' := s2.toks) (o := .lst xs.reverse) (fun b ob q => Heap.get?_push_of_some _ q) (Nat.le_refl _) ?_, rfl, q _ (I3.hok.fresh (Nat.le_refl _))⟩
  exact ⟨by rw [List.length_reverse]; exact hz2, _, 0, r2.reverse, Heap.get?_push_size _ rfl⟩
end
/-! ## name = {k: v for ..} on one line, the name a local -/
section
open PySem.Spec PyProof.Rows
variable {X : Cx}
/-- behind a comprehension's block what it made is stored under a local name -/
theorem store_back {pins : List (Addr × Obj)} {σ : L2.St} {i : Nat} {y : Str} {py : Pos} {T : Ends} (hN : X.N.Nodup) (hy : X.N[i]? = some y) (hyl : X.env.scope.names.lookup y = some .local) {L C : Addr} {t : Shared} {m : Str → Option Value} {G : Hp} (J : Inv X pins σ G t) (q : gName i (.ref L) σ G T.nx) (hn : t.heap.Ns C m) (fp : FpOk X pins G C) :
    compPost (model X.prog X.w) X.A X.xe (some (assign (.Name y py) X.env)) (fun _ u => SP X pins T .next u) (.ref L) C (.ok .next) t := by
  show wpAny _ _ (assign (.Name y py) X.env (.ref L)) _ _ _
  refine wpAny_assign_Name (store_ok2 (v := V.ref L) J hN hy (.inl hyl) rfl (fun u K ⟨b, same, hb⟩ => ?_) (.inr hyl))
  obtain ⟨p0, p1, p2, p3, p4, p5⟩ := fp
  have nb : C ≠ b := hb.elim (fun z => by rw [z]; exact p1) fun z e => p4 y b z e.symm
  exact ⟨m, hn.sameBut same nb, fun h same' => ⟨_, G, K.turned (t' := u.toks) (fun c o hc e => (same'.2 c hc).trans e) p0 p1 p3 p4 p5, q⟩⟩
theorem ps_setDc {i : Nat} {y : Str} {py : Pos} {kx vx tg iter : Expr} {ifs : List Expr} {sc : Scope} {own : List (Str × Nat)} {pos spos : Pos} {wi : TI} {g : TG} {tt : TT} {tk tv : TE} (hc : X.calm = true) (hN : X.N.Nodup) (hy : X.N[i]? = some y) (hyl : X.env.scope.names.lookup y = some .local)
    (hsw : swapsWith (.DictComp kx vx [⟨tg, iter, ifs, 0⟩] sc pos) (some (.Name y py)) spos.line X.env = pure true) (hi : PI X tg iter wi) (ok : BlkOk X.N X.env.scope sc own)
    (a1 : ∀ (s : Shared) (H : Hp) (C : Addr) (cl : List (Str × Addr)) (fp : List Addr), PG (X.blk s H sc (compEnvC sc cl C X.env) fp) tg g) (a2 : ∀ (s : Shared) (H : Hp) (C : Addr) (cl : List (Str × Addr)) (fp : List Addr), PTs (X.blk s H sc (compEnvC sc cl C X.env) fp) ifs tt)
    (a3 : ∀ (s : Shared) (H : Hp) (C : Addr) (cl : List (Str × Addr)) (fp : List Addr), PE (X.blk s H sc (compEnvC sc cl C X.env) fp) kx tk)
    (a4 : ∀ (s : Shared) (H : Hp) (C : Addr) (cl : List (Str × Addr)) (fp : List Addr), PE (X.blk s H sc (compEnvC sc cl C X.env) fp) vx tv) (hs : ∀ x, foldedSetIterable iter X.env x = pure x := by intro _; rfl) :
    PS X (.Assign [.Name y py] (.DictComp kx vx [⟨tg, iter, ifs, 0⟩] sc pos) spos) (tAsg (tDc wi g tt tk tv (own.map (·.2))) (gName i)) :=
  ⟨fun pins s σ H T I h => by
    rw [exec_Assign_Name_used _ _ _ _ hsw]
    refine wpAny_bind (wpAny_standAt (wpAny_bind ?_))
    change wpAny _ X.A (bind (comprehension (.DictComp kx vx [⟨tg, iter, ifs, 0⟩] sc pos) sc X.env (firstIterPos [⟨tg, iter, ifs, 0⟩] pos) newDict false (eval iter X.env) (some (assign (.Name y py) X.env))) _) _ _ s
    exact wpAny_bind (thn (dc_core (Q := fun x H1 => gName i x σ H1 T.nx) (Qf := fun _ u => SP X pins T .next u) hc hN I hi ok a1 a2 a3 a4 hs h fun _ _ _ _ _ J q hn f => store_back hN hy hyl J q hn f) fun _ _ hq => wpAny_pure (wpAny_pure hq))⟩
theorem swD_true {kx vx : Expr} {gs : List Comprehension} {sc : Scope} {pos py : Pos} {y : Str} {l : Nat} {env : Env} (fn : env.scope.kind = .function) (loc : env.scope.names.lookup y = some .local) (row : (py.line == pos.line) = true)
    (ha : (sc.names.any fun (n, k) => n == y && (k == .local || k == .cell)) = false) : swapsWith (.DictComp kx vx gs sc pos) (some (.Name y py)) l env = pure true := by
  have h1 : env.kindOf y = some .local := loc
  have h2 : env.blockKind = .function := by unfold Env.blockKind; rw [fn]; rfl
  unfold swapsWith
  simp only [h2, h1, ha, Expr.pos, row]
  rfl
end
/-! ## the sources in a dict -/
open M59 (isR fstR Ok byS tk isT src)
def srK (ps : M59.Prs) : List (Key × V) := (M59.mov ps).map fun m => (keyP m.1, plV m.2)
theorem srK_find : ∀ {l : M59.Prs}, (∀ m ∈ l, m.1 < 18) → ∀ {t : Nat}, t < 18 → valV (l.map fun m => (keyP m.1, plV m.2)) (keyP t) = (l.find? fun m => decide (m.1 = t)).map fun m => plV m.2
  | [], _, _, _ => rfl
  | m :: l, h, t, ht => by
    have ih := srK_find (l := l) (fun x hx => h x (List.mem_cons_of_mem _ hx)) ht
    have hm := h m (List.mem_cons_self ..)
    rw [List.map_cons, List.find?_cons]
    by_cases c : m.1 = t
    · have : keyP t = keyP m.1 := by rw [c]
      simp [valV, c]
    · have : ¬ keyP m.1 = keyP t := fun z => c (keyP_inj hm ht z)
      have e2 : valV ((keyP m.1, plV m.2) :: l.map fun m => (keyP m.1, plV m.2)) (keyP t) = valV (l.map fun m => (keyP m.1, plV m.2)) (keyP t) := by
        unfold valV
        simp [this]
      rw [e2, ih, decide_eq_false c]
theorem srK_get {ps : M59.Prs} (ok : Ok ps) {t : Nat} (ht : t < 18) : valV (srK ps) (keyP t) = if isT ps t = true then some (plV (src ps t)) else none := by
  unfold srK
  rw [srK_find (fun m hm => (M59.mov_lt ok hm).1) ht]
  unfold isT src
  cases e : (M59.mov ps).find? fun m => decide (m.1 = t) with
  | none =>
    have : t ∉ (M59.mov ps).map (·.1) := fun z => by
      obtain ⟨m, hm, e2⟩ := List.mem_map.mp z
      have := List.find?_eq_none.mp e m hm
      exact this (by simpa using e2)
    rw [decide_eq_false this]
    rfl
  | some m =>
    have h1 := List.mem_of_find?_eq_some e
    have h2 := List.find?_some e
    have : t ∈ (M59.mov ps).map (·.1) := List.mem_map.mpr ⟨m, h1, by simpa using h2⟩
    rw [decide_eq_true this]
    rfl
theorem mov_app (a b : M59.Prs) : M59.mov (a ++ b) = M59.mov a ++ M59.mov b := List.filter_append ..
theorem mov_one (m : Nat × Nat) : M59.mov [m] = if m.1 ≠ m.2 then [m] else [] := by
  unfold M59.mov
  rw [List.filter_cons, List.filter_nil]
  by_cases c : m.1 = m.2
  · simp [c]
  · simp [c]
theorem srK_snoc {ps : M59.Prs} {i : Nat} {m : Nat × Nat} (h : ps[i]? = some m) : srK (ps.take (i + 1)) = srK (ps.take i) ++ if m.1 ≠ m.2 then [(keyP m.1, plV m.2)] else [] := by
  rw [take_snoc2 h]
  unfold srK
  rw [mov_app, List.map_append, mov_one]
  by_cases c : m.1 = m.2
  · rw [if_neg (fun z => z c), if_neg (fun z => z c)]
    rfl
  · rw [if_pos c, if_pos c]
    rfl
theorem srK_new {ps : M59.Prs} (ok : Ok ps) {i : Nat} {m : Nat × Nat} (h : ps[i]? = some m) : valV (srK (ps.take i)) (keyP m.1) = none := by
  have m18 := (ok.lt m (List.mem_of_getElem? h)).1
  cases e : valV (srK (ps.take i)) (keyP m.1) with
  | none => rfl
  | some v =>
    have h1 := valV_in e
    unfold srK at h1
    rw [List.map_map] at h1
    obtain ⟨q, hq, e2⟩ := List.mem_map.mp h1
    have hq2 : q ∈ ps.take i := (M59.mov_mem.mp hq).1
    have e3 : q.1 = m.1 := keyP_inj (ok.lt q (List.mem_of_mem_take hq2)).1 m18 e2
    have h7 : ((ps.take (i + 1)).map (·.1)).Nodup := (okTake ok (i + 1)).one
    rw [take_snoc2 h, List.map_append] at h7
    exact ((List.nodup_append.mp h7).2.2 q.1 (List.mem_map.mpr ⟨q, hq2, rfl⟩) m.1 (List.mem_singleton.mpr rfl) e3).elim
theorem okLen {ps : M59.Prs} (ok : Ok ps) : ps.length ≤ 18 := by
  have := SkF.len18 ok.one fun k hk => by
    obtain ⟨m, hm, rfl⟩ := List.mem_map.mp hk
    exact (ok.lt m hm).1
  rwa [List.length_map] at this
theorem movLen {ps : M59.Prs} (ok : Ok ps) : (M59.mov ps).length ≤ 18 := Nat.le_trans (List.length_filter_le _ _) (okLen ok)
theorem srK_len {ps : M59.Prs} : (srK ps).length = (M59.mov ps).length := List.length_map _
theorem srK_keys (ps : M59.Prs) : (srK ps).map (·.1) = ((M59.mov ps).map (·.1)).map keyP := by
  unfold srK
  rw [List.map_map, List.map_map]
  rfl
theorem isT_lt {ps : M59.Prs} (ok : Ok ps) {t : Nat} (h : isT ps t = true) : t < 18 ∧ src ps t < 18 := M59.mov_src ok ((M59.isT_iff ok).mp h)
/-! ## k59: rings_of -/
open M59 (isR fstR Ok byS tk isT src)
def spRings : Sp := fun vs H Q _ => ∃ (a : Addr) (ps : M59.Prs), vs = [.ref a] ∧ PsH H a ps ∧ Ok ps ∧ ∀ (H' : Hp) (q : Addr), Same H H' → H q = none → TuL rgC H' q (M59.rings ps) → Q (.ref q) H'
theorem flat_len : ∀ FL : List (List Nat), (∀ r ∈ FL, r ≠ []) → FL.length ≤ FL.flatten.length
  | [], _ => Nat.le_refl _
  | r :: FL, h => by
    have h1 := flat_len FL fun x hx => h x (List.mem_cons_of_mem _ hx)
    have h2 := List.length_pos_iff.mpr (h r (List.mem_cons_self ..))
    rw [List.flatten_cons, List.length_append, List.length_cons]
    omega
section
variable {P : Program} {w : World} {K : PySem.W.Frag} {mg : Str → Option Value} {base : Heap}
theorem sc_rings_of : FnScope ["pairs", "sources", "target", "source", "found", "seen", "place", "back", "at", "ring", "each"] ["pairs"] (defScope s_rings_of) := ⟨rfl, rfl, rfl, by decide +kernel, rfl, by decide +kernel, by decide +kernel⟩
theorem ok_rings {f : Addr} {fd : FuncData} (F : FnP K "rings_of" s_rings_of f fd) (c_place_rank : Cal P w K mg base 2 "place_rank" ["thing"] (spRank gP)) (G : NkF K mg) (m_sorted : mg "sorted" = none) (tup : mg "tuple" = none) : FnOk P w K mg base CX0 5 f fd ["pairs"] spRings := by
  obtain ⟨f_place_rank, fd_place_rank, g_place_rank, k_place_rank, b_place_rank, G_place_rank⟩ := c_place_rank
  refine F.ok sc_rings_of (fun vs H Q E h => ?_) (fun cdv A outer s H vs Q E hr h => ?_)
  · obtain ⟨a, ps, rfl, _⟩ := h
    rfl
  · obtain ⟨a, ps, rfl, ⟨as, hS, hA⟩, ok, k⟩ := h
    have nd := sc_rings_of.nd
    have hu := hu_of hr
    apply Exists.intro
    apply And.intro
    case left =>
     apply PSs.nox
     apply pss_cons
     · exact (ps_setDc (i := 1) (own := [("target", 2), ("source", 3)]) (g := gTup K 2 (gCons (gName 2) (gCons (gName 3) gNil))) rfl nd rfl rfl (swD_true rfl rfl rfl (by decide +kernel)) (pi_or (pi_list (pv 0)) (pi_tup (pv 0))) (blkOk_by (own := [("target", 2), ("source", 3)]) (N := ["pairs", "sources", "target", "source", "found", "seen", "place", "back", "at", "ring", "each"]) (sc := defScope s_rings_of) (by decide +kernel)) (fun _ _ _ _ _ => by exact (pg_tup rfl (pgs_cons (pg_name (i := 2) nd rfl (Or.inl rfl)) (pgs_cons (pg_name (i := 3) nd rfl (Or.inl rfl)) pgs_nil)))) (fun _ _ _ _ _ => pts_one (pt_cmpR op_ne (pv 2) (pv 3) (nomark _))) (fun _ _ _ _ _ => (pv 2)) (fun _ _ _ _ _ => (pv 3)))
     apply pss_cons
     · exact (ps_par (X := (cxOf CX0 P w K mg base ["pairs", "sources", "target", "source", "found", "seen", "place", "back", "at", "ring", "each"] "rings_of" (defScope s_rings_of) f cdv A outer s H E).nox) (i := 4) (j := 5) rfl nd rfl rfl (by decide) rfl rfl (pa_cons (pe_lst pa_nil) (pa_cons pe_dnewK pa_nil)) (by rfl))
     apply pss_cons
     · apply ps_for PassesOwn.never rfl
       · exact (pi_list (pe_callBK (SkF.cr_sortedF gP_le G_place_rank b_place_rank (hr.mono (by decide)) hr.units (by rfl)) (by rfl) m_sorted (by decide +kernel) (pa_cons (pv 1) pa_nil) (pk_cons (pe_glob (v := .ref f_place_rank) (by rfl) g_place_rank rfl) pk_nil)))
       · exact (pg_name (i := 6) nd rfl (Or.inl rfl))
       · apply pss_cons
         · exact (ps_par (X := (cxOf CX0 P w K mg base ["pairs", "sources", "target", "source", "found", "seen", "place", "back", "at", "ring", "each"] "rings_of" (defScope s_rings_of) f cdv A outer s H E).nox) (i := 7) (j := 8) rfl nd rfl rfl (by decide) rfl rfl (pa_cons (pe_lst pa_nil) (pa_cons (pe_dget hu (pv 1) (pv 6) (fun _ _ => rfl)) pa_nil)) (by rfl))
         apply C8.pss_cut
         · apply ps_while PassesOwn.never
           · exact (PW.pt (pw_and (pt_cmp (pc_din hu (pv 8) (pv 1))) (pw_and (pt_cmpR op_ne (pv 8) (pv 6) (nomark _)) (pw_and1 (pt_cmpR op_lt (pe_callB call_len (by rfl) G.len PySem.boot_len (pa_cons (pv 7) pa_nil)) (pe_callB call_lenD (by rfl) G.len PySem.boot_len (pa_cons (pv 1) pa_nil)) (nomark _))))))
           · apply pss_cons
             · exact (ps_expr (pe_bm PySem.F.plainAttrs_list PySem.F.slot_list_append PySem.F.type_list_append mt_append (pv 7) (pa_cons (pv 8) pa_nil)))
             apply pss_one
             exact (ps_set (i := 8) nd rfl (.inl rfl) (pe_dget hu (pv 1) (pv 8) (fun _ _ => rfl)))
         apply pss_one
         apply ps_if
         · exact (PW.pt (pw_and (pt_cmpR op_eq (pv 8) (pv 6) (nomark _)) (pw_and1 (pt_cmp (pc_dnotin hu (pv 6) (pv 5))))))
         · apply pss_cons
           · exact (ps_set (i := 9) nd rfl (.inl rfl) (pe_callTy call_tuple_of (by rfl) tup (by decide +kernel) (pa_cons (pe_op op_cat (pe_lst (pa_cons (pv 6) pa_nil)) (pe_rev (pv 7) (po_some (pe_un un_neg pe_int)))) pa_nil)))
           apply pss_cons
           · exact (ps_expr (pe_bm PySem.F.plainAttrs_list PySem.F.slot_list_append PySem.F.type_list_append mt_append (pv 4) (pa_cons (pv 9) pa_nil)))
           apply pss_one
           apply ps_for PassesOwn.never rfl
           · exact (pi_tup (pv 9))
           · exact (pg_name (i := 10) nd rfl (Or.inl rfl))
           · apply pss_one
             exact (ps_dput hu (pv 5) (pv 10) pe_bl rfl)
         · exact pss_nil
     apply pss_one
     exact (ps_ret (pv 4))
    case right =>
      refine ior_seqB rfl hS (Same.refl _) fun J GG hw hG => fun D hD => ?_
      have hal : (as.map V.ref).length = ps.length := by rw [List.length_map]; exact hA.length
      refine dc_it hw (fun i H' => H' D = some (.dK (srK (ps.take i))) ∧ Same H H') ⟨upd_same, same_new hD⟩ (fun i H' _ h => hG _ h.2) ?_ ?_
      · rintro i x Hx H' hi ⟨eD, s2⟩ ⟨rfl, hx⟩
        obtain ⟨q, m, rfl, hq, hm, eq⟩ := hA.ref hx
        obtain ⟨t, s⟩ := m
        have m18 := ok.lt _ (List.mem_of_getElem? hm)
        refine ⟨q, _, rfl, SqT.of (s2 _ _ eq), rfl, _, _, rfl, _, _, rfl, rfl, rfl, ?_⟩
        refine ⟨_, rfl, _, rfl, rfl, _, rfl, ?_⟩
        rw [show decide (plV t = plV s) = decide (t = s) from plV_dec m18.1 m18.2, srK_snoc hm]
        by_cases c : t = s
        · rw [decide_eq_true c, if_neg (fun z => z c), List.append_nil]
          exact iteN1 ⟨eD, s2⟩
        · rw [decide_eq_false c, if_pos c]
          refine iteN0 ⟨_, rfl, _, rfl, _, keyP t, rfl, eD, ?_, ?_, same_sub s2 hD⟩
          · rw [srK_len]
            exact Nat.lt_of_le_of_lt (movLen (okTake ok i)) (by decide)
          · rw [upd_same, putK_new _ (srK_new ok hm)]
      rintro H1 ⟨eD, s1⟩
      rw [hal, List.take_length] at eD
      refine ⟨(show 0 ≤ sizeLine by decide), fun F0 hF0 => fun S0 hS0 => ?_⟩
      have sF := same_new (o := .lst []) hF0
      have eF : (upd (upd H1 F0 (.lst [])) S0 (.dK [])) F0 = some (.lst ([].map V.ref)) := (same_new hS0) _ _ upd_same
      have eS : (upd (upd H1 F0 (.lst [])) S0 (.dK [])) S0 = some (.dK []) := upd_same
      have eD2 := (same_new (o := .dK []) hS0) _ _ (sF _ _ eD)
      have s02 := (s1.trans sF).trans (same_new (o := .dK []) hS0)
      have nF : H F0 = none := s1.free hF0
      have nS : H S0 = none := (s1.trans sF).free hS0
      have DS : D ≠ S0 := fun z => by rw [← z, sF _ _ eD] at hS0; cases hS0
      have FS : F0 ≠ S0 := fun z => by rw [← z, upd_same] at hS0; cases hS0
      generalize upd (upd H1 F0 (.lst [])) S0 (.dK []) = H2 at eF eS eD2 s02 ⊢
      have kT : ∀ p ∈ (M59.mov ps).map (·.1), p < 18 := fun p hp => by
        obtain ⟨m, hm, rfl⟩ := List.mem_map.mp hp
        exact (M59.mov_lt ok hm).1
      refine ⟨_, _, rfl, ?_⟩
      refine ⟨_, rfl, D, (M59.mov ps).map (fun m : Nat × Nat => m.1), rfl, rfl, .inr ⟨_, .inl eD2, srK_keys ps⟩, ok.mov, kT, fun H3 p s3 hp e3 => ⟨p, rfl, ⟨_, SqL.of e3⟩, ?_⟩⟩
      have et : ascL ((M59.mov ps).map (·.1)) = M59.tgs ps := rfl
      rw [et] at e3
      have s03 := s02.trans s3
      have e0F := s3 _ _ eF
      have e0S := s3 _ _ eS
      have e0D := s3 _ _ eD2
      have tg18 : ∀ q ∈ M59.tgs ps, q < 18 := fun q hq => List.mem_range.mp (List.mem_filter.mp hq).1
      have tgT : ∀ q ∈ M59.tgs ps, isT ps q = true := fun q hq => (List.mem_filter.mp hq).2
      have getS : ∀ (H' : Hp) (q : Nat), H' D = some (.dK (srK ps)) → q < 18 → DGet H' D (plV q) (if isT ps q = true then some (plV (src ps q)) else none) := fun H' q e hq => .inl ⟨_, keyP q, .inl e, rfl, (srK_get ok hq).symm⟩
      refine for_it (walk_list (xs := (M59.tgs ps).map plV)) (fun i σ H' => ∃ (fs : List Addr) (kvs : List (Key × V)) (w2 w3 w6 w7 w8 w9 w10 : Option V), σ = [some (.ref a), some (.ref D), w2, w3, some (.ref F0), some (.ref S0), w6, w7, w8, w9, w10] ∧ Same H H' ∧ H' p = some (.lst ((M59.tgs ps).map plV)) ∧ H' D = some (.dK (srK ps)) ∧
        H' F0 = some (.lst (fs.map V.ref)) ∧ TuA rgC H' fs (((M59.tgs ps).take i).foldl (M59.rstep ps) []) ∧ H' S0 = some (.dK kvs) ∧ kvs.map (·.1) = (((M59.tgs ps).take i).foldl (M59.rstep ps) []).flatten.map keyP) ⟨[], [], _, _, _, _, _, _, _, rfl, s03, e3, e0D, e0F, .nil, e0S, rfl⟩ (fun i σ H' _ ⟨_, _, _, _, _, _, _, _, _, _, _, e, _⟩ => SqL.of e) ?_ ?_
      · rintro i x σ Hx H4 hi ⟨fs, kvs, w2, w3, w6, w7, w8, w9, w10, rfl, s4, e4p, e4D, e4F, tuF, e4S, hkS⟩ ⟨rfl, hx⟩
        obtain ⟨q, hq, rfl⟩ : ∃ q, (M59.tgs ps)[i]? = some q ∧ x = plV q := by
          rw [List.getElem?_map] at hx
          cases z : (M59.tgs ps)[i]? with
          | none => rw [z] at hx; cases hx
          | some t => rw [z] at hx; injection hx with hx; exact ⟨t, rfl, hx.symm⟩
        have qin := List.mem_of_getElem? hq
        have q18 := tg18 q qin
        have qT := tgT q qin
        have fold : ((M59.tgs ps).take (i + 1)).foldl (M59.rstep ps) [] = M59.rstep ps (((M59.tgs ps).take i).foldl (M59.rstep ps) []) q := by
          rw [take_snoc2 hq, List.foldl_append]
          rfl
        have RG : M59.Rgs ps ((M59.tgs ps).take i) (((M59.tgs ps).take i).foldl (M59.rstep ps) []) := by
          have := M59.Rgs.fold ok ((M59.tgs ps).take i) [] [] (fun z hz => tgT z (List.mem_of_mem_take hz)) ⟨(fun _ h => nomatch h), List.nodup_nil, (fun _ h => nomatch h)⟩
          simpa using this
        generalize ((M59.tgs ps).take i).foldl (M59.rstep ps) [] = FL at tuF hkS fold RG ⊢
        refine ⟨(show 0 ≤ sizeLine by decide), fun B hB => ?_⟩
        have sB := same_new (o := .lst []) hB
        have eB : (upd H4 B (.lst [])) B = some (.lst ([].map plV)) := upd_same
        have nB : H B = none := s4.free hB
        generalize upd H4 B (.lst []) = H5 at eB sB ⊢
        refine ⟨_, rfl, _, rfl, D, _, rfl, by have := getS H5 q (sB _ _ e4D) q18; rw [if_pos qT] at this; exact this, _, _, rfl, ?_⟩
        have ml := movLen ok
        refine ⟨fun σ H' => ∃ at_ back, σ = [some (.ref a), some (.ref D), w2, w3, some (.ref F0), some (.ref S0), some (plV q), some (.ref B), some (plV at_), w9, w10] ∧ at_ < 18 ∧ M59.chase ps q (M59.mov ps).length (src ps q) [] = (at_, back) ∧ back.length ≤ (M59.mov ps).length ∧ Same H4 H' ∧ H' B = some (.lst (back.map plV)), ?_, ?_⟩
        · refine ⟨fun m σ H' => ∃ at_ back, m = (M59.mov ps).length - back.length ∧ σ = [some (.ref a), some (.ref D), w2, w3, some (.ref F0), some (.ref S0), some (plV q), some (.ref B), some (plV at_), w9, w10] ∧ at_ < 18 ∧
            M59.chase ps q (M59.mov ps).length (src ps q) [] = M59.chase ps q ((M59.mov ps).length - back.length) at_ back ∧ back.length ≤ (M59.mov ps).length ∧ Same H4 H' ∧ H' B = some (.lst (back.map plV)), ⟨_, src ps q, [], rfl, rfl, (isT_lt ok qT).2, rfl, Nat.zero_le _, sB, eB⟩, ?_⟩
          rintro m σ H6 ⟨at_, back, rfl, rfl, a18, hch, hbl, s6, e6B⟩
          have e6D := s6 _ _ e4D
          have stop : (¬ (isT ps at_ = true ∧ at_ ≠ q) ∨ ¬ back.length < (M59.mov ps).length) → ∃ at_' back', [some (.ref a), some (.ref D), w2, w3, some (.ref F0), some (.ref S0), some (plV q), some (.ref B), some (plV at_), w9, w10] = [some (.ref a), some (.ref D), w2, w3, some (.ref F0), some (.ref S0), some (plV q), some (V.ref B), some (plV at_'), w9, w10] ∧ at_' < 18 ∧ M59.chase ps q (M59.mov ps).length (src ps q) [] = (at_', back') ∧ back'.length ≤ (M59.mov ps).length ∧ Same H4 H6 ∧ H6 B = some (.lst (back'.map plV)) := fun h => by
            refine ⟨at_, back, rfl, a18, ?_, hbl, s6, e6B⟩
            rw [hch]
            cases hk : (M59.mov ps).length - back.length with
            | zero => rfl
            | succ n =>
              unfold M59.chase
              rw [if_neg (h.resolve_right fun z => z (by omega))]
          refine ⟨_, rfl, _, rfl, D, _, rfl, getS H6 at_ e6D a18, _, rfl, ?_⟩
          cases c1 : isT ps at_ with
          | false =>
            exact iteF (iteF (stop (.inl fun z => by rw [c1] at z; cases z.1)))
          | true =>
          refine iteT ⟨_, rfl, _, rfl, rfl, _, rfl, ?_⟩
          rw [show decide (plV at_ = plV q) = decide (at_ = q) from plV_dec a18 q18]
          by_cases c2 : at_ = q
          · rw [decide_eq_true c2]
            exact iteN1 (iteF (stop (.inl fun z => z.2 c2)))
          rw [decide_eq_false c2]
          refine iteN0 ⟨_, rfl, _, _, rfl, .inl ⟨_, SqL.of e6B, rfl⟩, _, rfl, _, _, rfl, e6D, _, _, rfl, rfl, _, rfl, ?_⟩
          rw [List.length_map, srK_len]
          by_cases c3 : back.length < (M59.mov ps).length
          rotate_left
          · rw [decide_eq_false (show ¬ ((back.length : Nat) : Int) < ((M59.mov ps).length : Nat) by omega)]
            exact iteF (stop (.inr c3))
          rw [decide_eq_true (show ((back.length : Nat) : Int) < ((M59.mov ps).length : Nat) by omega)]
          refine iteT ⟨fun σ' H' => ∃ m', m' < _ ∧ _, fun _ _ h => h, ?_⟩
          refine ⟨_, rfl, .inl ⟨rfl, _, SqL.of e6B⟩, _, rfl, _, _, _, rfl, rfl, e6B, ?_, ?_⟩
          · rw [List.length_map]
            exact Nat.lt_of_le_of_lt (show back.length ≤ 18 by omega) (by decide)
          have s7 := same_sub (o := .lst (back.map plV ++ [plV at_])) s6 hB
          have e7B : (upd H6 B (.lst (back.map plV ++ [plV at_]))) B = some (.lst ((back ++ [at_]).map plV)) := by
            rw [upd_same, List.map_append]
            rfl
          have e7D := s7 _ _ e4D
          refine ⟨_, rfl, _, rfl, D, _, rfl, by have := getS _ at_ e7D a18; rw [if_pos c1] at this; exact this, (M59.mov ps).length - (back ++ [at_]).length, ?_, src ps at_, back ++ [at_], rfl, rfl, (isT_lt ok c1).2, ?_, ?_, s7, e7B⟩
          · rw [List.length_append, List.length_singleton]
            omega
          · rw [hch, List.length_append, List.length_singleton]
            have : (M59.mov ps).length - back.length = ((M59.mov ps).length - (back.length + 1)) + 1 := by omega
            rw [this]
            conv => lhs; unfold M59.chase
            rw [if_pos ⟨c1, c2⟩]
          · rw [List.length_append, List.length_singleton]
            omega
        rintro σ H6 ⟨at_, back, rfl, a18, hch, hbl, s6, e6B⟩
        have hra : M59.ringAt ps q = if at_ = q then some (q :: back.reverse) else none := by
          unfold M59.ringAt
          rw [hch]
        have fl18 : ∀ z ∈ FL.flatten, z < 18 := fun z hz => by
          obtain ⟨r, hr, hz⟩ := List.mem_flatten.mp hz
          exact (RG.ok r hr).lt ok z hz
        have keep : ((M59.tgs ps).take (i + 1)).foldl (M59.rstep ps) [] = FL → ∃ (fs : List Addr) (kvs' : List (Key × V)) (v2 v3 v6 v7 v8 v9 v10 : Option V), [some (.ref a), some (.ref D), w2, w3, some (.ref F0), some (.ref S0), some (plV q), some (.ref B), some (plV at_), w9, w10] = [some (V.ref a), some (.ref D), v2, v3, some (.ref F0), some (.ref S0), v6, v7, v8, v9, v10] ∧ Same H H6 ∧ H6 p = some (.lst ((M59.tgs ps).map plV)) ∧ H6 D = some (.dK (srK ps)) ∧
            H6 F0 = some (.lst (fs.map V.ref)) ∧ TuA rgC H6 fs (((M59.tgs ps).take (i + 1)).foldl (M59.rstep ps) []) ∧ H6 S0 = some (.dK kvs') ∧ kvs'.map (·.1) = (((M59.tgs ps).take (i + 1)).foldl (M59.rstep ps) []).flatten.map keyP := fun e => by
          rw [e]
          exact ⟨fs, kvs, _, _, _, _, _, _, _, rfl, s4.trans s6, s6 _ _ e4p, s6 _ _ e4D, s6 _ _ e4F, tuF.same s6, s6 _ _ e4S, hkS⟩
        refine ⟨_, rfl, _, rfl, rfl, _, rfl, ?_⟩
        rw [show decide (plV at_ = plV q) = decide (at_ = q) from plV_dec a18 q18]
        by_cases c1 : at_ = q
        rotate_left
        · rw [decide_eq_false c1]
          rw [if_neg c1] at hra
          refine iteF (iteF (keep ?_))
          rw [fold]
          unfold M59.rstep
          rw [hra]
        subst c1
        rw [if_pos rfl] at hra
        rw [decide_eq_true rfl]
        have e6S := s6 _ _ e4S
        refine iteT ⟨_, rfl, _, rfl, S0, _, rfl, .inl ⟨kvs, keyP at_, .inl e6S, rfl, rfl⟩, _, rfl, ?_⟩
        have hin : (valV kvs (keyP at_)).isSome = decide (at_ ∈ FL.flatten) := by
          cases e : valV kvs (keyP at_) with
          | some v =>
            have := valV_in e
            rw [hkS] at this
            obtain ⟨z, hz, e2⟩ := List.mem_map.mp this
            have := keyP_inj (fl18 z hz) a18 e2
            subst this
            rw [decide_eq_true hz]
            rfl
          | none =>
            by_cases c : at_ ∈ FL.flatten
            · have h1 : keyP at_ ∈ kvs.map (·.1) := by rw [hkS]; exact List.mem_map.mpr ⟨_, c, rfl⟩
              exact absurd h1 (valV_not e)
            · rw [decide_eq_false c]
              rfl
        rw [hin]
        by_cases c2 : at_ ∈ FL.flatten
        · rw [decide_eq_true c2]
          refine iteN1 (keep ?_)
          rw [fold]
          unfold M59.rstep
          rw [hra]
          exact if_pos c2
        rw [decide_eq_false c2]
        have hstep : M59.rstep ps FL at_ = FL ++ [at_ :: back.reverse] := by
          unfold M59.rstep
          rw [hra]
          exact if_neg c2
        have RS := M59.Rgs.step ok RG qT
        rw [hstep] at RS fold
        refine iteN0 ?_
        have bl19 : (at_ :: back.reverse).length ≤ 19 := by
          have := movLen ok
          rw [List.length_cons, List.length_reverse]
          omega
        refine ⟨_, rfl, (show 1 ≤ sizeLine by decide), fun L1 hL1 => ⟨_, rfl, _, rfl, _, rfl, B, _, rfl, rfl, SqL.of ((same_new hL1) _ _ e6B), fun L2 hL2 => ⟨_, _, _, _, rfl, rfl, (same_new hL2) _ _ upd_same, upd_same, ?_, fun L3 hL3 => ⟨L3, _, rfl, .inl ⟨SqL.of upd_same, fun rg hrg => ?_⟩⟩⟩⟩⟩
        · rw [List.length_reverse, List.length_map]
          exact Nat.le_trans (show [plV at_].length + back.length ≤ 19 by rw [List.length_singleton]; rw [List.length_cons, List.length_reverse] at bl19; omega) (by decide)
        have er : [plV at_] ++ (back.map plV).reverse = rgC (at_ :: back.reverse) := by
          unfold rgC
          rw [List.map_cons, List.map_reverse]
          rfl
        rw [er] at hrg ⊢
        have s7 : Same H6 (upd (upd (upd (upd H6 L1 (.lst [plV at_])) L2 (.lst (back.map plV).reverse)) L3 (.lst (rgC (at_ :: back.reverse)))) rg (.tup (rgC (at_ :: back.reverse)))) := (((same_new hL1).trans (same_new hL2)).trans (same_new hL3)).trans (same_new hrg)
        have e7r : (upd (upd (upd (upd H6 L1 (.lst [plV at_])) L2 (.lst (back.map plV).reverse)) L3 (.lst (rgC (at_ :: back.reverse)))) rg (.tup (rgC (at_ :: back.reverse)))) rg = some (.tup (rgC (at_ :: back.reverse))) := upd_same
        generalize upd (upd (upd (upd H6 L1 (.lst [plV at_])) L2 (.lst (back.map plV).reverse)) L3 (.lst (rgC (at_ :: back.reverse)))) rg (.tup (rgC (at_ :: back.reverse))) = H7 at s7 e7r ⊢
        have s47 := s6.trans s7
        have e7F := s47 _ _ e4F
        refine ⟨_, rfl, .inl ⟨rfl, _, SqL.of e7F⟩, _, rfl, _, _, _, rfl, rfl, e7F, ?_, ?_⟩
        · rw [List.length_map, tuF.length]
          have h1 := flat_len FL fun r hr => (RG.ok r hr).ne
          have h2 := SkF.len18 RG.nd fl18
          exact Nat.lt_of_le_of_lt (Nat.le_trans h1 h2) (by decide)
        have pF : p ≠ F0 := fun z => by rw [z, eF] at hp; cases hp
        have e4D' := s47 _ _ e4D
        have e4S' := s47 _ _ e4S
        have e4p' := s47 _ _ e4p
        have DF : D ≠ F0 := fun z => by rw [z, e7F] at e4D'; cases e4D'
        have rF : rg ≠ F0 := fun z => by rw [z, e7F] at e7r; cases e7r
        have s8 : Same H (upd H7 F0 (.lst (fs.map V.ref ++ [V.ref rg]))) := same_sub (s4.trans s47) nF
        have e8p : (upd H7 F0 (.lst (fs.map V.ref ++ [V.ref rg]))) p = some (.lst ((M59.tgs ps).map plV)) := by rw [upd_ne pF]; exact e4p'
        have e8D : (upd H7 F0 (.lst (fs.map V.ref ++ [V.ref rg]))) D = some (.dK (srK ps)) := by rw [upd_ne DF]; exact e4D'
        have e8S : (upd H7 F0 (.lst (fs.map V.ref ++ [V.ref rg]))) S0 = some (.dK kvs) := by rw [upd_ne (Ne.symm FS)]; exact e4S'
        have e8r : (upd H7 F0 (.lst (fs.map V.ref ++ [V.ref rg]))) rg = some (.tup (rgC (at_ :: back.reverse))) := by rw [upd_ne rF]; exact e7r
        have e8F : (upd H7 F0 (.lst (fs.map V.ref ++ [V.ref rg]))) F0 = some (.lst ((fs ++ [rg]).map V.ref)) := by
          rw [upd_same, List.map_append]
          rfl
        have tu8 : TuA rgC (upd H7 F0 (.lst (fs.map V.ref ++ [V.ref rg]))) (fs ++ [rg]) (FL ++ [at_ :: back.reverse]) := ((tuF.same s47).app (TuA.one e7r)).put e7F fun vs z => by cases z
        generalize upd H7 F0 (.lst (fs.map V.ref ++ [V.ref rg])) = H8 at s8 e8p e8D e8S e8r e8F tu8 ⊢
        have rnd : (FL.flatten ++ (at_ :: back.reverse)).Nodup := by
          have := RS.nd
          rwa [List.flatten_append, List.flatten_singleton] at this
        have r18 : ∀ z ∈ (at_ :: back.reverse), z < 18 := (RS.ok _ (List.mem_append_right _ (List.mem_singleton.mpr rfl))).lt ok
        refine ⟨_, rfl, rg, rfl, ⟨_, SqT.of e8r⟩, ?_⟩
        refine for_it (walk_tup (xs := rgC (at_ :: back.reverse))) (fun j σ H' => ∃ (kv2 : List (Key × V)) (v10 : Option V), σ = [some (.ref a), some (.ref D), w2, w3, some (.ref F0), some (.ref S0), some (plV at_), some (.ref B), some (plV at_), some (.ref rg), v10] ∧ Same H H' ∧ H' p = some (.lst ((M59.tgs ps).map plV)) ∧ H' D = some (.dK (srK ps)) ∧ H' F0 = some (.lst ((fs ++ [rg]).map V.ref)) ∧ H' rg = some (.tup (rgC (at_ :: back.reverse))) ∧
          TuA rgC H' (fs ++ [rg]) (FL ++ [at_ :: back.reverse]) ∧ H' S0 = some (.dK kv2) ∧ kv2.map (·.1) = (FL.flatten ++ (at_ :: back.reverse).take j).map keyP) ⟨kvs, _, rfl, s8, e8p, e8D, e8F, e8r, tu8, e8S, by rw [List.take_zero, List.append_nil]; exact hkS⟩ (fun j σ H' _ ⟨_, _, _, _, _, _, _, e, _⟩ => SqT.of e) ?_ ?_
        · rintro j x σ Hx H9 hj ⟨kv2, v10, rfl, s9, e9p, e9D, e9F, e9r, tu9, e9S, hk9⟩ ⟨rfl, hx⟩
          obtain ⟨z, hz, rfl⟩ : ∃ z, (at_ :: back.reverse)[j]? = some z ∧ x = plV z := by
            unfold rgC at hx
            rw [List.getElem?_map] at hx
            cases e : (at_ :: back.reverse)[j]? with
            | none => rw [e] at hx; cases hx
            | some t => rw [e] at hx; injection hx with hx; exact ⟨t, rfl, hx.symm⟩
          have zin := List.mem_of_getElem? hz
          have z18 := r18 z zin
          have nin : valV kv2 (keyP z) = none := by
            cases e : valV kv2 (keyP z) with
            | none => rfl
            | some v =>
              have := valV_in e
              rw [hk9] at this
              obtain ⟨y, hy, e5⟩ := List.mem_map.mp this
              have y18 : y < 18 := by
                rcases List.mem_append.mp hy with hy | hy
                · exact fl18 y hy
                · exact r18 y (List.mem_of_mem_take hy)
              have e6 := keyP_inj y18 z18 e5
              subst e6
              have h7 : (FL.flatten ++ (at_ :: back.reverse).take (j + 1)).Nodup := List.Nodup.sublist (List.Sublist.append (List.Sublist.refl _) (List.take_sublist _ _)) rnd
              rw [take_snoc2 hz, ← List.append_assoc] at h7
              exact ((List.nodup_append.mp h7).2.2 _ hy _ (List.mem_singleton.mpr rfl) rfl).elim
          have kl : kv2.length ≤ 18 := by
            have := congrArg List.length hk9
            rw [List.length_map, List.length_map] at this
            rw [this]
            refine SkF.len18 (List.Nodup.sublist (List.Sublist.append (List.Sublist.refl _) (List.take_sublist _ _)) rnd) fun y hy => ?_
            rcases List.mem_append.mp hy with hy | hy
            · exact fl18 y hy
            · exact r18 y (List.mem_of_mem_take hy)
          have pS : p ≠ S0 := fun z => by rw [z, e9S] at e9p; cases e9p
          have rS : rg ≠ S0 := fun z => by rw [z, e9S] at e9r; cases e9r
          refine ⟨_, rfl, _, rfl, S0, _, rfl, .inl ⟨kv2, keyP z, e9S, rfl, Nat.lt_of_le_of_lt kl (by decide), rfl⟩, ?_⟩
          refine ⟨_, _, rfl, same_sub s9 nS, by rw [upd_ne pS]; exact e9p, by rw [upd_ne DS]; exact e9D, by rw [upd_ne FS]; exact e9F, by rw [upd_ne rS]; exact e9r, tu9.put e9S (fun vs z => by cases z), upd_same, ?_⟩
          rw [putK_new _ nin, List.map_append, hk9, take_snoc2 hz]
          simp [List.map_append]
        · rintro σ H9 ⟨kv2, v10, rfl, s9, e9p, e9D, e9F, e9r, tu9, e9S, hk9⟩
          have hl : (rgC (at_ :: back.reverse)).length = (at_ :: back.reverse).length := List.length_map _
          rw [hl, List.take_length] at hk9
          refine ⟨fs ++ [rg], kv2, _, _, _, _, _, _, _, rfl, s9, e9p, e9D, e9F, ?_, e9S, ?_⟩
          · rw [fold]
            exact tu9
          · rw [fold, List.flatten_append, List.flatten_singleton]
            exact hk9
      · rintro σ H4 ⟨fs, kvs, w2, w3, w6, w7, w8, w9, w10, rfl, s4, e4p, e4D, e4F, tuF, e4S, hkS⟩
        rw [List.length_map, List.take_length] at tuF
        exact ⟨_, rfl, k H4 F0 s4 nF ⟨fs, e4F, tuF⟩⟩
end
/-! ## rules that mention X.K, with K told (for comprehensions) -/
theorem ix_seqK {X : Cx} {K : PySem.W.Frag} (e : X.K = K := by rfl) : IxR X (rIx K) := by
  subst e
  exact ix_seq
def rLenK (K : PySem.W.Frag) : List V → Hp → VK → Prop := fun xs H Q => ∃ x n, xs = [x] ∧ LenV K x H n ∧ Q (.int n) H
theorem call_lenK {X : Cx} {K : PySem.W.Frag} (e : X.K = K := by rfl) : CallR X (.builtin "len") (rLenK K) := by
  subst e
  exact call_len
theorem call_isiK {X : Cx} {K : PySem.W.Frag} (e : X.K = K := by rfl) : CallR X (.builtin "isinstance") (rIsi K) := by
  subst e
  exact call_isi
/-! ## items within comprehensions -/
theorem ix_tupK {X : Cx} {K : PySem.W.Frag} (e : X.K = K := by rfl) : IxR X (rIxT K) := by
  subst e
  exact ix_tup
theorem ix_listK {X : Cx} {K : PySem.W.Frag} (e : X.K = K := by rfl) : IxR X (rIxL K) := by
  subst e
  exact ix_list
/-! ## o.f as a target among others -/
section
open PySem.Spec PyProof.Rows
variable {X : Cx}
def gAttr (K : PySem.W.Frag) (to : TE) (f : Str) : TG := fun v σ H Q => to σ H fun x H1 => ∃ a C dx fs, x = .ref a ∧ H1 a = some (.ins C dx fs) ∧ Cls K C ∧ NoAttr K C f ∧ fs.length < 1000 ∧ Q σ (upd H1 a (.ins C dx (putF f v fs)))
theorem pg_attr {o : Expr} {f : Str} {pos : Pos} {to : TE} (ho : PE X o to) : PG X (.Attribute o f pos) (gAttr X.K to f) := by
  refine ⟨fun pins s σ H v u Q I r h => ?_⟩
  rw [arm_assign_Attribute]
  refine wpAny_bind (wpAny_holding (thn (ho.run pins s σ H _ I h) fun ov s1 ⟨x, H1, I1, r1, a, C, dx, fs, ex, ea, c, n, l, q⟩ => ?_))
  subst ex
  obtain rfl : ov = Value.ref a := r1
  refine wpAny_bind (wpAny_standAt (wpAny_bind (wpAny_holding (setattr_ok I1 ea c n l r fun s2 I2 => ?_))))
  exact wpAny_release ⟨σ, _, I2, q⟩
end
/-! ## class Ring -/
structure RgC (K : PySem.W.Frag) (mg : Str → Option Value) (C : Addr) : Prop where
  g : mg "Ring" = some (.ref C)
  c : Cls K C
  n1 : NoAttr K C "places"
  n2 : NoAttr K C "takers"
  n3 : NoAttr K C "helpers"
  n4 : NoAttr K C "rows"
  n5 : NoAttr K C "late"
  n6 : NoAttr K C "keeper"
/-! ## an instance of Ring in the heap -/
open M59 (isR fstR Ok byS tk isT src)
abbrev FnQ (K : PySem.W.Frag) (x q : Str) (st : Stmt) (f : Addr) (fd : FuncData) : Prop := FunD K x q (defArgs st) (defBody st) (defScope st) [] [] f fd
/-- all but one object stay -/
def Sb (L : Addr) (H H' : Hp) : Prop := ∀ b o, b ≠ L → H b = some o → H' b = some o
theorem Sb.trans {L : Addr} {H H1 H2 : Hp} (a : Sb L H H1) (b : Sb L H1 H2) : Sb L H H2 := fun x o n e => b x o n (a x o n e)
theorem Sb.of {L : Addr} {H H1 : Hp} (s : Same H H1) : Sb L H H1 := fun x o _ e => s x o e
theorem Sb.upd {L : Addr} {H H1 : Hp} {o : HO} (s : Sb L H H1) : Sb L H (L2.upd H1 L o) := fun x u n e => by
  rw [upd_ne n]
  exact s x u n e
theorem Sb.new {L x : Addr} {H H1 : Hp} {o : HO} (s : Sb L H H1) (hx : H x = none) : Sb L H (L2.upd H1 x o) := fun b u n e => by
  rw [upd_ne (ne_of_none e hx)]
  exact s b u n e
theorem Sb.free {L x : Addr} {H H1 : Hp} {o : HO} (s : Sb L H H1) (e : H1 L = some o) (hx : H1 x = none) : H x = none ∧ x ≠ L := by
  have n : x ≠ L := fun z => by rw [z, e] at hx; cases hx
  refine ⟨?_, n⟩
  cases q : H x with
  | none => rfl
  | some u =>
    have := s x u n q
    rw [hx] at this
    cases this
theorem TkD.sb {H H' : Hp} {d L : Addr} {ps : M59.Prs} {as : List Addr} (ok : Ok ps) (s : Sb L H H') (eL : H L = some (.lst (as.map V.ref))) (h : TkD H d ps) : TkD H' d ps := by
  obtain ⟨kvs, h1, h2, h3⟩ := h
  refine ⟨kvs, h1.imp (fun h => s _ _ (fun z => by rw [z, eL] at h; cases h) h) fun ⟨o, h⟩ => ⟨o, s _ _ (fun z => by rw [z, eL] at h; cases h) h⟩, h2, fun p hp => ?_⟩
  obtain ⟨T, a, b⟩ := h3 p hp
  refine ⟨T, a, s _ _ (fun z => ?_) b⟩
  rw [z, eL] at b
  have b := HO.lst.inj (Option.some.inj b)
  have hne := (M59.keys_mem ok).mp hp
  cases e : tk ps p with
  | nil => exact hne e
  | cons t r =>
    rw [e] at b
    cases as with
    | nil => cases b
    | cons x l => cases b
theorem TkD.putD {H : Hp} {d D : Addr} {ps : M59.Prs} {kv : List (Key × V)} {o : HO} (e : H D = some (.dK kv)) (n : d ≠ D) (h : TkD H d ps) : TkD (upd H D o) d ps := by
  obtain ⟨kvs, h1, h2, h3⟩ := h
  refine ⟨kvs, h1.imp (fun h => by rw [upd_ne n]; exact h) fun ⟨o, h⟩ => ⟨o, by rw [upd_ne n]; exact h⟩, h2, fun p hp => ?_⟩
  obtain ⟨T, a, b⟩ := h3 p hp
  have : T ≠ D := fun z => by rw [z, e] at b; cases b
  exact ⟨T, a, by rw [upd_ne this]; exact b⟩
def kpV : Option Nat → V
  | none => .non
  | some k => plV k
def rgF (R d hp L D1 D2 : Addr) : List (Str × V) := [("places", .ref R), ("takers", .ref d), ("helpers", .ref hp), ("rows", .ref L), ("late", .ref D1), ("keeper", .ref D2)]
structure RgP (C p L : Addr) (H : Hp) (ps : M59.Prs) (r q1 q2 : List Nat) (h0 h1 : Nat) (dx R d hp D1 D2 : Addr) (kv1 kv2 : List (Key × V)) (Lf : Nat → Addr) : Prop where
  ei : H p = some (.ins C dx (rgF R d hp L D1 D2))
  eR : H R = some (.tup (r.map plV))
  eT : TkD H d ps
  eh : H hp = some (.tup [plV h0, plV h1])
  e1 : H D1 = some (.dK kv1)
  e2 : H D2 = some (.dK kv2)
  n1 : d ≠ D1
  n2 : d ≠ D2
  n12 : D1 ≠ D2
  k1 : kv1.map (·.1) = q1.map keyP
  k2 : kv2.map (·.1) = q2.map keyP
  v1 : ∀ z ∈ q1, valV kv1 (keyP z) = some (.ref (Lf z)) ∧ Lf z ≠ L ∧ H (Lf z) = some (.lst ((M59.late ps r z).map plV))
  v2 : ∀ z ∈ q2, valV kv2 (keyP z) = some (kpV (M59.keep ps r z))
section
variable {C p L : Addr} {H H' : Hp} {ps : M59.Prs} {r q1 q2 : List Nat} {h0 h1 : Nat} {dx R d hp D1 D2 : Addr} {kv1 kv2 : List (Key × V)} {Lf : Nat → Addr}
theorem RgP.same (s : Same H H') (h : RgP C p L H ps r q1 q2 h0 h1 dx R d hp D1 D2 kv1 kv2 Lf) : RgP C p L H' ps r q1 q2 h0 h1 dx R d hp D1 D2 kv1 kv2 Lf :=
  ⟨s _ _ h.ei, s _ _ h.eR, h.eT.same s, s _ _ h.eh, s _ _ h.e1, s _ _ h.e2, h.n1, h.n2, h.n12, h.k1, h.k2, fun z hz => ⟨(h.v1 z hz).1, (h.v1 z hz).2.1, s _ _ (h.v1 z hz).2.2⟩, h.v2⟩
theorem RgP.sb {as : List Addr} (ok : Ok ps) (s : Sb L H H') (eL : H L = some (.lst (as.map V.ref))) (h : RgP C p L H ps r q1 q2 h0 h1 dx R d hp D1 D2 kv1 kv2 Lf) : RgP C p L H' ps r q1 q2 h0 h1 dx R d hp D1 D2 kv1 kv2 Lf := by
  have ne : ∀ {x : Addr} {o : HO}, H x = some o → (∀ xs, o ≠ .lst xs) → H' x = some o := fun e hn => s _ _ (fun z => by
    rw [z, eL] at e
    exact hn _ (Option.some.inj e).symm) e
  exact ⟨ne h.ei (fun _ z => by cases z), ne h.eR (fun _ z => by cases z), h.eT.sb ok s eL, ne h.eh (fun _ z => by cases z), ne h.e1 (fun _ z => by cases z), ne h.e2 (fun _ z => by cases z), h.n1, h.n2, h.n12, h.k1, h.k2, fun z hz => ⟨(h.v1 z hz).1, (h.v1 z hz).2.1, s _ _ (h.v1 z hz).2.1 (h.v1 z hz).2.2⟩, h.v2⟩
theorem keys_no {kv : List (Key × V)} {q : List Nat} {z : Nat} (hk : kv.map (·.1) = q.map keyP) (h18 : ∀ y ∈ q, y < 18) (hz : z < 18) (hn : z ∉ q) : valV kv (keyP z) = none := by
  cases e : valV kv (keyP z) with
  | none => rfl
  | some v =>
    have := valV_in e
    rw [hk] at this
    obtain ⟨y, hy, e2⟩ := List.mem_map.mp this
    exact absurd (keyP_inj (h18 y hy) hz e2 ▸ hy) hn
theorem RgP.keep {z : Nat} (h : RgP C p L H ps r q1 q2 h0 h1 dx R d hp D1 D2 kv1 kv2 Lf) (h18 : ∀ y ∈ q2, y < 18) (hz : z < 18) (hn : z ∉ q2) :
    RgP C p L (upd H D2 (.dK (putK kv2 (keyP z) (kpV (M59.keep ps r z))))) ps r q1 (q2 ++ [z]) h0 h1 dx R d hp D1 D2 kv1 (putK kv2 (keyP z) (kpV (M59.keep ps r z))) Lf := by
  have ne : ∀ {x : Addr} {o : HO}, H x = some o → (∀ xs, o ≠ .dK xs) → (upd H D2 (.dK (putK kv2 (keyP z) (kpV (M59.keep ps r z))))) x = some o := fun e hn => by
    rw [upd_ne (fun z => by
      rw [z, h.e2] at e
      exact hn _ (Option.some.inj e).symm)]
    exact e
  have nin := keys_no h.k2 h18 hz hn
  refine ⟨ne h.ei (fun _ z => by cases z), ne h.eR (fun _ z => by cases z), h.eT.putD h.e2 h.n2, ne h.eh (fun _ z => by cases z), by rw [upd_ne h.n12]; exact h.e1, upd_same, h.n1, h.n2, h.n12, h.k1, ?_, fun z hz => ⟨(h.v1 z hz).1, (h.v1 z hz).2.1, ne (h.v1 z hz).2.2 (fun _ z => by cases z)⟩, fun y hy => ?_⟩
  · rw [putK_new _ nin, List.map_append, h.k2, List.map_append]
    rfl
  · rw [valV_put]
    rcases List.mem_append.mp hy with hy | hy
    · have : ¬ keyP y = keyP z := fun e => hn (keyP_inj (h18 y hy) hz e ▸ hy)
      rw [if_neg this]
      exact h.v2 y hy
    · rw [List.mem_singleton.mp hy, if_pos rfl]
theorem RgP.lat {z : Nat} {Lz : Addr} (h : RgP C p L H ps r q1 q2 h0 h1 dx R d hp D1 D2 kv1 kv2 Lf) (h18 : ∀ y ∈ q1, y < 18) (hz : z < 18) (hn : z ∉ q1) (eL : H Lz = some (.lst ((M59.late ps r z).map plV))) (nL : Lz ≠ L) :
    RgP C p L (upd H D1 (.dK (putK kv1 (keyP z) (.ref Lz)))) ps r (q1 ++ [z]) q2 h0 h1 dx R d hp D1 D2 (putK kv1 (keyP z) (.ref Lz)) kv2 (fun y => if y = z then Lz else Lf y) := by
  have ne : ∀ {x : Addr} {o : HO}, H x = some o → (∀ xs, o ≠ .dK xs) → (upd H D1 (.dK (putK kv1 (keyP z) (.ref Lz)))) x = some o := fun e hn => by
    rw [upd_ne (fun z => by
      rw [z, h.e1] at e
      exact hn _ (Option.some.inj e).symm)]
    exact e
  have nin := keys_no h.k1 h18 hz hn
  refine ⟨ne h.ei (fun _ z => by cases z), ne h.eR (fun _ z => by cases z), h.eT.putD h.e1 h.n1, ne h.eh (fun _ z => by cases z), upd_same, by rw [upd_ne (Ne.symm h.n12)]; exact h.e2, h.n1, h.n2, h.n12, ?_, h.k2, fun y hy => ?_, h.v2⟩
  · rw [putK_new _ nin, List.map_append, h.k1, List.map_append]
    rfl
  · rw [valV_put]
    by_cases c : y = z
    · subst c
      rw [if_pos rfl, if_pos rfl]
      exact ⟨rfl, nL, ne eL (fun _ z => by cases z)⟩
    · have hy2 : y ∈ q1 := by
        rcases List.mem_append.mp hy with hy | hy
        · exact hy
        · exact absurd (List.mem_singleton.mp hy) c
      have : ¬ keyP y = keyP z := fun e => c (keyP_inj (h18 y hy2) hz e)
      rw [if_neg this, if_neg c]
      exact ⟨(h.v1 y hy2).1, (h.v1 y hy2).2.1, ne (h.v1 y hy2).2.2 (fun _ z => by cases z)⟩
end
/-- a Ring that is made -/
def RgI (C p L : Addr) (H : Hp) (ps : M59.Prs) (r : List Nat) (h0 h1 : Nat) : Prop := ∃ dx R d hp D1 D2 kv1 kv2 Lf, RgP C p L H ps r r r h0 h1 dx R d hp D1 D2 kv1 kv2 Lf
/-! ## k59: Ring.__init__ -/
open M59 (isR fstR Ok byS tk isT src)
theorem flat_le {α β : Type} {f : α → List β} {n : Nat} : ∀ l : List α, (∀ x ∈ l, (f x).length ≤ n) → (l.flatMap f).length ≤ l.length * n
  | [], _ => Nat.zero_le _
  | x :: l, h => by
    have h1 := flat_le l fun y hy => h y (List.mem_cons_of_mem _ hy)
    have h2 := h x (List.mem_cons_self ..)
    rw [List.flatMap_cons, List.length_append, List.length_cons, Nat.succ_mul]
    omega
def spRgI (C : Addr) : Sp := fun vs H Q _ => ∃ (p R d hp dx : Addr) (ps : M59.Prs) (r : List Nat) (h0 h1 : Nat), vs = [.ref p, .ref R, .ref d, .ref hp] ∧ H p = some (.ins C dx []) ∧ H R = some (.tup (r.map plV)) ∧ TkD H d ps ∧ H hp = some (.tup [plV h0, plV h1]) ∧ Ok ps ∧ M59.RingP ps r ∧
  ∀ (H' : Hp) (L : Addr), Sb p H H' → H L = none → RgI C p L H' ps r h0 h1 → TuL rowC H' L (r.flatMap (M59.init ps r)) → Q .non H'
section
variable {P : Program} {w : World} {K : PySem.W.Frag} {mg : Str → Option Value} {base : Heap}
theorem sc_Ring___init__ : FnScope ["self", "places", "takers", "helpers", "at", "place", "outside", "taker", "registers"] ["self", "places", "takers", "helpers"] (defScope s_Ring___init__) := ⟨rfl, rfl, rfl, by decide +kernel, rfl, by decide +kernel, by decide +kernel⟩
theorem ok_ringI {f C : Addr} {fd : FuncData} (F : FnQ K "__init__" "Ring.__init__" s_Ring___init__ f fd) (T : RgC K mg C) (c_is_register : Cal P w K mg base 2 "is_register" ["thing", "registers"] (spReg K)) (c_is_slot : Cal P w K mg base 2 "is_slot" ["thing"] (spTxO K slotB)) (c_taken : Cal P w K mg base 3 "taken" ["place", "takers", "helper"] spTaken) (g_MOST_REGISTERS : ∃ t, mg "MOST_REGISTERS" = some (.int 9 t)) (G : NkF K mg) (m_enumerate : mg "enumerate" = none) : FnOk P w K mg base CX0 4 f fd ["self", "places", "takers", "helpers"] (spRgI C) := by
  obtain ⟨f_is_register, fd_is_register, g_is_register, k_is_register, b_is_register, G_is_register⟩ := c_is_register
  obtain ⟨f_is_slot, fd_is_slot, g_is_slot, k_is_slot, b_is_slot, G_is_slot⟩ := c_is_slot
  obtain ⟨f_taken, fd_taken, g_taken, k_taken, b_taken, G_taken⟩ := c_taken
  obtain ⟨_, g_MOST_REGISTERS⟩ := g_MOST_REGISTERS
  refine F.ok sc_Ring___init__ (fun vs H Q E h => ?_) (fun cdv A outer s H vs Q E hr h => ?_)
  · obtain ⟨p, R, d, hp, dx, ps, r, h0, h1, rfl, _⟩ := h
    rfl
  · obtain ⟨p, R, d, hp, dx, ps, r, h0, h1, rfl, ep, eR, hT, eh, ok, RP, k⟩ := h
    have nd := sc_Ring___init__.nd
    have hu := hu_of hr
    apply Exists.intro
    apply And.intro
    case left =>
     apply PSs.nox
     apply pss_cons
     · exact (ps_asg (pe_tup (pa_cons (pv 1) (pa_cons (pv 2) (pa_cons (pv 3) pa_nil)))) (pg_tup rfl (pgs_cons (pg_attr (pv 0)) (pgs_cons (pg_attr (pv 0)) (pgs_cons (pg_attr (pv 0)) pgs_nil)))))
     apply pss_cons
     · exact (ps_asg (pe_tup (pa_cons (pe_lst pa_nil) (pa_cons pe_dnewK (pa_cons pe_dnewK pa_nil)))) (pg_tup rfl (pgs_cons (pg_attr (pv 0)) (pgs_cons (pg_attr (pv 0)) (pgs_cons (pg_attr (pv 0)) pgs_nil)))))
     apply pss_one
     apply ps_for PassesOwn.never rfl
     · exact (pi_enumT (by rfl) m_enumerate (pa_cons (pv 1) pa_nil))
     · exact (pg_tup rfl (pgs_cons (pg_name (i := 4) nd rfl (Or.inr rfl)) (pgs_cons (pg_name (i := 5) nd rfl (Or.inl rfl)) pgs_nil)))
     · apply pss_cons
       · exact (ps_setLc (i := 6) (own := [("taker", 7)]) (g := gName 7) rfl nd rfl rfl (sw_true rfl rfl rfl (by decide +kernel)) (pi_list (pe_dget hu (pv 2) (pv 5) (fun _ _ => rfl))) (blkOk_by (own := [("taker", 7)]) (N := ["self", "places", "takers", "helpers", "at", "place", "outside", "taker", "registers"]) (sc := defScope s_Ring___init__) (by decide +kernel)) (fun _ _ _ _ _ => (pg_name (i := 7) nd rfl (Or.inl rfl))) (fun _ _ _ _ _ => pts_one (pt_cmpR op_ne (pv 7) (pe_ix (ix_tupK (K := K)) (pv 1) (pe_op op_sub (pe_op op_add (pv 4) pe_int) (pe_callB (call_lenK (K := K)) (by rfl) G.len PySem.boot_len (pa_cons (pv 1) pa_nil))) (fun _ _ => rfl)) (nomark _))) (fun _ _ _ _ _ => (pv 7)))
       apply pss_cons
       · exact (ps_setLc (i := 8) (own := [("taker", 7)]) (g := gName 7) rfl nd rfl rfl (sw_true rfl rfl rfl (by decide +kernel)) (pi_list (pv 6)) (blkOk_by (own := [("taker", 7)]) (N := ["self", "places", "takers", "helpers", "at", "place", "outside", "taker", "registers"]) (sc := defScope s_Ring___init__) (by decide +kernel)) (fun _ _ _ _ _ => (pg_name (i := 7) nd rfl (Or.inl rfl))) (fun _ _ _ _ _ => pts_one (pt_val (pe_call G_is_register (hr.mono (by decide)) rfl g_is_register k_is_register b_is_register .nil pass0 (pa_cons (pv 7) (pa_cons (pe_glob (v := .int 9) (by rfl) g_MOST_REGISTERS ⟨_, rfl⟩) pa_nil))))) (fun _ _ _ _ _ => (pv 7)))
       apply C8.pss_cut
       · exact (ps_dput hu (pe_fld (pv 0) rfl) (pv 5) (pe_ifExp (pt_cmpR (op_neEL (Nat.lt_of_le_of_lt (Nat.le_add_right _ 64) hr.units)) (pv 8) (pe_lst pa_nil) (nomark _)) (pe_ix ix_list (pv 8) pe_int (fun _ _ => rfl)) pe_non) rfl)
       apply pss_one
       exact (ps_if (PW.pt (pw_and (pt_val (pe_call G_is_slot (hr.mono (by decide)) rfl g_is_slot k_is_slot b_is_slot .nil pass0 (pa_cons (pv 5) pa_nil))) (pw_and1 (pt_cmpR (op_eqEL (Nat.lt_of_le_of_lt (Nat.le_add_right _ 64) hr.units)) (pv 8) (pe_lst pa_nil) (nomark _))))) (pss_one (ps_dput hu (pe_fld (pv 0) rfl) (pv 5) (pv 6) rfl)) (pss_one (ps_if (pt_cmpR (op_neEL (Nat.lt_of_le_of_lt (Nat.le_add_right _ 64) hr.units)) (pv 6) (pe_lst pa_nil) (nomark _)) (pss_cons (ps_dput hu (pe_fld (pv 0) rfl) (pv 5) (pe_lst pa_nil) rfl) (pss_one (ps_expr (pe_bm PySem.F.plainAttrs_list PySem.F.slot_list_extend PySem.F.type_list_extend mt_extend (pe_fld (pv 0) rfl) (pa_cons (pe_call G_taken (hr.mono (by decide)) rfl g_taken k_taken b_taken .nil pass0 (pa_cons (pv 5) (pa_cons (pv 6) (pa_cons pe_non pa_nil)))) pa_nil))))) (pss_one (ps_dput hu (pe_fld (pv 0) rfl) (pv 5) (pe_lst pa_nil) rfl)))))
    case right =>
      refine ⟨_, rfl, _, rfl, _, rfl, (show 3 ≤ sizeLine by decide), fun t1 ht1 => ⟨t1, _, rfl, SqT.of upd_same, rfl, ?_⟩⟩
      have p1 : p ≠ t1 := ne_of_none ep ht1
      have s1 : Sb p H (upd H t1 (.tup [.ref R, .ref d, .ref hp])) := Sb.of (same_new ht1)
      have e1 : (upd H t1 (.tup [.ref R, .ref d, .ref hp])) p = some (.ins C dx []) := by rw [upd_ne p1]; exact ep
      generalize upd H t1 (.tup [.ref R, .ref d, .ref hp]) = H1 at s1 e1 ⊢
      refine ⟨_, _, rfl, _, rfl, p, C, dx, _, rfl, e1, T.c, T.n1, (by show 0 < 1000; decide), _, _, rfl, _, rfl, p, C, dx, _, rfl, upd_same, T.c, T.n2, (by show 1 < 1000; decide), _, _, rfl, _, rfl, p, C, dx, _, rfl, upd_same, T.c, T.n3, (by show 2 < 1000; decide), rfl, ?_⟩
      have s2 : Sb p H (upd (upd (upd H1 p (.ins C dx (putF "places" (.ref R) []))) p (.ins C dx (putF "takers" (.ref d) (putF "places" (.ref R) [])))) p (.ins C dx (putF "helpers" (.ref hp) (putF "takers" (.ref d) (putF "places" (.ref R) []))))) := s1.upd.upd.upd
      have e2 : (upd (upd (upd H1 p (.ins C dx (putF "places" (.ref R) []))) p (.ins C dx (putF "takers" (.ref d) (putF "places" (.ref R) [])))) p (.ins C dx (putF "helpers" (.ref hp) (putF "takers" (.ref d) (putF "places" (.ref R) []))))) p = some (.ins C dx [("places", .ref R), ("takers", .ref d), ("helpers", .ref hp)]) := upd_same
      generalize upd (upd (upd H1 p (.ins C dx (putF "places" (.ref R) []))) p (.ins C dx (putF "takers" (.ref d) (putF "places" (.ref R) [])))) p (.ins C dx (putF "helpers" (.ref hp) (putF "takers" (.ref d) (putF "places" (.ref R) [])))) = H2 at s2 e2 ⊢
      refine ⟨(show 0 ≤ sizeLine by decide), fun L hL => fun D1 hD1 => fun D2 hD2 => ⟨(show 3 ≤ sizeLine by decide), fun t2 ht2 => ⟨t2, _, rfl, SqT.of upd_same, rfl, ?_⟩⟩⟩
      obtain ⟨nL, Lp⟩ := s2.free e2 hL
      have q1 := same_new (o := .lst []) hL
      have q2 := same_new (o := .dK []) hD1
      have q3 := same_new (o := .dK []) hD2
      have q4 := same_new (o := .tup [.ref L, .ref D1, .ref D2]) ht2
      have s3 := s2.trans (Sb.of (((q1.trans q2).trans q3).trans q4))
      have e3 := (((q1.trans q2).trans q3).trans q4) _ _ e2
      have eL3 : (upd (upd (upd (upd H2 L (.lst [])) D1 (.dK [])) D2 (.dK [])) t2 (.tup [.ref L, .ref D1, .ref D2])) L = some (.lst ([].map V.ref)) := q4 _ _ (q3 _ _ (q2 _ _ upd_same))
      have eD1 : (upd (upd (upd (upd H2 L (.lst [])) D1 (.dK [])) D2 (.dK [])) t2 (.tup [.ref L, .ref D1, .ref D2])) D1 = some (.dK []) := q4 _ _ (q3 _ _ upd_same)
      have eD2 : (upd (upd (upd (upd H2 L (.lst [])) D1 (.dK [])) D2 (.dK [])) t2 (.tup [.ref L, .ref D1, .ref D2])) D2 = some (.dK []) := q4 _ _ upd_same
      have D12 : D1 ≠ D2 := fun z => by rw [← z, upd_same] at hD2; cases hD2
      have nD1 := (s2.trans (Sb.of q1)).free (q1 _ _ e2) hD1
      have nD2 := (s2.trans (Sb.of (q1.trans q2))).free ((q1.trans q2) _ _ e2) hD2
      generalize upd (upd (upd (upd H2 L (.lst [])) D1 (.dK [])) D2 (.dK [])) t2 (.tup [.ref L, .ref D1, .ref D2]) = H3 at s3 e3 eL3 eD1 eD2 ⊢
      clear q1 q2 q3 q4 ht2 hD1 hD2 hL
      refine ⟨_, _, rfl, _, rfl, p, C, dx, _, rfl, e3, T.c, T.n4, (by show 3 < 1000; decide), _, _, rfl, _, rfl, p, C, dx, _, rfl, upd_same, T.c, T.n5, (by show 4 < 1000; decide), _, _, rfl, _, rfl, p, C, dx, _, rfl, upd_same, T.c, T.n6, (by show 5 < 1000; decide), rfl, ?_⟩
      have s4 : Sb p H (upd (upd (upd H3 p (.ins C dx (putF "rows" (.ref L) [("places", .ref R), ("takers", .ref d), ("helpers", .ref hp)]))) p (.ins C dx (putF "late" (.ref D1) (putF "rows" (.ref L) [("places", .ref R), ("takers", .ref d), ("helpers", .ref hp)])))) p (.ins C dx (putF "keeper" (.ref D2) (putF "late" (.ref D1) (putF "rows" (.ref L) [("places", .ref R), ("takers", .ref d), ("helpers", .ref hp)]))))) := s3.upd.upd.upd
      have e4 : (upd (upd (upd H3 p (.ins C dx (putF "rows" (.ref L) [("places", .ref R), ("takers", .ref d), ("helpers", .ref hp)]))) p (.ins C dx (putF "late" (.ref D1) (putF "rows" (.ref L) [("places", .ref R), ("takers", .ref d), ("helpers", .ref hp)])))) p (.ins C dx (putF "keeper" (.ref D2) (putF "late" (.ref D1) (putF "rows" (.ref L) [("places", .ref R), ("takers", .ref d), ("helpers", .ref hp)]))))) p = some (.ins C dx (rgF R d hp L D1 D2)) := upd_same
      have x4 : ∀ b o, b ≠ p → H3 b = some o → (upd (upd (upd H3 p (.ins C dx (putF "rows" (.ref L) [("places", .ref R), ("takers", .ref d), ("helpers", .ref hp)]))) p (.ins C dx (putF "late" (.ref D1) (putF "rows" (.ref L) [("places", .ref R), ("takers", .ref d), ("helpers", .ref hp)])))) p (.ins C dx (putF "keeper" (.ref D2) (putF "late" (.ref D1) (putF "rows" (.ref L) [("places", .ref R), ("takers", .ref d), ("helpers", .ref hp)]))))) b = some o := fun b o n e => by rw [upd_ne n, upd_ne n, upd_ne n]; exact e
      generalize upd (upd (upd H3 p (.ins C dx (putF "rows" (.ref L) [("places", .ref R), ("takers", .ref d), ("helpers", .ref hp)]))) p (.ins C dx (putF "late" (.ref D1) (putF "rows" (.ref L) [("places", .ref R), ("takers", .ref d), ("helpers", .ref hp)])))) p (.ins C dx (putF "keeper" (.ref D2) (putF "late" (.ref D1) (putF "rows" (.ref L) [("places", .ref R), ("takers", .ref d), ("helpers", .ref hp)])))) = H4 at s4 e4 x4 ⊢
      have eL4 := x4 _ _ Lp eL3
      have eD14 := x4 _ _ nD1.2 eD1
      have eD24 := x4 _ _ nD2.2 eD2
      have Rp : R ≠ p := fun z => by rw [z, ep] at eR; cases eR
      have hpp : hp ≠ p := fun z => by rw [z, ep] at eh; cases eh
      have eR4 := s4 _ _ Rp eR
      have eh4 := s4 _ _ hpp eh
      have hT4 : TkD H4 d ps := by
        obtain ⟨kvs, h1, h2, h3⟩ := hT
        refine ⟨kvs, h1.imp (fun h => s4 _ _ (fun z => by rw [z, ep] at h; cases h) h) fun ⟨o, h⟩ => ⟨o, s4 _ _ (fun z => by rw [z, ep] at h; cases h) h⟩, h2, fun y hy => ?_⟩
        obtain ⟨Ty, a, b⟩ := h3 y hy
        exact ⟨Ty, a, s4 _ _ (fun z => by rw [z, ep] at b; cases b) b⟩
      have nd1 : d ≠ D1 := fun z => by
        obtain ⟨kvs, h1, _, _⟩ := hT
        rcases h1 with h | ⟨o, h⟩ <;> rw [z, nD1.1] at h <;> cases h
      have nd2 : d ≠ D2 := fun z => by
        obtain ⟨kvs, h1, _, _⟩ := hT
        rcases h1 with h | ⟨o, h⟩ <;> rw [z, nD2.1] at h <;> cases h
      have RG0 : RgP C p L H4 ps r [] [] h0 h1 dx R d hp D1 D2 [] [] (fun _ => 0) := ⟨e4, eR4, hT4, eh4, eD14, eD24, nd1, nd2, D12, rfl, rfl, (fun _ h => nomatch h), (fun _ h => nomatch h)⟩
      have initLen : ∀ y ∈ r, (M59.init ps r y).length ≤ 18 := fun y hy => by
        have h1 := M59.len_init ok (r := r) y
        have h2 : (M59.outs ps r y).length ≤ (tk ps y).length := List.length_filter_le _ _
        have h3 := tk_len ok y
        omega
      refine ⟨_, rfl, R, _, rfl, SqT.of eR4, ?_⟩
      refine for_it walk_enumT (fun i σ H' => ∃ kv1 kv2 Lf w4 w5 w6 w7 w8, σ = [some (.ref p), some (.ref R), some (.ref d), some (.ref hp), w4, w5, w6, w7, w8] ∧ Sb p H H' ∧ RgP C p L H' ps r (r.take i) (r.take i) h0 h1 dx R d hp D1 D2 kv1 kv2 Lf ∧ TuL rowC H' L ((r.take i).flatMap (M59.init ps r))) ⟨_, _, _, _, _, _, _, _, rfl, s4, RG0, [], eL4, .nil⟩ (fun i σ H' _ ⟨_, _, _, _, _, _, _, _, _, _, g, _⟩ => SqT.of g.eR) ?_ ?_
      · rintro i x σ H5 Hx hi ⟨kv1, kv2, Lf, w4, w5, w6, w7, w8, rfl, s5, RG, TL⟩ ⟨Tp, x1, x2, rfl, hTp, rfl, hx1, hx2⟩
        cases hx1
        have sT := same_new (o := .tup [.int (i : Int), x2]) hTp
        refine ⟨Tp, _, rfl, SqT.of upd_same, rfl, _, _, rfl, _, _, rfl, rfl, ?_⟩
        have s5 := s5.trans (Sb.of sT)
        have RG := RG.same sT
        have TL := TL.same sT
        generalize upd H5 Tp (.tup [.int (i : Int), x2]) = H6 at s5 RG TL ⊢
        clear sT hTp
        rw [List.length_map] at hi
        have hx3 : x2 = plV r[i] := by
          have hx2 : (r.map plV)[i]? = some x2 := hx2
          rw [List.getElem?_map, List.getElem?_eq_getElem hi] at hx2
          exact (Option.some.inj hx2).symm
        subst hx3
        have rk : r[i] ∈ M59.keys ps := M59.ring_key ok RP (List.getElem_mem hi)
        have r18 := keys_lt rk
        have tk1 : r.take (i + 1) = r.take i ++ [r[i]] := take_snoc2 (List.getElem?_eq_getElem hi)
        have nin : r[i] ∉ r.take i := fun z => by
          have h7 : (r.take (i + 1)).Nodup := List.Nodup.sublist (List.take_sublist _ _) RP.nd
          rw [tk1] at h7
          exact (List.nodup_append.mp h7).2.2 _ z _ (List.mem_singleton.mpr rfl) rfl
        have q18 : ∀ y ∈ r.take i, y < 18 := fun y hy => RP.lt ok y (List.mem_of_mem_take hy)
        have ql : (r.take i).length ≤ 18 := SkF.len18 (List.Nodup.sublist (List.take_sublist _ _) RP.nd) q18
        obtain ⟨T0, gT, eT⟩ := RG.eT.at rk
        refine ⟨_, rfl, _, rfl, d, _, rfl, gT, T0, rfl, ⟨_, SqL.of eT⟩, fun D hD => ?_⟩
        have f18 : M59.fol r i < 18 := RP.lt ok _ ((M59.tk_outs ok RP hi).1 |> fun h => (RP.fol_iff hi ((M59.tk_src ok).mp h).1).mpr rfl)
        have hop := M59.RingP.outs_fol ok RP hi
        refine lc_pf (K := K) (j := 7) (fun t => decide (t ≠ M59.fol r i)) eT hD (tk_len ok _) (fun _ => rfl) (fun _ => rfl) (fun t H' Q ht s hk => ?_) fun H7 s7 eO => ?_
        · refine ⟨_, rfl, _, rfl, _, rfl, _, _, rfl, rfl, _, rfl, _, _, rfl, .inr ⟨_, SqT.of (s _ _ RG.eR), rfl⟩, _, _, rfl, rfl, _, _, _, _, rfl, rfl, SqT.of (s _ _ RG.eR), by rw [List.length_map]; exact atI_fol hi, rfl, _, rfl, ?_⟩
          rw [show decide (plV t = plV (M59.fol r i)) = decide (t = M59.fol r i) from plV_dec (M59.tk_lt ok ht).1 f18]
          have hk := hk _ (Same.refl _)
          by_cases c : t = M59.fol r i
          · rw [decide_eq_true c]
            rw [decide_eq_false (fun z => z c)] at hk
            exact hk
          · rw [decide_eq_false c]
            rw [decide_eq_true c] at hk
            exact hk
        rw [hop] at eO
        have DL : D ≠ L := fun z => by
          obtain ⟨_, h, _⟩ := TL
          rw [z, h] at hD
          cases hD
        have ol : (M59.outs ps r r[i]).length ≤ 18 := by
          have : (M59.outs ps r r[i]).length ≤ (tk ps r[i]).length := List.length_filter_le _ _
          have := tk_len ok r[i]
          omega
        have o18 : ∀ t ∈ M59.outs ps r r[i], t < 18 := fun t ht => M59.outs_lt ok ht
        refine ⟨_, rfl, D, rfl, ⟨_, SqL.of eO⟩, fun D3 hD3 => ?_⟩
        refine lc_pf (K := K) (j := 7) isR eO hD3 ol (fun _ => rfl) (fun _ => rfl) (fun t H' Q ht s hk => ⟨_, rfl, rd2 (reg_pl (o18 t ht) fun H2 s2 => ⟨_, rfl, hk _ s2⟩)⟩) fun H8 s8 eG => ?_
        have s58 := s7.trans s8
        have eO := s8 _ _ eO
        have s5 := s5.trans (Sb.of s58)
        have RG := RG.same s58
        have TL := TL.same s58
        have em : ((List.filter isR (M59.outs ps r r[i])).map plV).isEmpty = (fstR (M59.outs ps r r[i])).isNone := by
          unfold fstR
          cases List.filter isR (M59.outs ps r r[i]) <;> rfl
        have nG2 : D3 ≠ D2 := fun z => by rw [z, RG.e2] at eG; cases eG
        have nO2 : D ≠ D2 := fun z => by rw [z, RG.e2] at eO; cases eO
        have nL2 : L ≠ D2 := fun z => by
          obtain ⟨_, h, _⟩ := TL
          rw [z, RG.e2] at h
          cases h
        refine ⟨fun σ H' => ∃ w7, σ = [some (.ref p), some (.ref R), some (.ref d), some (.ref hp), some (.int (i : Int)), some (plV r[i]), some (.ref D), w7, some (.ref D3)] ∧ Sb p H H' ∧ H' D = some (.lst ((M59.outs ps r r[i]).map plV)) ∧ H' D3 = some (.lst ((List.filter isR (M59.outs ps r r[i])).map plV)) ∧ RgP C p L H' ps r (r.take i) (r.take (i + 1)) h0 h1 dx R d hp D1 D2 kv1 (putK kv2 (keyP r[i]) (kpV (M59.keep ps r r[i]))) Lf ∧ TuL rowC H' L ((r.take i).flatMap (M59.init ps r)), ?_, ?_⟩
        · refine ⟨_, rfl, (show 0 ≤ sizeLine by decide), fun q hq => ⟨D3, q, _, rfl, rfl, SqL.of ((same_new hq) _ _ eG), SqL.of upd_same, _, rfl, ?_⟩⟩
          have sq := same_new (o := .lst []) hq
          have s5 := s5.trans (Sb.of sq)
          have RG := RG.same sq
          have TL := TL.same sq
          have eO := sq _ _ eO
          have eG := sq _ _ eG
          generalize upd H8 q (.lst []) = H9 at s5 RG TL eO eG ⊢
          have fin : ∀ v, v = kpV (M59.keep ps r r[i]) → Sb p H (upd H9 D2 (.dK (putK kv2 (keyP r[i]) v))) ∧ (upd H9 D2 (.dK (putK kv2 (keyP r[i]) v))) D = some (.lst ((M59.outs ps r r[i]).map plV)) ∧ (upd H9 D2 (.dK (putK kv2 (keyP r[i]) v))) D3 = some (.lst ((List.filter isR (M59.outs ps r r[i])).map plV)) ∧
              RgP C p L (upd H9 D2 (.dK (putK kv2 (keyP r[i]) v))) ps r (r.take i) (r.take (i + 1)) h0 h1 dx R d hp D1 D2 kv1 (putK kv2 (keyP r[i]) (kpV (M59.keep ps r r[i]))) Lf ∧ TuL rowC (upd H9 D2 (.dK (putK kv2 (keyP r[i]) v))) L ((r.take i).flatMap (M59.init ps r)) := fun v hv => by
            subst hv
            refine ⟨s5.new nD2.1, by rw [upd_ne nO2]; exact eO, by rw [upd_ne nG2]; exact eG, by rw [tk1]; exact RG.keep q18 r18 nin, ?_⟩
            obtain ⟨as, h1, h2⟩ := TL
            exact ⟨as, by rw [upd_ne nL2]; exact h1, h2.put RG.e2 fun vs z => by cases z⟩
          have k2l : kv2.length < sizeLine := by
            have := congrArg List.length RG.k2
            rw [List.length_map, List.length_map] at this
            exact Nat.lt_of_le_of_lt (show kv2.length ≤ 18 by omega) (by decide)
          rw [em]
          have hkeep : M59.keep ps r r[i] = fstR (M59.outs ps r r[i]) := rfl
          cases c2 : fstR (M59.outs ps r r[i]) with
          | some z =>
            refine iteT ⟨_, rfl, D3, _, 0, _, rfl, rfl, SqL.of eG, atI_nat (j := 0) (v := plV z) ?_, _, rfl, p, C, dx, _, _, rfl, RG.ei, T.c, T.n6, rfl, _, rfl, D2, _, rfl, .inl ⟨kv2, keyP r[i], RG.e2, rfl, k2l, rfl⟩, _, rfl, fin _ (by rw [hkeep, c2]; rfl)⟩
            unfold fstR at c2
            cases e4 : List.filter isR (M59.outs ps r r[i]) with
            | nil => rw [e4] at c2; cases c2
            | cons a l =>
              rw [e4] at c2
              injection c2 with c2
              subst c2
              rfl
          | none =>
            exact iteF ⟨_, rfl, p, C, dx, _, _, rfl, RG.ei, T.c, T.n6, rfl, _, rfl, D2, _, rfl, .inl ⟨kv2, keyP r[i], RG.e2, rfl, k2l, rfl⟩, _, rfl, fin _ (by rw [hkeep, c2]; rfl)⟩
        rintro σ H9 ⟨w7, rfl, s9, eO9, eG9, RG9, TL9⟩
        clear RG TL s5 eO eG em
        have k1l : ∀ {H' : Hp} {kv2' : List (Key × V)}, RgP C p L H' ps r (r.take i) (r.take (i + 1)) h0 h1 dx R d hp D1 D2 kv1 kv2' Lf → kv1.length < sizeLine := fun g => by
          have := congrArg List.length g.k1
          rw [List.length_map, List.length_map] at this
          exact Nat.lt_of_le_of_lt (show kv1.length ≤ 18 by omega) (by decide)
        have fl : (r.take (i + 1)).flatMap (M59.init ps r) = (r.take i).flatMap (M59.init ps r) ++ M59.init ps r r[i] := by
          rw [tk1, List.flatMap_append]
          simp
        have late0 : ¬ M59.isL ps r r[i] → M59.late ps r r[i] = [] := fun h => by
          unfold M59.late
          rw [if_neg h]
        have late1 : M59.isL ps r r[i] → M59.late ps r r[i] = M59.outs ps r r[i] := fun h => by
          unfold M59.late
          rw [if_pos h]
        have init1 : M59.isL ps r r[i] → M59.init ps r r[i] = [] := fun h => by
          unfold M59.init
          rw [if_pos h]
        have init0 : ¬ M59.isL ps r r[i] → M59.init ps r r[i] = M59.taken r[i] (M59.outs ps r r[i]) 0 := fun h => by
          unfold M59.init
          rw [if_neg h]
        have put : ∀ (H' : Hp) (Lz : Addr), Same H9 H' → H' Lz = some (.lst ((M59.late ps r r[i]).map plV)) → Lz ≠ L → Sb p H (upd H' D1 (.dK (putK kv1 (keyP r[i]) (.ref Lz)))) ∧ RgP C p L (upd H' D1 (.dK (putK kv1 (keyP r[i]) (.ref Lz)))) ps r (r.take (i + 1)) (r.take (i + 1)) h0 h1 dx R d hp D1 D2 (putK kv1 (keyP r[i]) (.ref Lz)) (putK kv2 (keyP r[i]) (kpV (M59.keep ps r r[i]))) (fun y => if y = r[i] then Lz else Lf y) ∧ TuL rowC (upd H' D1 (.dK (putK kv1 (keyP r[i]) (.ref Lz)))) L ((r.take i).flatMap (M59.init ps r)) := fun H' Lz s e n => by
          refine ⟨(s9.trans (Sb.of s)).new nD1.1, by have := (RG9.same s).lat q18 r18 nin e n; rw [← tk1] at this; exact this, ?_⟩
          obtain ⟨as, h1, h2⟩ := TL9.same s
          have e1' := s _ _ RG9.e1
          have : L ≠ D1 := fun z => by rw [z, e1'] at h1; cases h1
          exact ⟨as, by rw [upd_ne this]; exact h1, h2.put e1' fun vs z => by cases z⟩
        -- the last way: no late ones
        have els : ∀ (H' : Hp), Same H9 H' → ¬ M59.isL ps r r[i] → ∀ Lz, H' Lz = none → (upd H' Lz (.lst [])) Lz = some (.lst ((M59.late ps r r[i]).map plV)) ∧ Lz ≠ L := fun H' s hn Lz hLz => by
          rw [late0 hn]
          refine ⟨upd_same, fun z => ?_⟩
          obtain ⟨as, h1, _⟩ := TL9.same s
          rw [z, h1] at hLz
          cases hLz
        refine ⟨_, rfl, rd1 (slot_pl r18 fun H10 s10 => ⟨_, rfl, ?_⟩)⟩
        have em : ((List.filter isR (M59.outs ps r r[i])).map plV).isEmpty = (fstR (M59.outs ps r r[i])).isNone := by
          unfold fstR
          cases List.filter isR (M59.outs ps r r[i]) <;> rfl
        have em2 : ((M59.outs ps r r[i]).map plV).isEmpty = (M59.outs ps r r[i]).isEmpty := by
          cases M59.outs ps r r[i] <;> rfl
        cases c1 : isR r[i] with
        | true =>
          have hn : ¬ M59.isL ps r r[i] := fun z => by rw [z.1] at c1; cases c1
          refine iteF (iteF ?_)
          refine ⟨_, rfl, (show 0 ≤ sizeLine by decide), fun q hq => ⟨D, q, _, rfl, rfl, SqL.of ((same_new hq) _ _ (s10 _ _ eO9)), SqL.of upd_same, _, rfl, ?_⟩⟩
          have sq := s10.trans (same_new (o := .lst []) hq)
          generalize upd H10 q (.lst []) = H11 at sq ⊢
          rw [em2]
          cases c3 : (M59.outs ps r r[i]).isEmpty with
          | true =>
            refine iteF ⟨(show 0 ≤ sizeLine by decide), fun Lz hLz => ⟨_, rfl, p, C, dx, _, _, rfl, (RG9.same (sq.trans (same_new hLz))).ei, T.c, T.n5, rfl, _, rfl, D1, _, rfl, .inl ⟨kv1, keyP r[i], (RG9.same (sq.trans (same_new hLz))).e1, rfl, k1l RG9, rfl⟩, ?_⟩⟩
            obtain ⟨u1, u2⟩ := els H11 sq hn Lz hLz
            obtain ⟨p1, p2, p3⟩ := put _ Lz (sq.trans (same_new hLz)) u1 u2
            refine ⟨_, _, _, _, _, _, _, _, rfl, p1, p2, ?_⟩
            rw [fl, init0 hn, List.isEmpty_iff.mp c3]
            have : M59.taken r[i] [] 0 = [] := by
              unfold M59.taken
              cases e : isR r[i] with
              | true => rfl
              | false =>
                refine absurd ⟨e, ?_⟩ hn
                show fstR (M59.outs ps r r[i]) = none
                rw [List.isEmpty_iff.mp c3]
                rfl
            rw [this, List.append_nil]
            exact p3
          | false =>
            refine iteT ⟨(show 0 ≤ sizeLine by decide), fun Lz hLz => ⟨_, rfl, p, C, dx, _, _, rfl, (RG9.same (sq.trans (same_new hLz))).ei, T.c, T.n5, rfl, _, rfl, D1, _, rfl, .inl ⟨kv1, keyP r[i], (RG9.same (sq.trans (same_new hLz))).e1, rfl, k1l RG9, rfl⟩, ?_⟩⟩
            obtain ⟨u1, u2⟩ := els H11 sq hn Lz hLz
            obtain ⟨p1, p2, p3⟩ := put _ Lz (sq.trans (same_new hLz)) u1 u2
            have eOz : (upd (upd H11 Lz (.lst [])) D1 (.dK (putK kv1 (keyP r[i]) (.ref Lz)))) D = some (.lst ((M59.outs ps r r[i]).map plV)) := by
              have := (sq.trans (same_new (o := .lst []) hLz)) _ _ eO9
              rw [upd_ne (fun z => by rw [z, ((RG9.same (sq.trans (same_new (o := .lst []) hLz))).e1)] at this; cases this)]
              exact this
            generalize upd (upd H11 Lz (.lst [])) D1 (.dK (putK kv1 (keyP r[i]) (.ref Lz))) = H12 at p1 p2 p3 eOz ⊢
            obtain ⟨as, eL12, tu12⟩ := p3
            refine ⟨_, rfl, p, C, dx, _, _, rfl, p2.ei, T.c, T.n4, rfl, .inl ⟨rfl, _, SqL.of eL12⟩, ?_⟩
            refine ⟨_, rfl, _, rfl, r[i], D, M59.outs ps r r[i], .non, 0, rfl, r18, eOz, ol, o18, .inr ⟨rfl, hn⟩, fun H13 qL s13 nq tl => ?_⟩
            obtain ⟨bs, eb, tb⟩ := tl
            refine ⟨L, qL, _, _, rfl, rfl, s13 _ _ eL12, eb, ?_, ?_⟩
            · rw [List.length_map, List.length_map, tu12.length, tb.length, ← init0 hn]
              have h1 := flat_le (f := M59.init ps r) (n := 18) (r.take i) fun y hy => initLen y (List.mem_of_mem_take hy)
              have h2 := initLen r[i] (List.getElem_mem hi)
              have h3 : (r.take i).length * 18 ≤ 18 * 18 := Nat.mul_le_mul_right 18 ql
              exact Nat.le_trans (show ((r.take i).flatMap (M59.init ps r)).length + (M59.init ps r r[i]).length ≤ 1000 by omega) (by decide)
            have p1 := p1.trans (Sb.of s13)
            have p2 := p2.same s13
            have eL13 := s13 _ _ eL12
            refine ⟨_, _, _, _, _, _, _, _, rfl, ?_, p2.sb ok (Sb.upd (fun _ _ _ h => h)) eL13, as ++ bs, ?_, ?_⟩
            · exact fun b o n e => by
                have := p1 b o n e
                rw [upd_ne (fun z => by rw [z, nL] at e; cases e)]
                exact this
            · rw [upd_same, List.map_append]
            · rw [fl, init0 hn]
              exact ((tu12.same s13).app tb).put eL13 fun vs z => by cases z
        | false =>
          refine iteT ⟨_, rfl, (show 0 ≤ sizeLine by decide), fun q1 hq1 => ⟨D3, q1, _, rfl, rfl, SqL.of ((same_new hq1) _ _ (s10 _ _ eG9)), SqL.of upd_same, _, rfl, ?_⟩⟩
          have sq1 := s10.trans (same_new (o := .lst []) hq1)
          generalize upd H10 q1 (.lst []) = H10' at sq1 ⊢
          rw [em]
          cases c2 : fstR (M59.outs ps r r[i]) with
          | some z =>
            have hn : ¬ M59.isL ps r r[i] := fun z => by rw [z.2] at c2; cases c2
            refine iteF ?_
            refine ⟨_, rfl, (show 0 ≤ sizeLine by decide), fun q hq => ⟨D, q, _, rfl, rfl, SqL.of ((same_new hq) _ _ (sq1 _ _ eO9)), SqL.of upd_same, _, rfl, ?_⟩⟩
            have sq := sq1.trans (same_new (o := .lst []) hq)
            generalize upd H10' q (.lst []) = H11 at sq ⊢
            rw [em2]
            cases c3 : (M59.outs ps r r[i]).isEmpty with
            | true =>
              refine iteF ⟨(show 0 ≤ sizeLine by decide), fun Lz hLz => ⟨_, rfl, p, C, dx, _, _, rfl, (RG9.same (sq.trans (same_new hLz))).ei, T.c, T.n5, rfl, _, rfl, D1, _, rfl, .inl ⟨kv1, keyP r[i], (RG9.same (sq.trans (same_new hLz))).e1, rfl, k1l RG9, rfl⟩, ?_⟩⟩
              obtain ⟨u1, u2⟩ := els H11 sq hn Lz hLz
              obtain ⟨p1, p2, p3⟩ := put _ Lz (sq.trans (same_new hLz)) u1 u2
              refine ⟨_, _, _, _, _, _, _, _, rfl, p1, p2, ?_⟩
              rw [fl, init0 hn, List.isEmpty_iff.mp c3]
              have : M59.taken r[i] [] 0 = [] := by
                unfold M59.taken
                cases e : isR r[i] with
                | true => rfl
                | false =>
                  refine absurd ⟨e, ?_⟩ hn
                  show fstR (M59.outs ps r r[i]) = none
                  rw [List.isEmpty_iff.mp c3]
                  rfl
              rw [this, List.append_nil]
              exact p3
            | false =>
              refine iteT ⟨(show 0 ≤ sizeLine by decide), fun Lz hLz => ⟨_, rfl, p, C, dx, _, _, rfl, (RG9.same (sq.trans (same_new hLz))).ei, T.c, T.n5, rfl, _, rfl, D1, _, rfl, .inl ⟨kv1, keyP r[i], (RG9.same (sq.trans (same_new hLz))).e1, rfl, k1l RG9, rfl⟩, ?_⟩⟩
              obtain ⟨u1, u2⟩ := els H11 sq hn Lz hLz
              obtain ⟨p1, p2, p3⟩ := put _ Lz (sq.trans (same_new hLz)) u1 u2
              have eOz : (upd (upd H11 Lz (.lst [])) D1 (.dK (putK kv1 (keyP r[i]) (.ref Lz)))) D = some (.lst ((M59.outs ps r r[i]).map plV)) := by
                have := (sq.trans (same_new (o := .lst []) hLz)) _ _ eO9
                rw [upd_ne (fun z => by rw [z, ((RG9.same (sq.trans (same_new (o := .lst []) hLz))).e1)] at this; cases this)]
                exact this
              generalize upd (upd H11 Lz (.lst [])) D1 (.dK (putK kv1 (keyP r[i]) (.ref Lz))) = H12 at p1 p2 p3 eOz ⊢
              obtain ⟨as, eL12, tu12⟩ := p3
              refine ⟨_, rfl, p, C, dx, _, _, rfl, p2.ei, T.c, T.n4, rfl, .inl ⟨rfl, _, SqL.of eL12⟩, ?_⟩
              refine ⟨_, rfl, _, rfl, r[i], D, M59.outs ps r r[i], .non, 0, rfl, r18, eOz, ol, o18, .inr ⟨rfl, hn⟩, fun H13 qL s13 nq tl => ?_⟩
              obtain ⟨bs, eb, tb⟩ := tl
              refine ⟨L, qL, _, _, rfl, rfl, s13 _ _ eL12, eb, ?_, ?_⟩
              · rw [List.length_map, List.length_map, tu12.length, tb.length, ← init0 hn]
                have h1 := flat_le (f := M59.init ps r) (n := 18) (r.take i) fun y hy => initLen y (List.mem_of_mem_take hy)
                have h2 := initLen r[i] (List.getElem_mem hi)
                have h3 : (r.take i).length * 18 ≤ 18 * 18 := Nat.mul_le_mul_right 18 ql
                exact Nat.le_trans (show ((r.take i).flatMap (M59.init ps r)).length + (M59.init ps r r[i]).length ≤ 1000 by omega) (by decide)
              have p1 := p1.trans (Sb.of s13)
              have p2 := p2.same s13
              have eL13 := s13 _ _ eL12
              refine ⟨_, _, _, _, _, _, _, _, rfl, ?_, p2.sb ok (Sb.upd (fun _ _ _ h => h)) eL13, as ++ bs, ?_, ?_⟩
              · exact fun b o n e => by
                  have := p1 b o n e
                  rw [upd_ne (fun z => by rw [z, nL] at e; cases e)]
                  exact this
              · rw [upd_same, List.map_append]
              · rw [fl, init0 hn]
                exact ((tu12.same s13).app tb).put eL13 fun vs z => by cases z
          | none =>
            have hy : M59.isL ps r r[i] := ⟨c1, c2⟩
            refine iteT ⟨_, rfl, _, rfl, p, C, dx, _, _, rfl, (RG9.same sq1).ei, T.c, T.n5, rfl, _, rfl, D1, _, rfl, .inl ⟨kv1, keyP r[i], (RG9.same sq1).e1, rfl, k1l RG9, rfl⟩, ?_⟩
            obtain ⟨p1, p2, p3⟩ := put _ D sq1 (by rw [late1 hy]; exact sq1 _ _ eO9) DL
            refine ⟨_, _, _, _, _, _, _, _, rfl, p1, p2, ?_⟩
            rw [fl, init1 hy, List.append_nil]
            exact p3
      · rintro σ H5 ⟨kv1, kv2, Lf, w4, w5, w6, w7, w8, rfl, s5, RG, TL⟩
        rw [List.length_map, List.take_length] at RG TL
        exact k H5 L s5 nL ⟨dx, R, d, hp, D1, D2, kv1, kv2, Lf, RG⟩ TL
end
/-! ## k59: Ring.hold, Ring.bring -/
open M59 (isR fstR Ok byS tk isT src)
def CalM (P : Program) (w : World) (K : PySem.W.Frag) (mg : Str → Option Value) (base : Heap) (C : Addr) (k : Nat) (m : Str) (ps : List Str) (sp : Sp) : Prop :=
  ∃ (f : Addr) (fd : FuncData), Meth K C m f ∧ Binds K fd ps [] ∧ FnOk P w K mg base CX0 k f fd ps sp
def spHold (C : Addr) : Sp := fun vs H Q _ => ∃ (p L : Addr) (ps : M59.Prs) (r : List Nat) (h0 h1 z h : Nat) (rows : M59.Prs), vs = [.ref p, plV z, plV h] ∧ RgI C p L H ps r h0 h1 ∧ Ok ps ∧ TuL rowC H L rows ∧ rows.length ≤ 10000 ∧ z ∈ r ∧
  ∀ H', Sb L H H' → TuL rowC H' L (rows ++ M59.hold ps r z h) → Q .non H'
def spBring (C : Addr) : Sp := fun vs H Q _ => ∃ (p L : Addr) (ps : M59.Prs) (r : List Nat) (h0 h1 t s : Nat) (rows : M59.Prs), vs = [.ref p, plV t, plV s] ∧ RgI C p L H ps r h0 h1 ∧ Ok ps ∧ TuL rowC H L rows ∧ rows.length ≤ 9000 ∧ t ∈ r ∧ s ∈ r ∧ t < 18 ∧ s < 18 ∧
  ∀ H', Sb L H H' → TuL rowC H' L (rows ++ M59.bring ps r h1 t s) → Q .non H'
theorem lateLen {ps : M59.Prs} (ok : Ok ps) (r : List Nat) (z : Nat) : (M59.late ps r z).length ≤ 18 := by
  have h1 : (M59.outs ps r z).length ≤ (tk ps z).length := List.length_filter_le _ _
  have h2 := tk_len ok z
  unfold M59.late
  split
  · omega
  · exact Nat.zero_le _
section
variable {P : Program} {w : World} {K : PySem.W.Frag} {mg : Str → Option Value} {base : Heap}
/-- one more row -/
theorem row_add {H : Hp} {L q : Addr} {as : List Addr} {rows : M59.Prs} {t s : Nat} (eL : H L = some (.lst (as.map V.ref))) (tu : TuA rowC H as rows) (hq : H q = none) :
    TuL rowC (upd (upd H q (.tup [plV t, .str "copy", plV s])) L (.lst (as.map V.ref ++ [.ref q]))) L (rows ++ [(t, s)]) ∧ Sb L H (upd (upd H q (.tup [plV t, .str "copy", plV s])) L (.lst (as.map V.ref ++ [.ref q]))) := by
  have s' := same_new (o := .tup [plV t, .str "copy", plV s]) hq
  exact ⟨⟨as ++ [q], by rw [upd_same, List.map_append]; rfl, ((tu.same s').app (TuA.one (c := rowC) (m := (t, s)) upd_same)).put (s' _ _ eL) (fun vs z => by cases z)⟩, (Sb.of s').upd⟩
theorem sc_Ring_hold : FnScope ["self", "place", "helper", "slot"] ["self", "place", "helper"] (defScope s_Ring_hold) := ⟨rfl, rfl, rfl, by decide +kernel, rfl, by decide +kernel, by decide +kernel⟩
theorem ok_hold {f C : Addr} {fd : FuncData} (F : FnQ K "hold" "Ring.hold" s_Ring_hold f fd) (T : RgC K mg C) : FnOk P w K mg base CX0 1 f fd ["self", "place", "helper"] (spHold C) := by
  refine F.ok sc_Ring_hold (fun vs H Q E h => ?_) (fun cdv A outer s H vs Q E hr h => ?_)
  · obtain ⟨p, L, ps, r, h0, h1, z, h, rows, rfl, _⟩ := h
    rfl
  · obtain ⟨p, L, ps, r, h0, h1, z, h, rows, rfl, ⟨dx, R, d, hp, D1, D2, kv1, kv2, Lf, RG⟩, ok, ⟨as, eL, tu⟩, hl, hz, k⟩ := h
    have nd := sc_Ring_hold.nd
    have hu := hu_of hr
    apply Exists.intro
    apply And.intro
    case left =>
     apply PSs.nox
     apply pss_cons
     · exact (ps_expr (pe_bm PySem.F.plainAttrs_list PySem.F.slot_list_append PySem.F.type_list_append mt_append (pe_fld (pv 0) rfl) (pa_cons (pe_tup (pa_cons (pv 2) (pa_cons pe_str (pa_cons (pv 1) pa_nil)))) pa_nil)))
     apply pss_one
     apply ps_for PassesOwn.never rfl
     · exact (pi_list (pe_dget hu (pe_fld (pv 0) rfl) (pv 1) (fun _ _ => rfl)))
     · exact (pg_name (i := 3) nd rfl (Or.inl rfl))
     · apply pss_one
       exact (ps_expr (pe_bm PySem.F.plainAttrs_list PySem.F.slot_list_append PySem.F.type_list_append mt_append (pe_fld (pv 0) rfl) (pa_cons (pe_tup (pa_cons (pv 3) (pa_cons pe_str (pa_cons (pv 2) pa_nil)))) pa_nil)))
    case right =>
      have al := tu.length
      have ll := lateLen ok r z
      refine ⟨_, rfl, p, C, dx, _, _, rfl, RG.ei, T.c, T.n4, rfl, .inl ⟨rfl, _, SqL.of eL⟩, _, rfl, _, rfl, (show 3 ≤ sizeLine by decide), fun q hq => ⟨L, _, _, rfl, rfl, (same_new hq) _ _ eL, ?_, ?_⟩⟩
      · rw [List.length_map]
        exact Nat.lt_of_le_of_lt (show as.length ≤ 10000 by omega) (by decide)
      obtain ⟨tl1, s1⟩ := row_add (t := h) (s := z) eL tu hq
      have RG1 := RG.sb ok s1 eL
      generalize upd (upd H q (.tup [plV h, .str "copy", plV z])) L (.lst (as.map V.ref ++ [.ref q])) = H1 at tl1 s1 RG1 ⊢
      obtain ⟨g1, g2, g3⟩ := RG1.v1 z hz
      refine ⟨_, rfl, p, C, dx, _, _, rfl, RG1.ei, T.c, T.n5, rfl, _, rfl, D1, _, rfl, .inl ⟨kv1, keyP z, .inl RG1.e1, rfl, g1.symm⟩, Lf z, rfl, ⟨_, SqL.of g3⟩, ?_⟩
      refine for_it (walk_list (xs := (M59.late ps r z).map plV)) (fun i σ H' => ∃ w3, σ = [some (.ref p), some (plV z), some (plV h), w3] ∧ Sb L H1 H' ∧ TuL rowC H' L (rows ++ [(h, z)] ++ ((M59.late ps r z).take i).map fun t => (t, h))) ⟨_, rfl, (fun _ _ _ e => e), by rw [List.take_zero, List.map_nil, List.append_nil]; exact tl1⟩ (fun i σ H' _ ⟨_, _, s2, _⟩ => SqL.of (s2 _ _ g2 g3)) ?_ ?_
      · rintro i x σ Hx H' hi ⟨w3, rfl, s2, ⟨bs, eL2, tu2⟩⟩ ⟨rfl, hx⟩
        obtain ⟨t, ht, rfl⟩ : ∃ t, (M59.late ps r z)[i]? = some t ∧ x = plV t := by
          rw [List.getElem?_map] at hx
          cases e : (M59.late ps r z)[i]? with
          | none => rw [e] at hx; cases hx
          | some t => rw [e] at hx; injection hx with hx; exact ⟨t, rfl, hx.symm⟩
        have RG2 := RG1.sb ok s2 (as := tl1.choose) tl1.choose_spec.1
        refine ⟨_, rfl, p, C, dx, _, _, rfl, RG2.ei, T.c, T.n4, rfl, .inl ⟨rfl, _, SqL.of eL2⟩, _, rfl, _, rfl, (show 3 ≤ sizeLine by decide), fun q2 hq2 => ⟨L, _, _, rfl, rfl, (same_new hq2) _ _ eL2, ?_, _, rfl, ?_⟩⟩
        · rw [List.length_map, tu2.length, List.length_append, List.length_append, List.length_map]
          have := List.length_take_le' i (M59.late ps r z)
          exact Nat.lt_of_le_of_lt (show rows.length + [(h, z)].length + ((M59.late ps r z).take i).length ≤ 10100 by rw [List.length_singleton]; omega) (by decide)
        obtain ⟨tl3, s3⟩ := row_add (t := t) (s := h) eL2 tu2 hq2
        refine ⟨s2.trans s3, ?_⟩
        rw [take_snoc2 ht, List.map_append, ← List.append_assoc]
        exact tl3
      · rintro σ H' ⟨w3, rfl, s2, tl⟩
        rw [List.length_map, List.take_length] at tl
        refine k _ (s1.trans s2) ?_
        unfold M59.hold
        rw [List.append_assoc] at tl
        exact tl
theorem sc_Ring_bring : FnScope ["self", "target", "source", "slot"] ["self", "target", "source"] (defScope s_Ring_bring) := ⟨rfl, rfl, rfl, by decide +kernel, rfl, by decide +kernel, by decide +kernel⟩
theorem ok_bring {f C : Addr} {fd : FuncData} (F : FnQ K "bring" "Ring.bring" s_Ring_bring f fd) (T : RgC K mg C) (c_is_slot : Cal P w K mg base 2 "is_slot" ["thing"] (spTxO K slotB)) (c_hold : CalM P w K mg base C 1 "hold" ["self", "place", "helper"] (spHold C)) : FnOk P w K mg base CX0 3 f fd ["self", "target", "source"] (spBring C) := by
  obtain ⟨f_is_slot, fd_is_slot, g_is_slot, k_is_slot, b_is_slot, G_is_slot⟩ := c_is_slot
  obtain ⟨fh, fdh, mh, bh, Gh⟩ := c_hold
  refine F.ok sc_Ring_bring (fun vs H Q E h => ?_) (fun cdv A outer s H vs Q E hr h => ?_)
  · obtain ⟨p, L, ps, r, h0, h1, z, h, rows, rfl, _⟩ := h
    rfl
  · obtain ⟨p, L, ps, r, h0, h1, t, s, rows, rfl, ⟨dx, R, d, hp, D1, D2, kv1, kv2, Lf, RG⟩, ok, ⟨as, eL, tu⟩, hl, ht, hs, t18, s18, k⟩ := h
    have nd := sc_Ring_bring.nd
    have hu := hu_of hr
    apply Exists.intro
    apply And.intro
    case left =>
     apply PSs.nox
     apply pss_one
     apply ps_if
     · exact (PW.pt (pw_and (pt_val (pe_call G_is_slot (hr.mono (by decide)) rfl g_is_slot k_is_slot b_is_slot .nil pass0 (pa_cons (pv 2) pa_nil))) (pw_and1 (pt_val (pe_call G_is_slot (hr.mono (by decide)) rfl g_is_slot k_is_slot b_is_slot .nil pass0 (pa_cons (pv 1) pa_nil))))))
     · apply pss_one
       exact (ps_if (pt_cmpR op_notN (pe_dget hu (pe_fld (pv 0) rfl) (pv 2) (fun _ _ => rfl)) pe_non (nomark _)) (pss_one (ps_expr (pe_bm PySem.F.plainAttrs_list PySem.F.slot_list_append PySem.F.type_list_append mt_append (pe_fld (pv 0) rfl) (pa_cons (pe_tup (pa_cons (pv 1) (pa_cons pe_str (pa_cons (pe_dget hu (pe_fld (pv 0) rfl) (pv 2) (fun _ _ => rfl)) pa_nil)))) pa_nil)))) (pss_cons (ps_expr (pe_meth (pv 0) T.c mh Gh (hr.mono (by decide)) bh .nil pass0 (pa_cons (pv 2) (pa_cons (pe_ix ix_tup (pe_fld (pv 0) rfl) pe_int (fun _ _ => rfl)) pa_nil)))) (pss_one (ps_expr (pe_bm PySem.F.plainAttrs_list PySem.F.slot_list_append PySem.F.type_list_append mt_append (pe_fld (pv 0) rfl) (pa_cons (pe_tup (pa_cons (pv 1) (pa_cons pe_str (pa_cons (pe_ix ix_tup (pe_fld (pv 0) rfl) pe_int (fun _ _ => rfl)) pa_nil)))) pa_nil))))))
     · apply pss_cons
       · exact (ps_expr (pe_bm PySem.F.plainAttrs_list PySem.F.slot_list_append PySem.F.type_list_append mt_append (pe_fld (pv 0) rfl) (pa_cons (pe_tup (pa_cons (pv 1) (pa_cons pe_str (pa_cons (pv 2) pa_nil)))) pa_nil)))
       apply pss_one
       apply ps_for PassesOwn.never rfl
       · exact (pi_list (pe_dget hu (pe_fld (pv 0) rfl) (pv 2) (fun _ _ => rfl)))
       · exact (pg_name (i := 3) nd rfl (Or.inl rfl))
       · apply pss_one
         exact (ps_expr (pe_bm PySem.F.plainAttrs_list PySem.F.slot_list_append PySem.F.type_list_append mt_append (pe_fld (pv 0) rfl) (pa_cons (pe_tup (pa_cons (pv 3) (pa_cons pe_str (pa_cons (pv 1) pa_nil)))) pa_nil)))
    case right =>
      have al := tu.length
      refine ⟨_, rfl, rd1 (slot_pl s18 fun H1 s1 => ⟨_, rfl, ?_⟩)⟩
      unfold M59.bring at k
      cases c1 : isR s with
      | true =>
        rw [if_neg (fun z => by rw [c1] at z; cases z.1)] at k
        refine iteF (iteF ?_)
        have RG' := RG.same s1
        have eL' := s1 _ _ eL
        have tu' := tu.same s1
        refine ⟨_, rfl, p, C, dx, _, _, rfl, RG'.ei, T.c, T.n4, rfl, .inl ⟨rfl, _, SqL.of eL'⟩, _, rfl, _, rfl, (show 3 ≤ sizeLine by decide), fun q hq => ⟨L, _, _, rfl, rfl, (same_new hq) _ _ eL', ?_, ?_⟩⟩
        · rw [List.length_map]
          exact Nat.lt_of_le_of_lt (show as.length ≤ 10000 by omega) (by decide)
        obtain ⟨tl1, sb1⟩ := row_add (t := t) (s := s) eL' tu' hq
        have RG1 := RG'.sb ok sb1 eL'
        generalize upd (upd H1 q (.tup [plV t, .str "copy", plV s])) L (.lst (as.map V.ref ++ [.ref q])) = H5 at tl1 sb1 RG1 ⊢
        obtain ⟨g1, g2, g3⟩ := RG1.v1 s hs
        refine ⟨_, rfl, p, C, dx, _, _, rfl, RG1.ei, T.c, T.n5, rfl, _, rfl, D1, _, rfl, .inl ⟨kv1, keyP s, .inl RG1.e1, rfl, g1.symm⟩, Lf s, rfl, ⟨_, SqL.of g3⟩, ?_⟩
        refine for_it (walk_list (xs := (M59.late ps r s).map plV)) (fun i σ H' => ∃ w3, σ = [some (.ref p), some (plV t), some (plV s), w3] ∧ Sb L H5 H' ∧ TuL rowC H' L (rows ++ [(t, s)] ++ ((M59.late ps r s).take i).map fun x => (x, t))) ⟨_, rfl, (fun _ _ _ e => e), by rw [List.take_zero, List.map_nil, List.append_nil]; exact tl1⟩ (fun i σ H' _ ⟨_, _, s2, _⟩ => SqL.of (s2 _ _ g2 g3)) ?_ ?_
        · rintro i x σ Hx H' hi ⟨w3, rfl, s2, ⟨bs, eL2, tu2⟩⟩ ⟨rfl, hx⟩
          obtain ⟨y, hy, rfl⟩ : ∃ y, (M59.late ps r s)[i]? = some y ∧ x = plV y := by
            rw [List.getElem?_map] at hx
            cases e : (M59.late ps r s)[i]? with
            | none => rw [e] at hx; cases hx
            | some y => rw [e] at hx; injection hx with hx; exact ⟨y, rfl, hx.symm⟩
          have RG2 := RG1.sb ok s2 (as := tl1.choose) tl1.choose_spec.1
          refine ⟨_, rfl, p, C, dx, _, _, rfl, RG2.ei, T.c, T.n4, rfl, .inl ⟨rfl, _, SqL.of eL2⟩, _, rfl, _, rfl, (show 3 ≤ sizeLine by decide), fun q2 hq2 => ⟨L, _, _, rfl, rfl, (same_new hq2) _ _ eL2, ?_, _, rfl, ?_⟩⟩
          · rw [List.length_map, tu2.length, List.length_append, List.length_append, List.length_map]
            have := List.length_take_le' i (M59.late ps r s)
            have := lateLen ok r s
            exact Nat.lt_of_le_of_lt (show rows.length + [(t, s)].length + ((M59.late ps r s).take i).length ≤ 10100 by rw [List.length_singleton]; omega) (by decide)
          obtain ⟨tl3, s3⟩ := row_add (t := y) (s := t) eL2 tu2 hq2
          refine ⟨s2.trans s3, ?_⟩
          rw [take_snoc2 hy, List.map_append, ← List.append_assoc]
          exact tl3
        · rintro σ H' ⟨w3, rfl, s2, tl⟩
          rw [List.length_map, List.take_length] at tl
          refine k _ ((Sb.of s1).trans (sb1.trans s2)) ?_
          rw [List.append_assoc] at tl
          exact tl
      | false =>
      refine iteT ⟨_, rfl, rd1 (slot_pl t18 fun H2 s2 => ⟨_, rfl, ?_⟩)⟩
      have s02 := s1.trans s2
      cases c2 : isR t with
      | true =>
        rw [if_neg (fun z => by rw [c2] at z; cases z.2)] at k
        refine iteF ?_
        have RG' := RG.same s02
        have eL' := s02 _ _ eL
        have tu' := tu.same s02
        refine ⟨_, rfl, p, C, dx, _, _, rfl, RG'.ei, T.c, T.n4, rfl, .inl ⟨rfl, _, SqL.of eL'⟩, _, rfl, _, rfl, (show 3 ≤ sizeLine by decide), fun q hq => ⟨L, _, _, rfl, rfl, (same_new hq) _ _ eL', ?_, ?_⟩⟩
        · rw [List.length_map]
          exact Nat.lt_of_le_of_lt (show as.length ≤ 10000 by omega) (by decide)
        obtain ⟨tl1, sb1⟩ := row_add (t := t) (s := s) eL' tu' hq
        have RG1 := RG'.sb ok sb1 eL'
        generalize upd (upd H2 q (.tup [plV t, .str "copy", plV s])) L (.lst (as.map V.ref ++ [.ref q])) = H5 at tl1 sb1 RG1 ⊢
        obtain ⟨g1, g2, g3⟩ := RG1.v1 s hs
        refine ⟨_, rfl, p, C, dx, _, _, rfl, RG1.ei, T.c, T.n5, rfl, _, rfl, D1, _, rfl, .inl ⟨kv1, keyP s, .inl RG1.e1, rfl, g1.symm⟩, Lf s, rfl, ⟨_, SqL.of g3⟩, ?_⟩
        refine for_it (walk_list (xs := (M59.late ps r s).map plV)) (fun i σ H' => ∃ w3, σ = [some (.ref p), some (plV t), some (plV s), w3] ∧ Sb L H5 H' ∧ TuL rowC H' L (rows ++ [(t, s)] ++ ((M59.late ps r s).take i).map fun x => (x, t))) ⟨_, rfl, (fun _ _ _ e => e), by rw [List.take_zero, List.map_nil, List.append_nil]; exact tl1⟩ (fun i σ H' _ ⟨_, _, s2, _⟩ => SqL.of (s2 _ _ g2 g3)) ?_ ?_
        · rintro i x σ Hx H' hi ⟨w3, rfl, s2, ⟨bs, eL2, tu2⟩⟩ ⟨rfl, hx⟩
          obtain ⟨y, hy, rfl⟩ : ∃ y, (M59.late ps r s)[i]? = some y ∧ x = plV y := by
            rw [List.getElem?_map] at hx
            cases e : (M59.late ps r s)[i]? with
            | none => rw [e] at hx; cases hx
            | some y => rw [e] at hx; injection hx with hx; exact ⟨y, rfl, hx.symm⟩
          have RG2 := RG1.sb ok s2 (as := tl1.choose) tl1.choose_spec.1
          refine ⟨_, rfl, p, C, dx, _, _, rfl, RG2.ei, T.c, T.n4, rfl, .inl ⟨rfl, _, SqL.of eL2⟩, _, rfl, _, rfl, (show 3 ≤ sizeLine by decide), fun q2 hq2 => ⟨L, _, _, rfl, rfl, (same_new hq2) _ _ eL2, ?_, _, rfl, ?_⟩⟩
          · rw [List.length_map, tu2.length, List.length_append, List.length_append, List.length_map]
            have := List.length_take_le' i (M59.late ps r s)
            have := lateLen ok r s
            exact Nat.lt_of_le_of_lt (show rows.length + [(t, s)].length + ((M59.late ps r s).take i).length ≤ 10100 by rw [List.length_singleton]; omega) (by decide)
          obtain ⟨tl3, s3⟩ := row_add (t := y) (s := t) eL2 tu2 hq2
          refine ⟨s2.trans s3, ?_⟩
          rw [take_snoc2 hy, List.map_append, ← List.append_assoc]
          exact tl3
        · rintro σ H' ⟨w3, rfl, s2, tl⟩
          rw [List.length_map, List.take_length] at tl
          refine k _ ((Sb.of s02).trans (sb1.trans s2)) ?_
          rw [List.append_assoc] at tl
          exact tl
      | false =>
      rw [if_pos ⟨c1, c2⟩] at k
      refine iteT ?_
      have RG' := RG.same s02
      have eL' := s02 _ _ eL
      have tu' := tu.same s02
      have g := RG'.v2 s hs
      refine ⟨_, rfl, p, C, dx, _, _, rfl, RG'.ei, T.c, T.n6, rfl, _, rfl, D2, _, rfl, .inl ⟨kv2, keyP s, .inl RG'.e2, rfl, g.symm⟩, rfl, _, rfl, ?_⟩
      cases c3 : M59.keep ps r s with
      | some z =>
        rw [c3] at k g
        rw [show decide (kpV (some z) = V.non) = false from decide_eq_false (fun z => by cases z)]
        refine iteT ⟨_, rfl, p, C, dx, _, _, rfl, RG'.ei, T.c, T.n4, rfl, .inl ⟨rfl, _, SqL.of eL'⟩, _, rfl, _, rfl, p, C, dx, _, _, rfl, RG'.ei, T.c, T.n6, rfl, _, rfl, D2, _, rfl, .inl ⟨kv2, keyP s, .inl RG'.e2, rfl, g.symm⟩, (show 3 ≤ sizeLine by decide), fun q hq => ⟨L, _, _, rfl, rfl, (same_new hq) _ _ eL', ?_, ?_⟩⟩
        · rw [List.length_map]
          exact Nat.lt_of_le_of_lt (show as.length ≤ 10000 by omega) (by decide)
        obtain ⟨tl1, sb1⟩ := row_add (t := t) (s := z) eL' tu' hq
        exact k _ ((Sb.of s02).trans sb1) tl1
      | none =>
        rw [c3] at k
        rw [show decide (kpV none = V.non) = true from decide_eq_true rfl]
        refine iteF ?_
        refine ⟨_, rfl, p, dx, _, rfl, RG'.ei, rfl, _, rfl, _, rfl, p, C, dx, _, _, rfl, RG'.ei, T.c, T.n3, rfl, hp, _, 1, _, rfl, rfl, SqT.of RG'.eh, atI_nat (j := 1) rfl, ?_⟩
        refine ⟨p, L, ps, r, h0, h1, s, h1, rows, rfl, ⟨dx, R, d, hp, D1, D2, kv1, kv2, Lf, RG'⟩, ok, ⟨as, eL', tu'⟩, by omega, hs, fun H3 sb3 tl3 => ?_⟩
        have RG3 := RG'.sb ok sb3 eL'
        obtain ⟨bs, eL3, tu3⟩ := tl3
        refine ⟨_, rfl, p, C, dx, _, _, rfl, RG3.ei, T.c, T.n4, rfl, .inl ⟨rfl, _, SqL.of eL3⟩, _, rfl, _, rfl, p, C, dx, _, _, rfl, RG3.ei, T.c, T.n3, rfl, hp, _, 1, _, rfl, rfl, SqT.of RG3.eh, atI_nat (j := 1) rfl, (show 3 ≤ sizeLine by decide), fun q hq => ⟨L, _, _, rfl, rfl, (same_new hq) _ _ eL3, ?_, ?_⟩⟩
        · rw [List.length_map, tu3.length, List.length_append, M59.len_hold]
          have := lateLen ok r s
          exact Nat.lt_of_le_of_lt (show rows.length + (1 + (M59.late ps r s).length) ≤ 10000 by omega) (by decide)
        obtain ⟨tl1, sb1⟩ := row_add (t := t) (s := h1) eL3 tu3 hq
        refine k _ ((Sb.of s02).trans (sb3.trans sb1)) ?_
        rw [List.append_assoc] at tl1
        exact tl1
end
/-! ## k59: Ring.turn -/
open M59 (isR fstR Ok byS tk isT src)
theorem turned_get {r : List Nat} {a k : Nat} (ha : a < r.length) (hk : k < r.length) : (M59.turned r a)[k]? = r[if k ≤ a then a - k else r.length + a - k]? := by
  unfold M59.turned
  have l1 : (r.take (a + 1)).reverse.length = a + 1 := by rw [List.length_reverse, List.length_take]; omega
  by_cases c : k ≤ a
  · rw [if_pos c, List.getElem?_append_left (by omega), List.getElem?_reverse (by rw [List.length_take]; omega), List.length_take, List.getElem?_take, if_pos (by omega)]
    congr 1
    omega
  · rw [if_neg c, List.getElem?_append_right (by omega), l1, List.getElem?_reverse (by rw [List.length_drop]; omega), List.length_drop, List.getElem?_drop]
    congr 1
    omega
theorem turned_len (r : List Nat) (a : Nat) : (M59.turned r a).length = r.length := (M59.turned_perm r a).length_eq
theorem atI_turned {r : List Nat} {a k : Nat} (ha : a < r.length) (hk : k < r.length) : atI (r.map plV) ((a : Int) - (k : Int)) = some (plV ((M59.turned r a).getD k 0)) := by
  have hg := turned_get ha hk
  have e2 : (M59.turned r a).getD k 0 = r.getD (if k ≤ a then a - k else r.length + a - k) 0 := by
    rw [List.getD_eq_getElem?_getD, List.getD_eq_getElem?_getD, hg]
  have hlt : (if k ≤ a then a - k else r.length + a - k) < r.length := by
    split <;> omega
  have e : ixN (r.map plV).length ((a : Int) - (k : Int)) = some (if k ≤ a then a - k else r.length + a - k) := by
    rw [List.length_map]
    unfold ixN
    by_cases c : k ≤ a
    · rw [if_pos (by omega), if_pos (by omega), if_pos c]
      congr 1
      omega
    · rw [if_neg (by omega), if_pos (by omega), if_neg c]
      congr 1
      omega
  unfold atI
  rw [e, e2]
  show (r.map plV)[_]? = _
  rw [List.getElem?_map, List.getD_eq_getElem?_getD, List.getElem?_eq_getElem hlt]
  rfl
def spTurn (C : Addr) : Sp := fun vs H Q _ => ∃ (p L : Addr) (ps : M59.Prs) (r : List Nat) (h0 h1 : Nat) (rows : M59.Prs), vs = [.ref p] ∧ RgI C p L H ps r h0 h1 ∧ Ok ps ∧ M59.RingP ps r ∧ TuL rowC H L rows ∧ rows.length ≤ 1000 ∧
  ∀ H', Sb L H H' → TuL rowC H' L (rows ++ M59.turn ps r (M59.turned r ((M59.opens ps r).getD (0, none)).1) ((M59.opens ps r).getD (0, none)).2 h0 h1) → Q (.ref L) H'
section
variable {P : Program} {w : World} {K : PySem.W.Frag} {mg : Str → Option Value} {base : Heap}
theorem sc_Ring_turn : FnScope ["self", "free", "at", "holder", "step"] ["self"] (defScope s_Ring_turn) := ⟨rfl, rfl, rfl, by decide +kernel, rfl, by decide +kernel, by decide +kernel⟩
theorem ok_turn {f C : Addr} {fd : FuncData} (F : FnQ K "turn" "Ring.turn" s_Ring_turn f fd) (T : RgC K mg C) (c_opens : Cal P w K mg base 4 "opens" ["takers", "ring"] spOpens) (c_hold : CalM P w K mg base C 1 "hold" ["self", "place", "helper"] (spHold C)) (c_bring : CalM P w K mg base C 3 "bring" ["self", "target", "source"] (spBring C)) (G : NkF K mg) (rng : mg "range" = none) : FnOk P w K mg base CX0 5 f fd ["self"] (spTurn C) := by
  obtain ⟨f_opens, fd_opens, g_opens, k_opens, b_opens, G_opens⟩ := c_opens
  obtain ⟨fh, fdh, mh, bh, Gh⟩ := c_hold
  obtain ⟨fb, fdb, mb, bb, Gb⟩ := c_bring
  refine F.ok sc_Ring_turn (fun vs H Q E h => ?_) (fun cdv A outer s H vs Q E hr h => ?_)
  · obtain ⟨p, L, ps, r, h0, h1, rows, rfl, _⟩ := h
    rfl
  · obtain ⟨p, L, ps, r, h0, h1, rows, rfl, ⟨dx, R, d, hp, D1, D2, kv1, kv2, Lf, RG⟩, ok, RP, ⟨as, eL, tu⟩, hl, k⟩ := h
    have nd := sc_Ring_turn.nd
    have hu := hu_of hr
    apply Exists.intro
    apply And.intro
    case left =>
     apply PSs.nox
     apply pss_cons
     · exact (ps_set (i := 1) nd rfl (.inl rfl) (pe_call G_opens (hr.mono (by decide)) rfl g_opens k_opens b_opens .nil pass0 (pa_cons (pe_fld (pv 0) rfl) (pa_cons (pe_fld (pv 0) rfl) pa_nil))))
     apply C8.pss_cut
     · exact (ps_asg (pe_ifExp (pt_cmpR op_notN (pv 1) pe_non (nomark _)) (pv 1) (pe_tup (pa_cons pe_int (pa_cons pe_non pa_nil)))) (pg_tup rfl (pgs_cons (pg_name (i := 2) nd rfl (Or.inl rfl)) (pgs_cons (pg_name (i := 3) nd rfl (Or.inl rfl)) pgs_nil))))
     apply C8.pss_cut
     · exact (ps_if (pt_cmpR op_isN (pv 3) pe_non (nomark _)) (pss_cons (ps_expr (pe_meth (pv 0) T.c mh Gh (hr.mono (by decide)) bh .nil pass0 (pa_cons (pe_ix ix_tup (pe_fld (pv 0) rfl) (pv 2) (fun _ _ => rfl)) (pa_cons (pe_ix ix_tup (pe_fld (pv 0) rfl) pe_int (fun _ _ => rfl)) pa_nil)))) (pss_one (ps_set (i := 3) nd rfl (.inl rfl) (pe_ix ix_tup (pe_fld (pv 0) rfl) pe_int (fun _ _ => rfl))))) pss_nil)
     apply pss_cons
     · apply ps_for PassesOwn.never rfl
       · exact (pi_range1 (by rfl) rng (pa_cons (pe_op op_sub (pe_callB call_len (by rfl) G.len PySem.boot_len (pa_cons (pe_fld (pv 0) rfl) pa_nil)) pe_int) pa_nil))
       · exact (pg_name (i := 4) nd rfl (Or.inl rfl))
       · apply pss_cons
         · exact (ps_expr (pe_meth (pv 0) T.c mb Gb (hr.mono (by decide)) bb .nil pass0 (pa_cons (pe_ix ix_tup (pe_fld (pv 0) rfl) (pv 2) (fun _ _ => rfl)) (pa_cons (pe_ix ix_tup (pe_fld (pv 0) rfl) (pe_op op_sub (pv 2) pe_int) (fun _ _ => rfl)) pa_nil))))
         apply pss_one
         exact (ps_set (i := 2) nd rfl (.inl rfl) (pe_op op_sub (pv 2) pe_int))
     apply pss_cons
     · exact (ps_expr (pe_bm PySem.F.plainAttrs_list PySem.F.slot_list_append PySem.F.type_list_append mt_append (pe_fld (pv 0) rfl) (pa_cons (pe_tup (pa_cons (pe_ix ix_tup (pe_fld (pv 0) rfl) (pv 2) (fun _ _ => rfl)) (pa_cons pe_str (pa_cons (pv 3) pa_nil)))) pa_nil)))
     apply pss_one
     exact (ps_ret (pe_fld (pv 0) rfl))
    case right =>
      refine ⟨_, rfl, p, C, dx, _, _, rfl, RG.ei, T.c, T.n2, rfl, _, rfl, p, C, dx, _, _, rfl, RG.ei, T.c, T.n1, rfl, d, R, r, ps, rfl, RG.eR, RG.eT, ok, RP, fun H1 v s1 ov => ?_⟩
      obtain ⟨a, ho, ha, hgo, hho, _⟩ := M59.RingP.opens ok RP
      rw [hgo] at k
      have al := tu.length
      refine ⟨fun σ H' => σ = [some (.ref p), some v, some (.int (a : Int)), some (kpV ho), none] ∧ Same H1 H', ?_, ?_⟩
      · cases e : M59.opens ps r with
        | none =>
          rw [e] at ov hgo
          have hgo : ((0, none) : Nat × Option Nat) = (a, ho) := hgo
          injection hgo with e1 e2
          subst e1 e2
          have ov : v = .non := ov
          subst ov
          refine ⟨_, rfl, rfl, _, rfl, ?_⟩
          rw [decide_eq_true rfl]
          refine iteF ⟨(show 2 ≤ sizeLine by decide), fun q hq => ⟨q, _, rfl, SqT.of upd_same, rfl, _, _, rfl, _, _, rfl, rfl, rfl, same_new hq⟩⟩
        | some x =>
          obtain ⟨a', ho'⟩ := x
          rw [e] at ov hgo
          have hgo : (a', ho') = (a, ho) := hgo
          injection hgo with e1 e2
          subst e1 e2
          obtain ⟨q, rfl, eq⟩ := ov
          refine ⟨_, rfl, rfl, _, rfl, ?_⟩
          rw [decide_eq_false (fun z => by cases z)]
          have e3 : H1 q = some (.tup [.int ((a' : Nat) : Int), kpV ho']) := by
            rw [eq]
            cases ho' <;> rfl
          exact iteT ⟨_, rfl, q, _, rfl, SqT.of e3, rfl, _, _, rfl, _, _, rfl, rfl, rfl, Same.refl _⟩
      rintro σ H2 ⟨rfl, s2⟩
      have s02 := s1.trans s2
      have RG2 := RG.same s02
      have eL2 := s02 _ _ eL
      have tu2 := tu.same s02
      have hq0 : (M59.turned r a).headD 0 = r[a] := by
        have := (RP.turned ha).2.1
        cases e : M59.turned r a with
        | nil => rw [e] at this; cases this
        | cons x l => rw [e] at this; injection this
      refine ⟨fun σ H' => ∃ w4 rows1, σ = [some (.ref p), some v, some (.int (a : Int)), some (plV (ho.getD h0)), w4] ∧ Sb L H2 H' ∧ rows1 = rows ++ M59.preH ps r r[a] h0 ho ∧ TuL rowC H' L rows1 ∧ rows1.length ≤ 1100, ?_, ?_⟩
      · refine ⟨_, rfl, rfl, _, rfl, ?_⟩
        cases ho with
        | some z =>
          rw [show decide (kpV (some z) = V.non) = false from decide_eq_false (fun z => by cases z)]
          refine iteF ⟨_, rows, rfl, (fun _ _ _ e => e), ?_, ⟨as, eL2, tu2⟩, by omega⟩
          show rows = rows ++ []
          rw [List.append_nil]
        | none =>
          rw [show decide (kpV none = V.non) = true from decide_eq_true rfl]
          refine iteT ?_
          refine ⟨_, rfl, p, dx, _, rfl, RG2.ei, rfl, _, rfl, p, C, dx, _, _, rfl, RG2.ei, T.c, T.n1, rfl, _, rfl, R, _, _, _, rfl, rfl, SqT.of RG2.eR, atI_nat (j := a) (v := plV r[a]) (by rw [List.getElem?_map, List.getElem?_eq_getElem ha]; rfl), _, rfl, p, C, dx, _, _, rfl, RG2.ei, T.c, T.n3, rfl, hp, _, 0, _, rfl, rfl, SqT.of RG2.eh, atI_nat (j := 0) rfl, ?_⟩
          refine ⟨p, L, ps, r, h0, h1, r[a], h0, rows, rfl, ⟨dx, R, d, hp, D1, D2, kv1, kv2, Lf, RG2⟩, ok, ⟨as, eL2, tu2⟩, by omega, List.getElem_mem ha, fun H3 sb3 tl3 => ?_⟩
          have RG3 := RG2.sb ok sb3 eL2
          refine ⟨_, rfl, p, C, dx, _, _, rfl, RG3.ei, T.c, T.n3, rfl, hp, _, 0, _, rfl, rfl, SqT.of RG3.eh, atI_nat (j := 0) rfl, _, _, rfl, sb3, rfl, tl3, ?_⟩
          rw [List.length_append]
          show rows.length + (M59.hold ps r r[a] h0).length ≤ 1100
          rw [M59.len_hold]
          have := lateLen ok r r[a]
          omega
      rintro σ H3 ⟨w4, rows1, rfl, sb3, hr1, tl3, hl3⟩
      have RG3 := RG2.sb ok sb3 eL2
      have h18 : r.length ≤ 18 := SkF.len18 RP.nd (RP.lt ok)
      have rl := List.length_map (as := r) plV
      have h1n : 0 < r.length := by omega
      have en : Int.toNat (((r.map plV).length : Int) - 1) = r.length - 1 := by rw [rl]; omega
      have ql := turned_len r a
      have qin : ∀ k, k < r.length → (M59.turned r a).getD k 0 ∈ r := fun k hk => by
        rw [List.getD_eq_getElem?_getD, List.getElem?_eq_getElem (by omega)]
        exact (M59.turned_perm r a).mem_iff.mp (List.getElem_mem _)
      have dropc : ∀ k, k < r.length → (M59.turned r a).drop k = (M59.turned r a).getD k 0 :: (M59.turned r a).drop (k + 1) := fun k hk => by
        rw [List.drop_eq_getElem_cons (by omega), List.getD_eq_getElem?_getD, List.getElem?_eq_getElem (by omega)]
        rfl
      have bl : ∀ t s, (M59.bring ps r h1 t s).length ≤ 20 := fun t s => by
        have h2 := lateLen ok r s
        unfold M59.bring
        split
        · split
          · exact (by decide : 1 ≤ 20)
          · rw [List.length_append, M59.len_hold, List.length_singleton]
            omega
        · rw [List.length_cons, List.length_map]
          omega
      obtain ⟨as3, eL3, tu3⟩ := tl3
      refine ⟨_, rfl, p, C, dx, _, _, rfl, RG3.ei, T.c, T.n1, rfl, _, _, rfl, .inr ⟨_, SqT.of RG3.eR, rfl⟩, _, _, rfl, rfl, _, rfl, by rw [rl]; omega, by rw [rl]; omega, ?_⟩
      refine for_range (lo := 0) (n := Int.toNat (((r.map plV).length : Int) - 1)) (fun j σ H' => ∃ w4 rowsj, σ = [some (.ref p), some v, some (.int ((a : Int) - (j : Int))), some (plV (ho.getD h0)), w4] ∧ Sb L H3 H' ∧ TuL rowC H' L rowsj ∧ rowsj ++ M59.brings ps r h1 ((M59.turned r a).drop j) = rows1 ++ M59.brings ps r h1 (M59.turned r a) ∧ rowsj.length ≤ 1100 + 20 * j) ⟨w4, rows1, by simp, (fun _ _ _ e => e), ⟨as3, eL3, tu3⟩, rfl, by omega⟩ ?_ ?_
      · rintro j σ H' hj ⟨w4', rowsj, rfl, sb, tl, hrows, hlen⟩
        rw [en] at hj
        have RGj := RG3.sb ok sb eL3
        have c1 : j < r.length := by omega
        have c2 : j + 1 < r.length := by omega
        have e1 : (a : Int) - (j : Int) - 1 = (a : Int) - ((j + 1 : Nat) : Int) := by omega
        refine ⟨_, rfl, p, dx, _, rfl, RGj.ei, rfl, _, rfl, p, C, dx, _, _, rfl, RGj.ei, T.c, T.n1, rfl, _, rfl, R, _, _, _, rfl, rfl, SqT.of RGj.eR, atI_turned ha c1, _, rfl, p, C, dx, _, _, rfl, RGj.ei, T.c, T.n1, rfl, _, rfl, _, _, rfl, rfl, R, _, _, _, rfl, rfl, SqT.of RGj.eR, by rw [e1]; exact atI_turned ha c2, ?_⟩
        refine ⟨p, L, ps, r, h0, h1, (M59.turned r a).getD j 0, (M59.turned r a).getD (j + 1) 0, rowsj, rfl, ⟨dx, R, d, hp, D1, D2, kv1, kv2, Lf, RGj⟩, ok, tl, by omega, qin j c1, qin (j + 1) c2, RP.lt ok _ (qin j c1), RP.lt ok _ (qin (j + 1) c2), fun H4 sb4 tl4 => ?_⟩
        refine ⟨_, rfl, _, _, rfl, rfl, some (.int (0 + (j : Int))), _, by rw [← e1]; rfl, sb.trans sb4, tl4, ?_, ?_⟩
        · rw [← hrows, dropc j c1, dropc (j + 1) c2, List.append_assoc]
          rfl
        · rw [List.length_append]
          have := bl ((M59.turned r a).getD j 0) ((M59.turned r a).getD (j + 1) 0)
          omega
      · rintro σ H' ⟨w4', rowsj, rfl, sb, tl, hrows, hlen⟩
        rw [en] at hrows hlen ⊢
        have RGj := RG3.sb ok sb eL3
        have c1 : r.length - 1 < r.length := by omega
        have hd1 : (M59.turned r a).drop (r.length - 1) = [(M59.turned r a).getD (r.length - 1) 0] := by
          rw [dropc _ c1, List.drop_of_length_le (by omega)]
        rw [hd1] at hrows
        have hrows : rowsj = rows1 ++ M59.brings ps r h1 (M59.turned r a) := by
          rw [← hrows]
          show rowsj = rowsj ++ []
          rw [List.append_nil]
        obtain ⟨bs, eLj, tuj⟩ := tl
        refine ⟨_, rfl, p, C, dx, _, _, rfl, RGj.ei, T.c, T.n4, rfl, .inl ⟨rfl, _, SqL.of eLj⟩, _, rfl, p, C, dx, _, _, rfl, RGj.ei, T.c, T.n1, rfl, _, rfl, R, _, _, _, rfl, rfl, SqT.of RGj.eR, atI_turned ha c1, _, rfl, (show 3 ≤ sizeLine by decide), fun q2 hq2 => ⟨L, _, _, rfl, rfl, (same_new hq2) _ _ eLj, ?_, ?_⟩⟩
        · rw [List.length_map, tuj.length]
          exact Nat.lt_of_le_of_lt (show rowsj.length ≤ 2000 by omega) (by decide)
        obtain ⟨tlk, sbk⟩ := row_add (t := (M59.turned r a).getD (r.length - 1) 0) (s := ho.getD h0) eLj tuj hq2
        have RGk := RGj.sb ok sbk eLj
        refine ⟨_, rfl, p, C, dx, _, _, rfl, RGk.ei, T.c, T.n4, rfl, ?_⟩
        refine k _ ((Sb.of s02).trans (sb3.trans (sb.trans sbk))) ?_
        have el : (M59.turned r a).getLast?.getD 0 = (M59.turned r a).getD (r.length - 1) 0 := by
          rw [List.getLast?_eq_getElem?, ql, List.getD_eq_getElem?_getD]
        unfold M59.turn
        rw [hq0, el]
        rw [hrows, hr1] at tlk
        simp only [List.append_assoc] at tlk ⊢
        exact tlk
end
/-! ## k59: sources_below -/
open M59 (isR fstR Ok byS tk isT src)
/-- a dict's keys are such places -/
def FxD (H : Hp) (d : Addr) (fx : List Nat) : Prop := ∃ kvs, H d = some (.dK kvs) ∧ ∀ p, p < 18 → (valV kvs (keyP p)).isSome = decide (p ∈ fx)
theorem FxD.same {H H' : Hp} {d : Addr} {fx : List Nat} (s : Same H H') (h : FxD H d fx) : FxD H' d fx := by
  obtain ⟨kvs, h1, h2⟩ := h
  exact ⟨kvs, s _ _ h1, h2⟩
theorem FxD.get {H : Hp} {d : Addr} {fx : List Nat} (h : FxD H d fx) {p : Nat} (hp : p < 18) : ∃ o, DGet H d (plV p) o ∧ o.isSome = decide (p ∈ fx) := by
  obtain ⟨kvs, h1, h2⟩ := h
  exact ⟨_, .inl ⟨kvs, keyP p, .inl h1, rfl, rfl⟩, h2 p hp⟩
theorem DGet.sm {H H' : Hp} {a : Addr} {y : V} {r : Option V} (s : Same H H') (h : DGet H a y r) : DGet H' a y r := by
  rcases h with ⟨kvs, k, rd, e1, e2⟩ | ⟨kvs, k, b, rd, e1, hb, e2⟩
  · exact .inl ⟨kvs, k, rd.imp (s _ _) fun ⟨o, h⟩ => ⟨o, s _ _ h⟩, e1, e2⟩
  · exact .inr ⟨kvs, k, b, rd.imp (s _ _) fun ⟨o, h⟩ => ⟨o, s _ _ h⟩, e1, s _ _ hb, e2⟩
def spBelow : Sp := fun vs H Q _ => ∃ (a d x : Addr) (ps : M59.Prs) (fx roots : List Nat), vs = [.ref a, .ref d, .ref x] ∧ H a = some (.lst (roots.map plV)) ∧ TkD H d ps ∧ FxD H x fx ∧ Ok ps ∧ M59.Rts ps fx roots ∧ (∀ p, isT ps p = true → (M59.ringAt ps p).isSome = true → p ∈ fx) ∧
  ∀ (H' : Hp) (q : Addr) (l : List Nat), Same H H' → H q = none → H' q = some (.lst (l.map plV)) → M59.Lp ps fx l → Q (.ref q) H'
section
variable {P : Program} {w : World} {K : PySem.W.Frag} {mg : Str → Option Value} {base : Heap}
theorem sc_sources_below : FnScope ["roots", "takers", "fixed", "order", "at", "taker", "place"] ["roots", "takers", "fixed"] (defScope s_sources_below) := ⟨rfl, rfl, rfl, by decide +kernel, rfl, by decide +kernel, by decide +kernel⟩
theorem ok_below {f : Addr} {fd : FuncData} (F : FnP K "sources_below" s_sources_below f fd) (G : NkF K mg) (lis : mg "list" = none) : FnOk P w K mg base CX0 1 f fd ["roots", "takers", "fixed"] spBelow := by
  refine F.ok sc_sources_below (fun vs H Q E h => ?_) (fun cdv A outer s H vs Q E hr h => ?_)
  · obtain ⟨a, d, x, ps, fx, roots, rfl, _⟩ := h
    rfl
  · obtain ⟨a, d, x, ps, fx, roots, rfl, ea, hT, hF, ok, RT, hfx, k⟩ := h
    have nd := sc_sources_below.nd
    have hu := hu_of hr
    apply Exists.intro
    apply And.intro
    case left =>
     apply PSs.nox
     apply pss_cons
     · exact (ps_par (X := (cxOf CX0 P w K mg base ["roots", "takers", "fixed", "order", "at", "taker", "place"] "sources_below" (defScope s_sources_below) f cdv A outer s H E).nox) (i := 3) (j := 4) rfl nd rfl rfl (by decide) rfl rfl (pa_cons (pe_callTy call_list_of (by rfl) lis (by decide +kernel) (pa_cons (pv 0) pa_nil)) (pa_cons pe_int pa_nil)) (by rfl))
     apply pss_cons
     · apply ps_while PassesOwn.never
       · exact (pt_cmpR op_lt (pv 4) (pe_callB call_len (by rfl) G.len PySem.boot_len (pa_cons (pv 3) pa_nil)) (nomark _))
       · apply pss_cons
         · apply ps_for PassesOwn.never rfl
           · exact (pi_list (pe_dget2 hu (pv 1) (pe_ix ix_list (pv 3) (pv 4) (fun _ _ => rfl)) (pe_lst pa_nil) ⟨by rfl, by rfl, by rfl, by rfl⟩))
           · exact (pg_name (i := 5) nd rfl (Or.inl rfl))
           · apply pss_one
             exact (ps_if (pt_cmp (pc_dnotin hu (pv 5) (pv 2))) (pss_one (ps_expr (pe_bm PySem.F.plainAttrs_list PySem.F.slot_list_append PySem.F.type_list_append mt_append (pv 3) (pa_cons (pv 5) pa_nil)))) pss_nil)
         apply pss_one
         exact (ps_aug (i := 4) nd rfl (.inl rfl) pe_int ip_add)
     apply pss_one
     exact (ps_ret (pe_lc (own := [("place", 6)]) (g := gName 6) rfl nd (pi_list (pe_rev (pv 3) (po_some (pe_un un_neg pe_int)))) (blkOk_by (own := [("place", 6)]) (N := ["roots", "takers", "fixed", "order", "at", "taker", "place"]) (sc := defScope s_sources_below) (by decide +kernel)) (fun _ _ _ _ _ => (pg_name (i := 6) nd rfl (Or.inl rfl))) (fun _ _ _ _ _ => pts_one (PW.pt (pw_and (pt_cmp (pc_din (by exact hu) (pv 6) (pv 1))) (pw_and1 (pt_cmp (pc_dnotin (by exact hu) (pv 6) (pv 2))))))) (fun _ _ _ _ _ => (pv 6))))
    case right =>
      refine ⟨_, rfl, a, _, rfl, .inl (SqL.of ea), fun O hO => ⟨_, _, rfl, ?_⟩⟩
      have isD : ∀ H', Same H H' → IsD H' d := fun H' s => by
        obtain ⟨kvs, h1, _⟩ := hT.same s
        exact .inl ⟨kvs, h1⟩
      refine ⟨fun m σ H' => ∃ D Q' w5, m = 18 - D.length ∧ σ = [some (.ref a), some (.ref d), some (.ref x), some (.ref O), some (.int ((D.length : Nat) : Int)), w5, none] ∧ M59.Bq ps fx roots D Q' ∧ Same H H' ∧ H' O = some (.lst ((D ++ Q').map plV)), ⟨_, [], roots, none, rfl, rfl, M59.Bq.start RT, same_new hO, by rw [List.nil_append]; exact upd_same⟩, ?_⟩
      rintro m σ H1 ⟨D, Q', w5, rfl, rfl, B, s1, eO⟩
      have dq := M59.Bq.lt ok RT B
      refine ⟨_, rfl, _, rfl, _, _, rfl, .inl ⟨_, SqL.of eO, rfl⟩, _, _, rfl, rfl, _, rfl, ?_⟩
      rw [List.length_map, List.length_append]
      cases Q' with
      | nil =>
        rw [decide_eq_false (show ¬ ((D.length : Nat) : Int) < ((D.length + ([] : List Nat).length : Nat) : Int) by rw [List.length_nil]; omega)]
        rw [List.append_nil] at eO
        refine iteF ⟨_, rfl, _, rfl, _, rfl, O, _, rfl, rfl, SqL.of eO, fun q hq => ⟨q, rfl, ⟨_, SqL.of upd_same⟩, fun D9 hD9 => ?_⟩⟩
        have D18 : ∀ z ∈ D, z < 18 := fun z hz => by
          rcases B.inn z (by rw [List.append_nil]; exact hz) with h | ⟨_, h, _⟩
          · exact RT.lt z h
          · exact (isT_lt ok h).1
        have sq := s1.trans (same_new (o := .lst (D.map plV).reverse) hq)
        have eq : (upd H1 q (.lst (D.map plV).reverse)) q = some (.lst (D.reverse.map plV)) := by rw [upd_same, List.map_reverse]
        generalize upd H1 q (.lst (D.map plV).reverse) = H2 at hD9 sq eq ⊢
        refine lc_pf (K := K) (j := 6) (fun p => decide (p ∈ M59.keys ps ∧ p ∉ fx)) eq hD9 (by rw [List.length_reverse]; omega) (fun _ => rfl) (fun _ => rfl) (fun t H' Q ht s hk => ?_) fun H3 s3 e3 => k H3 D9 _ (sq.trans s3) (sq.free hD9) e3 (M59.Bq.lp ok RT B hfx)
        have t18 := D18 t (List.mem_reverse.mp ht)
        obtain ⟨o, g1, g2, _⟩ := (hT.same (sq.trans s)).get t18
        refine ⟨_, rfl, _, rfl, d, o, rfl, g1, _, rfl, ?_⟩
        rw [g2]
        have hk := hk _ (Same.refl _)
        by_cases c1 : t ∈ M59.keys ps
        · rw [decide_eq_true c1]
          obtain ⟨o2, g3, g4⟩ := (hF.same (sq.trans s)).get t18
          refine iteT ⟨_, rfl, _, rfl, x, o2, rfl, g3, _, rfl, ?_⟩
          rw [g4]
          by_cases c2 : t ∈ fx
          · rw [decide_eq_true c2]
            rw [decide_eq_false (fun z => z.2 c2)] at hk
            exact hk
          · rw [decide_eq_false c2]
            rw [decide_eq_true ⟨c1, c2⟩] at hk
            exact hk
        · rw [decide_eq_false c1]
          rw [decide_eq_false (fun z => c1 z.1)] at hk
          exact iteF hk
      | cons y Q' =>
        rw [decide_eq_true (show ((D.length : Nat) : Int) < ((D.length + (y :: Q').length : Nat) : Int) by rw [List.length_cons]; omega)]
        refine iteT ⟨fun σ' H' => ∃ m', m' < _ ∧ _, fun _ _ h => h, ?_⟩
        have yin : y ∈ D ++ y :: Q' := List.mem_append_right _ (List.mem_cons_self ..)
        have y18 : y < 18 := by
          rcases B.inn y yin with h | ⟨_, h, _⟩
          · exact RT.lt y h
          · exact (isT_lt ok h).1
        have B2 := M59.Bq.step ok RT B
        have dq2 := M59.Bq.lt ok RT B2
        have nO : H O = none := hO
        refine ⟨_, rfl, d, rfl, isD _ s1, _, rfl, _, rfl, O, _, _, _, rfl, rfl, SqL.of eO, atI_nat (j := D.length) (v := plV y) (by rw [List.getElem?_map, List.getElem?_append_right (Nat.le_refl _), Nat.sub_self]; rfl), (show 0 ≤ sizeLine by decide), fun E0 hE0 => ?_⟩
        have sE := same_new (o := .lst []) hE0
        have eE : (upd H1 E0 (.lst [])) E0 = some (.lst []) := upd_same
        have EO : E0 ≠ O := fun z => by rw [z, eO] at hE0; cases hE0
        have s2 := s1.trans sE
        have eO2 := sE _ _ eO
        generalize upd H1 E0 (.lst []) = H2 at eE s2 eO2 ⊢
        obtain ⟨o, g1, g2, g3⟩ := hT.get y18
        have hlist : ∃ T, o.getD (V.ref E0) = .ref T ∧ H2 T = some (.lst ((tk ps y).map plV)) ∧ T ≠ O := by
          cases o with
          | none =>
            have : ¬ y ∈ M59.keys ps := fun z => by rw [decide_eq_true z] at g2; cases g2
            have e0 : tk ps y = [] := Classical.byContradiction fun z => this ((M59.keys_mem ok).mpr z)
            refine ⟨E0, rfl, by rw [e0]; exact eE, EO⟩
          | some v =>
            obtain ⟨T, rfl, eT⟩ := g3 v rfl
            exact ⟨T, rfl, s2 _ _ eT, ne_of_none eT nO⟩
        obtain ⟨T, eg, eT, nT⟩ := hlist
        refine ⟨o, DGet.sm s2 g1, ?_⟩
        rw [eg]
        have t18 : ∀ t ∈ tk ps y, t < 18 := fun t ht => (M59.tk_lt ok ht).1
        refine ⟨T, rfl, ⟨_, SqL.of eT⟩, ?_⟩
        refine for_it (walk_list (xs := (tk ps y).map plV)) (fun i σ H' => ∃ w5, σ = [some (.ref a), some (.ref d), some (.ref x), some (.ref O), some (.int ((D.length : Nat) : Int)), w5, none] ∧ Sb O H2 H' ∧ H' O = some (.lst ((D ++ y :: (Q' ++ ((tk ps y).take i).filter fun t => decide (t ∉ fx))).map plV))) ⟨_, rfl, (fun _ _ _ e => e), by rw [List.take_zero, List.filter_nil, List.append_nil]; exact eO2⟩ (fun i σ H' _ ⟨_, _, s3, _⟩ => SqL.of (s3 _ _ nT eT)) ?_ ?_
        · rintro i z σ Hx H' hi ⟨w5', rfl, s3, e3⟩ ⟨rfl, hz⟩
          obtain ⟨t, ht, rfl⟩ : ∃ t, (tk ps y)[i]? = some t ∧ z = plV t := by
            rw [List.getElem?_map] at hz
            cases e : (tk ps y)[i]? with
            | none => rw [e] at hz; cases hz
            | some t => rw [e] at hz; injection hz with hz; exact ⟨t, rfl, hz.symm⟩
          have tin := List.mem_of_getElem? ht
          have hFx : FxD H' x fx := by
            obtain ⟨kvs, h1, h2⟩ := hF
            exact ⟨kvs, s3 _ _ (fun z => by rw [z, nO] at h1; cases h1) (s2 _ _ h1), h2⟩
          obtain ⟨o2, g4, g5⟩ := hFx.get (t18 t tin)
          refine ⟨_, rfl, _, rfl, x, o2, rfl, g4, _, rfl, ?_⟩
          rw [g5]
          have ft : ((tk ps y).take (i + 1)).filter (fun t => decide (t ∉ fx)) = ((tk ps y).take i).filter (fun t => decide (t ∉ fx)) ++ if decide (t ∉ fx) = true then [t] else [] := by
            rw [take_snoc2 ht, List.filter_append, List.filter_cons, List.filter_nil]
          by_cases c : t ∈ fx
          · rw [decide_eq_true c]
            rw [decide_eq_false (fun z => z c), if_neg Bool.false_ne_true, List.append_nil] at ft
            refine iteN1 ⟨_, rfl, s3, ?_⟩
            rw [ft]
            exact e3
          · rw [decide_eq_false c]
            rw [decide_eq_true c, if_pos rfl] at ft
            refine iteN0 ⟨_, rfl, .inl ⟨rfl, _, SqL.of e3⟩, _, rfl, _, _, _, rfl, rfl, e3, ?_, _, rfl, s3.upd, ?_⟩
            · rw [List.length_map, List.length_append, List.length_cons, List.length_append]
              have h1 : (((tk ps y).take i).filter fun t => decide (t ∉ fx)).length ≤ ((tk ps y).take i).length := List.length_filter_le _ _
              have h2 := List.length_take_le' i (tk ps y)
              have h3 := tk_len ok y
              rw [List.length_cons] at dq
              exact Nat.lt_of_le_of_lt (show D.length + (Q'.length + (((tk ps y).take i).filter fun t => decide (t ∉ fx)).length + 1) ≤ 36 by omega) (by decide)
            · rw [upd_same, ft]
              simp
        · rintro σ H' ⟨w5', rfl, s3, e3⟩
          rw [List.length_map, List.take_length] at e3
          have s4 : Same H H' := fun b o e => s3 b o (ne_of_none e nO) (s2 b o e)
          rw [List.length_append, List.length_singleton] at dq2
          refine ⟨_, rfl, _, _, rfl, rfl, 18 - (D ++ [y]).length, ?_, D ++ [y], _, w5', rfl, ?_, B2, s4, ?_⟩
          · rw [List.length_append, List.length_singleton]
            omega
          · rw [List.length_append, List.length_singleton]
            rfl
          · rw [e3, List.append_assoc]
            rfl
end
/-! ## {k: v for t0 in i0 if .. for t1 in i1 if ..} -/
namespace Dc2
open PySem PySem.Spec PyProof.Rows L2
abbrev two (kx vx t0 i0 t1 i1 : Expr) (f0 f1 : List Expr) (sc : Scope) (pos : Pos) : Expr := .DictComp kx vx [⟨t0, i0, f0, 0⟩, ⟨t1, i1, f1, 0⟩] sc pos
theorem turn0 (kx vx t0 i0 t1 i1 : Expr) (f0 f1 : List Expr) (sc : Scope) (pos : Pos) (it acc : Value) (env : Env) :
    compTurn (two kx vx t0 i0 t1 i1 f0 f1 sc pos) 0 it acc env = (do
      standAt i0.pos
      match ← pyNext it with
      | none => pure (.done .next)
      | some v =>
        letOwnedTupleGo t0 it v
        assign t0 env v
        let mut ok := true
        for c in f0 do
          if ok then ok ← isTrue c env (eval c env)
        if ok then
          let x ← eval i1 env
          standAt i1.pos
          let x ← foldedSetIterable i1 env x
          let _ ← runOwn (.compStart (two kx vx t0 i0 t1 i1 f0 f1 sc pos) 1 (← holding [x] (pyIter x)) acc env) env
        again (.compLoop (two kx vx t0 i0 t1 i1 f0 f1 sc pos) 0 it acc env)) := by rfl
theorem turn1 (kx vx t0 i0 t1 i1 : Expr) (f0 f1 : List Expr) (sc : Scope) (pos : Pos) (it : Value) (D : Addr) (env : Env) :
    compTurn (two kx vx t0 i0 t1 i1 f0 f1 sc pos) 1 it (.ref D) env = (do
      standAt i1.pos
      match ← pyNext it with
      | none => pure (.done .next)
      | some v =>
        letOwnedTupleGo t1 it v
        assign t1 env v
        let mut ok := true
        for c in f1 do
          if ok then ok ← isTrue c env (eval c env)
        if ok then
          (do
            let kv ← eval kx env
            let vv ← holding [kv] (eval vx env)
            standAt { kx.pos with endLine := vx.pos.endLine, endCol := vx.pos.endCol }
            holding [kv, vv] (dictSet D kv vv))
        again (.compLoop (two kx vx t0 i0 t1 i1 f0 f1 sc pos) 1 it (.ref D) env)) := by rfl
section
variable {prog : Program} {w : World} {A : Around} {R : Result → Shared → Prop} {s : Shared} {kx vx t0 i0 t1 i1 : Expr} {f0 f1 : List Expr} {sc : Scope} {pos : Pos} {it acc : Value} {D : Addr} {env : Env}
abbrev nb (prog : Program) (w : World) (A : Around) (env : Env) (R : Result → Shared → Prop) : Value → Shared → Prop := notedBy (model prog w) A env fun e s' => R (.error e) s'
abbrev tests (fs : List Expr) (env : Env) : Sem Bool := forIn fs true fun c r => if r = true then do let ok ← isTrue c env (eval c env); pure (ForInStep.yield ok) else pure (ForInStep.yield r)
/-- the first clause's loop -/
theorem outer (hs : ∀ x, foldedSetIterable i1 env x = pure x) (I : Nat → Shared → Prop)
    (turn : ∀ n s, I n s → wpAny (model prog w) A (pyNext it) (fun r a => match r with
      | none => R (.ok .next) a
      | some v => wpAny (model prog w) A (letOwnedTupleGo t0 it v) (fun _ b => wpAny (model prog w) A (assign t0 env v) (fun _ c => wpAny (model prog w) A (tests f0 env) (fun ok d =>
            if ok = true then wpAny (model prog w) A (eval i1 env) (fun x e => wpAny (model prog w) A (pyIter x) (fun j g =>
              codeAny (model prog w) A (.compStart (two kx vx t0 i0 t1 i1 f0 f1 sc pos) 1 j acc env) (fun r z => match r with
                | .ok _ => ∃ m, m < n ∧ I m z
                | .error _ => False) g) (nb prog w A env R) e) (nb prog w A env R) d
            else ∃ m, m < n ∧ I m d) (nb prog w A env R) c) (nb prog w A env R) b) (nb prog w A env R) a) (nb prog w A env R) s)
    (n : Nat) (h : I n s) : codeAny (model prog w) A (.compLoop (two kx vx t0 i0 t1 i1 f0 f1 sc pos) 0 it acc env) R s := by
  refine codeAny_loop rfl I (fun n s hI => ?_) n h
  show wpAny _ A ((compTurn (two kx vx t0 i0 t1 i1 f0 f1 sc pos) 0 it acc env).onRaise (fun x => do noteFrame x env; theTreesLotGoes x)) _ _ s
  refine wpAny_noted ?_
  rw [turn0]
  refine wpAny_bind (wpAny_standAt (wpAny_bind (wpAny_mono (turn n s hI) (fun r a ha => ?_) fun _ _ z => z)))
  cases r with
  | none => exact wpAny_pure ha
  | some v =>
    refine wpAny_bind (wpAny_mono ha (fun _ b hb => ?_) fun _ _ z => z)
    refine wpAny_bind (wpAny_mono hb (fun _ c hc => wpAny_bind (wpAny_mono hc (fun ok d hd => ?_) fun _ _ z => z)) fun _ _ z => z)
    cases ok with
    | false => exact wpAny_pure ⟨rfl, hd⟩
    | true =>
      refine wpAny_bind (wpAny_mono hd (fun x e he => ?_) fun _ _ z => z)
      refine wpAny_bind (wpAny_standAt (wpAny_bind (wpAny_of_eq (hs x) (wpAny_bind (wpAny_holding (wpAny_mono he (fun j g hg => ?_) fun _ _ z => z))))))
      refine wpAny_bind (wpAny_runOwn ?_)
      rw [Around.mark_none]
      refine codeAny_mono hg fun r z hr => ?_
      cases r with
      | error e => exact hr.elim
      | ok f =>
        first
          | exact wpAny_pure ⟨rfl, hr⟩
          | exact wpAny_bind (wpAny_pure (wpAny_pure ⟨rfl, hr⟩))
/-- the second clause's loop -/
theorem inner (I : Nat → Shared → Prop)
    (turn : ∀ n s, I n s → wpAny (model prog w) A (pyNext it) (fun r a => match r with
      | none => R (.ok .next) a
      | some v => wpAny (model prog w) A (letOwnedTupleGo t1 it v) (fun _ b => wpAny (model prog w) A (assign t1 env v) (fun _ c => wpAny (model prog w) A (tests f1 env) (fun ok d =>
            if ok = true then wpAny (model prog w) A (eval kx env) (fun kv e => wpAny (model prog w) A (eval vx env) (fun vv g =>
              wpAny (model prog w) A (dictSet D kv vv) (fun _ z => ∃ m, m < n ∧ I m z) (nb prog w A env R) g) (nb prog w A env R) e) (nb prog w A env R) d
            else ∃ m, m < n ∧ I m d) (nb prog w A env R) c) (nb prog w A env R) b) (nb prog w A env R) a) (nb prog w A env R) s)
    (n : Nat) (h : I n s) : codeAny (model prog w) A (.compLoop (two kx vx t0 i0 t1 i1 f0 f1 sc pos) 1 it (.ref D) env) R s := by
  refine codeAny_loop rfl I (fun n s hI => ?_) n h
  show wpAny _ A ((compTurn (two kx vx t0 i0 t1 i1 f0 f1 sc pos) 1 it (.ref D) env).onRaise (fun x => do noteFrame x env; theTreesLotGoes x)) _ _ s
  refine wpAny_noted ?_
  rw [turn1]
  refine wpAny_bind (wpAny_standAt (wpAny_bind (wpAny_mono (turn n s hI) (fun r a ha => ?_) fun _ _ z => z)))
  cases r with
  | none => exact wpAny_pure ha
  | some v =>
    refine wpAny_bind (wpAny_mono ha (fun _ b hb => ?_) fun _ _ z => z)
    refine wpAny_bind (wpAny_mono hb (fun _ c hc => wpAny_bind (wpAny_mono hc (fun ok d hd => ?_) fun _ _ z => z)) fun _ _ z => z)
    cases ok with
    | false => exact wpAny_pure ⟨rfl, hd⟩
    | true =>
      refine wpAny_bind (wpAny_bind (wpAny_mono hd (fun kv e he => wpAny_bind (wpAny_holding (wpAny_mono he (fun vv g hg => ?_) fun _ _ z => z))) fun _ _ z => z))
      exact wpAny_bind (wpAny_standAt (wpAny_holding (wpAny_mono hg (fun _ z hz => wpAny_pure ⟨rfl, hz⟩) fun _ _ z => z)))
theorem start1 (h0 : codeAny (model prog w) A (.compLoop (two kx vx t0 i0 t1 i1 f0 f1 sc pos) 1 it acc env) R s)
    (h : wpAny (model prog w) A (pyIter it) (fun j z => codeAny (model prog w) A (.compLoop (two kx vx t0 i0 t1 i1 f0 f1 sc pos) 1 j acc env) R z) (nb prog w A env R) s) :
    codeAny (model prog w) A (.compStart (two kx vx t0 i0 t1 i1 f0 f1 sc pos) 1 it acc env) R s := by
  refine codeAny_of_tree ?_
  show wpAny _ _ ((compStart (two kx vx t0 i0 t1 i1 f0 f1 sc pos) 1 it acc env).onRaise (fun x => do noteFrame x env; standAt theWindowsPlace)) _ _ s
  refine wpAny_notedAt ?_
  unfold compStart
  show wpAny _ _ (ask >>= _) _ _ s
  refine wpAny_bind (wpAny_askSetting (wpAny_ite ?_))
  split
  · first
      | exact wpAny_bind (wpAny_pure (wpAny_pure (And.intro rfl h0)))
      | exact wpAny_pure (And.intro rfl h0)
  · first
      | exact wpAny_bind (wpAny_rule (wpAny_bind (wpAny_standAt (wpAny_bind (wpAny_mono h (fun j z hz => wpAny_pure (And.intro rfl hz)) fun _ _ x => x)))))
      | (refine wpAny_bind (wpAny_rule ?_); show wpAny _ _ (standAt i1.pos >>= _) _ _ s; exact wpAny_bind (wpAny_standAt (wpAny_bind (wpAny_mono h (fun j z hz => wpAny_pure (And.intro rfl hz)) fun _ _ x => x))))
end
end Dc2
namespace Dc2
open PySem PySem.Spec PyProof.Rows L2
section
variable {X : Cx}
/-- {k: v for g in wi if tt for g1 in wi1 if tt1}: V the block's names, V1 those of the second target -/
def tDc2 (wi : TI) (g : TG) (tt : TT) (wi1 : TI) (g1 : TG) (tt1 : TT) (tk tv : TE) (V V1 : List Nat) : TE := fun σ H Q => wi σ H fun J H1 => ∀ D, H1 D = none → ∃ W : Nat → Nat → Hp → Prop, (∃ m, W 0 m (upd H1 D (.dK []))) ∧ ∀ i m H, W i m H →
  (J.stop i H ∧ Q (.ref D) H) ∨ (J.go i H ∧ ∃ Nx : Hp → Prop, (∀ H', Nx H' → ∃ m', m' < m ∧ W (i + 1) m' H') ∧ ∀ x H', J.yld i H x H' → g x (wipe σ V) H' fun σ2 H2 => wipe σ2 V = wipe σ V ∧ tt σ2 H2 fun b H3 =>
    if b = true then wi1 σ2 H3 fun J1 H4 => ∃ W1 : Nat → Nat → Hp → Prop, (∃ m, W1 0 m H4) ∧ ∀ j k H, W1 j k H →
      (J1.stop j H ∧ Nx H) ∨ (J1.go j H ∧ ∃ N1 : Hp → Prop, (∀ H', N1 H' → ∃ k', k' < k ∧ W1 (j + 1) k' H') ∧ ∀ x H', J1.yld j H x H' → g1 x (wipe σ2 V1) H' fun σ3 H5 => wipe σ3 V1 = wipe σ2 V1 ∧ tt1 σ3 H5 fun b H6 =>
        if b = true then tk σ3 H6 fun y H7 => tv σ3 H7 fun z H8 => ∃ kvs k, y = kV k ∧ H8 D = some (.dK kvs) ∧ kvs.length < sizeLine ∧ N1 (upd H8 D (.dK (putK kvs k z))) else N1 H6)
    else Nx H3)
/-- what a block's parts are, whatever the block's cells -/
abbrev Blk (X : Cx) (sc : Scope) (p : Cx → Prop) : Prop := ∀ (s : Shared) (H : Hp) (C : Addr) (cl : List (Str × Addr)) (fp : List Addr), p (X.blk s H sc (compEnvC sc cl C X.env) fp)
theorem core {pins : List (Addr × Obj)} {s : Shared} {σ : L2.St} {H : Hp} {Q : VK} {kx vx t0 i0 t1 i1 : Expr} {f0 f1 : List Expr} {sc : Scope} {own : List (Str × Nat)} {V1 : List Nat} {pos pos' : Pos} {wi wi1 : TI} {g g1 : TG} {tt tt1 : TT} {tk tv : TE} {use : Option (Value → Sem Unit)} {Qf : Value → Shared → Prop}
    (calm : X.calm = true) (nd : X.N.Nodup) (I : Inv X pins σ H s) (pi : PI X t0 i0 wi) (ok : BlkOk X.N X.env.scope sc own) (sub : ∀ i ∈ V1, i ∈ own.map (·.2))
    (a1 : Blk X sc fun Y => PG Y t0 g) (a2 : Blk X sc fun Y => PTs Y f0 tt) (a3 : Blk X sc fun Y => PI Y t1 i1 wi1) (a4 : Blk X sc fun Y => PG Y t1 g1) (a5 : Blk X sc fun Y => PTs Y f1 tt1) (a6 : Blk X sc fun Y => PE Y kx tk) (a7 : Blk X sc fun Y => PE Y vx tv)
    (hs : ∀ x, foldedSetIterable i0 X.env x = pure x) (hs1 : ∀ env x, foldedSetIterable i1 env x = pure x) (h : tDc2 wi g tt wi1 g1 tt1 tk tv (own.map (·.2)) V1 σ H Q)
    (back : ∀ D C s' m H', Inv X pins σ H' s' → Q (.ref D) H' → s'.heap.Ns C m → FpOk X pins H' C → compPost (model X.prog X.w) X.A X.xe use Qf (.ref D) C (.ok .next) s') :
    wpAny (model X.prog X.w) X.A (comprehension (two kx vx t0 i0 t1 i1 f0 f1 sc pos) sc X.env pos' newDict false (eval i0 X.env) use) Qf X.xe s := by
  have free : ∀ y ∈ sc.names, y.2 = .free → ∃ c, X.env.cells.lookup y.1 = some c := fun y hy e => (ok.free y hy e).elim (fun k => I.ok.has _ (.inl k)) fun k => I.ok.has _ (.inr k)
  refine wpAny_comprehension_free (use := use) rfl hs (closure_ok free) ok.kind (fun y hy e => by rw [ok.uniq y hy, e]) (thn (pi.run pins s σ H _ I h) fun _ b hb => thn hb fun _ c hc => ?_)
  obtain ⟨it, fp, tn, J, Hc, rfl, Ic, T, stc, fpc, q⟩ := hc
  refine wpAny_newObj_type (newEnv_comp ?_)
  generalize hD : c.heap.objs.size = D
  obtain ⟨W, ⟨m0, w0⟩, turn⟩ := q D (Ic.hok.fresh (Nat.le_of_eq hD))
  -- the dict is laid
  generalize hd : ({ c with heap := c.heap.push { cls := .type "dict", data := .dict #[] } } : Shared) = d
  have dh : d.heap = c.heap.push { cls := .type "dict", data := .dict #[] } := by rw [← hd]
  have Id : Inv X pins σ (upd Hc D (.dK [])) d := by
    rw [← hd]
    exact Ic.laid (t' := c.toks) (fun b o e => Heap.get?_push_of_some _ e) (Nat.le_of_eq hD) (by rw [← hD]; exact dk_empty c.heap Ic.big)
  have old : ∀ b ∈ fp, b < c.heap.objs.size := fun b hb => (T.obj _ _ stc b hb).elim fun o e => Heap.lt_size e.1
  have fpd : ∀ b ∈ fp, FpOk X pins (upd Hc D (.dK [])) b ∧ b < d.heap.objs.size := fun b hb => by
    have lt := old b hb
    refine ⟨⟨?_, (fpc b hb).2⟩, by rw [dh, Heap.size_push]; exact Nat.lt_succ_of_lt lt⟩
    rw [upd_ne (by rw [← hD]; exact Nat.ne_of_lt lt)]
    exact (fpc b hb).1
  have std : tn 0 d.heap := T.keep _ _ _ stc fun b _ o e => by rw [dh]; exact Heap.get?_push_of_some _ e
  have Ib := block_start Id ok nd fpd
  have p1 := a1 d (upd Hc D (.dK [])) d.heap.objs.size (cellsFrom (d.heap.objs.size + 1) sc.names (cloFrom X.env.cells sc.names [])) fp
  have p2 := a2 d (upd Hc D (.dK [])) d.heap.objs.size (cellsFrom (d.heap.objs.size + 1) sc.names (cloFrom X.env.cells sc.names [])) fp
  have p3 := a3 d (upd Hc D (.dK [])) d.heap.objs.size (cellsFrom (d.heap.objs.size + 1) sc.names (cloFrom X.env.cells sc.names [])) fp
  have p4 := a4 d (upd Hc D (.dK [])) d.heap.objs.size (cellsFrom (d.heap.objs.size + 1) sc.names (cloFrom X.env.cells sc.names [])) fp
  have p5 := a5 d (upd Hc D (.dK [])) d.heap.objs.size (cellsFrom (d.heap.objs.size + 1) sc.names (cloFrom X.env.cells sc.names [])) fp
  have p6 := a6 d (upd Hc D (.dK [])) d.heap.objs.size (cellsFrom (d.heap.objs.size + 1) sc.names (cloFrom X.env.cells sc.names [])) fp
  have p7 := a7 d (upd Hc D (.dK [])) d.heap.objs.size (cellsFrom (d.heap.objs.size + 1) sc.names (cloFrom X.env.cells sc.names [])) fp
  show codeAny _ _ (.compStart (two kx vx t0 i0 t1 i1 f0 f1 sc pos) 0 (.ref it) (.ref D) (compEnvC sc (cellsFrom (d.heap.objs.size + 1) sc.names (cloFrom X.env.cells sc.names [])) d.heap.objs.size X.env)) (compPost (model X.prog X.w) X.A X.xe use Qf (.ref D) d.heap.objs.size) { d with heap := pushCells (d.heap.push { cls := .type "dict", data := .dict #[] }) sc.names }
  have out : ∀ b ∈ fp, (upd Hc D (.dK [])) b = none := fun b hb => (fpd b hb).1.1
  generalize hce : compEnvC sc (cellsFrom (d.heap.objs.size + 1) sc.names (cloFrom X.env.cells sc.names [])) d.heap.objs.size X.env = ce at Ib p1 p2 p3 p4 p5 p6 p7 ⊢
  have cL : ce.locals = d.heap.objs.size := by subst hce; rfl
  generalize upd Hc D (.dK []) = Hd at Id Ib p1 p2 p3 p4 p5 p6 p7 w0 out fpd
  generalize he : ({ d with heap := pushCells (d.heap.push { cls := .type "dict", data := .dict #[] }) sc.names } : Shared) = e at Ib ⊢
  have ste : tn 0 e.heap := T.keep _ _ _ std fun b _ o z => by rw [← he]; exact pushCells_keeps _ _ _ _ (Heap.get?_push_of_some _ z)
  have fpI : ∀ {σ' : L2.St} {H' : Hp} {s' : Shared}, Inv (X.blk d Hd sc ce fp) [] σ' H' s' → (∀ b ∈ fp, H' b = none) → ∀ b ∈ fp, FpOk (X.blk d Hd sc ce fp) [] H' b := fun {σ' H' s'} I' hn b hb =>
    ⟨hn b hb, (I'.ok.exf b hb).1, I'.ok.exfs b hb, .inl hb, fun x c z => (I'.ok.exf b hb).2 x c z, fun p hp => absurd (show p ∈ ([] : List (Addr × Obj)) ++ [] from hp) (by simp)⟩
  have loop : codeAny (model X.prog X.w) X.A (.compLoop (two kx vx t0 i0 t1 i1 f0 f1 sc pos) 0 (.ref it) (.ref D) ce) (compPost (model X.prog X.w) X.A X.xe use Qf (.ref D) d.heap.objs.size) e := by
    refine outer (hs1 ce) (fun n s' => ∃ i H', Inv (X.blk d Hd sc ce fp) [] (wipe σ (own.map (·.2))) H' s' ∧ tn i s'.heap ∧ (∀ b ∈ fp, H' b = none) ∧ W i n H') ?_ m0 ⟨0, Hd, Ib, ste, out, w0⟩
    rintro n s5 ⟨i, H5, I5, st5, n5, w5⟩
    rcases turn i n H5 w5 with ⟨stop, qq⟩ | ⟨go, Nx, hNx, step⟩
    · refine thnF (T.done (X.blk d Hd sc ce fp) rfl rfl rfl calm i [] s5 _ H5 (fun _ _ => False) I5 (fpI I5 n5) st5 stop) fun r s6 ⟨hr, I6⟩ => ?_
      subst hr
      have I7 : Inv X pins σ H5 s6 := Id.call' (ch := fp) I6.os I6.base I6.hok I6.bare fun b hb => ⟨(fpd b hb).1.2.2.2.1, (fpd b hb).1.2.1, (fpd b hb).1.2.2.2.2.1, (fpd b hb).1.2.2.2.2.2⟩
      have nC : H5 d.heap.objs.size = none := cL ▸ (I6.free : H5 ce.locals = none)
      obtain ⟨m, hn, _⟩ := I6.loc
      exact back D d.heap.objs.size s6 m H5 I7 qq (cL ▸ (hn : s6.heap.Ns ce.locals m)) (Id.fpOk (Nat.le_refl _) nC)
    · refine thnF (T.item (X.blk d Hd sc ce fp) rfl rfl rfl calm i [] s5 _ H5 (fun _ _ => False) I5 (fpI I5 n5) st5 go) fun r s6 ⟨u, hr, h6⟩ => ?_
      subst hr
      refine thnF h6 fun _ s7 ⟨x, H7, I7, r7, y7, st7, n7⟩ => ?_
      refine thnF (p1.run _ s7 _ H7 x u _ (I7.pinned (fpI I7 n7) (T.obj _ _ st7)) r7 (step x H7 y7)) fun _ s8 ⟨σ8, H8, I8, hw8, q8⟩ => ?_
      refine thnF (p2.run _ s8 σ8 H8 _ I8 q8) fun b s9 ⟨H9, I9, q9⟩ => ?_
      have fin : ∀ {σ9 : L2.St} {s' : Shared} {H' : Hp}, Inv (X.blk d Hd sc ce fp) ([] ++ pinsAt fp s7.heap) σ9 H' s' → (wipe σ (own.map (·.2))).length = σ9.length → (∀ (j : Nat) v, (wipe σ (own.map (·.2)))[j]? = some (some v) → σ9[j]? = some (some v)) → Nx H' →
          ∃ m, m < n ∧ ∃ i H', Inv (X.blk d Hd sc ce fp) [] (wipe σ (own.map (·.2))) H' s' ∧ tn i s'.heap ∧ (∀ b ∈ fp, H' b = none) ∧ W i m H' := fun {σ9 s' H'} I' hl hk nx => by
        obtain ⟨m', hm, w'⟩ := hNx H' nx
        have pin' : ∀ b ∈ fp, ∀ o, s7.heap.get? b = some o → s'.heap.get? b = some o ∧ H' b = none := fun b hb o z => have y := I'.pin (b, o) (List.mem_append_right _ (List.mem_append_right _ (mem_pinsAt hb z))); ⟨y.1, y.2.1⟩
        exact ⟨m', hm, i + 1, H', (I'.unpinned (pins := [])).weak hl hk, T.keep _ _ _ st7 fun b hb o z => (pin' b hb o z).1, fun b hb => (T.obj _ _ st7 b hb).elim fun o z => (pin' b hb o z.1).2, w'⟩
      have l8 : (wipe σ (own.map (·.2))).length = σ8.length := by rw [← hw8, wipe_length]
      have k8 : ∀ (j : Nat) v, (wipe σ (own.map (·.2)))[j]? = some (some v) → σ8[j]? = some (some v) ∧ (wipe σ8 V1)[j]? = some (some v) := fun j v z => by
        rw [← hw8] at z
        obtain ⟨z1, z2⟩ := wipe_some z
        exact ⟨z1, by rw [wipe_out fun y => z2 (sub j y)]; exact z1⟩
      cases b with
      | false =>
        rw [if_neg Bool.false_ne_true] at q9
        exact fin I9 l8 (fun j v z => (k8 j v z).1) q9
      | true =>
        rw [if_pos rfl] at q9
        refine thnF (p3.run _ s9 σ8 H9 _ I9 q9) fun _ s10 h10 => thnF h10 fun _ s11 h11 => ?_
        obtain ⟨it1, fp1, tn1, J1, H11, rfl, I11, T1, st11, f11, W1, ⟨m1, w1⟩, turn1'⟩ := h11
        have fpJ : ∀ {H' : Hp}, (∀ b ∈ fp1, H' b = none) → ∀ b ∈ fp1, FpOk (X.blk d Hd sc ce fp) ([] ++ pinsAt fp s7.heap) H' b := fun hn b hb => ⟨hn b hb, (f11 b hb).2⟩
        have loop1 : codeAny (model X.prog X.w) X.A (.compLoop (two kx vx t0 i0 t1 i1 f0 f1 sc pos) 1 (.ref it1) (.ref D) ce)
            (fun r s' => match r with
              | .ok _ => ∃ m, m < n ∧ ∃ i H', Inv (X.blk d Hd sc ce fp) [] (wipe σ (own.map (·.2))) H' s' ∧ tn i s'.heap ∧ (∀ b ∈ fp, H' b = none) ∧ W i m H'
              | .error _ => False) s11 := by
          refine inner (fun k s' => ∃ j H', Inv (X.blk d Hd sc ce fp) ([] ++ pinsAt fp s7.heap) (wipe σ8 V1) H' s' ∧ tn1 j s'.heap ∧ (∀ b ∈ fp1, H' b = none) ∧ W1 j k H') ?_ m1 ⟨0, H11, I11.weak (wipe_length _ _) (fun j v z => (wipe_some z).1), st11, fun b hb => (f11 b hb).1, w1⟩
          rintro k s12 ⟨j, H12, I12, st12, n12, w12⟩
          rcases turn1' j k H12 w12 with ⟨stop1, nx1⟩ | ⟨go1, N1, hN1, step1⟩
          · refine thnF (T1.done (X.blk d Hd sc ce fp) rfl rfl rfl calm j _ s12 (wipe σ8 V1) H12 (fun _ _ => False) I12 (fpJ n12) st12 stop1) fun r s13 ⟨hr, I13⟩ => ?_
            subst hr
            exact fin I13 (l8.trans (wipe_length σ8 V1).symm) (fun j v z => (k8 j v z).2) nx1
          · refine thnF (T1.item (X.blk d Hd sc ce fp) rfl rfl rfl calm j _ s12 (wipe σ8 V1) H12 (fun _ _ => False) I12 (fpJ n12) st12 go1) fun r s13 ⟨u1, hr, h13⟩ => ?_
            subst hr
            refine thnF h13 fun _ s14 ⟨x1, H14, I14, r14, y14, st14, n14⟩ => ?_
            refine thnF (p4.run _ s14 (wipe σ8 V1) H14 x1 u1 _ (I14.pinned (fpJ n14) (T1.obj _ _ st14)) r14 (step1 x1 H14 y14)) fun _ s15 ⟨σ15, H15, I15, hw15, q15⟩ => ?_
            refine thnF (p5.run _ s15 σ15 H15 _ I15 q15) fun b1 s16 ⟨H16, I16, q16⟩ => ?_
            have fin1 : ∀ {s' : Shared} {H' : Hp}, Inv (X.blk d Hd sc ce fp) (([] ++ pinsAt fp s7.heap) ++ pinsAt fp1 s14.heap) σ15 H' s' → N1 H' → ∃ m, m < k ∧ ∃ j H', Inv (X.blk d Hd sc ce fp) ([] ++ pinsAt fp s7.heap) (wipe σ8 V1) H' s' ∧ tn1 j s'.heap ∧ (∀ b ∈ fp1, H' b = none) ∧ W1 j m H' := fun {s' H'} I' nx => by
              obtain ⟨m', hm, w'⟩ := hN1 H' nx
              have pin' : ∀ b ∈ fp1, ∀ o, s14.heap.get? b = some o → s'.heap.get? b = some o ∧ H' b = none := fun b hb o z => have y := I'.pin (b, o) (List.mem_append_right _ (List.mem_append_right _ (mem_pinsAt hb z))); ⟨y.1, y.2.1⟩
              exact ⟨m', hm, j + 1, H', I'.unpinned.weak (by rw [← hw15, wipe_length]) (fun j v z => by rw [← hw15] at z; exact (wipe_some z).1), T1.keep _ _ _ st14 fun b hb o z => (pin' b hb o z).1, fun b hb => (T1.obj _ _ st14 b hb).elim fun o z => (pin' b hb o z.1).2, w'⟩
            cases b1 with
            | false =>
              rw [if_neg Bool.false_ne_true] at q16
              exact fin1 I16 q16
            | true =>
              rw [if_pos rfl] at q16
              refine thnF (p6.run _ s16 σ15 H16 _ I16 q16) fun _ s17 ⟨yk, H17, I17, r17, q17⟩ => thnF (p7.run _ s17 σ15 H17 _ I17 q17) fun _ s18 ⟨yv, H18, I18, r18, kvs, kk, ek, hD18, hz18, nx⟩ => ?_
              subst ek
              exact d_dictSet (X := X.blk d Hd sc ce fp) I18 hD18 hz18 r17 r18 fun s19 I19 => fin1 I19 nx
        exact start1 loop1 (T1.self X.A 0 _ _ _ st11 loop1)
  exact codeAny_compStart_dict loop (T.self X.A 0 _ _ _ ste loop)
end
end Dc2
section
open PySem.Spec PyProof.Rows Dc2
variable {X : Cx}
theorem ps_setDc2 {i : Nat} {y : Str} {py : Pos} {kx vx t0 i0 t1 i1 : Expr} {f0 f1 : List Expr} {sc : Scope} {own : List (Str × Nat)} {V1 : List Nat} {pos spos : Pos} {wi wi1 : TI} {g g1 : TG} {tt tt1 : TT} {tk tv : TE} (hc : X.calm = true) (hN : X.N.Nodup) (hy : X.N[i]? = some y) (hyl : X.env.scope.names.lookup y = some .local)
    (hsw : swapsWith (two kx vx t0 i0 t1 i1 f0 f1 sc pos) (some (.Name y py)) spos.line X.env = pure true) (hi : PI X t0 i0 wi) (ok : BlkOk X.N X.env.scope sc own) (sub : ∀ i ∈ V1, i ∈ own.map (·.2))
    (a1 : Blk X sc fun Y => PG Y t0 g) (a2 : Blk X sc fun Y => PTs Y f0 tt) (a3 : Blk X sc fun Y => PI Y t1 i1 wi1) (a4 : Blk X sc fun Y => PG Y t1 g1) (a5 : Blk X sc fun Y => PTs Y f1 tt1) (a6 : Blk X sc fun Y => PE Y kx tk) (a7 : Blk X sc fun Y => PE Y vx tv)
    (hs : ∀ x, foldedSetIterable i0 X.env x = pure x := by intro _; rfl) (hs1 : ∀ env x, foldedSetIterable i1 env x = pure x := by intro _ _; rfl) :
    PS X (.Assign [.Name y py] (two kx vx t0 i0 t1 i1 f0 f1 sc pos) spos) (tAsg (tDc2 wi g tt wi1 g1 tt1 tk tv (own.map (·.2)) V1) (gName i)) :=
  ⟨fun pins s σ H T I h => by
    rw [exec_Assign_Name_used _ _ _ _ hsw]
    refine wpAny_bind (wpAny_standAt (wpAny_bind ?_))
    change wpAny _ X.A (bind (comprehension (two kx vx t0 i0 t1 i1 f0 f1 sc pos) sc X.env (firstIterPos [⟨t0, i0, f0, 0⟩, ⟨t1, i1, f1, 0⟩] pos) newDict false (eval i0 X.env) (some (assign (.Name y py) X.env))) _) _ _ s
    exact wpAny_bind (thn (Dc2.core (Q := fun x H1 => gName i x σ H1 T.nx) (Qf := fun _ u => SP X pins T .next u) hc hN I hi ok sub a1 a2 a3 a4 a5 a6 a7 hs hs1 h fun _ _ _ _ _ J q hn f => store_back hN hy hyl J q hn f) fun _ _ hq => wpAny_pure (wpAny_pure hq))⟩
end
/-! ## k59: moves_of -/
open M59 (isR fstR Ok byS tk isT src)
/-- any comprehension over what is walked -/
theorem it_gen {J : It} {n : Nat} {GG : Hp → Prop} {Y : Nat → Hp → V → Hp → Prop} (w : Walk J n GG Y) {B : (Hp → Prop) → V → Hp → Prop} {H0 : Hp} {Qd : Hp → Prop} (Pv : Nat → Hp → Prop) (h0 : Pv 0 H0) (hG : ∀ i H, i ≤ n → Pv i H → GG H)
    (hs : ∀ i x H H', i < n → Pv i H → Y i H x H' → B (Pv (i + 1)) x H') (hd : ∀ H, Pv n H → Qd H) :
    ∃ W : Nat → Nat → Hp → Prop, (∃ m, W 0 m H0) ∧ ∀ i m H, W i m H → (J.stop i H ∧ Qd H) ∨ (J.go i H ∧ ∃ Nx : Hp → Prop, (∀ H', Nx H' → ∃ m', m' < m ∧ W (i + 1) m' H') ∧ ∀ x H', J.yld i H x H' → B Nx x H') := by
  refine ⟨fun i m H => m + i = n ∧ Pv i H, ⟨n, by omega, h0⟩, ?_⟩
  rintro i m H ⟨e, p⟩
  have q := hG i H (by omega) p
  by_cases lt : i < n
  · exact .inr ⟨w.goes i H lt q, Pv (i + 1), fun H' p' => ⟨m - 1, by omega, by omega, p'⟩, fun x H' y => hs i x H H' lt p (w.yields i H x H' lt q y)⟩
  · have e2 : i = n := by omega
    subst e2
    exact .inl ⟨w.stops H q, hd H p⟩
theorem sum_le {α : Type} {f : α → Nat} {n : Nat} : ∀ l : List α, (∀ x ∈ l, f x ≤ n) → (l.map f).sum ≤ l.length * n
  | [], _ => Nat.zero_le _
  | x :: l, h => by
    have h1 := sum_le l fun y hy => h y (List.mem_cons_of_mem _ hy)
    have h2 := h x (List.mem_cons_self ..)
    rw [List.map_cons, List.sum_cons, List.length_cons, Nat.succ_mul]
    omega
theorem rts_of {ps : M59.Prs} (ok : Ok ps) : M59.Rts ps (M59.fixed ps) ((M59.keys ps).filter (fun p => !isT ps p) ++ M59.fixed ps) := by
  have RG := M59.rings_ok ok
  have fT : ∀ x ∈ M59.fixed ps, isT ps x = true := fun x hx => by
    obtain ⟨r, hr, hx⟩ := List.mem_flatten.mp hx
    exact (M59.isT_iff ok).mpr ((RG.ok r hr).mv x hx).2
  refine ⟨List.nodup_append.mpr ⟨List.Nodup.sublist (List.filter_sublist ..) (List.Nodup.sublist (List.filter_sublist ..) List.nodup_range), RG.nd, fun x hx y hy e => ?_⟩, fun x hx => List.mem_append_right _ hx, fun x hx => ?_, fun x hx hT => List.mem_append_left _ (List.mem_filter.mpr ⟨hx, by rw [hT]; rfl⟩), fun x hx => ?_⟩
  · subst e
    have h1 := (List.mem_filter.mp hx).2
    rw [fT x hy] at h1
    cases h1
  · rcases List.mem_append.mp hx with hx | hx
    · have h1 := (List.mem_filter.mp hx).2
      cases e : isT ps x with
      | true => rw [e] at h1; cases h1
      | false => exact .inr rfl
    · exact .inl hx
  · rcases List.mem_append.mp hx with hx | hx
    · exact keys_lt (List.mem_filter.mp hx).1
    · exact (isT_lt ok (fT x hx)).1
theorem fx_of {ps : M59.Prs} (ok : Ok ps) : ∀ p, isT ps p = true → (M59.ringAt ps p).isSome = true → p ∈ M59.fixed ps := fun p hp h => (M59.rings_ok ok).all p ((M59.tgs_mem ok).mpr hp) h
theorem keyed_isSome {kv : List (Key × V)} {q : List Nat} (hk : kv.map (·.1) = q.map keyP) (h18 : ∀ y ∈ q, y < 18) {p : Nat} (hp : p < 18) : (valV kv (keyP p)).isSome = decide (p ∈ q) := by
  by_cases c : p ∈ q
  · rw [decide_eq_true c]
    cases e : valV kv (keyP p) with
    | some v => rfl
    | none => exact absurd (by rw [hk]; exact List.mem_map.mpr ⟨p, c, rfl⟩) (valV_not e)
  · rw [keys_no hk h18 hp c, decide_eq_false c]
    rfl
theorem keyed_len {kv : List (Key × V)} {q : List Nat} (hk : kv.map (·.1) = q.map keyP) (nd : q.Nodup) (h18 : ∀ y ∈ q, y < 18) : kv.length < sizeLine := by
  have := congrArg List.length hk
  rw [List.length_map, List.length_map] at this
  have h2 := SkF.len18 nd h18
  exact Nat.lt_of_le_of_lt (show kv.length ≤ 18 by omega) (by decide)
def spMovesOf : Sp := fun vs H Q _ => ∃ (a hp : Addr) (ps : M59.Prs) (h0 h1 : Nat), vs = [.ref a, .ref hp] ∧ PsH H a ps ∧ Ok ps ∧ H hp = some (.tup [plV h0, plV h1]) ∧ h0 < 18 ∧ h1 < 18 ∧
  ∀ (H' : Hp) (q : Addr) (l : List Nat), Same H H' → TuL rowC H' q (M59.allRows ps h0 h1 l) → M59.Lp ps (M59.fixed ps) l → Q (.ref q) H'
section
variable {P : Program} {w : World} {K : PySem.W.Frag} {mg : Str → Option Value} {base : Heap}
theorem sc_moves_of : FnScope ["pairs", "helpers", "takers", "rings", "rows", "fixed", "ring", "place", "targets", "target", "source", "roots", "turned"] ["pairs", "helpers"] (defScope s_moves_of) := ⟨rfl, rfl, rfl, by decide +kernel, rfl, by decide +kernel, by decide +kernel⟩
theorem ok_movesof {f C fI : Addr} {fd fdI : FuncData} (F : FnP K "moves_of" s_moves_of f fd) (T : RgC K mg C) (M : Mk K C fI) (GI : FnOk P w K mg base CX0 4 fI fdI ["self", "places", "takers", "helpers"] (spRgI C)) (bI : Binds K fdI ["self", "places", "takers", "helpers"] [])
    (c_takers_of : Cal P w K mg base 5 "takers_of" ["pairs"] spTakers) (c_rings_of : Cal P w K mg base 5 "rings_of" ["pairs"] spRings) (c_sources_below : Cal P w K mg base 1 "sources_below" ["roots", "takers", "fixed"] spBelow) (c_taken : Cal P w K mg base 3 "taken" ["place", "takers", "helper"] spTaken) (c_turn : CalM P w K mg base C 5 "turn" ["self"] (spTurn C)) (G : NkF K mg) (lis : mg "list" = none) :
    FnOk P w K mg base CX0 6 f fd ["pairs", "helpers"] spMovesOf := by
  obtain ⟨f_takers_of, fd_takers_of, g_takers_of, k_takers_of, b_takers_of, G_takers_of⟩ := c_takers_of
  obtain ⟨f_rings_of, fd_rings_of, g_rings_of, k_rings_of, b_rings_of, G_rings_of⟩ := c_rings_of
  obtain ⟨f_sources_below, fd_sources_below, g_sources_below, k_sources_below, b_sources_below, G_sources_below⟩ := c_sources_below
  obtain ⟨f_taken, fd_taken, g_taken, k_taken, b_taken, G_taken⟩ := c_taken
  obtain ⟨ft, fdt, mt, bt, Gt⟩ := c_turn
  refine F.ok sc_moves_of (fun vs H Q E h => ?_) (fun cdv A outer s H vs Q E hr h => ?_)
  · obtain ⟨a, hp, ps, h0, h1, rfl, _⟩ := h
    rfl
  · obtain ⟨a, hp, ps, h0, h1, rfl, hP, ok, eh, h018, h118, k⟩ := h
    have nd := sc_moves_of.nd
    have hu := hu_of hr
    apply Exists.intro
    apply And.intro
    case left =>
     apply PSs.nox
     apply pss_cons
     · exact (ps_par3 (X := (cxOf CX0 P w K mg base ["pairs", "helpers", "takers", "rings", "rows", "fixed", "ring", "place", "targets", "target", "source", "roots", "turned"] "moves_of" (defScope s_moves_of) f cdv A outer s H E).nox) (i := 2) (j := 3) (l := 4) rfl nd rfl rfl rfl (by decide) (by decide) (by decide) rfl rfl rfl (pa_cons (pe_call G_takers_of (hr.mono (by decide)) rfl g_takers_of k_takers_of b_takers_of .nil pass0 (pa_cons (pv 0) pa_nil)) (pa_cons (pe_call G_rings_of (hr.mono (by decide)) rfl g_rings_of k_rings_of b_rings_of .nil pass0 (pa_cons (pv 0) pa_nil)) (pa_cons (pe_lst pa_nil) pa_nil))) (by rfl))
     apply pss_cons
     · exact (ps_setDc2 (i := 5) (own := [("ring", 6), ("place", 7)]) (V1 := [7]) (g := gName 6) (g1 := gName 7) rfl nd rfl rfl (swD_true rfl rfl rfl (by decide +kernel)) (pi_list (pv 3)) (blkOk_by (own := [("ring", 6), ("place", 7)]) (N := ["pairs", "helpers", "takers", "rings", "rows", "fixed", "ring", "place", "targets", "target", "source", "roots", "turned"]) (sc := defScope s_moves_of) (by decide +kernel)) (by decide) (fun _ _ _ _ _ => pg_name (i := 6) nd rfl (Or.inl rfl)) (fun _ _ _ _ _ => pts_nil) (fun _ _ _ _ _ => pi_tupK (K := K) (pv 6)) (fun _ _ _ _ _ => pg_name (i := 7) nd rfl (Or.inl rfl)) (fun _ _ _ _ _ => pts_nil) (fun _ _ _ _ _ => pv 7) (fun _ _ _ _ _ => pe_bl))
     apply pss_cons
     · exact (ps_set (i := 8) nd rfl (.inr rfl) (pe_dc (own := [("target", 9), ("source", 10)]) (g := gTup K 2 (gCons (gName 9) (gCons (gName 10) gNil))) rfl nd (pi_or (pi_list (pv 0)) (pi_tup (pv 0))) (blkOk_by (own := [("target", 9), ("source", 10)]) (N := ["pairs", "helpers", "takers", "rings", "rows", "fixed", "ring", "place", "targets", "target", "source", "roots", "turned"]) (sc := defScope s_moves_of) (by decide +kernel)) (fun _ _ _ _ _ => by exact (pg_tup rfl (pgs_cons (pg_name (i := 9) nd rfl (Or.inl rfl)) (pgs_cons (pg_name (i := 10) nd rfl (Or.inl rfl)) pgs_nil)))) (fun _ _ _ _ _ => pts_one (pt_cmpR op_ne (pv 9) (pv 10) (nomark _))) (fun _ _ _ _ _ => (pv 9)) (fun _ _ _ _ _ => pe_bl)))
     apply pss_cons
     · exact (ps_lock (ps_set (i := 11) nd rfl (.inl rfl) (pe_op op_cat (pe_lc (own := [("place", 7)]) (g := gName 7) rfl nd (pi_keys (pv 2)) (blkOk_by (own := [("place", 7)]) (N := ["pairs", "helpers", "takers", "rings", "rows", "fixed", "ring", "place", "targets", "target", "source", "roots", "turned"]) (sc := defScope s_moves_of) (by decide +kernel)) (fun _ _ _ _ _ => (pg_name (i := 7) nd rfl (Or.inl rfl))) (fun _ _ _ _ _ => pts_one (pt_cmp (pc_dnotin (by exact hu) (pv 7) (pv 8)))) (fun _ _ _ _ _ => (pv 7))) (pe_callTy (call_listD (by rfl)) (by rfl) lis (by decide +kernel) (pa_cons (pv 5) pa_nil)))))
     apply pss_cons
     · apply ps_for PassesOwn.never rfl
       · exact (pi_list (pe_call G_sources_below (hr.mono (by decide)) rfl g_sources_below k_sources_below b_sources_below .nil pass0 (pa_cons (pv 11) (pa_cons (pv 2) (pa_cons (pv 5) pa_nil)))))
       · exact (pg_name (i := 7) nd rfl (Or.inl rfl))
       · apply pss_one
         exact (ps_expr (pe_bm PySem.F.plainAttrs_list PySem.F.slot_list_extend PySem.F.type_list_extend mt_extend (pv 4) (pa_cons (pe_call G_taken (hr.mono (by decide)) rfl g_taken k_taken b_taken .nil pass0 (pa_cons (pv 7) (pa_cons (pe_dget hu (pv 2) (pv 7) (fun _ _ => rfl)) (pa_cons (pe_ix ix_tup (pv 1) pe_int (fun _ _ => rfl)) pa_nil)))) pa_nil)))
     apply pss_cons
     · apply ps_for PassesOwn.never rfl
       · exact (pi_list (pv 3))
       · exact (pg_name (i := 6) nd rfl (Or.inl rfl))
       · apply pss_cons
         · exact (ps_set (i := 12) nd rfl (.inl rfl) (pe_make M GI hr rfl T.g bI .nil pass0 (pa_cons (pv 6) (pa_cons (pv 2) (pa_cons (pv 1) pa_nil)))))
         apply pss_one
         exact (ps_expr (pe_bm PySem.F.plainAttrs_list PySem.F.slot_list_extend PySem.F.type_list_extend mt_extend (pv 4) (pa_cons (pe_meth0 (pv 12) T.c mt Gt (hr.mono (by decide)) bt .nil pass0) pa_nil)))
     apply pss_one
     exact (ps_ret (pv 4))
    case right =>
      have RGs := M59.rings_ok ok
      have fx18 : ∀ y ∈ M59.fixed ps, y < 18 := fun y hy => by
        obtain ⟨r, hr, hy⟩ := List.mem_flatten.mp hy
        exact (RGs.ok r hr).lt ok y hy
      refine ⟨_, rfl, a, ps, rfl, hP, ok, fun H1 d kvT s1 ndd eT1 hT1 => ⟨_, rfl, a, ps, rfl, hP.same s1, ok, fun H2 rg s2 nrg tl2 => ⟨(show 0 ≤ sizeLine by decide), fun L hL => ⟨_, _, _, rfl, ?_⟩⟩⟩⟩
      have sL := same_new (o := .lst []) hL
      have eL3 : (upd H2 L (.lst [])) L = some (.lst ([].map V.ref)) := upd_same
      have s03 := (s1.trans s2).trans sL
      have nL : H L = none := (s1.trans s2).free hL
      have eT3 := sL _ _ (s2 _ _ eT1)
      have hT3 := (hT1.same s2).same sL
      have rgL : rg ≠ L := fun z => by
        obtain ⟨_, h, _⟩ := tl2
        rw [z, hL] at h
        cases h
      obtain ⟨rs, erg, turg⟩ := tl2.same sL
      generalize upd H2 L (.lst []) = H3 at eL3 s03 eT3 hT3 erg turg ⊢
      clear sL hL s1 s2
      refine ⟨_, rfl, rg, rfl, ⟨_, SqL.of erg⟩, fun FD hFD => ?_⟩
      refine it_gen (walk_list (xs := rs.map V.ref)) (fun i H' => ∃ kv, H' FD = some (.dK kv) ∧ kv.map (·.1) = ((M59.rings ps).take i).flatten.map keyP ∧ Same H3 H') ⟨[], upd_same, rfl, same_new hFD⟩ (fun i H' _ ⟨_, _, _, s⟩ => SqL.of (s _ _ erg)) ?_ ?_
      · rintro i x Hx H' hi ⟨kv, eFD, hk, s4⟩ ⟨rfl, hx⟩
        obtain ⟨q, r, rfl, hq, hr, eq⟩ := turg.ref hx
        refine ⟨rfl, yesIf ⟨_, rfl, q, rfl, ⟨_, SqT.of (s4 _ _ eq)⟩, ?_⟩⟩
        have rin := List.mem_of_getElem? hr
        have tkf : ((M59.rings ps).take (i + 1)).flatten = ((M59.rings ps).take i).flatten ++ r := by
          rw [take_snoc2 hr, List.flatten_append, List.flatten_singleton]
        have ndf : (((M59.rings ps).take i).flatten ++ r).Nodup := by
          rw [← tkf]
          refine List.Nodup.sublist ?_ RGs.nd
          conv => rhs; rw [← List.take_append_drop (i + 1) (M59.rings ps)]
          rw [List.flatten_append]
          exact List.sublist_append_left _ _
        have f18 : ∀ y ∈ ((M59.rings ps).take i).flatten ++ r, y < 18 := fun y hy => by
          rw [← tkf] at hy
          obtain ⟨r', hr', hy⟩ := List.mem_flatten.mp hy
          exact fx18 y (List.mem_flatten.mpr ⟨r', List.mem_of_mem_take hr', hy⟩)
        refine it_gen (walk_tup (xs := rgC r)) (fun j H' => ∃ kv, H' FD = some (.dK kv) ∧ kv.map (·.1) = (((M59.rings ps).take i).flatten ++ r.take j).map keyP ∧ Same H3 H') ⟨kv, eFD, by rw [List.take_zero, List.append_nil]; exact hk, s4⟩ (fun j H' _ ⟨_, _, _, s⟩ => SqT.of (s _ _ eq)) ?_ ?_
        · rintro j y Hy H5 hj ⟨kv2, eF5, hk5, s5⟩ ⟨rfl, hy⟩
          obtain ⟨z, hz, rfl⟩ : ∃ z, r[j]? = some z ∧ y = plV z := by
            unfold rgC at hy
            rw [List.getElem?_map] at hy
            cases e : r[j]? with
            | none => rw [e] at hy; cases hy
            | some t => rw [e] at hy; injection hy with hy; exact ⟨t, rfl, hy.symm⟩
          have subj : List.Sublist (((M59.rings ps).take i).flatten ++ r.take j) (((M59.rings ps).take i).flatten ++ r) := List.Sublist.append (List.Sublist.refl _) (List.take_sublist _ _)
          have q18 : ∀ y ∈ ((M59.rings ps).take i).flatten ++ r.take j, y < 18 := fun y hy => f18 y (subj.subset hy)
          have z18 := f18 z (List.mem_append_right _ (List.mem_of_getElem? hz))
          have zn : z ∉ ((M59.rings ps).take i).flatten ++ r.take j := fun hz2 => by
            have h7 : (((M59.rings ps).take i).flatten ++ r.take (j + 1)).Nodup := List.Nodup.sublist (List.Sublist.append (List.Sublist.refl _) (List.take_sublist _ _)) ndf
            rw [take_snoc2 hz, ← List.append_assoc] at h7
            exact (List.nodup_append.mp h7).2.2 _ hz2 _ (List.mem_singleton.mpr rfl) rfl
          refine ⟨rfl, yesIf ⟨_, rfl, kv2, keyP z, rfl, eF5, keyed_len hk5 (List.Nodup.sublist subj ndf) q18, _, upd_same, ?_, same_sub s5 hFD⟩⟩
          rw [putK_new _ (keys_no hk5 q18 z18 zn), List.map_append, hk5, take_snoc2 hz]
          simp [List.map_append]
        · rintro H5 ⟨kv2, eF5, hk5, s5⟩
          have hl : (rgC r).length = r.length := List.length_map _
          rw [hl, List.take_length, ← tkf] at hk5
          exact ⟨kv2, eF5, hk5, s5⟩
      rintro H4 ⟨kvF, eFD, hkF, s4⟩
      have hrl : (rs.map V.ref).length = (M59.rings ps).length := by rw [List.length_map]; exact turg.length
      rw [hrl, List.take_length] at hkF
      have hFx4 : FxD H4 FD (M59.fixed ps) := ⟨kvF, eFD, fun p hp => keyed_isSome hkF fx18 hp⟩
      have FDd : FD ≠ d := fun z => by rw [z, eT3] at hFD; cases hFD
      have eL4 := s4 _ _ eL3
      have eT4 := s4 _ _ eT3
      have hT4 := hT3.same s4
      have erg4 := s4 _ _ erg
      have turg4 := turg.same s4
      have s04 := s03.trans s4
      clear s4 s03 eL3 eT3 hT3 erg turg
      obtain ⟨as, hS, hA⟩ := hP
      refine ior_seqB rfl hS s04 fun J GG hw hG => fun TD hTD => ?_
      have TDd : TD ≠ d := fun z => by rw [z, eT4] at hTD; cases hTD
      have hal : (as.map V.ref).length = ps.length := by rw [List.length_map]; exact hA.length
      have mk18 : ∀ (qs : M59.Prs), (∀ m ∈ qs, m ∈ ps) → ∀ y ∈ (M59.mov qs).map (·.1), y < 18 := fun qs hq y hy => by
        obtain ⟨m, hm, rfl⟩ := List.mem_map.mp hy
        exact (ok.lt m (hq m (M59.mov_mem.mp hm).1)).1
      refine it_gen hw (fun i H' => ∃ kv, H' TD = some (.dK kv) ∧ kv.map (·.1) = ((M59.mov (ps.take i)).map (·.1)).map keyP ∧ Same H4 H') ⟨[], upd_same, rfl, same_new hTD⟩ (fun i H' _ ⟨_, _, _, s⟩ => hG _ (s04.trans s)) ?_ ?_
      · rintro i x Hx H5 hi ⟨kv, eTD, hk, s5⟩ ⟨rfl, hx⟩
        obtain ⟨q, m, rfl, hq, hm, eq⟩ := hA.ref hx
        obtain ⟨t, s⟩ := m
        have m18 := ok.lt _ (List.mem_of_getElem? hm)
        have mv : (M59.mov (ps.take (i + 1))).map (·.1) = (M59.mov (ps.take i)).map (·.1) ++ if t ≠ s then [t] else [] := by
          rw [take_snoc2 hm, mov_app, mov_one, List.map_append]
          by_cases c : t = s
          · rw [if_neg (fun z => z c), if_neg (fun z => z c)]
            rfl
          · rw [if_pos c, if_pos c]
            rfl
        refine ⟨q, _, rfl, SqT.of ((s04.trans s5) _ _ eq), rfl, _, _, rfl, _, _, rfl, rfl, rfl, ?_⟩
        refine ⟨_, rfl, _, rfl, rfl, _, rfl, ?_⟩
        rw [show decide (plV t = plV s) = decide (t = s) from plV_dec m18.1 m18.2]
        by_cases c : t = s
        · rw [decide_eq_true c]
          rw [if_neg (fun z => z c), List.append_nil] at mv
          exact iteN1 ⟨kv, eTD, by rw [mv]; exact hk, s5⟩
        · rw [decide_eq_false c]
          rw [if_pos c] at mv
          have tn : t ∉ (M59.mov (ps.take i)).map (·.1) := fun z => by
            have h7 := (okTake ok (i + 1)).mov
            have h8 : ((M59.mov (ps.take (i + 1))).map (·.1)).Nodup := h7
            rw [mv] at h8
            exact (List.nodup_append.mp h8).2.2 _ z _ (List.mem_singleton.mpr rfl) rfl
          have k18 := mk18 (ps.take i) fun m hm => List.mem_of_mem_take hm
          refine iteN0 ⟨_, rfl, kv, keyP t, rfl, eTD, keyed_len hk (okTake ok i).mov k18, _, upd_same, ?_, same_sub s5 hTD⟩
          rw [putK_new _ (keys_no hk k18 m18.1 tn), List.map_append, hk, mv]
          simp [List.map_append]
      rintro H5 ⟨kvM, eTD, hkM, s5⟩
      rw [hal, List.take_length] at hkM
      have mT : ∀ p, p < 18 → (valV kvM (keyP p)).isSome = isT ps p := fun p hp => keyed_isSome hkM (mk18 ps fun _ h => h) hp
      have eL5 := s5 _ _ eL4
      have eT5 := s5 _ _ eT4
      have hT5 := hT4.same s5
      have erg5 := s5 _ _ erg4
      have turg5 := turg4.same s5
      have hFx5 := hFx4.same s5
      have eFD5 := s5 _ _ eFD
      have s05 := s04.trans s5
      clear s04 eL4 eT4 hT4 erg4 turg4 hFx4
      obtain ⟨kvT', hR, hkT, hvT⟩ := id hT5
      have ekT : kvT' = kvT := by
        rcases hR with h | ⟨o, h⟩
        · rw [eT5] at h; injection h with h; injection h with h; exact h.symm
        · rw [eT5] at h; cases h
      subst ekT
      have kn : (M59.keys ps).Nodup := List.Nodup.sublist (List.filter_sublist ..) List.nodup_range
      have kl : (M59.keys ps).length ≤ 18 := SkF.len18 kn fun z hz => keys_lt hz
      have lk : kvT'.length = (M59.keys ps).length := by
        have := congrArg List.length hkT
        rwa [List.length_map, List.length_map] at this
      refine ⟨d, _, eT5, trivial, fun od => ?_⟩
      refine ⟨_, rfl, d, od, rfl, .inl ⟨kvT', upd_same, fun RL hRL => ?_⟩⟩
      have RLd : RL ≠ d := fun z => by rw [z, upd_same] at hRL; cases hRL
      have hRL5 : H5 RL = none := by rw [upd_ne RLd] at hRL; exact hRL
      refine it_gen walk_keys (fun i H' => H' d = some (.frz od (.dK kvT')) ∧ H' RL = some (.lst ((((M59.keys ps).take i).filter fun p => !isT ps p).map plV)) ∧ Sb d H5 H') ⟨by rw [upd_ne (Ne.symm RLd)]; exact upd_same, upd_same, fun b o n e => ?_⟩ (fun i H' _ h => h.1) ?_ ?_
      · rw [upd_ne (ne_of_none e hRL5), upd_ne n]
        exact e
      · rintro i x Hx H6 hi ⟨f1, f2, f3⟩ ⟨rfl, kk, v, hkv, rfl⟩
        obtain ⟨n, hn, rfl⟩ : ∃ n, (M59.keys ps)[i]? = some n ∧ kk = keyP n := by
          have := congrArg (fun l => l[i]?) hkT
          rw [List.getElem?_map, List.getElem?_map, hkv] at this
          cases e : (M59.keys ps)[i]? with
          | none => rw [e] at this; cases this
          | some n => rw [e] at this; injection this with this; exact ⟨n, rfl, this⟩
        have n18 := keys_lt (List.mem_of_getElem? hn)
        have eTD6 := f3 _ _ TDd eTD
        have ft : ((M59.keys ps).take (i + 1)).filter (fun p => !isT ps p) = ((M59.keys ps).take i).filter (fun p => !isT ps p) ++ if (!isT ps n) = true then [n] else [] := by
          rw [take_snoc2 hn, List.filter_append, List.filter_cons, List.filter_nil]
        refine ⟨rfl, _, rfl, _, rfl, TD, _, rfl, .inl ⟨kvM, keyP n, .inl eTD6, rfl, rfl⟩, _, rfl, ?_⟩
        rw [mT n n18]
        cases c : isT ps n with
        | true =>
          rw [c] at ft
          refine iteN1 ⟨f1, ?_, f3⟩
          rw [ft]
          simpa using f2
        | false =>
          rw [c] at ft
          refine iteN0 ⟨_, rfl, _, f2, ?_, by rw [upd_ne (Ne.symm RLd)]; exact f1, ?_, fun b o nb e => ?_⟩
          · rw [List.length_map]
            have h1 : (((M59.keys ps).take i).filter fun p => !isT ps p).length ≤ ((M59.keys ps).take i).length := List.length_filter_le _ _
            have h2 := List.length_take_le' i (M59.keys ps)
            exact Nat.lt_of_le_of_lt (show (((M59.keys ps).take i).filter fun p => !isT ps p).length ≤ 18 by omega) (by decide)
          · rw [upd_same, ft]
            simp
            rfl
          · rw [upd_ne (ne_of_none e hRL5)]
            exact f3 b o nb e
      rintro H6 ⟨f1, f2, f3⟩
      rw [lk, List.take_length] at f2
      refine ⟨_, rfl, FD, kvF, rfl, .inl (f3 _ _ FDd eFD5), fun L2 hL2 => ⟨_, _, _, _, rfl, rfl, (same_new hL2) _ _ f2, upd_same, ?_, fun RR hRR => ?_⟩⟩
      · have h1 : (List.filter (fun p => !isT ps p) (M59.keys ps)).length ≤ (M59.keys ps).length := List.length_filter_le _ _
        have h2 := congrArg List.length hkF
        rw [List.length_map, List.length_map] at h2
        have h3 := SkF.len18 RGs.nd fx18
        rw [List.length_map, List.length_map]
        exact Nat.le_trans (show (List.filter (fun p => !isT ps p) (M59.keys ps)).length + kvF.length ≤ 36 by
          rw [h2]
          have : (M59.rings ps).flatten.length ≤ 18 := h3
          omega) (by decide)
      have s6 : Sb d H5 (upd H6 L2 (.lst (kvF.map fun p => kV p.1))) := f3.trans (Sb.of (same_new hL2))
      have f1' := (same_new (o := .lst (kvF.map fun p => kV p.1)) hL2) _ _ f1
      have RRd : RR ≠ d := fun z => by rw [z, f1'] at hRR; cases hRR
      have evF : (kvF.map fun p => kV p.1) = (M59.fixed ps).map plV := by
        have := congrArg (List.map kV) hkF
        rw [List.map_map, List.map_map] at this
        exact this
      have f1'' := (same_new (o := .lst ((List.filter (fun p => !isT ps p) (M59.keys ps)).map plV ++ kvF.map fun p => kV p.1)) hRR) _ _ f1'
      refine ⟨f1'', ?_⟩
      have s7 : Same H5 (upd (upd (upd H6 L2 (.lst (kvF.map fun p => kV p.1))) RR (.lst ((List.filter (fun p => !isT ps p) (M59.keys ps)).map plV ++ kvF.map fun p => kV p.1))) d (.dK kvT')) := fun b o e => by
        by_cases z : b = d
        · subst z
          rw [upd_same, ← e, eT5]
        · rw [upd_ne z]
          exact (s6.trans (Sb.of (same_new hRR))) b o z e
      have eR7 : (upd (upd (upd H6 L2 (.lst (kvF.map fun p => kV p.1))) RR (.lst ((List.filter (fun p => !isT ps p) (M59.keys ps)).map plV ++ kvF.map fun p => kV p.1))) d (.dK kvT')) RR = some (.lst (((M59.keys ps).filter (fun p => !isT ps p) ++ M59.fixed ps).map plV)) := by
        rw [upd_ne RRd, upd_same, evF, List.map_append]
      generalize upd (upd (upd H6 L2 (.lst (kvF.map fun p => kV p.1))) RR (.lst ((List.filter (fun p => !isT ps p) (M59.keys ps)).map plV ++ kvF.map fun p => kV p.1))) d (.dK kvT') = H7 at s7 eR7 ⊢
      have s07 := s05.trans s7
      refine ⟨_, rfl, _, rfl, _, rfl, RR, d, FD, ps, M59.fixed ps, _, rfl, eR7, hT5.same s7, hFx5.same s7, ok, rts_of ok, fx_of ok, fun H8 q l s8 nq eq hlp => ?_⟩
      have qL : q ≠ L := fun z => by rw [z, s7 _ _ eL5] at nq; cases nq
      have s78 := s7.trans s8
      have eL8 := s78 _ _ eL5
      have hT8 := hT5.same s78
      have erg8 := s78 _ _ erg5
      have turg8 := turg5.same s78
      have s08 := s05.trans s78
      have eh8 := s08 _ _ eh
      clear s7 s8 s78 s07
      have l18 : l.length ≤ 18 := SkF.len18 hlp.nd fun p hp => keys_lt ((hlp.mem p).mp hp).1
      have tl : ∀ p, (M59.taken p (tk ps p) h0).length ≤ 19 := fun p => by
        have h2 := tk_len ok p
        unfold M59.taken
        split
        · rw [List.length_map]
          omega
        · rw [List.length_cons, List.length_map]
          have h1 : ((tk ps p).filter fun t => decide (t ≠ (fstR (tk ps p)).getD h0)).length ≤ (tk ps p).length := List.length_filter_le _ _
          omega
      refine ⟨q, rfl, ⟨_, SqL.of eq⟩, ?_⟩
      refine for_it (walk_list (xs := l.map plV)) (fun i σ H' => ∃ w6 w7 w9 w10 w12, σ = [some (.ref a), some (.ref hp), some (.ref d), some (.ref rg), some (.ref L), some (.ref FD), w6, w7, some (.ref TD), w9, w10, some (.ref RR), w12] ∧ Sb L H8 H' ∧ TuL rowC H' L ((l.take i).flatMap fun p => M59.taken p (tk ps p) h0)) ⟨_, _, _, _, _, rfl, (fun _ _ _ e => e), [], eL8, .nil⟩ (fun i σ H' _ ⟨_, _, _, _, _, _, s9, _⟩ => SqL.of (s9 _ _ qL eq)) ?_ ?_
      · rintro i x σ Hx H9 hi ⟨w6, w7, w9, w10, w12, rfl, s9, ⟨bs, eL9, tu9⟩⟩ ⟨rfl, hx⟩
        obtain ⟨p, hp2, rfl⟩ : ∃ p, l[i]? = some p ∧ x = plV p := by
          rw [List.getElem?_map] at hx
          cases e : l[i]? with
          | none => rw [e] at hx; cases hx
          | some t => rw [e] at hx; injection hx with hx; exact ⟨t, rfl, hx.symm⟩
        have pk := ((hlp.mem p).mp (List.mem_of_getElem? hp2)).1
        have hT9 := hT8.sb ok s9 eL8
        obtain ⟨T0, gT, eT0⟩ := hT9.at pk
        have hpL : hp ≠ L := fun z => by rw [z, eL8] at eh8; cases eh8
        have eh9 := s9 _ _ hpL eh8
        refine ⟨_, rfl, .inl ⟨rfl, _, SqL.of eL9⟩, _, rfl, _, rfl, _, rfl, d, _, rfl, gT, _, rfl, hp, _, 0, _, rfl, rfl, SqT.of eh9, atI_nat (j := 0) rfl, p, T0, tk ps p, plV h0, h0, rfl, keys_lt pk, eT0, tk_len ok p, (fun t ht => (M59.tk_lt ok ht).1), .inl ⟨rfl, h018⟩, fun H10 qn s10 nqn tln => ?_⟩
        obtain ⟨cs, ec, tc⟩ := tln
        have eL10 := s10 _ _ eL9
        refine ⟨L, qn, _, _, rfl, rfl, eL10, ec, ?_, _, _, _, _, _, rfl, (s9.trans (Sb.of s10)).upd, bs ++ cs, ?_, ?_⟩
        · have h1 := flat_le (f := fun p => M59.taken p (tk ps p) h0) (n := 19) (l.take i) fun y _ => tl y
          have h2 := List.length_take_le' i l
          have h3 := tl p
          have h4 : (l.take i).length * 19 ≤ 18 * 19 := Nat.mul_le_mul_right 19 (by omega)
          rw [List.length_map, List.length_map, tu9.length, tc.length]
          exact Nat.le_trans (show ((l.take i).flatMap fun p => M59.taken p (tk ps p) h0).length + (M59.taken p (tk ps p) h0).length ≤ 1000 by omega) (by decide)
        · rw [upd_same, List.map_append]
        · have fl : (l.take (i + 1)).flatMap (fun p => M59.taken p (tk ps p) h0) = (l.take i).flatMap (fun p => M59.taken p (tk ps p) h0) ++ M59.taken p (tk ps p) h0 := by
            rw [take_snoc2 hp2, List.flatMap_append]
            simp
          rw [fl]
          exact ((tu9.same s10).app tc).put eL10 fun vs z => by cases z
      · rintro σ H9 ⟨w6, w7, w9, w10, w12, rfl, s9, tl9⟩
        rw [List.length_map, List.take_length] at tl9
        have erg9 := s9 _ _ rgL erg8
        refine ⟨_, rfl, rg, rfl, ⟨_, SqL.of erg9⟩, ?_⟩
        refine for_it (walk_list (xs := rs.map V.ref)) (fun i σ H' => ∃ w6 w7 w9 w10 w12, σ = [some (.ref a), some (.ref hp), some (.ref d), some (.ref rg), some (.ref L), some (.ref FD), w6, w7, some (.ref TD), w9, w10, some (.ref RR), w12] ∧ Sb L H8 H' ∧ TuL rowC H' L (l.flatMap (fun p => M59.taken p (tk ps p) h0) ++ ((M59.rings ps).take i).flatMap (M59.ringRows ps h0 h1))) ⟨_, _, _, _, _, rfl, s9, by rw [List.take_zero, List.flatMap_nil, List.append_nil]; exact tl9⟩ (fun i σ H' _ ⟨_, _, _, _, _, _, s10, _⟩ => SqL.of (s10 _ _ rgL erg8)) ?_ ?_
        · rintro i x σ Hx H10 hi ⟨w6', w7', w9', w10', w12', rfl, s10, ⟨bs, eL10, tu10⟩⟩ ⟨rfl, hx⟩
          obtain ⟨qr, r, rfl, hqr, hr, eqr⟩ := turg8.ref hx
          have RP := RGs.ok r (List.mem_of_getElem? hr)
          have qrL : qr ≠ L := fun z => by rw [z, eL8] at eqr; cases eqr
          have hpL : hp ≠ L := fun z => by rw [z, eL8] at eh8; cases eh8
          have eqr10 := s10 _ _ qrL eqr
          have eh10 := s10 _ _ hpL eh8
          have hT10 := hT8.sb ok s10 eL8
          refine ⟨_, rfl, _, rfl, _, rfl, fun x dx nx ndx nex => ?_⟩
          have sx : Same H10 (upd (upd H10 dx (.own x)) x (.ins C dx [])) := fun b o e => by
            rw [upd_ne (ne_of_none e nx), upd_ne (ne_of_none e ndx)]
            exact e
          refine ⟨x, qr, d, hp, dx, ps, r, h0, h1, rfl, upd_same, sx _ _ eqr10, hT10.same sx, sx _ _ eh10, ok, RP, fun H11 LR sb11 nLR RG11 TL11 => ⟨rfl, ?_⟩⟩
          have nLR10 : H10 LR = none := by
            cases e : H10 LR with
            | none => rfl
            | some o => rw [sx _ _ e] at nLR; cases nLR
          have s11 : Same H10 H11 := fun b o e => sb11 b o (ne_of_none e nx) (sx b o e)
          obtain ⟨dx', R', d', hp', D1, D2, kv1, kv2, Lf, RGP⟩ := id RG11
          have eL11 := s11 _ _ eL10
          have LRL : L ≠ LR := fun z => by rw [← z, eL10] at nLR10; cases nLR10
          have il : (r.flatMap (M59.init ps r)).length ≤ 400 := by
            have h3 := flat_le (f := M59.init ps r) (n := 18) r fun y hy => by
              have h1 := M59.len_init ok (r := r) y
              have h2 : (M59.outs ps r y).length ≤ (tk ps y).length := List.length_filter_le _ _
              have h3 := tk_len ok y
              omega
            have h4 : r.length * 18 ≤ 18 * 18 := Nat.mul_le_mul_right 18 (SkF.len18 RP.nd (RP.lt ok))
            omega
          refine ⟨_, rfl, .inl ⟨rfl, _, SqL.of eL11⟩, _, rfl, x, dx', _, rfl, RGP.ei, rfl, x, LR, ps, r, h0, h1, _, rfl, RG11, ok, RP, TL11, by omega, fun H12 sb12 TL12 => ?_⟩
          have s12 : Same H10 H12 := fun b o e => sb12 b o (ne_of_none e nLR10) (s11 b o e)
          obtain ⟨cs, ec, tc⟩ := TL12
          have eL12 := s12 _ _ eL10
          have rowsE : r.flatMap (M59.init ps r) ++ M59.turn ps r (M59.turned r ((M59.opens ps r).getD (0, none)).1) ((M59.opens ps r).getD (0, none)).2 h0 h1 = M59.ringRows ps h0 h1 r := rfl
          rw [rowsE] at tc
          have rlen : ∀ r ∈ M59.rings ps, (M59.ringRows ps h0 h1 r).length ≤ 400 := fun r hr => by
            have RP := RGs.ok r hr
            rw [M59.ringRows_len ok RP]
            have h3 := sum_le (f := fun p => (tk ps p).length + M59.b2n (byS ps p)) (n := 19) r fun y hy => by
              have h3 := tk_len ok y
              have h4 : M59.b2n (byS ps y) ≤ 1 := by
                unfold M59.b2n
                split <;> omega
              omega
            have h4 : r.length * 19 ≤ 18 * 19 := Nat.mul_le_mul_right 19 (SkF.len18 RP.nd (RP.lt ok))
            have h5 : M59.b2n (M59.opens ps r).isNone ≤ 1 := by
              unfold M59.b2n
              split <;> omega
            omega
          refine ⟨L, LR, _, _, rfl, rfl, eL12, ec, ?_, _, _, _, _, _, rfl, (s10.trans (Sb.of s12)).upd, bs ++ cs, ?_, ?_⟩
          · have g1 := flat_le (f := fun p => M59.taken p (tk ps p) h0) (n := 19) l fun y _ => tl y
            have h4 : l.length * 19 ≤ 18 * 19 := Nat.mul_le_mul_right 19 l18
            have h5 := flat_le (f := M59.ringRows ps h0 h1) (n := 400) ((M59.rings ps).take i) fun y hy => rlen y (List.mem_of_mem_take hy)
            have h6 := List.length_take_le' i (M59.rings ps)
            have h7 := flat_len (M59.rings ps) fun r hr => (RGs.ok r hr).ne
            have h8 := SkF.len18 RGs.nd fx18
            have h9 : ((M59.rings ps).take i).length * 400 ≤ 18 * 400 := Nat.mul_le_mul_right 400 (by omega)
            have h10 := rlen r (List.mem_of_getElem? hr)
            rw [List.length_map, List.length_map, tu10.length, tc.length, List.length_append]
            exact Nat.le_trans (show (l.flatMap fun p => M59.taken p (tk ps p) h0).length + (((M59.rings ps).take i).flatMap (M59.ringRows ps h0 h1)).length + (M59.ringRows ps h0 h1 r).length ≤ 9000 by omega) (by decide)
          · rw [upd_same, List.map_append]
          · have fl : ((M59.rings ps).take (i + 1)).flatMap (M59.ringRows ps h0 h1) = ((M59.rings ps).take i).flatMap (M59.ringRows ps h0 h1) ++ M59.ringRows ps h0 h1 r := by
              rw [take_snoc2 hr, List.flatMap_append]
              simp
            rw [fl, ← List.append_assoc]
            exact ((tu10.same s12).app tc).put eL12 fun vs z => by cases z
        · rintro σ H10 ⟨w6', w7', w9', w10', w12', rfl, s10, tl10⟩
          rw [hrl, List.take_length] at tl10
          have s010 : Same H H10 := fun b o e => s10 b o (ne_of_none e nL) (s08 b o e)
          exact ⟨_, rfl, k H10 L l s010 tl10 hlp⟩
end
/-! ## k59: need_pairs -/
open M59 (isR fstR Ok byS tk isT src)
/-- no place at all -/
def NoP (K : PySem.W.Frag) (H : Hp) (x : V) : Prop := (∃ t, x = .str (sT t) ∧ tx t ∧ mplB t = false) ∨ NotStr K H x
theorem NoP.same {K : PySem.W.Frag} {H H' : Hp} {x : V} (s : Same H H') (h : NoP K H x) : NoP K H' x := h.imp id (notStr_sm s)
/-- no tuple -/
def NoT (K : PySem.W.Frag) (H : Hp) (x : V) : Prop := ∃ t, TyX K H x t ∧ PySem.W.kitOne K t (.type "tuple") = some false
theorem NoT.same {K : PySem.W.Frag} {H H' : Hp} {x : V} (s : Same H H') (h : NoT K H x) : NoT K H' x := by
  obtain ⟨t, h1, h2⟩ := h
  exact ⟨t, TyX.sm s h1, h2⟩
/-- an item of a list of pairs, judged -/
inductive ItJ (K : PySem.W.Frag) (H : Hp) : V → Option (Nat × Nat) → Prop
  | non {x : V} (h : NoT K H x) : ItJ K H x none
  | len {p : Addr} {xs : List V} (h : H p = some (.tup xs)) (n : xs.length ≠ 2) : ItJ K H (.ref p) none
  | fst {p : Addr} {x y : V} (h : H p = some (.tup [x, y])) (n : NoP K H x) : ItJ K H (.ref p) none
  | snd {p : Addr} {i : Nat} {y : V} (h : H p = some (.tup [plV i, y])) (hi : i < 18) (n : NoP K H y) : ItJ K H (.ref p) none
  | one {p : Addr} {m : Nat × Nat} (h : H p = some (.tup (prC m))) (h1 : m.1 < 18) (h2 : m.2 < 18) : ItJ K H (.ref p) (some m)
theorem ItJ.same {K : PySem.W.Frag} {H H' : Hp} {x : V} {o : Option (Nat × Nat)} (s : Same H H') (h : ItJ K H x o) : ItJ K H' x o := by
  cases h with
  | non h => exact .non (h.same s)
  | len h n => exact .len (s _ _ h) n
  | fst h n => exact .fst (s _ _ h) (n.same s)
  | snd h hi n => exact .snd (s _ _ h) hi (n.same s)
  | one h h1 h2 => exact .one (s _ _ h) h1 h2
def ItA (K : PySem.W.Frag) (H : Hp) (xs : List V) (os : List (Option (Nat × Nat))) : Prop := xs.length = os.length ∧ ∀ (i : Nat) (x : V), xs[i]? = some x → ∃ o, os[i]? = some o ∧ ItJ K H x o
theorem ItA.same {K : PySem.W.Frag} {H H' : Hp} {xs : List V} {os : List (Option (Nat × Nat))} (s : Same H H') (h : ItA K H xs os) : ItA K H' xs os := ⟨h.1, fun i x e => by
  obtain ⟨o, h1, h2⟩ := h.2 i x e
  exact ⟨o, h1, h2.same s⟩⟩
def BadI (os : List (Option (Nat × Nat))) (i : Nat) : Prop := ∃ ms : M59.Prs, os.take i = ms.map some ∧ (ms.map (·.1)).Nodup ∧ (os[i]? = some none ∨ ∃ m : Nat × Nat, os[i]? = some (some m) ∧ m.1 ∈ ms.map (·.1))
def GoodI (os : List (Option (Nat × Nat))) : Prop := ∃ ms : M59.Prs, os = ms.map some ∧ (ms.map (·.1)).Nodup
theorem map_some_inj {α : Type} : ∀ {a b : List α}, a.map some = b.map some → a = b
  | [], [], _ => rfl
  | [], _ :: _, h => by cases h
  | _ :: _, [], h => by cases h
  | x :: a, y :: b, h => by
    injection h with h1 h2
    injection h1 with h1
    rw [h1, map_some_inj h2]
/-- the first bad one is one alone -/
theorem badI_no {os : List (Option (Nat × Nat))} {i j : Nat} {ms : M59.Prs} (h : BadI os i) (e : os.take j = ms.map some) (hj : i < j) (nd : (ms.map (·.1)).Nodup) : False := by
  obtain ⟨ns, e1, n1, h⟩ := h
  have e2 : os.take i = (ms.take i).map some := by
    rw [List.map_take, ← e, List.take_take, Nat.min_eq_left (Nat.le_of_lt hj)]
  have e3 : ns = ms.take i := map_some_inj (e1.symm.trans e2)
  have at_ : os[i]? = (ms[i]?).map some := by
    rw [← List.getElem?_map, ← e, List.getElem?_take, if_pos hj]
  rcases h with h | ⟨m, h, hm⟩
  · rw [at_] at h
    cases q : ms[i]? with
    | none => rw [q] at h; cases h
    | some m => rw [q] at h; cases h
  · rw [at_] at h
    cases q : ms[i]? with
    | none => rw [q] at h; cases h
    | some m' =>
      rw [q] at h
      injection h with h
      injection h with h
      subst h
      rw [e3] at hm
      have h7 : ((ms.take (i + 1)).map (·.1)).Nodup := List.Nodup.sublist (List.Sublist.map _ (List.take_sublist _ _)) nd
      rw [take_snoc2 q, List.map_append] at h7
      exact (List.nodup_append.mp h7).2.2 _ hm _ (List.mem_singleton.mpr rfl) rfl
theorem badI_one {os : List (Option (Nat × Nat))} {i j : Nat} (h : BadI os i) (g : BadI os j) : i = j := by
  rcases Nat.lt_trichotomy i j with c | c | c
  · exact (badI_no h g.choose_spec.1 c g.choose_spec.2.1).elim
  · exact c
  · exact (badI_no g h.choose_spec.1 c h.choose_spec.2.1).elim
theorem badI_good {os : List (Option (Nat × Nat))} {i : Nat} (h : BadI os i) (g : GoodI os) : False := by
  obtain ⟨ms, e, nd⟩ := g
  have lt : i < os.length := by
    obtain ⟨_, _, _, c | ⟨_, c, _⟩⟩ := h
    · exact (List.getElem?_eq_some_iff.mp c).1
    · exact (List.getElem?_eq_some_iff.mp c).1
  exact badI_no h (j := os.length) (by rw [List.take_length]; exact e) lt nd
/-- how need_pairs ends -/
def NeedP (C : Addr) (os : List (Option (Nat × Nat))) (H : Hp) (Q : VK) (E : XK) : Prop := (∃ i, BadI os i ∧ atE C (.int ((i : Nat) : Int)) H E) ∨ (GoodI os ∧ ∀ H', Same H H' → Q .non H')
def spNeedP (K : PySem.W.Frag) (C : Addr) : Sp := fun vs H Q E => ∃ x, vs = [x] ∧ ((NsV H x ∧ atE C .non H E) ∨ ∃ a xs, x = .ref a ∧ SeqH H a xs ∧ ((60 < xs.length ∧ atE C .non H E) ∨ ∃ os, xs.length ≤ 60 ∧ ItA K H xs os ∧ NeedP C os H Q E))
section
variable {P : Program} {w : World} {K : PySem.W.Frag} {mg : Str → Option Value} {base : Heap}
theorem nop_rd {H : Hp} {x : V} {Q : VK} {E : XK} (h : NoP K H x) (k : ∀ H', Same H H' → Q (.bl false) H') : spTxO K mplB [x] H Q E := by
  rcases h with ⟨t, rfl, ht, hb⟩ | h
  · exact ⟨_, rfl, .inl ⟨t, rfl, ht, fun H' s => by rw [hb]; exact k H' s⟩⟩
  · exact ⟨_, rfl, .inr ⟨h, k⟩⟩
theorem mpl_rd {H : Hp} {i : Nat} {Q : VK} {E : XK} (hi : i < 18) (k : ∀ H', Same H H' → Q (.bl true) H') : spTxO K mplB [plV i] H Q E := by
  refine ⟨_, rfl, .inl ⟨pc i, congrArg V.str (pl_pc i), pc_tx i hi, fun H' s => ?_⟩⟩
  have e : mplB (pc i) = true := by
    unfold mplB
    rw [pc_reg i hi, pc_slot i hi]
    cases isR i <;> rfl
  rw [e]
  exact k H' s
theorem sc_need_pairs : FnScope ["pairs", "seen", "at", "pair"] ["pairs"] (defScope s_need_pairs) := ⟨rfl, rfl, rfl, by decide +kernel, rfl, by decide +kernel, by decide +kernel⟩
theorem ok_needP {f C : Addr} {fd : FuncData} (F : FnP K "need_pairs" s_need_pairs f fd) (c_is_machine_place : Cal P w K mg base 3 "is_machine_place" ["thing"] (spTxO K mplB)) (g_MOST_PAIRS : ∃ t, mg "MOST_PAIRS" = some (.int 60 t)) (G : NkF K mg) (B : Ix1 P w K mg base "BadPairs" C "at") (tup : mg "tuple" = none) (lis : mg "list" = none) (m_enumerate : mg "enumerate" = none) :
    FnOk P w K mg base (L2.CX P w) 4 f fd ["pairs"] (spNeedP K C) := by
  obtain ⟨f_is_machine_place, fd_is_machine_place, g_is_machine_place, k_is_machine_place, b_is_machine_place, G_is_machine_place⟩ := c_is_machine_place
  obtain ⟨_, g_MOST_PAIRS⟩ := g_MOST_PAIRS
  obtain ⟨fi, fdi, iC, tI, OI, bi⟩ := B.i
  refine F.ok sc_need_pairs (fun vs H Q E h => ?_) (fun cdv A outer s H vs Q E hr h => ?_)
  · obtain ⟨x, rfl, _⟩ := h
    rfl
  · obtain ⟨x, rfl, h⟩ := h
    have nd := sc_need_pairs.nd
    have hu := hu_of hr
    apply Exists.intro
    apply And.intro
    case left =>
     apply pss_cons
     · exact (ps_if (PW.pt (pw_or (pt_not (pt_val (pe_callB call_isiT (by rfl) G.isi (by decide +kernel) (pa_cons (pv 0) (pa_cons (pe_tup (pa_cons (pe_bltn (v := .ty "list") (by rfl) lis (by decide +kernel) rfl) (pa_cons (pe_bltn (v := .ty "tuple") (by rfl) tup (by decide +kernel) rfl) pa_nil))) pa_nil))))) (pw_or1 (pt_cmpR op_gt (pe_callB call_len (by rfl) G.len PySem.boot_len (pa_cons (pv 0) pa_nil)) (pe_glob (v := .int 60) (by rfl) g_MOST_PAIRS ⟨_, rfl⟩) (nomark _))))) (pss_one (ps_raise rfl (takes_of rfl rfl rfl rfl) (pmk_oex B.o iC tI OI (hr.mono (show 2 ≤ 3 by decide)) bi .nil pass0 rfl B.g (pa_cons pe_non pa_nil)))) pss_nil)
     apply pss_cons
     · exact (ps_set (i := 1) nd rfl (.inl rfl) pe_dnewK)
     apply pss_one
     apply ps_for (passes_of rfl) rfl
     · exact (pi_or (pi_enum (by rfl) m_enumerate (pa_cons (pv 0) pa_nil)) (pi_enumT (by rfl) m_enumerate (pa_cons (pv 0) pa_nil)))
     · exact (pg_tup rfl (pgs_cons (pg_name (i := 2) nd rfl (Or.inl rfl)) (pgs_cons (pg_name (i := 3) nd rfl (Or.inl rfl)) pgs_nil)))
     · apply pss_cons
       · exact (ps_if (PW.pt (pw_or (pt_not (pt_val (pe_callB call_isi (by rfl) G.isi (by decide +kernel) (pa_cons (pv 3) (pa_cons (pe_bltn (v := .ty "tuple") (by rfl) tup (by decide +kernel) rfl) pa_nil))))) (pw_or1 (pt_cmpR op_ne (pe_callB call_len (by rfl) G.len PySem.boot_len (pa_cons (pv 3) pa_nil)) pe_int (nomark _))))) (pss_one (ps_raise rfl (takes_of rfl rfl rfl rfl) (pmk_oex B.o iC tI OI (hr.mono (show 2 ≤ 3 by decide)) bi .nil pass0 rfl B.g (pa_cons (pv 2) pa_nil)))) pss_nil)
       apply pss_cons
       · exact (ps_if (PW.pt (pw_or (pt_not (pt_val (pe_call G_is_machine_place (hr.mono (by decide)) rfl g_is_machine_place k_is_machine_place b_is_machine_place .nil pass0 (pa_cons (pe_ix ix_tup (pv 3) pe_int (fun _ _ => rfl)) pa_nil)))) (pw_or (pt_not (pt_val (pe_call G_is_machine_place (hr.mono (by decide)) rfl g_is_machine_place k_is_machine_place b_is_machine_place .nil pass0 (pa_cons (pe_ix ix_tup (pv 3) pe_int (fun _ _ => rfl)) pa_nil)))) (pw_or1 (pt_cmp (pc_din hu (pe_ix ix_tup (pv 3) pe_int (fun _ _ => rfl)) (pv 1))))))) (pss_one (ps_raise rfl (takes_of rfl rfl rfl rfl) (pmk_oex B.o iC tI OI (hr.mono (show 2 ≤ 3 by decide)) bi .nil pass0 rfl B.g (pa_cons (pv 2) pa_nil)))) pss_nil)
       apply pss_one
       exact (ps_dput hu (pv 1) (pe_ix ix_tup (pv 3) pe_int (fun _ _ => rfl)) pe_bl rfl)
    case right =>
      rcases h with ⟨hN, q⟩ | ⟨a, xs, rfl, hS, h⟩
      · refine ⟨_, rfl, (show 2 ≤ sizeLine by decide), fun p hp => ?_⟩
        obtain ⟨t, h1, h2, h3⟩ := (hN.same (same_new (o := .tup [.ty "list", .ty "tuple"]) hp)).ty (K := K)
        exact ⟨x, p, _, t, [.type "list", .type "tuple"], false, rfl, upd_same, .cons (.ty _) (.cons (.ty _) .nil), h1, kitAny_cons h2 (fun _ => kitAny_cons h3 (fun _ => kitAny_nil) fun z => by cases z) (fun z => by cases z), _, rfl, iteN0 (iteT (raise_i1 (q.same (same_new hp))))⟩
      refine ⟨_, rfl, (show 2 ≤ sizeLine by decide), fun p hp => ?_⟩
      have sp := same_new (o := .tup [.ty "list", .ty "tuple"]) hp
      have kit : ∃ t, TyX K (upd H p (.tup [.ty "list", .ty "tuple"])) (.ref a) t ∧ PySem.W.kitAny K t [.type "list", .type "tuple"] = some true := by
        rcases hS with h | h
        · exact ⟨_, .base (.lst (sp _ _ h)), kitAny_cons (kit_ty (b := "list") (r := true) (by decide +kernel)) (fun z => by cases z) fun _ => rfl⟩
        · exact ⟨_, .base (.tup (sp _ _ h)), kitAny_cons (kit_ty (b := "list") (r := false) (by decide +kernel)) (fun _ => kitAny_cons (kit_ty (b := "tuple") (r := true) (by decide +kernel)) (fun z => by cases z) fun _ => rfl) fun z => by cases z⟩
      obtain ⟨t, h1, h2⟩ := kit
      refine ⟨.ref a, p, _, t, [.type "list", .type "tuple"], true, rfl, upd_same, .cons (.ty _) (.cons (.ty _) .nil), h1, h2, _, rfl, iteN1 ?_⟩
      clear h1 h2
      have hS := hS.same sp
      refine ⟨_, rfl, _, _, rfl, hS.imp (fun e => ⟨_, SqL.of e, rfl⟩) (fun e => ⟨_, SqT.of e, rfl⟩), _, _, rfl, rfl, _, rfl, ?_⟩
      rcases h with ⟨hl, q⟩ | ⟨os, hl, hA, h⟩
      · rw [decide_eq_true (show (xs.length : Int) > 60 by omega)]
        exact iteT (raise_i1 (q.same sp))
      rw [decide_eq_false (show ¬ (xs.length : Int) > 60 by omega)]
      refine iteF ?_
      have hA := hA.same sp
      have h : NeedP C os (upd H p (.tup [.ty "list", .ty "tuple"])) Q E := by
        rcases h with ⟨i, b, c⟩ | ⟨b, c⟩
        · exact .inl ⟨i, b, c.same sp⟩
        · exact .inr ⟨b, fun H' s' => c H' (sp.trans s')⟩
      generalize upd H p (.tup [.ty "list", .ty "tuple"]) = H1 at hS hA h ⊢
      intro D hD
      refine ior_enumB rfl hS (same_new hD) fun J GG hw hG => ?_
      refine for_it hw (fun i σ H' => ∃ (ms : M59.Prs) (kv : List (Key × V)) (v2 v3 : Option V), os.take i = ms.map some ∧ (ms.map (·.1)).Nodup ∧ (∀ m ∈ ms, m.1 < 18) ∧ Same H1 H' ∧ H1 D = none ∧ H' D = some (.dK kv) ∧ kv.map (·.1) = (ms.map (·.1)).map keyP ∧ σ = [some (.ref a), some (.ref D), v2, v3]) ⟨[], [], _, _, rfl, .nil, (fun _ h => nomatch h), same_new hD, hD, upd_same, rfl, rfl⟩ (fun i σ H' _ ⟨_, _, _, _, _, _, _, s1, _⟩ => hG _ s1) ?_ ?_
      · rintro i x σ H' Hx hi ⟨ms, kv, v2, v3, g1, g2, g18, s1, hDn, eD, hk, rfl⟩ ⟨Tp, x1, x2, rfl, hT, rfl, hx1, hx2⟩
        cases hx1
        obtain ⟨o, ho, hJ⟩ := hA.2 _ _ hx2
        have sT := same_new (o := .tup [.int (i : Int), x2]) hT
        have s2 := s1.trans sT
        have eD2 := sT _ _ eD
        have hJ := hJ.same s2
        have bad : BadI os i → ∀ H', Same H1 H' → atE C (.int ((i : Nat) : Int)) H' E := fun hb H' s' => by
          rcases h with ⟨j, b, c⟩ | ⟨b, c⟩
          · have := badI_one b hb
            subst this
            exact c.same s'
          · exact (badI_good hb b).elim
        have badN : os[i]? = some none → ∀ H', Same H1 H' → atE C (.int ((i : Nat) : Int)) H' E := fun e => bad ⟨ms, g1, g2, .inl e⟩
        refine ⟨Tp, _, rfl, SqT.of upd_same, rfl, _, _, rfl, _, _, rfl, rfl, ?_⟩
        generalize upd H' Tp (.tup [.int (i : Int), x2]) = H2 at s2 eD2 hJ ⊢
        cases hJ with
        | non hn =>
          obtain ⟨t, h1, h2⟩ := hn
          exact ⟨_, rfl, _, _, t, _, false, rfl, .ty _, h1, h2, _, rfl, iteN0 (iteT ⟨_, rfl, raise_i1 (badN ho _ s2)⟩)⟩
        | @len p ys hp n =>
          refine ⟨_, rfl, _, _, _, _, true, rfl, .ty _, .base (.tup hp), kit_ty (by decide +kernel), _, rfl, iteN1 ?_⟩
          refine ⟨_, rfl, _, _, rfl, .inr ⟨_, SqT.of hp, rfl⟩, rfl, _, rfl, ?_⟩
          rw [decide_eq_false (show ¬ V.int (ys.length : Int) = V.int 2 from fun z => n (by injection z with z; omega))]
          exact iteN0 ⟨_, rfl, raise_i1 (badN ho _ s2)⟩
        | @fst p y z hp n =>
          refine ⟨_, rfl, _, _, _, _, true, rfl, .ty _, .base (.tup hp), kit_ty (by decide +kernel), _, rfl, iteN1 ?_⟩
          refine ⟨_, rfl, _, _, rfl, .inr ⟨_, SqT.of hp, rfl⟩, rfl, _, rfl, ?_⟩
          rw [decide_eq_true (show V.int (([y, z] : List V).length : Int) = V.int 2 from rfl)]
          refine iteN1 ?_
          refine ⟨_, rfl, p, _, 0, _, rfl, rfl, SqT.of hp, atI_nat (j := 0) rfl, rd1 (nop_rd n fun H3 s3 => ⟨_, rfl, iteN0 (iteT ⟨_, rfl, raise_i1 (badN ho _ (s2.trans s3))⟩)⟩)⟩
        | @snd p j y hp hj n =>
          refine ⟨_, rfl, _, _, _, _, true, rfl, .ty _, .base (.tup hp), kit_ty (by decide +kernel), _, rfl, iteN1 ?_⟩
          refine ⟨_, rfl, _, _, rfl, .inr ⟨_, SqT.of hp, rfl⟩, rfl, _, rfl, ?_⟩
          rw [decide_eq_true (show V.int (([plV j, y] : List V).length : Int) = V.int 2 from rfl)]
          refine iteN1 ?_
          refine ⟨_, rfl, p, _, 0, _, rfl, rfl, SqT.of hp, atI_nat (j := 0) rfl, rd1 (mpl_rd hj fun H3 s3 => ⟨_, rfl, iteN1 ?_⟩)⟩
          refine ⟨_, rfl, p, _, 1, _, rfl, rfl, SqT.of (s3 _ _ hp), atI_nat (j := 1) rfl, rd1 (nop_rd (n.same s3) fun H4 s4 => ⟨_, rfl, iteN0 (iteT ⟨_, rfl, raise_i1 (badN ho _ ((s2.trans s3).trans s4))⟩)⟩)⟩
        | @one p m hp h1 h2 =>
          refine ⟨_, rfl, _, _, _, _, true, rfl, .ty _, .base (.tup hp), kit_ty (by decide +kernel), _, rfl, iteN1 ?_⟩
          refine ⟨_, rfl, _, _, rfl, .inr ⟨_, SqT.of hp, rfl⟩, rfl, _, rfl, ?_⟩
          rw [decide_eq_true (show V.int ((prC m).length : Int) = V.int 2 from rfl)]
          refine iteN1 ?_
          refine ⟨_, rfl, p, _, 0, _, rfl, rfl, SqT.of hp, atI_nat (j := 0) rfl, rd1 (mpl_rd h1 fun H3 s3 => ⟨_, rfl, iteN1 ?_⟩)⟩
          refine ⟨_, rfl, p, _, 1, _, rfl, rfl, SqT.of (s3 _ _ hp), atI_nat (j := 1) rfl, rd1 (mpl_rd h2 fun H4 s4 => ⟨_, rfl, iteN1 ?_⟩)⟩
          have s34 := s3.trans s4
          have hp4 := s34 _ _ hp
          have eD4 := s34 _ _ eD2
          have q18 : ∀ y ∈ ms.map (·.1), y < 18 := fun y hy => by
            obtain ⟨m', hm', rfl⟩ := List.mem_map.mp hy
            exact g18 m' hm'
          refine ⟨_, rfl, p, _, 0, _, rfl, rfl, SqT.of hp4, atI_nat (j := 0) rfl, _, rfl, D, _, rfl, .inl ⟨kv, keyP m.1, .inl eD4, rfl, rfl⟩, _, rfl, ?_⟩
          rw [keyed_isSome hk q18 h1]
          by_cases c : m.1 ∈ ms.map (·.1)
          · rw [decide_eq_true c]
            exact iteT ⟨_, rfl, raise_i1 (bad ⟨ms, g1, g2, .inr ⟨m, ho, c⟩⟩ _ (s2.trans s34))⟩
          rw [decide_eq_false c]
          refine iteF ?_
          refine ⟨_, rfl, _, rfl, p, _, 0, _, rfl, rfl, SqT.of hp4, atI_nat (j := 0) rfl, D, _, rfl, .inl ⟨kv, keyP m.1, eD4, rfl, keyed_len hk g2 q18, rfl⟩, ?_⟩
          refine ⟨ms ++ [m], _, _, _, ?_, ?_, fun m' hm' => ?_, same_sub (s2.trans s34) hDn, hDn, upd_same, ?_, rfl⟩
          · rw [take_snoc2 ho, g1, List.map_append]
            rfl
          · rw [List.map_append]
            exact List.nodup_append.mpr ⟨g2, by simp, fun x hx y hy e => c (by
              have h9 : y = m.1 := List.mem_singleton.mp hy
              rw [← h9, ← e]
              exact hx)⟩
          · rcases List.mem_append.mp hm' with hm' | hm'
            · exact g18 m' hm'
            · rw [List.mem_singleton.mp hm']
              exact h1
          · rw [putK_new _ (keys_no hk q18 h1 c), List.map_append, hk]
            simp
      · rintro σ H2 ⟨ms, kv, v2, v3, g1, g2, g18, s1, hDn, eD, hk, rfl⟩
        rcases h with ⟨i, b, c⟩ | ⟨b, c⟩
        · rw [hA.1, List.take_length] at g1
          exact (badI_good b ⟨ms, g1, g2⟩).elim
        · exact c _ s1
end
/-! ## k59: openings -/
open M59 (isR fstR Ok byS tk isT src)
def slC (p : Nat) : List V := [.str "slots", plV p]
inductive RnA (H : Hp) : List Addr → List (List Nat) → Prop
  | nil : RnA H [] []
  | cons {a q : Addr} {r : List Nat} {as : List Addr} {rs : List (List Nat)} (h : H a = some (.tup [.str "ring", .ref q])) (e : H q = some (.tup (rgC r))) (t : RnA H as rs) : RnA H (a :: as) (r :: rs)
section
variable {H H' : Hp}
theorem RnA.same (s : Same H H') : ∀ {as : List Addr} {rs : List (List Nat)}, RnA H as rs → RnA H' as rs
  | _, _, .nil => .nil
  | _, _, .cons h e t => .cons (s _ _ h) (s _ _ e) (t.same s)
theorem RnA.length : ∀ {as : List Addr} {rs : List (List Nat)}, RnA H as rs → as.length = rs.length
  | _, _, .nil => rfl
  | _, _, .cons _ _ t => congrArg (· + 1) t.length
theorem RnA.app : ∀ {as bs : List Addr} {rs ss : List (List Nat)}, RnA H as rs → RnA H bs ss → RnA H (as ++ bs) (rs ++ ss)
  | _, _, _, _, .nil, g => g
  | _, _, _, _, .cons h e t, g => .cons h e (t.app g)
theorem RnA.put {x : Addr} {o : HO} {vs : List V} (e : H x = some (.lst vs)) : ∀ {as : List Addr} {rs : List (List Nat)}, RnA H as rs → RnA (upd H x o) as rs
  | _, _, .nil => .nil
  | _, _, .cons h e2 t => .cons (by rw [upd_ne (fun z => by rw [z, e] at h; cases h)]; exact h) (by rw [upd_ne (fun z => by rw [z, e] at e2; cases e2)]; exact e2) (t.put e)
end
def opS (ps : M59.Prs) : List Nat := (M59.keys ps).filter (byS ps)
def opR (ps : M59.Prs) : List (List Nat) := (M59.rings ps).filter fun r => (M59.opens ps r).isNone
def OpL (H : Hp) (q : Addr) (ps : M59.Prs) : Prop := ∃ as bs : List Addr, H q = some (.lst (as.map V.ref ++ bs.map V.ref)) ∧ TuA slC H as (opS ps) ∧ RnA H bs (opR ps)
theorem TkD.lock {H : Hp} {d : Addr} {ps : M59.Prs} {kv : List (Key × V)} (e : H d = some (.dK kv)) (h : TkD H d ps) (od : Obj) : TkD (upd H d (.frz od (.dK kv))) d ps := by
  obtain ⟨kvs, h1, h2, h3⟩ := h
  have ek : kvs = kv := by
    rcases h1 with h | ⟨o, h⟩
    · rw [e] at h; injection h with h; injection h with h; exact h.symm
    · rw [e] at h; cases h
  subst ek
  refine ⟨kvs, .inr ⟨od, upd_same⟩, h2, fun p hp => ?_⟩
  obtain ⟨T, a, b⟩ := h3 p hp
  exact ⟨T, a, by rw [upd_ne (fun z => by rw [z, e] at b; cases b)]; exact b⟩
theorem itA_ps {K : PySem.W.Frag} {H : Hp} : ∀ {xs : List V} {ps : M59.Prs}, ItA K H xs (ps.map some) → ∃ as : List Addr, xs = as.map V.ref ∧ TuA prC H as ps
  | [], [], _ => ⟨[], rfl, .nil⟩
  | [], _ :: _, h => by have := h.1; cases this
  | _ :: _, [], h => by have := h.1; cases this
  | x :: xs, m :: ps, h => by
    obtain ⟨as, e, t⟩ := itA_ps (xs := xs) (ps := ps) (K := K) (H := H) ⟨by have := h.1; simpa using this, fun i x e => by
      obtain ⟨o, h1, h2⟩ := h.2 (i + 1) x (by simpa using e)
      exact ⟨o, by simpa using h1, h2⟩⟩
    obtain ⟨o, h1, h2⟩ := h.2 0 x rfl
    have h1 : some (some m) = some o := h1
    injection h1 with h1
    subst h1
    cases h2 with
    | @one p m h _ _ => exact ⟨p :: as, by rw [e]; rfl, .cons h t⟩
def spOpnP (K : PySem.W.Frag) (C : Addr) : Sp := fun vs H Q E => ∃ x, vs = [x] ∧ ((NsV H x ∧ atE C .non H E) ∨ ∃ a xs, x = .ref a ∧ SeqH H a xs ∧ ((60 < xs.length ∧ atE C .non H E) ∨ ∃ os, xs.length ≤ 60 ∧ ItA K H xs os ∧ ((∃ i, BadI os i ∧ atE C (.int ((i : Nat) : Int)) H E) ∨ ∃ ps, os = ps.map some ∧ Ok ps ∧ ∀ H' q, Same H H' → OpL H' q ps → Q (.ref q) H')))
section
variable {P : Program} {w : World} {K : PySem.W.Frag} {mg : Str → Option Value} {base : Heap}
theorem sc_openings : FnScope ["pairs", "takers", "found", "place", "ring"] ["pairs"] (defScope s_openings) := ⟨rfl, rfl, rfl, by decide +kernel, rfl, by decide +kernel, by decide +kernel⟩
theorem ok_openings {f C : Addr} {fd : FuncData} (F : FnP K "openings" s_openings f fd) (c_need_pairs : CalX P w K mg base 4 "need_pairs" ["pairs"] (spNeedP K C)) (c_takers_of : Cal P w K mg base 5 "takers_of" ["pairs"] spTakers) (c_rings_of : Cal P w K mg base 5 "rings_of" ["pairs"] spRings) (c_by_slots : Cal P w K mg base 3 "by_slots" ["takers", "place"] spByS) (c_opens : Cal P w K mg base 4 "opens" ["takers", "ring"] spOpens) (G : NkF K mg) :
    FnOk P w K mg base (L2.CX P w) 6 f fd ["pairs"] (spOpnP K C) := by
  obtain ⟨f_need_pairs, fd_need_pairs, g_need_pairs, k_need_pairs, b_need_pairs, G_need_pairs⟩ := c_need_pairs
  obtain ⟨f_takers_of, fd_takers_of, g_takers_of, k_takers_of, b_takers_of, G_takers_of⟩ := c_takers_of
  obtain ⟨f_rings_of, fd_rings_of, g_rings_of, k_rings_of, b_rings_of, G_rings_of⟩ := c_rings_of
  obtain ⟨f_by_slots, fd_by_slots, g_by_slots, k_by_slots, b_by_slots, G_by_slots⟩ := c_by_slots
  obtain ⟨f_opens, fd_opens, g_opens, k_opens, b_opens, G_opens⟩ := c_opens
  refine F.ok sc_openings (fun vs H Q E h => ?_) (fun cdv A outer s H vs Q E hr h => ?_)
  · obtain ⟨x, rfl, _⟩ := h
    rfl
  · obtain ⟨x, rfl, h⟩ := h
    have nd := sc_openings.nd
    have hu := hu_of hr
    apply Exists.intro
    apply And.intro
    case left =>
     apply pss_cons
     · exact (ps_expr (pe_call G_need_pairs (hr.mono (by decide)) rfl g_need_pairs k_need_pairs b_need_pairs .nil (passes_call (takes_of rfl rfl rfl rfl) (fun _ _ _ _ h => h)) (pa_cons (pv 0) pa_nil)))
     apply PSs.nox
     apply pss_cons
     · exact (ps_set (i := 1) nd rfl (.inr rfl) (pe_call G_takers_of (hr.mono (by decide)) rfl g_takers_of k_takers_of b_takers_of .nil pass0 (pa_cons (pv 0) pa_nil)))
     apply pss_cons
     · exact (ps_lock (ps_setLc (i := 2) (own := [("place", 3)]) (g := gName 3) rfl nd rfl rfl (sw_true rfl rfl rfl (by decide +kernel)) (pi_keys (pv 1)) (blkOk_by (own := [("place", 3)]) (N := ["pairs", "takers", "found", "place", "ring"]) (sc := defScope s_openings) (by decide +kernel)) (fun _ _ _ _ _ => (pg_name (i := 3) nd rfl (Or.inl rfl))) (fun _ _ _ _ _ => pts_one (pt_val (pe_call G_by_slots (hr.mono (by decide)) rfl g_by_slots k_by_slots b_by_slots .nil pass0 (pa_cons (pv 1) (pa_cons (pv 3) pa_nil))))) (fun _ _ _ _ _ => (pe_tup (pa_cons pe_str (pa_cons (pv 3) pa_nil))))))
     apply pss_one
     exact (ps_ret (pe_op op_cat (pv 2) (pe_lc (own := [("ring", 4)]) (g := gName 4) rfl nd (pi_list (pe_call G_rings_of (hr.mono (by decide)) rfl g_rings_of k_rings_of b_rings_of .nil pass0 (pa_cons (pv 0) pa_nil))) (blkOk_by (own := [("ring", 4)]) (N := ["pairs", "takers", "found", "place", "ring"]) (sc := defScope s_openings) (by decide +kernel)) (fun _ _ _ _ _ => (pg_name (i := 4) nd rfl (Or.inl rfl))) (fun _ _ _ _ _ => pts_one (pt_cmpR op_isN (pe_call G_opens (hr.mono (by decide)) rfl g_opens k_opens b_opens .nil pass0 (pa_cons (pv 1) (pa_cons (pv 4) pa_nil))) pe_non (nomark _))) (fun _ _ _ _ _ => (pe_tup (pa_cons pe_str (pa_cons (pv 4) pa_nil)))))))
    case right =>
      rcases h with ⟨h1, h2⟩ | ⟨a, xs, rfl, hS, ⟨h1, h2⟩ | ⟨os, hl, hA, ⟨i, h1, h2⟩ | ⟨ps, rfl, ok, k⟩⟩⟩
      · exact ⟨_, rfl, _, rfl, .inl ⟨h1, h2⟩⟩
      · exact ⟨_, rfl, _, rfl, .inr ⟨a, xs, rfl, hS, .inl ⟨h1, h2⟩⟩⟩
      · exact ⟨_, rfl, _, rfl, .inr ⟨a, xs, rfl, hS, .inr ⟨os, hl, hA, .inl ⟨i, h1, h2⟩⟩⟩⟩
      refine ⟨_, rfl, _, rfl, .inr ⟨a, xs, rfl, hS, .inr ⟨_, hl, hA, .inr ⟨⟨ps, rfl, ok.one⟩, fun H1 s1 => ?_⟩⟩⟩⟩
      obtain ⟨as0, rfl, tu0⟩ := itA_ps hA
      have hP : PsH H a ps := ⟨as0, hS, tu0⟩
      refine ⟨_, rfl, a, ps, rfl, hP.same s1, ok, fun H2 d kvT s2 ndd eT hT => ?_⟩
      have s02 := s1.trans s2
      obtain ⟨kvT', hR, hkT, _⟩ := id hT
      have ekT : kvT' = kvT := by
        rcases hR with h | ⟨o, h⟩
        · rw [eT] at h; injection h with h; injection h with h; exact h.symm
        · rw [eT] at h; cases h
      subst ekT
      have kn : (M59.keys ps).Nodup := List.Nodup.sublist (List.filter_sublist ..) List.nodup_range
      have kl : (M59.keys ps).length ≤ 18 := SkF.len18 kn fun z hz => keys_lt hz
      have lk : kvT'.length = (M59.keys ps).length := by
        have := congrArg List.length hkT
        rwa [List.length_map, List.length_map] at this
      refine ⟨d, _, eT, trivial, fun od => ?_⟩
      have hTl := hT.lock eT od
      refine ⟨_, rfl, d, od, rfl, .inl ⟨kvT', upd_same, fun FL hFL => ?_⟩⟩
      have FLd : FL ≠ d := fun z => by rw [z, upd_same] at hFL; cases hFL
      have hFL2 : H2 FL = none := by rw [upd_ne FLd] at hFL; exact hFL
      refine it_gen walk_keys (fun i H' => H' d = some (.frz od (.dK kvT')) ∧ TuL slC H' FL (((M59.keys ps).take i).filter (byS ps)) ∧ Sb d H2 H') ⟨by rw [upd_ne (Ne.symm FLd)]; exact upd_same, ⟨[], upd_same, .nil⟩, fun b o n e => ?_⟩ (fun i H' _ h => h.1) ?_ ?_
      · rw [upd_ne (ne_of_none e hFL2), upd_ne n]
        exact e
      · rintro i x Hx H6 hi ⟨f1, ⟨bs, f2, tu2⟩, f3⟩ ⟨rfl, kk, v, hkv, rfl⟩
        obtain ⟨n, hn, rfl⟩ : ∃ n, (M59.keys ps)[i]? = some n ∧ kk = keyP n := by
          have := congrArg (fun l => l[i]?) hkT
          rw [List.getElem?_map, List.getElem?_map, hkv] at this
          cases e : (M59.keys ps)[i]? with
          | none => rw [e] at this; cases this
          | some n => rw [e] at this; injection this with this; exact ⟨n, rfl, this⟩
        have n18 := keys_lt (List.mem_of_getElem? hn)
        have sl6 : Same (upd H2 d (.frz od (.dK kvT'))) H6 := fun b o e => by
          by_cases z : b = d
          · subst z
            rw [upd_same] at e
            rw [← e]
            exact f1
          · rw [upd_ne z] at e
            exact f3 b o z e
        have ft : ((M59.keys ps).take (i + 1)).filter (byS ps) = ((M59.keys ps).take i).filter (byS ps) ++ if byS ps n = true then [n] else [] := by
          rw [take_snoc2 hn, List.filter_append, List.filter_cons, List.filter_nil]
        refine ⟨rfl, _, rfl, _, rfl, d, n, ps, rfl, n18, hTl.same sl6, ok, fun H7 s7 => ⟨_, rfl, ?_⟩⟩
        have f1 := s7 _ _ f1
        have f2 := s7 _ _ f2
        have tu2 := tu2.same s7
        have f3 := f3.trans (Sb.of s7)
        cases c : byS ps n with
        | false =>
          rw [c] at ft
          refine iteF ⟨f1, ?_, f3⟩
          rw [ft]
          exact ⟨bs, f2, by simpa using tu2⟩
        | true =>
          rw [c, if_pos rfl] at ft
          refine iteT ⟨_, rfl, (show 2 ≤ sizeLine by decide), fun q hq => ⟨_, (same_new hq) _ _ f2, ?_, ?_, ?_, ?_⟩⟩
          · rw [List.length_map, tu2.length]
            have h1 : (((M59.keys ps).take i).filter (byS ps)).length ≤ ((M59.keys ps).take i).length := List.length_filter_le _ _
            have h2 := List.length_take_le' i (M59.keys ps)
            exact Nat.lt_of_le_of_lt (show (((M59.keys ps).take i).filter (byS ps)).length ≤ 18 by omega) (by decide)
          · rw [upd_ne (Ne.symm FLd)]
            exact (same_new hq) _ _ f1
          · rw [ft]
            refine ⟨bs ++ [q], by rw [upd_same, List.map_append]; rfl, ?_⟩
            exact ((tu2.same (same_new hq)).app (TuA.one (c := slC) (m := n) upd_same)).put ((same_new hq) _ _ f2) fun vs z => by cases z
          · exact fun b o nb e => by
              rw [upd_ne (ne_of_none e hFL2)]
              exact (same_new hq) _ _ (f3 b o nb e)
      rintro H6 ⟨f1, ⟨bs, f2, tu2⟩, f3⟩
      rw [lk, List.take_length] at tu2
      refine ⟨f1, ?_⟩
      have s27 : Same H2 (upd H6 d (.dK kvT')) := fun b o e => by
        by_cases z : b = d
        · subst z
          rw [upd_same, ← e, eT]
        · rw [upd_ne z]
          exact f3 b o z e
      have eF7 : (upd H6 d (.dK kvT')) FL = some (.lst (bs.map V.ref)) := by rw [upd_ne FLd]; exact f2
      have tu7 : TuA slC (upd H6 d (.dK kvT')) bs (opS ps) := tu2.put f1 fun vs z => by cases z
      generalize upd H6 d (.dK kvT') = H7 at s27 eF7 tu7 ⊢
      have s07 := s02.trans s27
      have RGs := M59.rings_ok ok
      refine ⟨_, rfl, _, rfl, a, ps, rfl, hP.same s07, ok, fun H8 rq s8 nrq ⟨rs, erq, turq⟩ => ⟨rq, rfl, ⟨_, SqL.of erq⟩, fun D hD => ?_⟩⟩
      have hT8 := (hT.same s27).same s8
      refine it_gen (walk_list (xs := rs.map V.ref)) (fun i H' => Same H8 H' ∧ ∃ cs : List Addr, H' D = some (.lst (cs.map V.ref)) ∧ RnA H' cs (((M59.rings ps).take i).filter fun r => (M59.opens ps r).isNone)) ⟨same_new hD, [], upd_same, .nil⟩ (fun i H' _ h => SqL.of (h.1 _ _ erq)) ?_ ?_
      · rintro i x Hx H9 hi ⟨s9, cs, eD, rn⟩ ⟨rfl, hx⟩
        obtain ⟨qr, r, rfl, hqr, hr, eqr⟩ := turq.ref hx
        have RP := RGs.ok r (List.mem_of_getElem? hr)
        have ft : ((M59.rings ps).take (i + 1)).filter (fun r => (M59.opens ps r).isNone) = ((M59.rings ps).take i).filter (fun r => (M59.opens ps r).isNone) ++ if (M59.opens ps r).isNone = true then [r] else [] := by
          rw [take_snoc2 hr, List.filter_append, List.filter_cons, List.filter_nil]
        refine ⟨rfl, _, rfl, _, rfl, d, qr, r, ps, rfl, s9 _ _ eqr, hT8.same s9, ok, RP, fun H10 v s10 ov => ⟨rfl, _, rfl, ?_⟩⟩
        have hv : decide (v = .non) = (M59.opens ps r).isNone := by
          cases e : M59.opens ps r with
          | none =>
            rw [e] at ov
            have ov : v = .non := ov
            rw [ov]
            exact decide_eq_true rfl
          | some y =>
            rw [e] at ov
            obtain ⟨y1, y2⟩ := y
            obtain ⟨z, rfl, _⟩ := ov
            exact decide_eq_false fun z => by cases z
        rw [hv]
        have s90 := s9.trans s10
        have eD := s10 _ _ eD
        have rn := rn.same s10
        cases c : (M59.opens ps r).isNone with
        | false =>
          rw [c] at ft
          refine iteF ⟨s90, cs, eD, ?_⟩
          rw [ft]
          simpa using rn
        | true =>
          rw [c, if_pos rfl] at ft
          refine iteT ⟨_, rfl, (show 2 ≤ sizeLine by decide), fun q hq => ⟨_, (same_new hq) _ _ eD, ?_, same_sub (s90.trans (same_new hq)) hD, cs ++ [q], by rw [upd_same, List.map_append]; rfl, ?_⟩⟩
          · rw [List.length_map, rn.length]
            have h1 : (((M59.rings ps).take i).filter fun r => (M59.opens ps r).isNone).length ≤ ((M59.rings ps).take i).length := List.length_filter_le _ _
            have h2 := List.length_take_le' i (M59.rings ps)
            have h3 := flat_len (M59.rings ps) fun r hr => (RGs.ok r hr).ne
            have h4 := SkF.len18 RGs.nd fun y hy => by
              obtain ⟨r, hr, hy⟩ := List.mem_flatten.mp hy
              exact (RGs.ok r hr).lt ok y hy
            exact Nat.lt_of_le_of_lt (show (((M59.rings ps).take i).filter fun r => (M59.opens ps r).isNone).length ≤ 18 by omega) (by decide)
          · rw [ft]
            exact ((rn.same (same_new hq)).app (.cons upd_same ((same_new hq) _ _ (s90 _ _ eqr)) .nil)).put ((same_new hq) _ _ eD)
      · rintro H9 ⟨s9, cs, eD, rn⟩
        have hrl : (rs.map V.ref).length = (M59.rings ps).length := by rw [List.length_map]; exact turq.length
        rw [hrl, List.take_length] at rn
        refine ⟨_, _, _, _, rfl, rfl, (s8.trans s9) _ _ eF7, eD, ?_, fun q hq => k _ q (((s07.trans s8).trans s9).trans (same_new hq)) ⟨bs, cs, upd_same, (tu7.same (s8.trans s9)).same (same_new hq), rn.same (same_new hq)⟩⟩
        rw [List.length_map, List.length_map, tu7.length, rn.length]
        have h1 : (opS ps).length ≤ (M59.keys ps).length := List.length_filter_le _ _
        have h2 : (List.filter (fun r => (M59.opens ps r).isNone) (M59.rings ps)).length ≤ (M59.rings ps).length := List.length_filter_le _ _
        have h3 := flat_len (M59.rings ps) fun r hr => (RGs.ok r hr).ne
        have h4 := SkF.len18 RGs.nd fun y hy => by
          obtain ⟨r, hr, hy⟩ := List.mem_flatten.mp hy
          exact (RGs.ok r hr).lt ok y hy
        exact Nat.le_trans (show (opS ps).length + (List.filter (fun r => (M59.opens ps r).isNone) (M59.rings ps)).length ≤ 36 by omega) (by decide)
end
/-! ## k59: need_helpers, moves -/
open M59 (isR fstR Ok byS tk isT src)
theorem inV_strs (z : Str) : ∀ ws : List Str, inV (.str z) (ws.map V.str) = decide (z ∈ ws)
  | [] => rfl
  | w :: ws => by
    have ih := inV_strs z ws
    unfold inV at ih ⊢
    rw [List.map_cons, List.any_cons, ih]
    show ((w : Str) == z || decide (z ∈ ws)) = _
    rw [Bool.eq_iff_iff]
    simp only [Bool.or_eq_true, beq_iff_eq, decide_eq_true_eq, List.mem_cons]
    exact ⟨fun h => h.imp (fun e => e.symm) id, fun h => h.imp (fun e => e.symm) id⟩
/-- no register -/
def NoR (K : PySem.W.Frag) (H : Hp) (x : V) : Prop := (∃ t, x = .str (sT t) ∧ tx t ∧ regB 9 t = false) ∨ NotStr K H x
theorem NoR.same {K : PySem.W.Frag} {H H' : Hp} {x : V} (s : Same H H') (h : NoR K H x) : NoR K H' x := h.imp id (notStr_sm s)
inductive HlB (K : PySem.W.Frag) (H : Hp) (ps : M59.Prs) : V → Prop
  | non {x : V} (h : NoT K H x) : HlB K H ps x
  | len {p : Addr} {xs : List V} (h : H p = some (.tup xs)) (n : xs.length ≠ 2) : HlB K H ps (.ref p)
  | snd {p : Addr} {h0 : Nat} {y : V} (h : H p = some (.tup [plV h0, y])) (r0 : isR h0 = true) (f0 : M59.Free ps h0) (n : NoR K H y) : HlB K H ps (.ref p)
  | use {p : Addr} {h0 h1 : Nat} (h : H p = some (.tup [plV h0, plV h1])) (r0 : isR h0 = true) (f0 : M59.Free ps h0) (r1 : isR h1 = true) (n : h0 = h1 ∨ ¬ M59.Free ps h1) : HlB K H ps (.ref p)
def HlG (H : Hp) (ps : M59.Prs) (x : V) (h0 h1 : Nat) : Prop := ∃ p, x = .ref p ∧ H p = some (.tup [plV h0, plV h1]) ∧ isR h0 = true ∧ isR h1 = true ∧ h0 ≠ h1 ∧ M59.Free ps h0 ∧ M59.Free ps h1
theorem HlB.same {K : PySem.W.Frag} {H H' : Hp} {ps : M59.Prs} {x : V} (s : Same H H') (h : HlB K H ps x) : HlB K H' ps x := by
  cases h with
  | non h => exact .non (h.same s)
  | len h n => exact .len (s _ _ h) n
  | snd h r0 f0 n => exact .snd (s _ _ h) r0 f0 (n.same s)
  | use h r0 f0 r1 n => exact .use (s _ _ h) r0 f0 r1 n
theorem HlG.same {H H' : Hp} {ps : M59.Prs} {x : V} {h0 h1 : Nat} (s : Same H H') (h : HlG H ps x h0 h1) : HlG H' ps x h0 h1 := by
  obtain ⟨p, e, h, k⟩ := h
  exact ⟨p, e, s _ _ h, k⟩
def spNeedH (K : PySem.W.Frag) (C : Addr) : Sp := fun vs H Q E => ∃ (a : Addr) (x : V) (ps : M59.Prs), vs = [.ref a, x] ∧ PsH H a ps ∧ Ok ps ∧ ((HlB K H ps x ∧ ∀ H', Same H H' → E (.ref C) none H') ∨ ((∃ h0 h1, HlG H ps x h0 h1) ∧ ∀ H', Same H H' → Q .non H'))
section
variable {P : Program} {w : World} {K : PySem.W.Frag} {mg : Str → Option Value} {base : Heap}
theorem nor_rd {H : Hp} {x : V} {Q : VK} {E : XK} (h : NoR K H x) (k : ∀ H', Same H H' → Q (.bl false) H') : spReg K [x, .int ((9 : Nat) : Int)] H Q E := by
  rcases h with ⟨t, rfl, ht, hb⟩ | h
  · exact ⟨_, 9, rfl, .inl ⟨t, rfl, ht, fun H' s => by rw [hb]; exact k H' s⟩⟩
  · exact ⟨_, 9, rfl, .inr ⟨h, k⟩⟩
theorem in_pr {h : Nat} {m : Nat × Nat} (hh : h < 18) (h1 : m.1 < 18) (h2 : m.2 < 18) : inV (plV h) (prC m) = decide (m.1 = h ∨ m.2 = h) := by
  rw [show inV (plV h) (prC m) = _ from inV_strs (pl h) [pl m.1, pl m.2]]
  refine decide_eq_decide.mpr ⟨fun z => ?_, fun z => ?_⟩
  · rcases List.mem_cons.mp z with z | z
    · exact .inl (pl_inj hh h1 z).symm
    · exact .inr (pl_inj hh h2 (List.mem_singleton.mp z)).symm
  · rcases z with z | z
    · rw [← z]; exact List.mem_cons_self ..
    · rw [← z]; exact List.mem_cons_of_mem _ (List.mem_singleton.mpr rfl)
theorem sc_need_helpers : FnScope ["pairs", "helpers", "helper", "pair"] ["pairs", "helpers"] (defScope s_need_helpers) := ⟨rfl, rfl, rfl, by decide +kernel, rfl, by decide +kernel, by decide +kernel⟩
theorem ok_needH {f C : Addr} {fd : FuncData} (F : FnP K "need_helpers" s_need_helpers f fd) (c_is_register : Cal P w K mg base 2 "is_register" ["thing", "registers"] (spReg K)) (g_MOST_REGISTERS : ∃ t, mg "MOST_REGISTERS" = some (.int 9 t)) (G : NkF K mg) (B : PlnX K mg "BadHelpers" C) (tup : mg "tuple" = none) :
    FnOk P w K mg base (L2.CX P w) 3 f fd ["pairs", "helpers"] (spNeedH K C) := by
  obtain ⟨f_is_register, fd_is_register, g_is_register, k_is_register, b_is_register, G_is_register⟩ := c_is_register
  obtain ⟨_, g_MOST_REGISTERS⟩ := g_MOST_REGISTERS
  refine F.ok sc_need_helpers (fun vs H Q E h => ?_) (fun cdv A outer s H vs Q E hr h => ?_)
  · obtain ⟨a, x, ps, rfl, _⟩ := h
    rfl
  · obtain ⟨a, x, ps, rfl, ⟨as, hS, hA⟩, ok, h⟩ := h
    have nd := sc_need_helpers.nd
    have hu := hu_of hr
    apply Exists.intro
    apply And.intro
    case left =>
     apply pss_cons
     · exact (ps_if (PW.pt (pw_or (pt_not (pt_val (pe_callB call_isi (by rfl) G.isi (by decide +kernel) (pa_cons (pv 1) (pa_cons (pe_bltn (v := .ty "tuple") (by rfl) tup (by decide +kernel) rfl) pa_nil))))) (pw_or1 (pt_cmpR op_ne (pe_callB call_len (by rfl) G.len PySem.boot_len (pa_cons (pv 1) pa_nil)) pe_int (nomark _))))) (pss_one (ps_raise rfl (takes_of rfl rfl rfl rfl) (pmk_own PySem.F.excBase_ValueError B.x B.g B.o.kC (raises_own B.o.exC B.o.tyC) rfl))) pss_nil)
     apply pss_cons
     · apply ps_for (passes_of rfl) rfl
       · exact (pi_tup (pv 1))
       · exact (pg_name (i := 2) nd rfl (Or.inr rfl))
       · apply pss_one
         exact (ps_if (PW.pt (pw_or (pt_not (pt_val (pe_call G_is_register (hr.mono (by decide)) rfl g_is_register k_is_register b_is_register .nil pass0 (pa_cons (pv 2) (pa_cons (pe_glob (v := .int 9) (by rfl) g_MOST_REGISTERS ⟨_, rfl⟩) pa_nil))))) (pw_or1 (pt_cmpR (op_neEL (Nat.lt_of_le_of_lt (Nat.le_add_right _ 64) hr.units)) (pe_lc (own := [("pair", 3)]) (g := gName 3) rfl nd (pi_or (pi_listK (K := K) (pv 0)) (pi_tupK (K := K) (pv 0))) (blkOk_by (own := [("pair", 3)]) (N := ["pairs", "helpers", "helper", "pair"]) (sc := defScope s_need_helpers) (by decide +kernel)) (fun _ _ _ _ _ => (pg_name (i := 3) nd rfl (Or.inl rfl))) (fun _ _ _ _ _ => pts_one (pt_cmpR op_in_seqK (pv 2) (pv 3) (by rfl))) (fun _ _ _ _ _ => (pv 3))) (pe_lst pa_nil) (nomark _))))) (pss_one (ps_raise rfl (takes_of rfl rfl rfl rfl) (pmk_own PySem.F.excBase_ValueError B.x B.g B.o.kC (raises_own B.o.exC B.o.tyC) rfl))) pss_nil)
     apply pss_one
     exact (ps_if (pt_cmpR op_eq (pe_ix ix_tup (pv 1) pe_int (fun _ _ => rfl)) (pe_ix ix_tup (pv 1) pe_int (fun _ _ => rfl)) (nomark _)) (pss_one (ps_raise rfl (takes_of rfl rfl rfl rfl) (pmk_own PySem.F.excBase_ValueError B.x B.g B.o.kC (raises_own B.o.exC B.o.tyC) rfl))) pss_nil)
    case right =>
      have two : (∃ (p : Addr) (h0 : Nat) (y : V), x = .ref p ∧ H p = some (.tup [plV h0, y]) ∧ isR h0 = true ∧ M59.Free ps h0 ∧ ((NoR K H y ∧ ∀ H', Same H H' → E (.ref C) none H') ∨ ∃ h1, y = plV h1 ∧ isR h1 = true ∧ ((¬ M59.Free ps h1 ∧ ∀ H', Same H H' → E (.ref C) none H') ∨ (M59.Free ps h1 ∧ ((h0 = h1 ∧ ∀ H', Same H H' → E (.ref C) none H') ∨ (h0 ≠ h1 ∧ ∀ H', Same H H' → Q .non H')))))) ∨
          ((NoT K H x ∨ ∃ p ys, x = .ref p ∧ H p = some (.tup ys) ∧ ys.length ≠ 2) ∧ ∀ H', Same H H' → E (.ref C) none H') := by
        rcases h with ⟨hb, e⟩ | ⟨⟨h0, h1, p, rfl, ep, r0, r1, ne, f0, f1⟩, k⟩
        · cases hb with
          | non hn => exact .inr ⟨.inl hn, e⟩
          | len hp n => exact .inr ⟨.inr ⟨_, _, rfl, hp, n⟩, e⟩
          | snd hp r0 f0 n => exact .inl ⟨_, _, _, rfl, hp, r0, f0, .inl ⟨n, e⟩⟩
          | @use p h0 h1 hp r0 f0 r1 n =>
            refine .inl ⟨_, _, _, rfl, hp, r0, f0, .inr ⟨h1, rfl, r1, ?_⟩⟩
            by_cases c : M59.Free ps h1
            · exact .inr ⟨c, .inl ⟨n.resolve_right fun z => z c, e⟩⟩
            · exact .inl ⟨c, e⟩
        · exact .inl ⟨p, h0, _, rfl, ep, r0, f0, .inr ⟨h1, rfl, r1, .inr ⟨f1, .inr ⟨ne, k⟩⟩⟩⟩
      rcases two with ⟨p, h0, y, rfl, ep, r0, f0, hy⟩ | ⟨hn | ⟨p, ys, rfl, hp, n⟩, e⟩
      rotate_left
      · obtain ⟨t, h1, h2⟩ := hn
        exact ⟨_, rfl, _, _, t, _, false, rfl, .ty _, h1, h2, _, rfl, iteN0 (iteT (e _ (Same.refl _)))⟩
      · refine ⟨_, rfl, _, _, _, _, true, rfl, .ty _, .base (.tup hp), kit_ty (by decide +kernel), _, rfl, iteN1 ?_⟩
        refine ⟨_, rfl, _, _, rfl, .inr ⟨_, SqT.of hp, rfl⟩, rfl, _, rfl, ?_⟩
        rw [decide_eq_false (show ¬ V.int (ys.length : Int) = V.int 2 from fun z => n (by injection z with z; omega))]
        exact iteN0 (e _ (Same.refl _))
      refine ⟨_, rfl, _, _, _, _, true, rfl, .ty _, .base (.tup ep), kit_ty (by decide +kernel), _, rfl, iteN1 ?_⟩
      refine ⟨_, rfl, _, _, rfl, .inr ⟨_, SqT.of ep, rfl⟩, rfl, _, rfl, ?_⟩
      rw [decide_eq_true (show V.int (([plV h0, y] : List V).length : Int) = V.int 2 from rfl)]
      refine iteN1 ?_
      refine ⟨_, rfl, p, rfl, ⟨_, SqT.of ep⟩, ?_⟩
      refine for_it (walk_tup (xs := [plV h0, y])) (fun i σ H' => Same H H' ∧ (∃ w2 w3, σ = [some (.ref a), some (.ref p), w2, w3]) ∧ (i = 2 → ∃ h1, y = plV h1 ∧ isR h1 = true ∧ ((h0 = h1 ∧ ∀ H', Same H H' → E (.ref C) none H') ∨ (h0 ≠ h1 ∧ ∀ H', Same H H' → Q .non H')))) ⟨Same.refl _, ⟨_, _, rfl⟩, fun z => by cases z⟩ (fun i σ H' _ h => SqT.of (h.1 _ _ ep)) ?_ ?_
      · rintro i x σ Hx H' hi ⟨s1, ⟨w2, w3, rfl⟩, hi2⟩ ⟨rfl, hx⟩
        have cs : (∃ h, x = plV h ∧ isR h = true ∧ (M59.Free ps h → i + 1 = 2 → ∃ h1, y = plV h1 ∧ isR h1 = true ∧ ((h0 = h1 ∧ ∀ H', Same H H' → E (.ref C) none H') ∨ (h0 ≠ h1 ∧ ∀ H', Same H H' → Q .non H'))) ∧ (¬ M59.Free ps h → ∀ H', Same H H' → E (.ref C) none H')) ∨ (NoR K H x ∧ ∀ H', Same H H' → E (.ref C) none H') := by
          match i, hi with
          | 0, _ =>
            have hx : plV h0 = x := Option.some.inj hx
            exact .inl ⟨h0, hx.symm, r0, (fun _ z => by cases z), fun z => absurd f0 z⟩
          | 1, _ =>
            have hx : y = x := Option.some.inj hx
            subst hx
            rcases hy with h | ⟨h1, rfl, r1, h⟩
            · exact .inr h
            · refine .inl ⟨h1, rfl, r1, fun f _ => ⟨h1, rfl, r1, ?_⟩, fun f => ?_⟩
              · rcases h with h | ⟨_, h⟩
                · exact absurd f h.1
                · exact h
              · rcases h with h | ⟨g, _⟩
                · exact h.2
                · exact absurd g f
        rcases cs with ⟨h, rfl, hr1, good, bad⟩ | ⟨hn, e⟩
        rotate_left
        · exact ⟨_, rfl, rd2 (nor_rd (hn.same s1) fun H2 s2 => ⟨_, rfl, iteN0 (iteT (e _ (s1.trans s2)))⟩)⟩
        have h18 := M59.isR_lt hr1
        refine ⟨_, rfl, rd2 (reg_pl h18 fun H2 s2 => ⟨_, rfl, ?_⟩)⟩
        rw [hr1]
        refine iteN1 ?_
        have s12 := s1.trans s2
        refine ior_seqB rfl hS s12 fun J GG hw hG => fun D hD => ?_
        refine it_gen hw (fun j H' => Same H2 H' ∧ ∃ us : List Addr, H' D = some (.lst (us.map V.ref)) ∧ us.length ≤ j ∧ (us = [] ↔ ∀ m ∈ ps.take j, m.1 ≠ h ∧ m.2 ≠ h)) ⟨same_new hD, [], upd_same, Nat.le_refl _, by simp⟩ (fun j H' _ h => hG _ (s12.trans h.1)) ?_ ?_
        · rintro j z Hz H3 hj ⟨s3, us, eD, ul, hus⟩ ⟨rfl, hz⟩
          obtain ⟨q, m, rfl, hq, hm, eq⟩ := hA.ref hz
          have m18 := ok.lt _ (List.mem_of_getElem? hm)
          refine ⟨rfl, _, rfl, _, rfl, q, prC m, rfl, .inr (SqT.of ((s12.trans s3) _ _ eq)), rfl, rfl, _, rfl, ?_⟩
          rw [show (if false = true then !inV (plV h) (prC m) else inV (plV h) (prC m)) = decide (m.1 = h ∨ m.2 = h) from in_pr h18 m18.1 m18.2]
          by_cases c : m.1 = h ∨ m.2 = h
          · rw [decide_eq_true c]
            refine iteT ⟨_, rfl, _, eD, ?_, same_sub s3 hD, us ++ [q], by rw [upd_same, List.map_append]; rfl, by rw [List.length_append, List.length_singleton]; omega, ?_⟩
            · rw [List.length_map]
              have := okLen ok
              have hj2 : j < as.length := by rw [List.length_map] at hj; exact hj
              rw [hA.length] at hj2
              exact Nat.lt_of_le_of_lt (show us.length ≤ 18 by omega) (by decide)
            · rw [take_snoc2 hm]
              refine ⟨fun z => by simp at z, fun z => ?_⟩
              have := z m (List.mem_append_right _ (List.mem_singleton.mpr rfl))
              rcases c with c | c
              · exact absurd c this.1
              · exact absurd c this.2
          · rw [decide_eq_false c]
            refine iteF ⟨s3, us, eD, by omega, ?_⟩
            rw [hus, take_snoc2 hm]
            constructor
            · intro z m' hm'
              rcases List.mem_append.mp hm' with hm' | hm'
              · exact z m' hm'
              · rw [List.mem_singleton.mp hm']
                exact ⟨fun z => c (.inl z), fun z => c (.inr z)⟩
            · exact fun z m' hm' => z m' (List.mem_append_left _ hm')
        · rintro H3 ⟨s3, us, eD, ul, hus⟩
          have hal : (as.map V.ref).length = ps.length := by rw [List.length_map]; exact hA.length
          rw [hal, List.take_length] at hus
          refine ⟨(show 0 ≤ sizeLine by decide), fun q hq => ⟨D, q, _, rfl, rfl, SqL.of ((same_new hq) _ _ eD), SqL.of upd_same, _, rfl, ?_⟩⟩
          have s4 := (s12.trans s3).trans (same_new (o := .lst []) hq)
          cases us with
          | nil =>
            exact iteF ⟨s4, ⟨_, _, rfl⟩, good (hus.mp rfl)⟩
          | cons u us =>
            exact iteT (bad (fun f => by have := hus.mpr f; cases this) _ s4)
      · rintro σ H2 ⟨s2, ⟨w2, w3, rfl⟩, hi2⟩
        obtain ⟨h1, rfl, r1, hy2⟩ := hi2 rfl
        have ep2 := s2 _ _ ep
        refine ⟨_, rfl, p, _, 0, _, rfl, rfl, SqT.of ep2, atI_nat (j := 0) rfl, _, rfl, p, _, 1, _, rfl, rfl, SqT.of ep2, atI_nat (j := 1) rfl, rfl, _, rfl, ?_⟩
        rw [show decide (plV h0 = plV h1) = decide (h0 = h1) from plV_dec (M59.isR_lt r0) (M59.isR_lt r1)]
        rcases hy2 with ⟨c, e⟩ | ⟨c, k⟩
        · rw [decide_eq_true c]
          exact iteT (e _ s2)
        · rw [decide_eq_false c]
          exact iteF (k _ s2)
end
/-! ## k59: moves -/
open M59 (isR fstR Ok byS tk isT src)
def spMoves (K : PySem.W.Frag) (C CH : Addr) : Sp := fun vs H Q E => ∃ x y, vs = [x, y] ∧ ((NsV H x ∧ atE C .non H E) ∨ ∃ a xs, x = .ref a ∧ SeqH H a xs ∧ ((60 < xs.length ∧ atE C .non H E) ∨ ∃ os, xs.length ≤ 60 ∧ ItA K H xs os ∧ ((∃ i, BadI os i ∧ atE C (.int ((i : Nat) : Int)) H E) ∨ ∃ ps, os = ps.map some ∧ Ok ps ∧
  ((HlB K H ps y ∧ ∀ H', Same H H' → E (.ref CH) none H') ∨ ∃ h0 h1, HlG H ps y h0 h1 ∧ ∀ H' q l, Same H H' → TuL rowC H' q (M59.allRows ps h0 h1 l) → M59.Lp ps (M59.fixed ps) l → Q (.ref q) H'))))
section
variable {P : Program} {w : World} {K : PySem.W.Frag} {mg : Str → Option Value} {base : Heap}
theorem sc_moves : FnScope ["pairs", "helpers"] ["pairs", "helpers"] (defScope s_moves) := ⟨rfl, rfl, rfl, by decide +kernel, rfl, by decide +kernel, by decide +kernel⟩
theorem ok_moves {f C CH : Addr} {fd : FuncData} (F : FnP K "moves" s_moves f fd) (c_need_pairs : CalX P w K mg base 4 "need_pairs" ["pairs"] (spNeedP K C)) (c_need_helpers : CalX P w K mg base 3 "need_helpers" ["pairs", "helpers"] (spNeedH K CH)) (c_moves_of : Cal P w K mg base 6 "moves_of" ["pairs", "helpers"] spMovesOf) :
    FnOk P w K mg base (L2.CX P w) 7 f fd ["pairs", "helpers"] (spMoves K C CH) := by
  obtain ⟨f_need_pairs, fd_need_pairs, g_need_pairs, k_need_pairs, b_need_pairs, G_need_pairs⟩ := c_need_pairs
  obtain ⟨f_need_helpers, fd_need_helpers, g_need_helpers, k_need_helpers, b_need_helpers, G_need_helpers⟩ := c_need_helpers
  obtain ⟨f_moves_of, fd_moves_of, g_moves_of, k_moves_of, b_moves_of, G_moves_of⟩ := c_moves_of
  refine F.ok sc_moves (fun vs H Q E h => ?_) (fun cdv A outer s H vs Q E hr h => ?_)
  · obtain ⟨x, y, rfl, _⟩ := h
    rfl
  · obtain ⟨x, y, rfl, h⟩ := h
    have nd := sc_moves.nd
    have hu := hu_of hr
    apply Exists.intro
    apply And.intro
    case left =>
     apply pss_cons
     · exact (ps_expr (pe_call G_need_pairs (hr.mono (by decide)) rfl g_need_pairs k_need_pairs b_need_pairs .nil (passes_call (takes_of rfl rfl rfl rfl) (fun _ _ _ _ h => h)) (pa_cons (pv 0) pa_nil)))
     apply pss_cons
     · exact (ps_expr (pe_call G_need_helpers (hr.mono (by decide)) rfl g_need_helpers k_need_helpers b_need_helpers .nil (passes_call (takes_of rfl rfl rfl rfl) (fun _ _ _ _ h => h)) (pa_cons (pv 0) (pa_cons (pv 1) pa_nil))))
     apply PSs.nox
     apply pss_one
     exact (ps_ret (pe_call G_moves_of (hr.mono (by decide)) rfl g_moves_of k_moves_of b_moves_of .nil pass0 (pa_cons (pv 0) (pa_cons (pv 1) pa_nil))))
    case right =>
      rcases h with ⟨h1, h2⟩ | ⟨a, xs, rfl, hS, ⟨h1, h2⟩ | ⟨os, hl, hA, ⟨i, h1, h2⟩ | ⟨ps, rfl, ok, h⟩⟩⟩
      · exact ⟨_, rfl, _, rfl, .inl ⟨h1, h2⟩⟩
      · exact ⟨_, rfl, _, rfl, .inr ⟨a, xs, rfl, hS, .inl ⟨h1, h2⟩⟩⟩
      · exact ⟨_, rfl, _, rfl, .inr ⟨a, xs, rfl, hS, .inr ⟨os, hl, hA, .inl ⟨i, h1, h2⟩⟩⟩⟩
      refine ⟨_, rfl, _, rfl, .inr ⟨a, xs, rfl, hS, .inr ⟨_, hl, hA, .inr ⟨⟨ps, rfl, ok.one⟩, fun H1 s1 => ?_⟩⟩⟩⟩
      obtain ⟨as0, rfl, tu0⟩ := itA_ps hA
      have hP : PsH H a ps := ⟨as0, hS, tu0⟩
      rcases h with ⟨hb, e⟩ | ⟨h0, h1, hg, k⟩
      · exact ⟨_, rfl, _, rfl, a, y, ps, rfl, hP.same s1, ok, .inl ⟨hb.same s1, fun H' s' => e _ (s1.trans s')⟩⟩
      refine ⟨_, rfl, _, rfl, a, y, ps, rfl, hP.same s1, ok, .inr ⟨⟨h0, h1, hg.same s1⟩, fun H2 s2 => ?_⟩⟩
      obtain ⟨p, rfl, ep, r0, r1, _⟩ := hg
      have s12 := s1.trans s2
      exact ⟨_, rfl, _, rfl, a, p, ps, h0, h1, rfl, hP.same s12, ok, s12 _ _ ep, M59.isR_lt r0, M59.isR_lt r1, fun H3 q l s3 tl lp => k _ q l (s12.trans s3) tl lp⟩
end
/-! ## the visible heap grows -/
theorem Dw.mk {t : Nat} {V0 H : Hp} {d p : Addr} {o : HO} (h : Dw t V0 H d) (hp : H p = none) : ∃ V', Dw t V' (upd H p o) d ∧ Same V0 V' ∧ V' p = some o :=
  ⟨upd V0 p o, h.new hp, same_new (h.same.free hp), upd_same⟩
theorem Dw.grow {t : Nat} {V0 H H1 : Hp} {d : Addr} (h : Dw t V0 H d) (e : Same H H1) : ∃ V', Dw t V' H1 d ∧ Same V0 V' ∧ ∀ b o, H b = none → H1 b = some o → V' b = some o := by
  obtain ⟨s, w, c, ws, cs, rest, turn, h1, h2, h3, ht, D⟩ := h
  have D1 := D.same e
  have hid : ∀ b, H b = none → ¬ (b = d ∨ b = w ∨ b = c) := fun b q => by
    rintro (z | z | z) <;> subst z
    · rw [D.hd] at q; cases q
    · rw [D.hw] at q; cases q
    · rw [D.hc] at q; cases q
  have sm : Same V0 (fun b => if b = d ∨ b = w ∨ b = c then none else H1 b) := fun b o q => by
    have hb : ¬ (b = d ∨ b = w ∨ b = c) := by
      rintro (z | z | z) <;> subst z
      · rw [h1] at q; cases q
      · rw [h2] at q; cases q
      · rw [h3] at q; cases q
    simp only [if_neg hb]
    exact e _ _ (s _ _ q)
  refine ⟨fun b => if b = d ∨ b = w ∨ b = c then none else H1 b, ⟨fun b o q => ?_, w, c, ws, cs, rest, turn, if_pos (.inl rfl), if_pos (.inr (.inl rfl)), if_pos (.inr (.inr rfl)), ht, D1⟩, sm, fun b o q n => ?_⟩
  · by_cases hb : b = d ∨ b = w ∨ b = c
    · simp only [if_pos hb] at q
      cases q
    · simp only [if_neg hb] at q
      exact q
  · simp only [if_neg (hid b q)]
    exact n/-! ## things in a drawn order -/
def spShuf : Sp := fun vs H Q _ => ∃ (t : Nat) (V0 : Hp) (d a : Addr) (xs : List V), vs = [.ref d, .ref a] ∧ Dw t V0 H d ∧ t + 200 < T40 ∧ V0 a = some (.lst xs) ∧ xs.length ≤ 100 ∧
  ∀ (H' V' : Hp) (r : Addr) (ys : List V), Dw (t + xs.length) V' H' d → Same V0 V' → V0 r = none → V' r = some (.lst ys) → ys.Perm xs → Q (.ref r) H'
theorem erase_perm {α : Type} : ∀ {l : List α} {k : Nat} {x : α}, l[k]? = some x → (x :: l.eraseIdx k).Perm l
  | [], _, _, h => by cases h
  | a :: l, 0, x, h => by
    injection h with h
    subst h
    exact .refl _
  | a :: l, k + 1, x, h => ((erase_perm (l := l) (k := k) (x := x) h).cons a).symm.trans (.swap _ _ _) |>.symm
theorem sIx_ok {k n : Nat} (h : k < n) : seqIndex? (k : Int) n = some k := by
  unfold seqIndex?
  simp
  omega
section
variable {P : Program} {w : World} {K : PySem.W.Frag} {mg : Str → Option Value} {base : Heap}
theorem sc__law_shuffled : FnScope ["_law_draw", "_law_some", "_law_left", "_law_found"] ["_law_draw", "_law_some"] (defScope s_law_shuffled) := ⟨rfl, rfl, rfl, by decide +kernel, rfl, by decide +kernel, by decide +kernel⟩
theorem ok_lshuf {f : Addr} {fd : FuncData} (F : FnP K "_law_shuffled" s_law_shuffled f fd) (c__law_take : Cal P w K mg base 2 "_law_take" ["_law_draw", "_law_many"] spTake) (G : NkF K mg) (lis : mg "list" = none) : FnOk P w K mg base CX0 3 f fd ["_law_draw", "_law_some"] spShuf := by
  obtain ⟨f__law_take, fd__law_take, g__law_take, k__law_take, b__law_take, G__law_take⟩ := c__law_take
  refine F.ok sc__law_shuffled (fun vs H Q E h => ?_) (fun cdv A outer s H vs Q E hr h => ?_)
  · obtain ⟨t, V0, d, a, xs, rfl, _⟩ := h
    rfl
  · obtain ⟨t, V0, d, a, xs, rfl, hD, ht, ha, hl, k⟩ := h
    have T0 : t + 200 < 1099511627776 := ht
    have nd := sc__law_shuffled.nd
    have hu := hu_of hr
    apply Exists.intro
    apply And.intro
    case left =>
     apply PSs.nox
     apply pss_cons
     · exact (ps_par (X := (cxOf CX0 P w K mg base ["_law_draw", "_law_some", "_law_left", "_law_found"] "_law_shuffled" (defScope s_law_shuffled) f cdv A outer s H E).nox) (i := 2) (j := 3) rfl nd rfl rfl (by decide) rfl rfl (pa_cons (pe_callTy call_list_of (by rfl) lis (by decide +kernel) (pa_cons (pv 1) pa_nil)) (pa_cons (pe_lst pa_nil) pa_nil)) (by rfl))
     apply pss_cons
     · apply ps_while PassesOwn.never
       · exact (pt_cmpR (op_neEL (Nat.lt_of_le_of_lt (Nat.le_add_right _ 64) hr.units)) (pv 2) (pe_lst pa_nil) (nomark _))
       · apply pss_one
         exact (ps_expr (pe_bm PySem.F.plainAttrs_list PySem.F.slot_list_append PySem.F.type_list_append mt_append (pv 3) (pa_cons (pe_bm PySem.F.plainAttrs_list PySem.F.slot_list_pop PySem.F.type_list_pop mt_popAt (pv 2) (pa_cons (pe_call G__law_take (hr.mono (by decide)) rfl g__law_take k__law_take b__law_take .nil pass0 (pa_cons (pv 0) (pa_cons (pe_callB call_len (by rfl) G.len PySem.boot_len (pa_cons (pv 2) pa_nil)) pa_nil))) pa_nil)) pa_nil)))
     apply pss_one
     exact (ps_ret (pv 3))
    case right =>
      refine ⟨_, rfl, a, xs, rfl, .inl (SqL.of (hD.same _ _ ha)), fun l1 hl1 => ?_⟩
      obtain ⟨V1, D1, y1, e1⟩ := hD.mk (o := .lst xs) hl1
      refine ⟨(show 0 ≤ sizeLine by decide), fun l2 hl2 => ⟨_, _, rfl, ?_⟩⟩
      obtain ⟨V2, D2, y2, e2⟩ := D1.mk (o := .lst []) hl2
      have n1 : V0 l1 = none := hD.same.free hl1
      have n2 : V0 l2 = none := y1.free (D1.same.free hl2)
      have ne : l1 ≠ l2 := fun z => by rw [← z] at hl2; rw [upd_same] at hl2; cases hl2
      refine ⟨fun m σ H' => ∃ (V' : Hp) (L F : List V), m = L.length ∧ σ = [some (.ref d), some (.ref a), some (.ref l1), some (.ref l2)] ∧ Dw (t + F.length) V' H' d ∧ Same V0 V' ∧ V' l1 = some (.lst L) ∧ V' l2 = some (.lst F) ∧ (F ++ L).Perm xs, ⟨_, V2, xs, [], rfl, rfl, D2, y1.trans y2, y2 _ _ e1, e2, .refl _⟩, ?_⟩
      rintro m σ H' ⟨V', L, F, rfl, rfl, D', y', eL, eF, pm⟩
      have lp := pm.length_eq
      rw [List.length_append] at lp
      refine ⟨_, rfl, (show 0 ≤ sizeLine by decide), fun q hq => ⟨l1, q, _, rfl, rfl, SqL.of ((same_new hq) _ _ (D'.same _ _ eL)), SqL.of upd_same, _, rfl, ?_⟩⟩
      obtain ⟨V3, D3, y3, _⟩ := D'.mk (o := .lst []) hq
      have eL3 := y3 _ _ eL
      have eF3 := y3 _ _ eF
      cases L with
      | nil =>
        refine iteN1 ⟨_, rfl, ?_⟩
        rw [List.append_nil] at pm
        refine k _ V3 l2 F ?_ (y'.trans y3) n2 eF3 pm
        rw [← pm.length_eq]
        exact D3
      | cons x L =>
        refine iteN0 ⟨fun σ' H' => ∃ m', m' < _ ∧ _, fun _ _ h => h, ?_⟩
        refine ⟨_, rfl, .inl ⟨rfl, _, SqL.of (D3.same _ _ eF3)⟩, _, rfl, .inl ⟨rfl, _, SqL.of (D3.same _ _ eL3)⟩, _, rfl, _, rfl, _, _, rfl, .inl ⟨_, SqL.of (D3.same _ _ eL3), rfl⟩, t + F.length, V3, d, _, rfl, D3, by show t + F.length < 1099511627776; simp only [List.length_cons] at lp; omega, by simp, ?_, fun kk H4 h0 h1 D4 => ?_⟩
        · simp only [List.length_cons] at lp ⊢
          omega
        obtain ⟨k0, rfl⟩ := Int.eq_ofNat_of_zero_le h0
        have hk : k0 < (x :: L).length := by omega
        obtain ⟨y, hy⟩ : ∃ y, (x :: L)[k0]? = some y := ⟨_, List.getElem?_eq_getElem hk⟩
        refine ⟨l1, _, _, k0, y, rfl, rfl, D4.same _ _ eL3, by omega, ?_, sIx_ok hk, hy, ?_⟩
        · have : (x :: L).length ≤ 100 := by
            simp only [List.length_cons] at lp ⊢
            omega
          omega
        have D5 := D4.set (o' := .lst ((x :: L).eraseIdx k0)) eL3
        have eF5 : (upd V3 l1 (.lst ((x :: L).eraseIdx k0))) l2 = some (.lst F) := by rw [upd_ne (Ne.symm ne)]; exact eF3
        have D6 := D5.set (o' := .lst (F ++ [y])) eF5
        refine ⟨l2, F, y, rfl, rfl, D5.same _ _ eF5, ?_, ((x :: L).eraseIdx k0).length, ?_, upd (upd V3 l1 (.lst ((x :: L).eraseIdx k0))) l2 (.lst (F ++ [y])), (x :: L).eraseIdx k0, F ++ [y], rfl, rfl, ?_, same_sub (same_sub (y'.trans y3) n1) n2, ?_, upd_same, ?_⟩
        · exact Nat.lt_of_le_of_lt (show F.length ≤ 100 by simp only [List.length_cons] at lp; omega) (by decide)
        · rw [List.length_eraseIdx_of_lt hk]
          simp only [List.length_cons]
          omega
        · rw [List.length_append]
          exact D6
        · rw [upd_ne ne, upd_same]
        · rw [List.append_assoc]
          exact ((erase_perm hy).append_left F).trans pm
end
/-! ## k60: no fewer moves -/
namespace M59
/-- what is written: places and values -/
def wr (st : Nat → Nat) : Prs → Prs
  | [] => []
  | r :: rows => (r.1, st r.2) :: wr (fun x => if x = r.1 then st r.2 else st x) rows
theorem wr_len : ∀ (rows : Prs) (st : Nat → Nat), (wr st rows).length = rows.length
  | [], _ => rfl
  | _ :: rows, _ => congrArg (· + 1) (wr_len rows _)
theorem wr_mem {z y : Nat} {B : Prs} : ∀ (A : Prs) (st : Nat → Nat), (z, ex st A y) ∈ wr st (A ++ (z, y) :: B)
  | [], _ => List.mem_cons_self ..
  | _ :: A, _ => List.mem_cons_of_mem _ (wr_mem A _)
def NoSS (rows : Prs) : Prop := ∀ r ∈ rows, isR r.1 = true ∨ isR r.2 = true
/-- a value that comes to a place is written there -/
theorem wr_at {v x : Nat} : ∀ (rows : Prs) (st : Nat → Nat), ex st rows x = v → st x ≠ v → ∃ A B y, rows = A ++ (x, y) :: B ∧ ex st A y = v
  | [], _, h, n => absurd h n
  | r :: rows, st, h, n => by
    by_cases c : x = r.1 ∧ st r.2 = v
    · obtain ⟨rfl, e⟩ := c
      exact ⟨[], rows, r.2, rfl, e⟩
    · obtain ⟨A, B, y, e1, e2⟩ := wr_at (v := v) rows (fun x => if x = r.1 then st r.2 else st x) h (by
        show ¬ (if x = r.1 then st r.2 else st x) = v
        by_cases d : x = r.1
        · rw [if_pos d]
          exact fun z => c ⟨d, z⟩
        · rw [if_neg d]
          exact n)
      exact ⟨r :: A, B, y, by rw [e1]; rfl, e2⟩
/-- the first time that a value comes to a new place -/
theorem wr_first {v x : Nat} : ∀ (rows : Prs) (st : Nat → Nat), ex st rows x = v → st x ≠ v → ∃ A B z y, rows = A ++ (z, y) :: B ∧ ex st A y = v ∧ ex st A z ≠ v ∧ ∀ u, ex st A u = v → st u = v
  | [], _, h, n => absurd h n
  | r :: rows, st, h, n => by
    by_cases c : st r.2 = v ∧ st r.1 ≠ v
    · exact ⟨[], rows, r.1, r.2, rfl, c.1, c.2, fun _ h => h⟩
    · have old : ∀ u, (if u = r.1 then st r.2 else st u) = v → st u = v := fun u hu => by
        by_cases d : u = r.1
        · rw [if_pos d] at hu
          have : ¬ st r.1 ≠ v := fun z => c ⟨hu, z⟩
          rw [d]
          exact Classical.byContradiction this
        · rw [if_neg d] at hu
          exact hu
      obtain ⟨A, B, z, y, e1, e2, e3, e4⟩ := wr_first (v := v) rows (fun x => if x = r.1 then st r.2 else st x) h fun z => n (old x z)
      exact ⟨r :: A, B, z, y, by rw [e1]; rfl, e2, e3, fun u hu => old u (e4 u hu)⟩
/-- the first change within S -/
theorem wr_change {S : Nat → Prop} {x : Nat} (hx : S x) : ∀ (rows : Prs) (st : Nat → Nat), ex st rows x ≠ st x → ∃ A B t y, rows = A ++ (t, y) :: B ∧ S t ∧ ex st A y ≠ st t ∧ ∀ C D, A = C ++ D → ∀ u, S u → ex st C u = st u
  | [], _, n => absurd rfl n
  | r :: rows, st, n => by
    by_cases c : S r.1 ∧ st r.2 ≠ st r.1
    · exact ⟨[], rows, r.1, r.2, rfl, c.1, c.2, fun C D e u hu => by
        have : C = [] := (List.append_eq_nil_iff.mp e.symm).1
        rw [this]
        rfl⟩
    · have old : ∀ u, S u → (if u = r.1 then st r.2 else st u) = st u := fun u hu => by
        by_cases d : u = r.1
        · rw [if_pos d]
          have : ¬ st r.2 ≠ st r.1 := fun z => c ⟨d ▸ hu, z⟩
          rw [d]
          exact Classical.byContradiction this
        · rw [if_neg d]
      obtain ⟨A, B, t, y, e1, e2, e3, e4⟩ := wr_change hx rows (fun x => if x = r.1 then st r.2 else st x) (by
        show ex _ rows x ≠ (if x = r.1 then st r.2 else st x)
        rw [old x hx]
        exact n)
      refine ⟨r :: A, B, t, y, by rw [e1]; rfl, e2, ?_, fun C D e u hu => ?_⟩
      · have e3 : ex (fun x => if x = r.1 then st r.2 else st x) A y ≠ (if t = r.1 then st r.2 else st t) := e3
        rw [old t e2] at e3
        exact e3
      · cases C with
        | nil => rfl
        | cons r' C =>
          injection e with e5 e6
          subst e5
          have e7 := e4 C D e6 u hu
          have e7 : ex (fun x => if x = r.1 then st r.2 else st x) C u = (if u = r.1 then st r.2 else st u) := e7
          rw [old u hu] at e7
          exact e7
theorem ex_from {v x : Nat} : ∀ (rows : Prs) (st : Nat → Nat), ex st rows x = v → ∃ u, st u = v
  | [], _, h => ⟨x, h⟩
  | r :: rows, st, h => by
    obtain ⟨u, hu⟩ := ex_from rows (fun x => if x = r.1 then st r.2 else st x) h
    have hu : (if u = r.1 then st r.2 else st u) = v := hu
    by_cases d : u = r.1
    · rw [if_pos d] at hu
      exact ⟨_, hu⟩
    · rw [if_neg d] at hu
      exact ⟨_, hu⟩
theorem NoSS.at {rows A B : Prs} {z y : Nat} (h : NoSS rows) (e : rows = A ++ (z, y) :: B) : isR z = true ∨ isR y = true := h (z, y) (by rw [e]; exact List.mem_append_right _ (List.mem_cons_self ..))
structure Dne (ps : Prs) (h0 h1 : Nat) (rows : Prs) : Prop where
  ns : NoSS rows
  f0 : Free ps h0
  f1 : Free ps h1
  fin : ∀ x, x ≠ h0 → x ≠ h1 → ex id rows x = src ps x
theorem Dne.mv {ps : Prs} {h0 h1 : Nat} {rows : Prs} (D : Dne ps h0 h1 rows) {x p : Nat} (h : (x, p) ∈ mov ps) (ok : Ok ps) : ex id rows x = p ∧ x ≠ p := by
  obtain ⟨h1, h2⟩ := mov_mem.mp h
  rw [D.fin x (D.f0 _ h1).1 (D.f1 _ h1).1, src_of ok h]
  exact ⟨rfl, h2⟩
theorem byS_row {ps : Prs} (ok : Ok ps) {h0 h1 : Nat} {rows : Prs} (D : Dne ps h0 h1 rows) {p : Nat} (h : byS ps p = true) : ∃ z, (z, p) ∈ wr id rows ∧ z ∉ tk ps p := by
  unfold byS at h
  simp only [Bool.and_eq_true, Bool.not_eq_true', List.isEmpty_eq_false_iff] at h
  obtain ⟨h1, h2, h3⟩ := h
  obtain ⟨x, hx⟩ := List.exists_mem_of_ne_nil _ h2
  obtain ⟨e, n⟩ := D.mv (tk_mem.mp hx) ok
  obtain ⟨A, B, z, y, e1, e2, e3, e4⟩ := wr_first rows id e n
  have ey : y = p := e4 y e2
  subst ey
  have m : (z, ex id A y) ∈ wr id rows := by rw [e1]; exact wr_mem A id
  rw [e2] at m
  refine ⟨z, m, fun hz => ?_⟩
  have := List.all_eq_true.mp h3 z hz
  rcases D.ns.at e1 with c | c
  · rw [c] at this
    cases this
  · rw [c] at h1
    cases h1
theorem ring_row {ps : Prs} (ok : Ok ps) {h0 h1 : Nat} {rows : Prs} (D : Dne ps h0 h1 rows) {r : List Nat} (R : RingP ps r) (ho : opens ps r = none) : ∃ t z, t ∈ r ∧ byS ps t = false ∧ (z, t) ∈ wr id rows ∧ z ∉ tk ps t := by
  have rmv : ∀ x ∈ r, (x, src ps x) ∈ mov ps := fun x hx => by
    rcases src_cases ok x with ⟨h, _⟩ | ⟨h, _⟩
    · exact h
    · exact absurd h (R.mv x hx).2
  obtain ⟨p0, hp0⟩ := List.exists_mem_of_ne_nil _ R.ne
  obtain ⟨e0, n0⟩ := D.mv (rmv p0 hp0) ok
  obtain ⟨A, B, t, y, e1, ht, e3, pre⟩ := wr_change (S := fun x => x ∈ r) hp0 rows id (by rw [e0]; exact n0.symm)
  have e3 : ex id A y ≠ t := e3
  obtain ⟨a, ha, hat⟩ := List.getElem_of_mem ht
  have hf := (R.turned ha).2.2.2
  have fr : fol r a ∈ r := (R.fol_iff ha hf).mpr rfl
  rw [hat] at hf
  generalize hfa : fol r a = f at hf fr
  have mf := rmv f fr
  rw [hf] at mf
  obtain ⟨ef, nf⟩ := D.mv mf ok
  have op := opensGo_none ho a (List.mem_range.mpr ha)
  rw [getD_at ha, hat, hfa] at op
  unfold openAt at op
  have hby : byS ps t = false := by
    cases e : byS ps t with
    | true => rw [e, if_pos rfl] at op; cases op
    | false => rfl
  rw [hby, if_neg (by decide)] at op
  have hreg : fstR (outs ps r t) = none := by
    cases e : fstR (outs ps r t) with
    | none => rfl
    | some k => rw [e] at op; cases op
  rw [hreg] at op
  have noreg := fstR_none hreg
  have h3 : ¬ ((outs ps r t).isEmpty = false ∧ isR t = true ∧ isR f = true) := fun z => by
    simp only [if_pos z] at op
    cases hq : outs ps r t with
    | nil => rw [hq] at z; exact absurd z.1 (by decide)
    | cons q l => rw [hq] at op; cases op
  have hst : ∀ x, ex id (A ++ [(t, y)]) x = if x = t then ex id A y else ex id A x := fun x => by
    rw [ex_app]
    rfl
  have rows2 : rows = (A ++ [(t, y)]) ++ B := by rw [e1, List.append_assoc]; rfl
  have ef2 : ex (ex id (A ++ [(t, y)])) B f = t := by rw [← ex_app, ← rows2]; exact ef
  have pa : ∀ u, u ∈ r → ex id A u = u := fun u hu => pre A [] (by rw [List.append_nil]) u hu
  have stf : ex id (A ++ [(t, y)]) f ≠ t := by
    rw [hst, if_neg nf, pa f fr]
    exact nf
  have stt : ex id (A ++ [(t, y)]) t ≠ t := by
    rw [hst, if_pos rfl]
    exact e3
  obtain ⟨u, hu⟩ := ex_from B _ ef2
  have hut : u ≠ t := fun z => stt (z ▸ hu)
  rw [hst, if_neg hut] at hu
  obtain ⟨A1, A2, z, y1, f1, f2, f3, f4⟩ := wr_first A id hu hut
  have ey : y1 = t := f4 y1 f2
  subst ey
  have zt : z ≠ y1 := fun e => f3 (e ▸ f2)
  have rows3 : rows = A1 ++ (z, y1) :: (A2 ++ (y1, y) :: B) := by rw [e1, f1, List.append_assoc]; rfl
  have m : (z, y1) ∈ wr id rows := by
    have := wr_mem (z := z) (y := y1) (B := A2 ++ (y1, y) :: B) A1 id
    rw [← rows3, f2] at this
    exact this
  have zr : z ∉ r := fun hz => by
    have := pre (A1 ++ [(z, y1)]) A2 (by rw [f1, List.append_assoc]; rfl) z hz
    rw [ex_app] at this
    have h5 : (if z = z then ex id A1 y1 else ex id A1 z) = z := this
    rw [if_pos rfl, f2] at h5
    exact zt h5.symm
  cases c1 : isR y1 with
  | false =>
    refine ⟨y1, z, ht, hby, m, fun hz => ?_⟩
    have h5 := noreg z (outs_mem.mpr ⟨hz, zr⟩)
    rcases D.ns.at rows3 with c | c
    · rw [c] at h5
      cases h5
    · rw [c] at c1
      cases c1
  | true =>
    cases c2 : isR f with
    | true =>
      refine ⟨y1, z, ht, hby, m, fun hz => ?_⟩
      have h5 : z ∈ outs ps r y1 := outs_mem.mpr ⟨hz, zr⟩
      refine h3 ⟨?_, c1, c2⟩
      cases hq : outs ps r y1 with
      | nil => rw [hq] at h5; exact nomatch h5
      | cons _ _ => rfl
    | false =>
      obtain ⟨A3, B3, y2, g1, g2⟩ := wr_at B _ ef2 stf
      have rows4 : rows = (A ++ [(y1, y)] ++ A3) ++ (f, y2) :: B3 := by rw [rows2, g1, List.append_assoc, List.append_assoc, List.append_assoc]
      have ry : isR y2 = true := by
        rcases D.ns.at rows4 with c | c
        · rw [c] at c2
          cases c2
        · exact c
      have m2 : (y2, y1) ∈ wr id rows := by
        by_cases c : ex id (A ++ [(y1, y)]) y2 = y1
        · have n2 : y2 ≠ y1 := fun z => stt (by rw [z] at c; exact c)
          rw [hst, if_neg n2] at c
          obtain ⟨A5, A6, w, k1, k2⟩ := wr_at A id c n2
          have := wr_mem (z := y2) (y := w) (B := A6 ++ (y1, y) :: B) A5 id
          rw [k2] at this
          rw [show rows = A5 ++ (y2, w) :: (A6 ++ (y1, y) :: B) by rw [e1, k1, List.append_assoc]; rfl]
          exact this
        · obtain ⟨A5, A6, w, k1, k2⟩ := wr_at A3 _ g2 c
          have := wr_mem (z := y2) (y := w) (B := A6 ++ (f, y2) :: B3) (A ++ [(y1, y)] ++ A5) id
          rw [ex_app, k2] at this
          rw [show rows = (A ++ [(y1, y)] ++ A5) ++ (y2, w) :: (A6 ++ (f, y2) :: B3) by rw [rows4, k1]; simp only [List.append_assoc, List.cons_append]]
          exact this
      refine ⟨y1, y2, ht, hby, m2, fun hz => ?_⟩
      by_cases c : y2 ∈ r
      · have := (R.fol_iff ha (by rw [hat]; exact (tk_src ok).mp hz |>.1)).mp c
        rw [hfa] at this
        rw [this, c2] at ry
        cases ry
      · have h5 := noreg y2 (outs_mem.mpr ⟨hz, c⟩)
        rw [ry] at h5
        cases h5
theorem nodup_of_map {α β : Type} {f : α → β} {l : List α} (h : (l.map f).Nodup) : l.Nodup := List.Pairwise.of_map f (fun _ _ n e => n (congrArg f e)) h
theorem sub_lenG {α : Type} [DecidableEq α] : ∀ {l N : List α}, l.Nodup → (∀ x ∈ l, x ∈ N) → l.length ≤ N.length
  | [], _, _, _ => Nat.zero_le _
  | a :: l, N, nd, h => by
    rw [List.nodup_cons] at nd
    have ha := h a (List.mem_cons_self ..)
    have := sub_lenG (l := l) (N := N.erase a) nd.2 fun x hx => (List.mem_erase_of_ne (fun e => nd.1 (by rw [← e]; exact hx))).mpr (h x (List.mem_cons_of_mem _ hx))
    rw [List.length_erase_of_mem ha] at this
    have := List.length_pos_of_mem ha
    rw [List.length_cons]
    omega
theorem reps {t : List Nat → Nat} {q : List Nat → Bool} : ∀ {F : List (List Nat)}, F.flatten.Nodup → (∀ r ∈ F, q r = true → t r ∈ r) → ((F.filter q).map t).Nodup ∧ ∀ x ∈ (F.filter q).map t, x ∈ F.flatten
  | [], _, _ => ⟨.nil, fun _ h => nomatch h⟩
  | r :: F, nd, h => by
    rw [List.flatten_cons, List.nodup_append] at nd
    obtain ⟨i1, i2⟩ := reps (F := F) nd.2.1 fun r hr => h r (List.mem_cons_of_mem _ hr)
    rw [List.filter_cons]
    cases c : q r with
    | false =>
      rw [if_neg (by decide)]
      exact ⟨i1, fun x hx => List.mem_append_right _ (i2 x hx)⟩
    | true =>
      have tr := h r (List.mem_cons_self ..) c
      rw [if_pos rfl, List.map_cons, List.nodup_cons]
      refine ⟨⟨fun z => nd.2.2 _ tr _ (i2 _ z) rfl, i1⟩, fun x hx => ?_⟩
      rcases List.mem_cons.mp hx with rfl | hx
      · exact List.mem_append_left _ tr
      · exact List.mem_append_right _ (i2 x hx)
theorem no_fewer {ps : Prs} (ok : Ok ps) {h0 h1 : Nat} {rows : Prs} (D : Dne ps h0 h1 rows) : (mov ps).length + nOpen ps ≤ rows.length := by
  obtain ⟨g, hg⟩ : ∃ g : Nat → Nat, ∀ p, byS ps p = true → (g p, p) ∈ wr id rows ∧ g p ∉ tk ps p := Classical.axiomOfChoice (r := fun p z => byS ps p = true → (z, p) ∈ wr id rows ∧ z ∉ tk ps p) fun p => by
    by_cases c : byS ps p = true
    · obtain ⟨z, h⟩ := byS_row ok D c
      exact ⟨z, fun _ => h⟩
    · exact ⟨0, fun z => absurd z c⟩
  have RG := rings_ok ok
  obtain ⟨u, hu⟩ : ∃ u : List Nat → Nat × Nat, ∀ r, RingP ps r → opens ps r = none → (u r).1 ∈ r ∧ byS ps (u r).1 = false ∧ ((u r).2, (u r).1) ∈ wr id rows ∧ (u r).2 ∉ tk ps (u r).1 := Classical.axiomOfChoice (r := fun r (m : Nat × Nat) => RingP ps r → opens ps r = none → m.1 ∈ r ∧ byS ps m.1 = false ∧ (m.2, m.1) ∈ wr id rows ∧ m.2 ∉ tk ps m.1) fun r => by
    by_cases c : RingP ps r ∧ opens ps r = none
    · obtain ⟨t, z, h⟩ := ring_row ok D c.1 c.2
      exact ⟨(t, z), fun _ _ => h⟩
    · exact ⟨(0, 0), fun z1 z2 => absurd ⟨z1, z2⟩ c⟩
  have inR : ∀ r ∈ (rings ps).filter (fun r => (opens ps r).isNone), RingP ps r ∧ opens ps r = none := fun r hr => by
    obtain ⟨a, b⟩ := List.mem_filter.mp hr
    exact ⟨RG.ok r a, Option.isNone_iff_eq_none.mp b⟩
  obtain ⟨r1, _⟩ := reps (t := fun r => (u r).1) (q := fun r => (opens ps r).isNone) RG.nd fun r hr c => (hu r (RG.ok r hr) (Option.isNone_iff_eq_none.mp c)).1
  have kn : ((keys ps).filter (byS ps)).Nodup := List.Nodup.sublist (List.filter_sublist ..) (List.Nodup.sublist (List.filter_sublist ..) List.nodup_range)
  have xn : (((keys ps).filter (byS ps)).map (fun p => (g p, p)) ++ ((rings ps).filter fun r => (opens ps r).isNone).map fun r => ((u r).2, (u r).1)).Nodup := by
    refine nodup_of_map (f := Prod.snd) ?_
    rw [List.map_append, List.map_map, List.map_map, List.nodup_append]
    refine ⟨by rw [show (Prod.snd ∘ fun p => (g p, p)) = (id : Nat → Nat) from rfl, List.map_id]; exact kn, r1, fun x hx y hy e => ?_⟩
    obtain ⟨p, hp, rfl⟩ := List.mem_map.mp hx
    obtain ⟨r, hr, rfl⟩ := List.mem_map.mp hy
    obtain ⟨q1, q2⟩ := inR r hr
    have h1 := (List.mem_filter.mp hp).2
    have h2 := (hu r q1 q2).2.1
    have e : p = (u r).1 := e
    rw [← e, h1] at h2
    cases h2
  have all : ∀ m ∈ ((keys ps).filter (byS ps)).map (fun p => (g p, p)) ++ ((rings ps).filter fun r => (opens ps r).isNone).map (fun r => ((u r).2, (u r).1)), m ∈ wr id rows ∧ m.1 ∉ tk ps m.2 := fun m hm => by
    rcases List.mem_append.mp hm with hm | hm
    · obtain ⟨p, hp, rfl⟩ := List.mem_map.mp hm
      exact hg p (List.mem_filter.mp hp).2
    · obtain ⟨r, hr, rfl⟩ := List.mem_map.mp hm
      obtain ⟨q1, q2⟩ := inR r hr
      exact (hu r q1 q2).2.2
  have big := sub_lenG (l := mov ps ++ (((keys ps).filter (byS ps)).map (fun p => (g p, p)) ++ ((rings ps).filter fun r => (opens ps r).isNone).map fun r => ((u r).2, (u r).1))) (N := wr id rows) (List.nodup_append.mpr ⟨nodup_of_map ok.mov, xn, fun x hx y hy e => (all y hy).2 (by
    rw [← e]
    exact tk_mem.mpr hx)⟩) fun m hm => by
    rcases List.mem_append.mp hm with hm | hm
    · obtain ⟨x, p⟩ := m
      obtain ⟨e, n⟩ := D.mv hm ok
      obtain ⟨A, B, y, e1, e2⟩ := wr_at rows id e n
      have := wr_mem (z := x) (y := y) (B := B) A id
      rw [← e1, e2] at this
      exact this
    · exact (all m hm).1
  rw [wr_len, List.length_append, List.length_append, List.length_map, List.length_map] at big
  unfold nOpen
  exact big
end M59
/-! ## k60: rows stay within the places of the pairs and the helpers -/
namespace M59
def InU (U : Nat → Prop) (rows : Prs) : Prop := ∀ r ∈ rows, U r.1 ∧ U r.2
section
variable {U : Nat → Prop} {ps : Prs} (hU : ∀ m ∈ ps, U m.1 ∧ U m.2)
theorem InU.app {a b : Prs} (h : InU U a) (g : InU U b) : InU U (a ++ b) := fun r hr => (List.mem_append.mp hr).elim (h r) (g r)
include hU
theorem tkU {t p : Nat} (h : t ∈ tk ps p) : U t ∧ U p := hU (t, p) (mov_mem.mp (tk_mem.mp h)).1
theorem outsU {r : List Nat} {p t : Nat} (h : t ∈ outs ps r p) : U t := (tkU hU (outs_mem.mp h).1).1
omit hU in
theorem inu_taken {P h : Nat} {ts : List Nat} (hP : U P) (ht : ∀ t ∈ ts, U t) (hh : isR P = false → fstR ts = none → U h) : InU U (taken P ts h) := by
  unfold taken
  by_cases c : isR P = true
  · rw [if_pos c]
    intro r hr
    obtain ⟨t, h1, rfl⟩ := List.mem_map.mp hr
    exact ⟨ht t h1, hP⟩
  · rw [if_neg c]
    have hf : U ((fstR ts).getD h) := by
      cases hk : fstR ts with
      | none => exact hh (by simpa using c) hk
      | some k => exact ht k (fstR_mem hk).1
    intro r hr
    rcases List.mem_cons.mp hr with rfl | hr
    · exact ⟨hf, hP⟩
    · obtain ⟨t, h1, rfl⟩ := List.mem_map.mp hr
      exact ⟨ht t (List.mem_filter.mp h1).1, hf⟩
theorem inu_hold {r : List Nat} {p h : Nat} (hp : U p) (hh : U h) : InU U (hold ps r p h) := fun m hm => by
  rcases List.mem_cons.mp hm with rfl | hm
  · exact ⟨hh, hp⟩
  · obtain ⟨t, ht, rfl⟩ := List.mem_map.mp hm
    exact ⟨outsU hU (late_mem ht).1, hh⟩
theorem inu_bring {r : List Nat} {h t s : Nat} (ht : U t) (hs : U s) (hh : U h) : InU U (bring ps r h t s) := by
  unfold bring
  by_cases c : isR s = false ∧ isR t = false
  · rw [if_pos c]
    cases hk : keep ps r s with
    | some k =>
      intro m hm
      rw [List.mem_singleton.mp hm]
      exact ⟨ht, outsU hU (fstR_mem hk).1⟩
    | none =>
      refine (inu_hold hU hs hh).app fun m hm => ?_
      rw [List.mem_singleton.mp hm]
      exact ⟨ht, hh⟩
  · rw [if_neg c]
    intro m hm
    rcases List.mem_cons.mp hm with rfl | hm
    · exact ⟨ht, hs⟩
    · obtain ⟨y, hy, rfl⟩ := List.mem_map.mp hm
      exact ⟨outsU hU (late_mem hy).1, ht⟩
theorem inu_brings {r : List Nat} {h : Nat} (hh : U h) : ∀ q : List Nat, (∀ p ∈ q, U p) → InU U (brings ps r h q)
  | [], _ => fun m hm => nomatch hm
  | [t], _ => fun m hm => nomatch hm
  | t :: s :: q, hq => (inu_bring hU (hq t (List.mem_cons_self ..)) (hq s (List.mem_cons_of_mem _ (List.mem_cons_self ..))) hh).app (inu_brings hh (s :: q) fun p hp => hq p (List.mem_cons_of_mem _ hp))
theorem RingP.inU (ok : Ok ps) {r : List Nat} (R : RingP ps r) : ∀ p ∈ r, U p := fun p hp => by
  rcases src_cases ok p with ⟨h, _⟩ | ⟨h, _⟩
  · exact (hU _ (mov_mem.mp h).1).1
  · exact absurd h (R.mv p hp).2
theorem inu_ring (ok : Ok ps) {h0 h1 : Nat} (e0 : U h0) (e1 : U h1) {r : List Nat} (R : RingP ps r) : InU U (ringRows ps h0 h1 r) := by
  obtain ⟨a, ho, ha, e, HO, _⟩ := R.opens ok
  unfold ringRows
  rw [e]
  show InU U (r.flatMap (init ps r) ++ turn ps r (turned r a) ho h0 h1)
  obtain ⟨_, t2, t3, _⟩ := R.turned ha
  have pm := turned_perm r a
  have inr := R.inU hU ok
  refine InU.app (fun m hm => ?_) ?_
  · obtain ⟨p, hp, hm⟩ := List.mem_flatMap.mp hm
    unfold init at hm
    by_cases c : isL ps r p
    · rw [if_pos c] at hm
      exact nomatch hm
    · rw [if_neg c] at hm
      exact inu_taken (inr p hp) (fun t ht => outsU hU ht) (fun a b => absurd ⟨a, b⟩ c) m hm
  · unfold turn
    refine InU.app (InU.app ?_ (inu_brings hU e1 _ fun p hp => inr p (pm.mem_iff.mp hp))) fun m hm => ?_
    · cases ho with
      | none =>
        have : (turned r a).headD 0 = r[a] := by
          rw [List.headD_eq_head?_getD, t2]
          rfl
        show InU U (hold ps r ((turned r a).headD 0) h0)
        rw [this]
        exact inu_hold hU (inr _ (List.getElem_mem ha)) e0
      | some k => exact fun m hm => nomatch hm
    · rw [List.mem_singleton.mp hm, t3]
      have fr := inr _ (pm.mem_iff.mp (List.mem_of_getLast? t3))
      cases ho with
      | none => exact ⟨fr, e0⟩
      | some k => exact ⟨fr, outsU hU HO.1⟩
theorem inu_rows (ok : Ok ps) {h0 h1 : Nat} (e0 : U h0) (e1 : U h1) {L : List Nat} (h : Lp ps (fixed ps) L) : InU U (allRows ps h0 h1 L) := by
  refine InU.app (fun m hm => ?_) fun m hm => ?_
  · obtain ⟨p, hp, hm⟩ := List.mem_flatMap.mp hm
    obtain ⟨t, ht⟩ := List.exists_mem_of_ne_nil _ ((keys_mem ok).mp ((h.mem p).mp hp).1)
    exact inu_taken (tkU hU ht).2 (fun t ht => (tkU hU ht).1) (fun _ _ => e0) m hm
  · obtain ⟨r, hr, hm⟩ := List.mem_flatMap.mp hm
    exact inu_ring hU ok e0 e1 ((rings_ok ok).ok r hr) m hm
end
end M59
/-! ## dict(zip(s, t)) of two tuples -/
namespace DZ
open PySem PySem.Sem L2
section
variable {prog : Program} {w : World} {A : Around} {E : Value → Shared → Prop} {s : Shared} {z TI TO T i1 i2 l1 l2 : Addr} {f : Bool} {oT : Obj} {k1 k2 : Nat} {xs ys : Array Value}
/-- the next pair, while the tuple that was given ahead is held -/
theorem held_item {x y : Value} {Q : Value → Shared → Prop} (D : ZipApart z TI TO i1 i2 l1 l2) (hz : IsZipHeld s.heap z TI TO T f) (hT : s.heap.get? T = some oT) (hTI : IsPair s.heap TI (.ref i1) (.ref i2)) (h1 : s.heap.IsTupleIter i1 l1 k1) (h2 : s.heap.IsTupleIter i2 l2 k2) (hl1 : s.heap.IsTuple l1 xs) (hl2 : s.heap.IsTuple l2 ys) (hx : xs[k1]? = some x) (hy : ys[k2]? = some y)
    (hQ : ∀ h', IsZipHeld h' z TI TO T true ∧ h'.IsTupleIter i1 l1 (k1 + 1) ∧ h'.IsTupleIter i2 l2 (k2 + 1) ∧ IsPair h' s.heap.objs.size x y ∧ (∀ c o, c ≠ z → c ≠ i1 → c ≠ i2 → s.heap.get? c = some o → h'.get? c = some o) → Q (.ref s.heap.objs.size) { s with heap := h' }) :
    wpAny (model prog w) A (Builtin.«zip.__next__» ⟨[.ref z], []⟩) (fun fin s' => ∃ v, fin = .done (.ret v) ∧ Q v s') E s := by
  show wpAny _ _ (field (.ref z) 2 >>= _) _ _ _
  refine wpAny_bind (wpAny_field hz rfl (x := .bool false) rfl (show wpAny _ _ (field (.ref z) 3 >>= _) _ _ _ from ?_))
  refine wpAny_bind (wpAny_field hz rfl (x := .ref TI) rfl (wpAny_bind (wpAny_seqItems hTI rfl ?_)))
  refine wpAny_bind (m := Builtin.SmallTypes.ownedTupleIsFree (.ref z)) (wpAny_tupleHeld_zip hz hT fun g hzg sg => ?_)
  simp only [Bool.false_eq_true, if_false]
  refine wpAny_bind ?_
  rw [← Array.forIn_toList]
  simp only [List.forIn_nil, List.forIn_cons]
  refine wpAny_bind (wpAny_bind (wpAny_holding (wpAny_bind (m := Builtin.SmallTypes.nextOf (.ref i1)) (RZ.nextOf_tuple_item (s := { s with heap := g }) (h1.extBut sg.extBut D.i1z) (hl1.extBut sg.extBut D.l1z) hx fun g2 hg2 s2 => wpAny_pure (wpAny_pure ?_)))))
  refine wpAny_bind (wpAny_bind (wpAny_holding (wpAny_bind (m := Builtin.SmallTypes.nextOf (.ref i2)) (RZ.nextOf_tuple_item (s := { s with heap := g2 }) ((h2.extBut sg.extBut D.i2z).extBut s2.extBut D.i12.symm) ((hl2.extBut sg.extBut D.l2z).extBut s2.extBut D.l2i1) hy fun g3 hg3 s3 => wpAny_pure (wpAny_pure (wpAny_pure ?_))))))
  refine wpAny_bind (m := newTuple [x, y]) (wpAny_newTuple (wpAny_pure ⟨_, rfl, ?_⟩))
  have sz : g3.objs.size = s.heap.objs.size := s3.1.trans (s2.1.trans sg.1)
  have up : ∀ c o, g3.get? c = some o → (g3.push { cls := .type "tuple", data := .seq #[x, y] }).get? c = some o := fun c o e => Heap.get?_push_of_some _ e
  have pr : IsPair (g3.push { cls := .type "tuple", data := .seq #[x, y] }) g3.objs.size x y := Heap.get?_push_size _ rfl
  show Q (.ref g3.objs.size) _
  rw [sz] at pr ⊢
  exact hQ _ ⟨up _ _ (s3.extBut _ _ D.i2z.symm (s2.extBut _ _ D.i1z.symm hzg)), (hg2.extBut s3.extBut D.i12).at fun o e => up _ o e, hg3.at fun o e => up _ o e, pr, fun c o a1 a2 a3 e => up c o (s3.extBut _ _ a3 (s2.extBut _ _ a2 (sg.extBut _ _ a1 e)))⟩
theorem held_end {Q : PySem.Fin → Shared → Prop} (hh : A.handled = none) (D : ZipApart z TI TO i1 i2 l1 l2) (hz : IsZipHeld s.heap z TI TO T f) (hT : s.heap.get? T = some oT) (hTI : IsPair s.heap TI (.ref i1) (.ref i2)) (h1 : s.heap.IsTupleIter i1 l1 k1) (h2 : s.heap.IsTupleIter i2 l2 k2) (hl1 : s.heap.IsTuple l1 xs) (hl2 : s.heap.IsTuple l2 ys) (hx : xs[k1]? = none)
    (hE : ∀ h' e, (∀ c o, c ≠ z → c ≠ i1 → c ≠ i2 → s.heap.get? c = some o → h'.get? c = some o) → (∃ o, h'.get? e = some o ∧ o.cls = .type "StopIteration") → E (.ref e) { s with heap := h' }) :
    wpAny (model prog w) A (Builtin.«zip.__next__» ⟨[.ref z], []⟩) Q E s := by
  show wpAny _ _ (field (.ref z) 2 >>= _) _ _ _
  refine wpAny_bind (wpAny_field hz rfl (x := .bool false) rfl (show wpAny _ _ (field (.ref z) 3 >>= _) _ _ _ from ?_))
  refine wpAny_bind (wpAny_field hz rfl (x := .ref TI) rfl (wpAny_bind (wpAny_seqItems hTI rfl ?_)))
  refine wpAny_bind (m := Builtin.SmallTypes.ownedTupleIsFree (.ref z)) (wpAny_tupleHeld_zip hz hT fun g hzg sg => ?_)
  simp only [Bool.false_eq_true, if_false]
  refine wpAny_bind ?_
  rw [← Array.forIn_toList]
  simp only [List.forIn_nil, List.forIn_cons]
  refine wpAny_bind (wpAny_bind (wpAny_holding (wpAny_bind (m := Builtin.SmallTypes.nextOf (.ref i1)) (RZ.nextOf_tuple_end (s := { s with heap := g }) hh (h1.extBut sg.extBut D.i1z) (hl1.extBut sg.extBut D.l1z) hx fun g2 e s2 he => ?_))))
  exact hE g2 e (fun c o a1 a2 _ x => s2 _ _ a2 (sg.extBut _ _ a1 x)) he
theorem next_item {x y : Value} {Q : Option Value → Shared → Prop} (D : ZipApart z TI TO i1 i2 l1 l2) (hz : IsZipHeld s.heap z TI TO T f) (hT : s.heap.get? T = some oT) (hTI : IsPair s.heap TI (.ref i1) (.ref i2)) (h1 : s.heap.IsTupleIter i1 l1 k1) (h2 : s.heap.IsTupleIter i2 l2 k2) (hl1 : s.heap.IsTuple l1 xs) (hl2 : s.heap.IsTuple l2 ys) (hx : xs[k1]? = some x) (hy : ys[k2]? = some y)
    (hQ : ∀ h', IsZipHeld h' z TI TO T true ∧ h'.IsTupleIter i1 l1 (k1 + 1) ∧ h'.IsTupleIter i2 l2 (k2 + 1) ∧ IsPair h' s.heap.objs.size x y ∧ (∀ c o, c ≠ z → c ≠ i1 → c ≠ i2 → s.heap.get? c = some o → h'.get? c = some o) → Q (some (.ref s.heap.objs.size)) { s with heap := h' }) :
    wpAny (model prog w) A (pyNext (.ref z)) Q E s := by
  have ty : s.TypeIs (.ref z) "zip" := ⟨_, hz, rfl⟩
  unfold pyNext
  exact wpAny_bind (wpAny_attempt (wpAny_callSpecial?_slot (name := Str.ofString "__next__") ty F.slot_zip_next (wpAny_call_entry F.slot_zip_next ty F.entry_zip_next (held_item D hz hT hTI h1 h2 hl1 hl2 hx hy fun h' a => wpAny_pure (hQ h' a)) (F.args_zip_next_1 _))))
theorem next_end {Q : Option Value → Shared → Prop} (hh : A.handled = none) (D : ZipApart z TI TO i1 i2 l1 l2) (hz : IsZipHeld s.heap z TI TO T f) (hT : s.heap.get? T = some oT) (hTI : IsPair s.heap TI (.ref i1) (.ref i2)) (h1 : s.heap.IsTupleIter i1 l1 k1) (h2 : s.heap.IsTupleIter i2 l2 k2) (hl1 : s.heap.IsTuple l1 xs) (hl2 : s.heap.IsTuple l2 ys) (hx : xs[k1]? = none)
    (hQ : ∀ h', (∀ c o, c ≠ z → c ≠ i1 → c ≠ i2 → s.heap.get? c = some o → h'.get? c = some o) → Q none { s with heap := h' }) : wpAny (model prog w) A (pyNext (.ref z)) Q E s := by
  have ty : s.TypeIs (.ref z) "zip" := ⟨_, hz, rfl⟩
  unfold pyNext
  refine wpAny_bind (wpAny_attempt (wpAny_callSpecial?_slot (name := Str.ofString "__next__") ty F.slot_zip_next (wpAny_call_entry F.slot_zip_next ty F.entry_zip_next (held_end hh D hz hT hTI h1 h2 hl1 hl2 hx fun h' e hk he => ?_) (F.args_zip_next_1 _))))
  obtain ⟨o, ho, hc⟩ := he
  exact wpAny_bind (wpAny_isInstance (T := "StopIteration") (b := true) ⟨o, ho, hc⟩ isSubtype_stop (wpAny_pure (hQ _ hk)))
end
/-- the zip of two tuples of one length as dict()'s argument -/
theorem arg {prog : Program} {w : World} (z TI TO i1 i2 l1 l2 : Addr) (D : ZipApart z TI TO i1 i2 l1 l2) (xs ys : Array Value) (el : xs.size = ys.size) :
    PairArg prog w "zip" z [z, TI, TO, i1, i2, l1, l2] [z, TO, i1, i2] xs.size (fun i k v => xs[i]? = some k ∧ ys[i]? = some v)
      (fun h => IsZip h z TI TO .none ∧ IsPair h TI (.ref i1) (.ref i2) ∧ (∃ a b, IsPair h TO a b) ∧ h.IsTupleIter i1 l1 0 ∧ h.IsTupleIter i2 l2 0 ∧ h.IsTuple l1 xs ∧ h.IsTuple l2 ys) where
  type := fun s q => ⟨_, q.1, rfl⟩
  notDict := by decide
  keep := fun h h' ⟨q1, q2, ⟨a, b, q3⟩, q4, q5, q6, q7⟩ k => ⟨k _ _ q1, k _ _ q2, ⟨a, b, k _ _ q3⟩, q4.at fun o e => k _ o e, q5.at fun o e => k _ o e, q6.at fun o e => k _ o e, q7.at fun o e => k _ o e⟩
  there := fun h ⟨q1, q2, ⟨a, b, q3⟩, ⟨o4, q4, _⟩, ⟨o5, q5, _⟩, ⟨o6, q6, _⟩, ⟨o7, q7, _⟩⟩ c hc => by
    simp only [List.mem_cons, List.not_mem_nil, or_false] at hc
    rcases hc with rfl | rfl | rfl | rfl | rfl | rfl | rfl
    · exact ⟨_, q1⟩
    · exact ⟨_, q2⟩
    · exact ⟨_, q3⟩
    · exact ⟨_, q4⟩
    · exact ⟨_, q5⟩
    · exact ⟨_, q6⟩
    · exact ⟨_, q7⟩
  sub := fun c hc => by
    simp only [List.mem_cons, List.not_mem_nil, or_false] at hc ⊢
    rcases hc with e | e | e | e <;> simp [e]
  noKeys := fun A s Q E hA q h => getAttrOr_miss_zip q.1 rfl rfl rfl zip_no_keys (by decide +kernel) hA h
  iter := fun A s d Q E hA ⟨q1, q2, ⟨a, b, q3⟩, q4, q5, q6, q7⟩ hd hdf h => by
    simp only [List.mem_cons, List.not_mem_nil, or_false, not_or] at hdf
    obtain ⟨dz, dTI, dTO, d1, d2, e1, e2⟩ := hdf
    refine wpAny_pyIter_zip q1 (h z [z, TO, i1, i2] (fun i h => (IsPair h TI (.ref i1) (.ref i2) ∧ h.IsTupleIter i1 l1 i ∧ h.IsTupleIter i2 l2 i ∧ h.IsTuple l1 xs ∧ h.IsTuple l2 ys) ∧ ((IsZip h z TI TO .none ∧ ∃ a b, IsPair h TO a b) ∨ ∃ T f oT, IsZipHeld h z TI TO T f ∧ h.get? T = some oT ∧ T ≠ z ∧ T ≠ i1 ∧ T ≠ i2 ∧ T ≠ d)) s.heap s.toks ⟨?_, ?_, ?_, ?_⟩ ⟨⟨q2, q4, q5, q6, q7⟩, .inl ⟨q1, a, b, q3⟩⟩ (fun _ _ e => e) fun c hc => .inl hc)
    · intro hm
      simp only [List.mem_cons, List.not_mem_nil, or_false] at hm
      exact hm.elim dz fun hm => hm.elim dTO fun hm => hm.elim d1 d2
    · rintro i h1 h2 ⟨⟨p1, p2, p3, p4, p5⟩, c⟩ k
      refine ⟨⟨k _ _ (Ne.symm dTI) p1, p2.at fun o e => k _ o (Ne.symm d1) e, p3.at fun o e => k _ o (Ne.symm d2) e, p4.at fun o e => k _ o (Ne.symm e1) e, p5.at fun o e => k _ o (Ne.symm e2) e⟩, ?_⟩
      rcases c with ⟨c1, a, b, c2⟩ | ⟨T, f, oT, c1, c2, c3, c4, c5, c6⟩
      · exact .inl ⟨k _ _ (Ne.symm dz) c1, a, b, k _ _ (Ne.symm dTO) c2⟩
      · exact .inr ⟨T, f, oT, k _ _ (Ne.symm dz) c1, k _ _ c6 c2, c3, c4, c5, c6⟩
    · rintro i s1 Q1 E1 hi ⟨⟨p1, p2, p3, p4, p5⟩, c⟩ hds hQ
      have ex := Array.getElem?_eq_getElem hi
      have ey := Array.getElem?_eq_getElem (show i < ys.size by omega)
      have far : ∀ {c o}, s1.heap.get? c = some o → s1.heap.objs.size ≠ c := fun e => Nat.ne_of_gt (Heap.lt_size e)
      have far1 : s1.heap.objs.size ≠ i1 := let ⟨_, e, _⟩ := p2; far e
      have far2 : s1.heap.objs.size ≠ i2 := let ⟨_, e, _⟩ := p3; far e
      rcases c with ⟨c1, a, b, c2⟩ | ⟨T, f, oT, c1, c2, c3, c4, c5, c6⟩
      · refine RZ.pyNext_zipT_item D c1 p1 c2 p2 p3 p4 p5 ex ey fun h' a1 a2 a3 a4 a5 a6 k => ?_
        exact hQ s1.heap.objs.size _ _ h' s1.toks ⟨ex, ey⟩ (.inl ⟨_, a5, rfl, _, rfl⟩) ⟨⟨k _ _ D.TIz D.TITO D.TIi1 D.TIi2 p1, a3, a4, p4.at fun o e => k _ o D.l1z D.l1TO D.l1i1 D.l1i2 e, p5.at fun o e => k _ o D.l2z D.l2TO D.l2i1 D.l2i2 e⟩, .inr ⟨s1.heap.objs.size, false, _, a1, a5, far c1, far1, far2, Nat.ne_of_gt hds⟩⟩
          fun c o hc e => k c o (fun x => hc (by simp [x])) (fun x => hc (by simp [x])) (fun x => hc (by simp [x])) (fun x => hc (by simp [x])) e
      · refine next_item D c1 c2 p1 p2 p3 p4 p5 ex ey fun h' ⟨a1, a3, a4, a5, k⟩ => ?_
        exact hQ s1.heap.objs.size _ _ h' s1.toks ⟨ex, ey⟩ (.inl ⟨_, a5, rfl, _, rfl⟩) ⟨⟨k _ _ D.TIz D.TIi1 D.TIi2 p1, a3, a4, p4.at fun o e => k _ o D.l1z D.l1i1 D.l1i2 e, p5.at fun o e => k _ o D.l2z D.l2i1 D.l2i2 e⟩, .inr ⟨T, true, oT, a1, k _ _ c3 c4 c5 c2, c3, c4, c5, c6⟩⟩
          fun c o hc e => k c o (fun x => hc (by simp [x])) (fun x => hc (by simp [x])) (fun x => hc (by simp [x])) e
    · rintro s1 Q1 E1 ⟨⟨p1, p2, p3, p4, p5⟩, c⟩ hQ
      have ex : xs[xs.size]? = none := Array.getElem?_eq_none (Nat.le_refl _)
      rcases c with ⟨c1, a, b, c2⟩ | ⟨T, f, oT, c1, c2, c3, c4, c5, c6⟩
      · exact RZ.pyNext_zipT_end hA D c1 p1 c2 p2 p3 p4 p5 (.inl ex) fun h' k => hQ h' s1.toks fun c o hc e => k c o (fun x => hc (by simp [x])) (fun x => hc (by simp [x])) (fun x => hc (by simp [x])) (fun x => hc (by simp [x])) e
      · exact next_end hA D c1 c2 p1 p2 p3 p4 p5 ex fun h' k => hQ h' s1.toks fun c o hc e => k c o (fun x => hc (by simp [x])) (fun x => hc (by simp [x])) (fun x => hc (by simp [x])) e
theorem prs_of {P : Program} {w : World} : ∀ {kvs : List (L2.Key × V)} {is js : List Value}, Vals (kvs.map fun kv => kV kv.1) is → Vals (kvs.map (·.2)) js → ∃ prs : List (L2.Key × Value), KV kvs prs ∧ prs.length = is.length ∧ js.length = is.length ∧ ∀ (i : Nat) (key v : Value), is[i]? = some key → js[i]? = some v → ∃ k, prs[i]? = some (k, v) ∧ (mixKind P w).is k key = true
  | [], _, _, .nil, .nil => ⟨[], .nil, rfl, rfl, fun i _ _ e => by simp at e⟩
  | kv :: kvs, _, _, .cons r1 t1, .cons (b := u) r2 t2 => by
    obtain ⟨prs, a, b, c, d⟩ := prs_of (P := P) (w := w) t1 t2
    refine ⟨(kv.1, u) :: prs, .cons ⟨rfl, r2⟩ a, by rw [List.length_cons, List.length_cons, b], by rw [List.length_cons, List.length_cons, c], fun i key v e1 e2 => ?_⟩
    cases i with
    | zero =>
      cases e1
      cases e2
      exact ⟨_, rfl, kV_is r1⟩
    | succ i =>
      obtain ⟨k, g1, g2⟩ := d i key v (by simpa using e1) (by simpa using e2)
      exact ⟨k, by simpa using g1, g2⟩
end DZ
def tDictZip (K : PySem.W.Frag) (ta : TA) : TE := fun σ H Q => ta σ H fun vs H1 => ∃ (a b : Addr) (kvs : List (L2.Key × V)), vs = [.ref a, .ref b] ∧ SqT K H1 a (kvs.map fun kv => kV kv.1) ∧ SqT K H1 b (kvs.map (·.2)) ∧ ∀ p, H1 p = none → Q (.ref p) (upd H1 p (.dK (mergeK [] kvs)))
theorem pe_dictZip {X : Cx} {e e2 : Expr} {ta : TA} {p p2 pos pos2 : Pos} (hcalm : X.calm = true) (hg : Gl X "dict") (hm : X.mg "dict" = none) (hg2 : Gl X "zip") (hm2 : X.mg "zip" = none) (ha : PA X [e, e2] ta)
    (hs : starEach [e, e2] X.env = (false, eval e X.env) :: starEach [e2] X.env := by rfl) (hpl : (backTo pos2 (starEach [e2] X.env)).any (·.1) = false := by rfl)
    (hs2 : starEach [Expr.Call (.Name "zip" p2) [e, e2] [] pos2] X.env = (false, eval (Expr.Call (.Name "zip" p2) [e, e2] [] pos2) X.env) :: starEach [] X.env := by rfl) :
    PE X (.Call (.Name "dict" p) [.Call (.Name "zip" p2) [e, e2] [] pos2] [] pos) (tDictZip X.K ta) := by
  refine ⟨fun pins s σ H Q I h => ?_⟩
  refine wpAny_Call_Name_kw (ld_blt I hg hm (show bootBuiltins ("dict" : Str) = some (.type "dict") by decide +kernel) (PyProof.Rows.callWith_type1 ?_ hs2 rfl) (by decide) (by decide))
  rw [hs2]
  refine PySem.Calls.spliced_cons ?_
  refine wpAny_Call_Name_kw (ld_blt I hg2 hm2 PyProof.Rows.boot_zip (PyProof.Rows.callWith_type1 (thn (ha.run pos2 pins s σ H _ I h) fun us s1 ⟨vs, H1, I1, r1, a, b, kvs, ev, hq1, hq2, q⟩ => ?_) hs hpl) (by decide) (by decide))
  subst ev
  cases r1 with
  | cons ra rr =>
    cases rr with
    | cons rb rr =>
      cases rr
      cases ra
      cases rb
      obtain ⟨is, rv1, p1, hz1⟩ := I1.tuple hq1
      obtain ⟨js, rv2, p2, _⟩ := I1.tuple hq2
      have hli : is.length = kvs.length := by
        have := rv1.length
        rw [List.length_map] at this
        exact this.symm
      have hz1 : is.length ≤ sizeLine := by
        rw [List.length_map] at hz1
        rw [hli]
        exact hz1
      obtain ⟨o1, ho1, _⟩ := id p1
      obtain ⟨o2, ho2, _⟩ := id p2
      obtain ⟨prs, rel, pl1, pl2, hpr⟩ := DZ.prs_of (P := X.prog) (w := X.w) rv1 rv2
      refine RZ.call_zipT (show s1.heap.IsTuple a is.toArray from p1) (show s1.heap.IsTuple b js.toArray from p2) fun h' hz hTI hTO i1 i2 hsz hk => ?_
      refine PySem.Calls.spliced_nil ?_
      have D := PySem.W.ktu_apart s1.heap.objs.size a b (Heap.lt_size ho1) (Heap.lt_size ho2)
      have P := DZ.arg (prog := X.prog) (w := X.w) _ _ _ _ _ a b D is.toArray js.toArray (by simp [pl2])
      refine PySem.call_dict_pairs (kvs := prs) P (I1.ok.hd hcalm) ⟨hz, hTI, ⟨_, _, hTO⟩, i1, i2, (show s1.heap.IsTuple a is.toArray from p1).at fun o e => hk _ o e, (show s1.heap.IsTuple b js.toArray from p2).at fun o e => hk _ o e⟩ ⟨by simp [pl1], fun i key v hr => hpr i key v (by simpa using hr.1) (by simpa using hr.2)⟩ (by simpa using hz1) fun h2 tk hd hk2 => ?_
      have keep : ∀ c o, s1.heap.get? c = some o → h2.get? c = some o := fun c o e => hk2 c o (fun hc => by
        have lt := Heap.lt_size e
        simp only [List.mem_cons, List.not_mem_nil, or_false] at hc
        rcases hc with z | z | z | z <;> rw [z] at lt
        all_goals first | exact absurd lt (Nat.not_lt.mpr (Nat.le_add_right _ _)) | exact absurd lt (Nat.lt_irrefl _)) (hk c o e)
      have le : s1.heap.objs.size ≤ h'.objs.size := by rw [hsz]; exact Nat.le_add_right _ _
      have hm9 : (h'.objs.size == sysModules) = false := beq_eq_false_iff_ne.mpr (Nat.ne_of_gt (Nat.lt_of_lt_of_le I1.big le))
      have hlen : (mergeK [] kvs).length ≤ sizeLine := by
        refine Nat.le_trans (length_mergeK kvs []) ?_
        rw [List.length_nil, Nat.zero_add, rel.length, pl1]
        exact hz1
      exact ⟨.ref h'.objs.size, upd H1 h'.objs.size (.dK (mergeK [] kvs)), I1.laid (t' := tk) keep le (show ObjOk X.prog X.w _ _ _ (.dK (mergeK [] kvs)) from ⟨hlen, hm9, merged [] prs, KV.merge rel .nil, hd⟩), rfl, q _ (I1.hok.fresh le)⟩
/-! ## {t: v}, t a tuple -/
def tDispT1 (tk tv : TE) : TE := fun σ H Q => ∀ p, H p = none → tk σ (upd H p (.dT [])) fun x H1 => tv σ H1 fun y H2 => H2 p = some (.dT []) ∧ ∃ (b : Addr) (k : List L2.Key), x = .ref b ∧ H2 b = some (.tup (k.map kV)) ∧ Q (.ref p) (upd H2 p (.dT [(k, y)]))
theorem pe_dispT1 {X : Cx} {k v : Expr} {tk tv : TE} {pos : Pos} (hu : X.A.units + 1 < cLine) (hk : PE X k tk) (hv : PE X v tv) : PE X (.Dict [some k] [v] pos) (tDispT1 tk tv) := by
  refine ⟨fun pins s σ H Q I q => ?_⟩
  have hn := I.hok.fresh (Nat.le_refl s.heap.objs.size)
  have I1 := I.laid (a := s.heap.objs.size) (o := .dT []) (h' := s.heap.push { cls := .type "dict", data := .dict #[] }) (t' := s.toks) (fun _ _ q => Heap.get?_push_of_some _ q) (Nat.le_refl _) (dt_empty s.heap I.big)
  refine PySem.wpAny_Dict_any rfl rfl (by simp) (by simp) ?_
  refine PySem.pairTrees_cons_walk (thn (hk.run pins _ σ _ _ I1 (q _ hn)) fun u s1 ⟨x, H1, I2, rx, q1⟩ => thn (hv.run pins s1 σ H1 _ I2 q1) fun u2 s2 ⟨y, H2, I3, ry, e, b, kk, ex, eb, q2⟩ => PySem.pairTrees_nil_walk ?_)
  subst ex
  cases (show u = Value.ref b from rx)
  obtain ⟨z, hd, xs, rel, dd⟩ := dt_of I3.hok e
  cases rel
  refine PySem.wpAny_storeAllH (knd := tupleKind (mixKind X.prog X.w)) (show X.A.units < cLine from Nat.lt_of_succ_lt hu) [(.ref b, u2)] [(kk, b, u2)] [] s2 _ ⟨rfl, rfl, key_of I3.hok eb, trivial⟩ dd (show 1 ≤ sizeLine by decide) fun h' tk hm hs => ?_
  obtain ⟨o, es, ep, g1, g2, g3, g4, g5, g6⟩ := id hm
  have nb : b ≠ s.heap.objs.size := fun z => by rw [z, e] at eb; cases eb
  refine ⟨.ref s.heap.objs.size, _, d_write (t' := tk) I3 (by rw [e]; exact True.intro) hs ⟨o, g1⟩ ?_, rfl, q2⟩
  exact ⟨(show 1 ≤ sizeLine by decide), hd, [(kk, b, u2)], .cons ⟨rfl, by rw [upd_ne nb]; exact eb, ry⟩ .nil, o, es, ep, g1, g2, g3, g4, g6⟩
/-! ## lists in another order, cut -/
theorem perm_of_map {α β : Type} {f : α → β} {ys zs : List β} (p : ys.Perm zs) : ∀ {l : List α}, zs = l.map f → ∃ l' : List α, ys = l'.map f ∧ l'.Perm l := by
  have q := p.symm
  clear p
  induction q with
  | nil =>
    intro l e
    cases l with
    | nil => exact ⟨[], rfl, .refl _⟩
    | cons a l => cases e
  | cons x _ ih =>
    intro l e
    cases l with
    | nil => cases e
    | cons a l =>
      injection e with e1 e2
      obtain ⟨l', h1, h2⟩ := ih e2
      exact ⟨a :: l', by rw [List.map_cons, ← e1, ← h1], h2.cons a⟩
  | swap x y l0 =>
    intro l e
    match l, e with
    | a :: b :: l, e =>
      injection e with e1 e2
      injection e2 with e2 e3
      exact ⟨b :: a :: l, by rw [List.map_cons, List.map_cons, ← e1, ← e2, ← e3], .swap _ _ _⟩
  | trans _ _ ih1 ih2 =>
    intro l e
    obtain ⟨l1, a, b⟩ := ih1 e
    obtain ⟨l2, c, d⟩ := ih2 a
    exact ⟨l2, c, d.trans b⟩
theorem cutV_take (xs : List V) (n : Nat) : cutV xs none (some (n : Int)) = xs.take n := by
  unfold cutV
  rw [HT.sIx_nat, HT.sIx_none]
  refine List.ext_getElem? fun i => ?_
  simp only [List.getElem?_take, List.getElem?_drop]
  by_cases h : n ≤ xs.length
  · rw [Nat.min_eq_left h]
    simp
  · rw [Nat.min_eq_right (by omega)]
    by_cases h2 : i < n
    · by_cases h3 : i < xs.length
      · simp [h2, h3]
      · simp [h2, h3]
    · have : ¬ i < xs.length := by omega
      simp [h2, this]
theorem map_at {α β : Type} {f : α → β} {l : List α} {i : Nat} {y : β} (h : (l.map f)[i]? = some y) : ∃ x, l[i]? = some x ∧ y = f x := by
  rw [List.getElem?_map] at h
  cases e : l[i]? with
  | none => rw [e] at h; cases h
  | some x => rw [e] at h; injection h with h; exact ⟨x, rfl, h.symm⟩
/-- tuples in another order -/
theorem TuA.perm {α : Type} {c : α → List V} {H : Hp} {as bs : List Addr} (p : as.Perm bs) : ∀ {ms : List α}, TuA c H as ms → ∃ ns, ns.Perm ms ∧ TuA c H bs ns := by
  induction p with
  | nil => exact fun {ms} h => ⟨ms, .refl _, h⟩
  | cons x _ ih =>
    intro ms h
    cases h with
    | cons e t =>
      obtain ⟨ns, h1, h2⟩ := ih t
      exact ⟨_ :: ns, h1.cons _, .cons e h2⟩
  | swap x y l =>
    intro ms h
    cases h with
    | cons e t =>
      cases t with
      | cons e2 t => exact ⟨_ :: _ :: _, .swap _ _ _, .cons e2 (.cons e t)⟩
  | trans _ _ ih1 ih2 =>
    intro ms h
    obtain ⟨n1, a, b⟩ := ih1 h
    obtain ⟨n2, c, d⟩ := ih2 b
    exact ⟨n2, c.trans a, d⟩
/-! ## what k60 shares with k59's law -/
open M59 (isR fstR Ok byS tk isT src)
theorem lr_facts : ∀ i < 18, (pl i).length ≤ 5 ∧ atI (pl i).cps.toList 0 = some (if isR i = true then 114 else 115) ∧ (Txt.find "rs" ⟨#[if isR i = true then 114 else 115]⟩ : Int) = (gL i).1 ∧ PySem.intText? (cutS (pl i) (some 1) none) = some (gL i).2 ∧ (cutS (pl i) (some 1) none).length ≤ 640 := by decide +kernel
/-- the law's pairs: a list -/
def PlH (H : Hp) (a : Addr) (ps : M59.Prs) : Prop := ∃ as : List Addr, H a = some (.lst (as.map V.ref)) ∧ TuA prC H as ps
theorem PlH.same {H H' : Hp} {a : Addr} {ps : M59.Prs} (s : Same H H') (h : PlH H a ps) : PlH H' a ps := by
  obtain ⟨as, h1, h2⟩ := h
  exact ⟨as, s _ _ h1, h2.same s⟩
theorem PlH.ps {H : Hp} {a : Addr} {ps : M59.Prs} (h : PlH H a ps) : PsH H a ps := by
  obtain ⟨as, h1, h2⟩ := h
  exact ⟨as, .inl h1, h2⟩
def ltV (i : Nat) : V := .str ⟨#[if isR i = true then 114 else 115]⟩
theorem lt_s (i : Nat) : decide (ltV i = V.str "s") = !isR i := by
  unfold ltV
  cases isR i with
  | true => exact decide_eq_false fun z => by injection z with z; exact absurd z (by decide)
  | false => exact decide_eq_true (by rw [if_neg Bool.false_ne_true]; exact congrArg V.str (by decide))
theorem lt_r (i : Nat) : decide (ltV i = V.str "r") = isR i := by
  unfold ltV
  cases isR i with
  | true => exact decide_eq_true (by rw [if_pos rfl]; exact congrArg V.str (by decide))
  | false => exact decide_eq_false fun z => by injection z with z; exact absurd z (by decide)
theorem lt_at {i : Nat} (hi : i < 18) : (pl i).length ≤ sizeLine ∧ atI (pl i).cps.toList 0 = some (if isR i = true then 114 else 115) := by
  obtain ⟨f1, f2, _⟩ := lr_facts i hi
  exact ⟨Nat.le_trans f1 (by decide), f2⟩
theorem cutV_drop (xs : List V) (n : Nat) : cutV xs (some (n : Int)) none = xs.drop n := by
  unfold cutV
  rw [HT.sIx_nat, HT.sIx_none]
  refine List.ext_getElem? fun i => ?_
  simp only [List.getElem?_take, List.getElem?_drop]
  by_cases h : n ≤ xs.length
  · rw [Nat.min_eq_left h]
    by_cases h3 : i < xs.length - n
    · rw [if_pos h3]
    · rw [if_neg h3, List.getElem?_eq_none (by omega)]
  · rw [Nat.min_eq_right (by omega), if_neg (by omega), List.getElem?_eq_none (by omega)]
theorem in_pl {i : Nat} {l : List Nat} (hi : i < 18) (h18 : ∀ x ∈ l, x < 18) : inV (plV i) (l.map plV) = decide (i ∈ l) := by
  have e : l.map plV = (l.map pl).map V.str := by rw [List.map_map]; rfl
  rw [e, show inV (plV i) ((l.map pl).map V.str) = _ from inV_strs (pl i) (l.map pl)]
  refine decide_eq_decide.mpr ⟨fun h => ?_, fun h => List.mem_map.mpr ⟨i, h, rfl⟩⟩
  obtain ⟨j, hj, e⟩ := List.mem_map.mp h
  rw [← pl_inj (h18 j hj) hi e]
  exact hj
theorem flat_pl (l : List Nat) : (l.map plV).all flatV = true := List.all_eq_true.mpr fun y hy => by
  obtain ⟨z, _, rfl⟩ := List.mem_map.mp hy
  rfl
theorem src_pair {ps : M59.Prs} (ok : Ok ps) {t s : Nat} (h : (t, s) ∈ ps) : src ps t = s := by
  by_cases c : t = s
  · subst c
    refine M59.src_self fun p hp => ?_
    have h2 := (M59.mov_mem.mp hp)
    have : ∀ {l : M59.Prs}, (l.map (·.1)).Nodup → ∀ {x y z : Nat}, (x, y) ∈ l → (x, z) ∈ l → y = z := fun {l} => by
      induction l with
      | nil => exact fun _ _ _ _ h => nomatch h
      | cons m l ih =>
        intro nd x y z h1 h2
        rw [List.map_cons, List.nodup_cons] at nd
        rcases List.mem_cons.mp h1 with h1 | h1 <;> rcases List.mem_cons.mp h2 with h2 | h2
        · rw [← h1] at h2
          injection h2 with _ h2
          exact h2.symm
        · exact absurd (List.mem_map.mpr ⟨_, h2, by rw [← h1]⟩) nd.1
        · exact absurd (List.mem_map.mpr ⟨_, h1, by rw [← h2]⟩) nd.1
        · exact ih nd.2 h1 h2
    exact h2.2 (this ok.one h h2.1)
  · exact M59.src_of ok (M59.mov_mem.mpr ⟨h, c⟩)
/-! ## k60's law: done, next -/
def stC (s : List Nat) : List V := s.map plV
def dueB (ps : M59.Prs) (pz st : List Nat) : Bool := (List.range (pz.length - 2)).all fun k => decide (st.getD k 0 = src ps (pz.getD k 0))
def spDone : Sp := fun vs H Q _ => ∃ (a b c : Addr) (ps : M59.Prs) (pz st : List Nat), vs = [.ref a, .ref b, .ref c] ∧ H a = some (.tup (stC pz)) ∧ PlH H b ps ∧ Ok ps ∧ H c = some (.tup (stC st)) ∧ st.length = pz.length ∧ 2 ≤ pz.length ∧ pz.length ≤ 18 ∧ (∀ x ∈ pz, x < 18) ∧ (∀ x ∈ st, x < 18) ∧ ∀ H', Same H H' → Q (.bl (dueB ps pz st)) H'
theorem getD_in {l : List Nat} {k : Nat} (h : k < l.length) : l[k]? = some (l.getD k 0) ∧ l.getD k 0 ∈ l := by
  rw [List.getD_eq_getElem?_getD, List.getElem?_eq_getElem h]
  exact ⟨rfl, List.getElem_mem h⟩
theorem stC_at {s : List Nat} {k : Nat} (h : k < s.length) : (stC s)[k]? = some (plV (s.getD k 0)) := by
  unfold stC
  rw [List.getElem?_map, (getD_in h).1]
  rfl
/-- one row further -/
def Stp (pz : List Nat) (s t : List Nat) : Prop := ∃ k j, k < pz.length ∧ j < pz.length ∧ (isR (pz.getD k 0) = true ∨ isR (pz.getD j 0) = true) ∧ t = s.set k (s.getD j 0)
def spNext : Sp := fun vs H Q _ => ∃ (a c : Addr) (pz st : List Nat), vs = [.ref a, .ref c] ∧ H a = some (.tup (stC pz)) ∧ H c = some (.tup (stC st)) ∧ st.length = pz.length ∧ pz.length ≤ 18 ∧ (∀ x ∈ pz, x < 18) ∧ (∀ x ∈ st, x < 18) ∧
  ∀ (H' : Hp) (q : Addr) (as : List Addr) (ts : List (List Nat)), Same H H' → H q = none → H' q = some (.lst (as.map V.ref)) → TuA stC H' as ts → (∀ t ∈ ts, Stp pz st t) → Q (.ref q) H'
theorem sl_get {K : PySem.W.Frag} {a : Addr} {xs : List V} {lo hi : Option Int} {H : Hp} {Q : VK} (hx : H a = some (.tup xs)) (k : ∀ p H', Same H H' → H' p = some (.tup (cutV xs lo hi)) → Q (.ref p) H') : rSlA K (.ref a) lo hi H Q := by
  refine ⟨a, xs, rfl, SqT.of hx, fun h => k a H (Same.refl _) ?_, fun _ p hp => k p _ (same_new hp) upd_same⟩
  rw [hx]
  unfold cutV
  rw [h.1, h.2, List.drop_zero, Nat.sub_zero, List.take_length]
theorem cat_get {K : PySem.W.Frag} {a b : Addr} {xs ys : List V} {H : Hp} {Q : VK} (hx : H a = some (.tup xs)) (hy : H b = some (.tup ys)) (hl : xs.length + ys.length ≤ 100000) (k : ∀ p H', Same H H' → H' p = some (.tup (xs ++ ys)) → Q (.ref p) H') : rCatA K (.ref a) (.ref b) H Q := by
  refine ⟨a, b, xs, ys, rfl, rfl, SqT.of hx, SqT.of hy, sl_of hl, fun e => k b H (Same.refl _) ?_, fun _ e => k a H (Same.refl _) ?_, fun _ _ p hp => k p _ (same_new hp) upd_same⟩
  · rw [e]
    exact hy
  · rw [e, List.append_nil]
    exact hx
theorem set_cut (s : List Nat) {k : Nat} (h : k < s.length) (y : Nat) : ((stC s).take k ++ [plV y]) ++ (stC s).drop (k + 1) = stC (s.set k y) := by
  unfold stC
  rw [List.set_eq_take_append_cons_drop, if_pos h, List.map_append, List.map_cons, List.map_take, List.map_drop, List.append_assoc]
  rfl
section
variable {P : Program} {w : World} {K : PySem.W.Frag} {mg : Str → Option Value} {base : Heap}
theorem sc__law_is_done : FnScope ["_law_places", "_law_pairs", "_law_state", "_law_due", "_law_target", "_law_source", "_law_k"] ["_law_places", "_law_pairs", "_law_state"] (defScope s_law_is_done) := ⟨rfl, rfl, rfl, by decide +kernel, rfl, by decide +kernel, by decide +kernel⟩
theorem ok_ldone {f : Addr} {fd : FuncData} (F : FnP K "_law_is_done" s_law_is_done f fd) (G : NkF K mg) (rng : mg "range" = none) : FnOk P w K mg base CX0 1 f fd ["_law_places", "_law_pairs", "_law_state"] spDone := by
  refine F.ok sc__law_is_done (fun vs H Q E h => ?_) (fun cdv A outer s H vs Q E hr h => ?_)
  · obtain ⟨a, b, c, ps, pz, st, rfl, _⟩ := h
    rfl
  · obtain ⟨a, b, c, ps, pz, st, rfl, ea, ⟨as, eb, tu⟩, ok, ec, ls, l2, l18, p18, s18, k⟩ := h
    have nd := sc__law_is_done.nd
    have hu := hu_of hr
    apply Exists.intro
    apply And.intro
    case left =>
     apply PSs.nox
     apply pss_cons
     · exact (ps_set (i := 3) nd rfl (.inl rfl) pe_dnewK)
     apply pss_cons
     · apply ps_for PassesOwn.never rfl
       · exact (pi_list (pv 1))
       · exact (pg_tup rfl (pgs_cons (pg_name (i := 4) nd rfl (Or.inl rfl)) (pgs_cons (pg_name (i := 5) nd rfl (Or.inl rfl)) pgs_nil)))
       · apply pss_one
         exact (ps_dput hu (pv 3) (pv 4) (pv 5) rfl)
     apply pss_cons
     · apply ps_for PassesOwn.never rfl
       · exact (pi_range1 (by rfl) rng (pa_cons (pe_op op_sub (pe_callB call_len (by rfl) G.len PySem.boot_len (pa_cons (pv 0) pa_nil)) pe_int) pa_nil))
       · exact (pg_name (i := 6) nd rfl (Or.inl rfl))
       · apply pss_one
         exact (ps_if (pt_cmpR op_ne (pe_ix ix_tup (pv 2) (pv 6) (fun _ _ => rfl)) (pe_ifExp (pt_cmp (pc_din hu (pe_ix ix_tup (pv 0) (pv 6) (fun _ _ => rfl)) (pv 3))) (pe_dget hu (pv 3) (pe_ix ix_tup (pv 0) (pv 6) (fun _ _ => rfl)) (fun _ _ => rfl)) (pe_ix ix_tup (pv 0) (pv 6) (fun _ _ => rfl))) (nomark _)) (pss_one (ps_ret pe_bl)) pss_nil)
     apply pss_one
     exact (ps_ret pe_bl)
    case right =>
      intro D hD
      refine ⟨_, rfl, b, rfl, ⟨_, SqL.of ((same_new hD) _ _ eb)⟩, ?_⟩
      have hal : (as.map V.ref).length = ps.length := by rw [List.length_map]; exact tu.length
      refine for_it (walk_list (xs := as.map V.ref)) (fun i σ H' => ∃ w4 w5, σ = [some (.ref a), some (.ref b), some (.ref c), some (.ref D), w4, w5, none] ∧ Same H H' ∧ H' D = some (.dK ((ps.take i).map fun m => (keyP m.1, plV m.2)))) ⟨_, _, rfl, same_new hD, upd_same⟩ (fun i σ H' _ ⟨_, _, _, s2, _⟩ => SqL.of (s2 _ _ eb)) ?_ ?_
      · rintro i x σ Hx H' hi ⟨w4, w5, rfl, s2, eD⟩ ⟨rfl, hx⟩
        obtain ⟨q, m, rfl, hq, hm, eq⟩ := tu.ref hx
        obtain ⟨t, s⟩ := m
        have m18 := ok.lt _ (List.mem_of_getElem? hm)
        have eq2 := s2 _ _ eq
        have nin : valV ((ps.take i).map fun m => (keyP m.1, plV m.2)) (keyP t) = none := by
          rw [srK_find (fun m hm => (ok.lt m (List.mem_of_mem_take hm)).1) m18.1]
          cases e : (ps.take i).find? fun m => decide (m.1 = t) with
          | none => rfl
          | some m =>
            have e1 := List.mem_of_find?_eq_some e
            have e2 : m.1 = t := by simpa using List.find?_some e
            have h7 : ((ps.take (i + 1)).map (·.1)).Nodup := (okTake ok (i + 1)).one
            rw [take_snoc2 hm, List.map_append] at h7
            exact ((List.nodup_append.mp h7).2.2 m.1 (List.mem_map.mpr ⟨m, e1, rfl⟩) t (List.mem_singleton.mpr rfl) e2).elim
        refine ⟨q, _, rfl, SqT.of eq2, rfl, _, _, rfl, _, _, rfl, rfl, ?_⟩
        refine ⟨_, rfl, _, rfl, _, rfl, D, _, rfl, .inl ⟨_, keyP t, eD, rfl, ?_, rfl⟩, _, _, rfl, same_sub s2 hD, ?_⟩
        · rw [List.length_map]
          have := List.length_take_le' i ps
          have := okLen ok
          exact Nat.lt_of_le_of_lt (show (ps.take i).length ≤ 18 by omega) (by decide)
        · rw [upd_same, putK_new _ nin, take_snoc2 hm, List.map_append]
          rfl
      rintro σ H2 ⟨w4, w5, rfl, s2, eD⟩
      rw [hal, List.take_length] at eD
      have lc : (stC pz).length = pz.length := by unfold stC; rw [List.length_map]
      refine ⟨_, rfl, _, _, rfl, .inr ⟨_, SqT.of (s2 _ _ ea), rfl⟩, _, _, rfl, rfl, ?_⟩
      rw [lc]
      refine ⟨(pz.length : Int) - 2, rfl, by omega, by omega, ?_⟩
      have nn : Int.toNat ((pz.length : Int) - 2) = pz.length - 2 := by omega
      rw [nn]
      unfold dueB at k
      refine for_range (lo := 0) (n := pz.length - 2) (fun j σ H' => H' = H2 ∧ (∃ w6, σ = [some (.ref a), some (.ref b), some (.ref c), some (.ref D), w4, w5, w6]) ∧ ∀ i < j, st.getD i 0 = src ps (pz.getD i 0)) ⟨rfl, ⟨_, rfl⟩, fun _ h => nomatch h⟩ ?_ ?_
      · rintro j σ H' hj ⟨rfl, ⟨w6, rfl⟩, hal2⟩
        have jp : j < pz.length := by omega
        have js : j < st.length := by omega
        have xp := (getD_in jp).2
        have xs := (getD_in js).2
        have x18 := p18 _ xp
        have gd := srK_find (l := ps) (fun m hm => (ok.lt m hm).1) x18
        have ix : (0 : Int) + (j : Int) = ((j : Nat) : Int) := Int.zero_add _
        have stay : st.getD j 0 = src ps (pz.getD j 0) → ∀ i < j + 1, st.getD i 0 = src ps (pz.getD i 0) := fun e i hi => by
          rcases Nat.lt_succ_iff_lt_or_eq.mp hi with h | h
          · exact hal2 i h
          · rw [h]
            exact e
        have out : ¬ st.getD j 0 = src ps (pz.getD j 0) → (List.range (pz.length - 2)).all (fun k => decide (st.getD k 0 = src ps (pz.getD k 0))) = false := fun e => by
          rw [List.all_eq_false]
          exact ⟨j, List.mem_range.mpr hj, by rw [decide_eq_false e]; decide⟩
        refine ⟨_, rfl, _, rfl, c, _, _, _, rfl, congrArg V.int ix, SqT.of (s2 _ _ ec), atI_nat (stC_at js), ?_⟩
        refine ⟨_, rfl, _, rfl, a, _, _, _, rfl, congrArg V.int ix, SqT.of (s2 _ _ ea), atI_nat (stC_at jp), _, rfl, D, _, rfl, .inl ⟨_, keyP (pz.getD j 0), .inl eD, rfl, gd.symm⟩, _, rfl, ?_⟩
        cases e : ps.find? fun m => decide (m.1 = pz.getD j 0) with
        | some m =>
          rw [e] at gd
          have e1 := List.mem_of_find?_eq_some e
          have e2 : m.1 = pz.getD j 0 := by simpa using List.find?_some e
          have e3 : src ps (pz.getD j 0) = m.2 := src_pair ok (by rw [← e2]; exact e1)
          refine iteT ⟨_, rfl, _, rfl, _, rfl, a, _, _, _, rfl, congrArg V.int ix, SqT.of (s2 _ _ ea), atI_nat (stC_at jp), D, _, rfl, .inl ⟨_, keyP (pz.getD j 0), .inl eD, rfl, gd.symm⟩, rfl, _, rfl, ?_⟩
          rw [show decide (plV (st.getD j 0) = plV m.2) = decide (st.getD j 0 = m.2) from plV_dec (s18 _ xs) (ok.lt m e1).2, ← e3]
          by_cases c : st.getD j 0 = src ps (pz.getD j 0)
          · rw [decide_eq_true c]
            exact iteN1 ⟨rfl, ⟨_, rfl⟩, stay c⟩
          · rw [decide_eq_false c]
            rw [out c] at k
            exact iteN0 (k _ s2)
        | none =>
          have e3 : src ps (pz.getD j 0) = pz.getD j 0 := M59.src_self fun s hs => by
            have := List.find?_eq_none.mp e _ (M59.mov_mem.mp hs).1
            simp at this
          refine iteF ⟨_, rfl, _, rfl, a, _, _, _, rfl, congrArg V.int ix, SqT.of (s2 _ _ ea), atI_nat (stC_at jp), rfl, _, rfl, ?_⟩
          rw [show decide (plV (st.getD j 0) = plV (pz.getD j 0)) = decide (st.getD j 0 = pz.getD j 0) from plV_dec (s18 _ xs) x18]
          by_cases c : st.getD j 0 = pz.getD j 0
          · rw [decide_eq_true c]
            exact iteN1 ⟨rfl, ⟨_, rfl⟩, stay (by rw [e3]; exact c)⟩
          · rw [decide_eq_false c]
            rw [out (by rw [e3]; exact c)] at k
            exact iteN0 (k _ s2)
      · rintro σ H' ⟨rfl, ⟨w6, rfl⟩, hal2⟩
        have : (List.range (pz.length - 2)).all (fun k => decide (st.getD k 0 = src ps (pz.getD k 0))) = true := List.all_eq_true.mpr fun i hi => decide_eq_true (hal2 i (List.mem_range.mp hi))
        rw [this] at k
        exact k _ s2
theorem sc__law_next : FnScope ["_law_places", "_law_state", "_law_found", "_law_k", "_law_j"] ["_law_places", "_law_state"] (defScope s_law_next) := ⟨rfl, rfl, rfl, by decide +kernel, rfl, by decide +kernel, by decide +kernel⟩
theorem ok_lnext {f : Addr} {fd : FuncData} (F : FnP K "_law_next" s_law_next f fd) (G : NkF K mg) (rng : mg "range" = none) : FnOk P w K mg base CX0 1 f fd ["_law_places", "_law_state"] spNext := by
  refine F.ok sc__law_next (fun vs H Q E h => ?_) (fun cdv A outer s H vs Q E hr h => ?_)
  · obtain ⟨a, c, pz, st, rfl, _⟩ := h
    rfl
  · obtain ⟨a, c, pz, st, rfl, ea, ec, ls, l18, p18, s18, k⟩ := h
    have nd := sc__law_next.nd
    have hu := hu_of hr
    apply Exists.intro
    apply And.intro
    case left =>
     apply PSs.nox
     apply pss_cons
     · exact (ps_set (i := 2) nd rfl (.inl rfl) (pe_lst pa_nil))
     apply pss_cons
     · apply ps_for PassesOwn.never rfl
       · exact (pi_range1 (by rfl) rng (pa_cons (pe_callB call_len (by rfl) G.len PySem.boot_len (pa_cons (pv 0) pa_nil)) pa_nil))
       · exact (pg_name (i := 3) nd rfl (Or.inl rfl))
       · apply pss_one
         apply ps_for PassesOwn.never rfl
         · exact (pi_range1 (by rfl) rng (pa_cons (pe_callB call_len (by rfl) G.len PySem.boot_len (pa_cons (pv 0) pa_nil)) pa_nil))
         · exact (pg_name (i := 4) nd rfl (Or.inl rfl))
         · apply pss_one
           exact (ps_if (PW.pt (pw_and (pt_cmpR op_ne (pe_ix ix_tup (pv 1) (pv 3) (fun _ _ => rfl)) (pe_ix ix_tup (pv 1) (pv 4) (fun _ _ => rfl)) (nomark _)) (pw_and1 (PW.pt (pw_or (pt_cmpR op_eq (pe_ix ix_str (pe_ix ix_tup (pv 0) (pv 3) (fun _ _ => rfl)) pe_int (fun _ _ => rfl)) pe_str (nomark _)) (pw_or1 (pt_cmpR op_eq (pe_ix ix_str (pe_ix ix_tup (pv 0) (pv 4) (fun _ _ => rfl)) pe_int (fun _ _ => rfl)) pe_str (nomark _)))))))) (pss_one (ps_expr (pe_bm PySem.F.plainAttrs_list PySem.F.slot_list_append PySem.F.type_list_append mt_append (pv 2) (pa_cons (pe_op op_catA (pe_op op_catA (pe_slice sl_tupA (pv 1) po_none (po_some (pv 3))) (pe_tup (pa_cons (pe_ix ix_tup (pv 1) (pv 4) (fun _ _ => rfl)) pa_nil))) (pe_slice sl_tupA (pv 1) (po_some (pe_op op_add (pv 3) pe_int)) po_none)) pa_nil)))) pss_nil)
     apply pss_one
     exact (ps_ret (pv 2))
    case right =>
      refine ⟨(show 0 ≤ sizeLine by decide), fun FL hFL => ?_⟩
      have lc : (stC pz).length = pz.length := by unfold stC; rw [List.length_map]
      have lcs : (stC st).length = pz.length := by unfold stC; rw [List.length_map, ls]
      refine ⟨_, rfl, _, _, rfl, .inr ⟨_, SqT.of ((same_new hFL) _ _ ea), rfl⟩, ?_⟩
      rw [lc]
      refine ⟨_, rfl, by omega, by omega, ?_⟩
      rw [show Int.toNat ((pz.length : Nat) : Int) = pz.length from rfl]
      refine for_range (lo := 0) (n := pz.length) (fun j σ H' => ∃ as ts w3 w4, σ = [some (.ref a), some (.ref c), some (.ref FL), w3, w4] ∧ Same H H' ∧ H' FL = some (.lst (as.map V.ref)) ∧ TuA stC H' as ts ∧ (∀ t ∈ ts, Stp pz st t) ∧ as.length ≤ 18 * j) ⟨[], [], _, _, rfl, same_new hFL, upd_same, .nil, (fun _ h => nomatch h), Nat.zero_le _⟩ ?_ ?_
      · rintro kk σ H1 hk ⟨as, ts, w3, w4, rfl, s1, eF, tu, hts, la⟩
        refine ⟨_, rfl, _, _, rfl, .inr ⟨_, SqT.of (s1 _ _ ea), rfl⟩, ?_⟩
        rw [lc]
        refine ⟨_, rfl, by omega, by omega, ?_⟩
        rw [show Int.toNat ((pz.length : Nat) : Int) = pz.length from rfl]
        have ixk : (0 : Int) + (kk : Int) = ((kk : Nat) : Int) := Int.zero_add _
        have ks : kk < st.length := by omega
        refine for_range (lo := 0) (n := pz.length) (fun j σ H' => ∃ as ts w4, σ = [some (.ref a), some (.ref c), some (.ref FL), some (.int (0 + (kk : Int))), w4] ∧ Same H H' ∧ H' FL = some (.lst (as.map V.ref)) ∧ TuA stC H' as ts ∧ (∀ t ∈ ts, Stp pz st t) ∧ as.length ≤ 18 * kk + j) ⟨as, ts, _, rfl, s1, eF, tu, hts, la⟩ ?_ ?_
        · clear s1 eF tu hts la
          rintro jj σ H2 hj ⟨as, ts, w4, rfl, s2, eF, tu, hts, la⟩
          have ixj : (0 : Int) + (jj : Int) = ((jj : Nat) : Int) := Int.zero_add _
          have js : jj < st.length := by omega
          have ec2 := s2 _ _ ec
          have ea2 := s2 _ _ ea
          obtain ⟨k1, k2⟩ := lt_at (p18 _ (getD_in hk).2)
          obtain ⟨j1, j2⟩ := lt_at (p18 _ (getD_in hj).2)
          refine ⟨_, rfl, _, rfl, c, _, _, _, rfl, congrArg V.int ixk, SqT.of ec2, atI_nat (stC_at ks), _, rfl, _, rfl, c, _, _, _, rfl, congrArg V.int ixj, SqT.of ec2, atI_nat (stC_at js), rfl, _, rfl, ?_⟩
          rw [show decide (plV (st.getD kk 0) = plV (st.getD jj 0)) = decide (st.getD kk 0 = st.getD jj 0) from plV_dec (s18 _ (getD_in ks).2) (s18 _ (getD_in js).2)]
          by_cases c1 : st.getD kk 0 = st.getD jj 0
          · rw [decide_eq_true c1]
            exact iteN1 (iteF ⟨as, ts, _, rfl, s2, eF, tu, hts, by omega⟩)
          rw [decide_eq_false c1]
          refine iteN0 ⟨_, rfl, _, rfl, a, _, _, _, rfl, congrArg V.int ixk, SqT.of ea2, atI_nat (stC_at hk), _, 0, _, rfl, rfl, k1, k2, rfl, _, rfl, ?_⟩
          rw [show decide ((V.str ⟨#[if isR (pz.getD kk 0) = true then 114 else 115]⟩) = V.str "r") = isR (pz.getD kk 0) from lt_r _]
          cases c2 : isR (pz.getD kk 0) with
          | false =>
            refine iteF ⟨_, rfl, _, rfl, a, _, _, _, rfl, congrArg V.int ixj, SqT.of ea2, atI_nat (stC_at hj), _, 0, _, rfl, rfl, j1, j2, rfl, _, rfl, ?_⟩
            rw [show decide ((V.str ⟨#[if isR (pz.getD jj 0) = true then 114 else 115]⟩) = V.str "r") = isR (pz.getD jj 0) from lt_r _]
            cases c3 : isR (pz.getD jj 0) with
            | false => exact iteF ⟨as, ts, _, rfl, s2, eF, tu, hts, by omega⟩
            | true =>
              refine iteT ?_
              have hst : Stp pz st (st.set kk (st.getD jj 0)) := ⟨kk, jj, hk, hj, .inr c3, rfl⟩
              refine ⟨_, rfl, .inl ⟨rfl, _, SqL.of eF⟩, _, rfl, _, rfl, _, rfl, sl_get ec2 fun p1 H3 s3 e3 => ?_⟩
              rw [ixk, cutV_take] at e3
              refine ⟨_, rfl, _, rfl, c, _, _, _, rfl, congrArg V.int ixj, SqT.of (s3 _ _ ec2), atI_nat (stC_at js), (show 1 ≤ sizeLine by decide), fun q hq => ?_⟩
              have s4 := same_new (o := .tup [plV (st.getD jj 0)]) hq
              refine cat_get (s4 _ _ e3) upd_same (by rw [List.length_take]; show min kk (stC st).length + 1 ≤ 100000; omega) fun p2 H5 s5 e5 => ?_
              have s35 := s3.trans (s4.trans s5)
              refine ⟨_, rfl, _, rfl, _, _, rfl, rfl, _, rfl, ?_⟩
              dsimp only [tNoPart]
              refine sl_get (s35 _ _ ec2) fun p3 H6 s6 e6 => ?_
              rw [ixk, show ((kk : Nat) : Int) + 1 = ((kk + 1 : Nat) : Int) from rfl, cutV_drop] at e6
              refine cat_get (s6 _ _ e5) e6 (by rw [List.length_append, List.length_take, List.length_drop]; show min kk (stC st).length + 1 + ((stC st).length - (kk + 1)) ≤ 100000; omega) fun p4 H7 s7 e7 => ?_
              rw [set_cut st ks] at e7
              have s27 := s35.trans (s6.trans s7)
              refine ⟨FL, _, .ref p4, rfl, rfl, s27 _ _ eF, ?_, as ++ [p4], ts ++ [st.set kk (st.getD jj 0)], _, rfl, same_sub (s2.trans s27) hFL, by rw [upd_same, List.map_append]; rfl, ?_, fun t ht => ?_, by rw [List.length_append, List.length_singleton]; omega⟩
              · rw [List.length_map]
                exact Nat.lt_of_le_of_lt (show as.length ≤ 1000 by omega) (by decide)
              · exact ((tu.same s27).app (TuA.one (c := stC) (m := st.set kk (st.getD jj 0)) e7)).put (s27 _ _ eF) fun vs z => by cases z
              · rcases List.mem_append.mp ht with ht | ht
                · exact hts t ht
                · rw [List.mem_singleton.mp ht]
                  exact hst
          | true =>
            refine iteT (iteT ?_)
            have hst : Stp pz st (st.set kk (st.getD jj 0)) := ⟨kk, jj, hk, hj, .inl c2, rfl⟩
            refine ⟨_, rfl, .inl ⟨rfl, _, SqL.of eF⟩, _, rfl, _, rfl, _, rfl, sl_get ec2 fun p1 H3 s3 e3 => ?_⟩
            rw [ixk, cutV_take] at e3
            refine ⟨_, rfl, _, rfl, c, _, _, _, rfl, congrArg V.int ixj, SqT.of (s3 _ _ ec2), atI_nat (stC_at js), (show 1 ≤ sizeLine by decide), fun q hq => ?_⟩
            have s4 := same_new (o := .tup [plV (st.getD jj 0)]) hq
            refine cat_get (s4 _ _ e3) upd_same (by rw [List.length_take]; show min kk (stC st).length + 1 ≤ 100000; omega) fun p2 H5 s5 e5 => ?_
            have s35 := s3.trans (s4.trans s5)
            refine ⟨_, rfl, _, rfl, _, _, rfl, rfl, _, rfl, ?_⟩
            dsimp only [tNoPart]
            refine sl_get (s35 _ _ ec2) fun p3 H6 s6 e6 => ?_
            rw [ixk, show ((kk : Nat) : Int) + 1 = ((kk + 1 : Nat) : Int) from rfl, cutV_drop] at e6
            refine cat_get (s6 _ _ e5) e6 (by rw [List.length_append, List.length_take, List.length_drop]; show min kk (stC st).length + 1 + ((stC st).length - (kk + 1)) ≤ 100000; omega) fun p4 H7 s7 e7 => ?_
            rw [set_cut st ks] at e7
            have s27 := s35.trans (s6.trans s7)
            refine ⟨FL, _, .ref p4, rfl, rfl, s27 _ _ eF, ?_, as ++ [p4], ts ++ [st.set kk (st.getD jj 0)], _, rfl, same_sub (s2.trans s27) hFL, by rw [upd_same, List.map_append]; rfl, ?_, fun t ht => ?_, by rw [List.length_append, List.length_singleton]; omega⟩
            · rw [List.length_map]
              exact Nat.lt_of_le_of_lt (show as.length ≤ 1000 by omega) (by decide)
            · exact ((tu.same s27).app (TuA.one (c := stC) (m := st.set kk (st.getD jj 0)) e7)).put (s27 _ _ eF) fun vs z => by cases z
            · rcases List.mem_append.mp ht with ht | ht
              · exact hts t ht
              · rw [List.mem_singleton.mp ht]
                exact hst
        · rintro σ H2 ⟨as, ts, w4, rfl, s2, eF, tu, hts, la⟩
          exact ⟨as, ts, _, _, rfl, s2, eF, tu, hts, by omega⟩
      · rintro σ H1 ⟨as, ts, w3, w4, rfl, s1, eF, tu, hts, la⟩
        exact ⟨_, rfl, k H1 FL as ts s1 hFL eF tu hts⟩
end
/-! ## k60's law: _law_least -/
open M59 (isR Ok src)
/-- where n rows lead -/
def Rch (pz : List Nat) (n : Nat) (s : List Nat) : Prop := ∃ rows : M59.Prs, rows.length = n ∧ M59.NoSS rows ∧ (∀ m ∈ rows, m.1 ∈ pz ∧ m.2 ∈ pz) ∧ s = pz.map (M59.ex id rows)
theorem rch0 (pz : List Nat) : Rch pz 0 pz := ⟨[], rfl, (fun _ h => nomatch h), (fun _ h => nomatch h), (List.map_id pz).symm⟩
theorem ex_in {pz : List Nat} : ∀ (rows : M59.Prs) (st : Nat → Nat), (∀ m ∈ rows, m.1 ∈ pz ∧ m.2 ∈ pz) → (∀ x ∈ pz, st x ∈ pz) → ∀ x ∈ pz, M59.ex st rows x ∈ pz
  | [], _, _, h, x, hx => h x hx
  | r :: rows, st, hr, h, x, hx => by
    refine ex_in rows (fun x => if x = r.1 then st r.2 else st x) (fun m hm => hr m (List.mem_cons_of_mem _ hm)) (fun y hy => ?_) x hx
    show (if y = r.1 then st r.2 else st y) ∈ pz
    by_cases c : y = r.1
    · rw [if_pos c]
      exact h _ (hr r (List.mem_cons_self ..)).2
    · rw [if_neg c]
      exact h _ hy
theorem Rch.len {pz s : List Nat} {n : Nat} (h : Rch pz n s) : s.length = pz.length := by
  obtain ⟨rows, _, _, _, rfl⟩ := h
  rw [List.length_map]
theorem Rch.mem {pz s : List Nat} {n : Nat} (h : Rch pz n s) : ∀ x ∈ s, x ∈ pz := by
  obtain ⟨rows, _, _, h3, rfl⟩ := h
  intro x hx
  obtain ⟨y, hy, rfl⟩ := List.mem_map.mp hx
  exact ex_in rows id h3 (fun _ h => h) y hy
theorem Rch.step {pz s t : List Nat} {n : Nat} (nd : pz.Nodup) (h : Rch pz n s) (st : Stp pz s t) : Rch pz (n + 1) t := by
  have hl := h.len
  obtain ⟨rows, h1, h2, h3, e⟩ := h
  obtain ⟨k, j, hk, hj, hr, rfl⟩ := st
  obtain ⟨k1, k2⟩ := getD_in hk
  obtain ⟨j1, j2⟩ := getD_in hj
  refine ⟨rows ++ [(pz.getD k 0, pz.getD j 0)], by rw [List.length_append, h1]; rfl, fun m hm => ?_, fun m hm => ?_, ?_⟩
  · rcases List.mem_append.mp hm with hm | hm
    · exact h2 m hm
    · rw [List.mem_singleton.mp hm]
      exact hr
  · rcases List.mem_append.mp hm with hm | hm
    · exact h3 m hm
    · rw [List.mem_singleton.mp hm]
      exact ⟨k2, j2⟩
  · have ej : s.getD j 0 = M59.ex id rows (pz.getD j 0) := by
      rw [e, List.getD_eq_getElem?_getD, List.getElem?_map, j1]
      rfl
    have exs : ∀ x, M59.ex id (rows ++ [(pz.getD k 0, pz.getD j 0)]) x = if x = pz.getD k 0 then s.getD j 0 else M59.ex id rows x := fun x => by
      rw [M59.ex_app, ej]
      rfl
    refine List.ext_getElem? fun i => ?_
    rw [List.getElem?_map, List.getElem?_set]
    by_cases c : k = i
    · subst c
      rw [if_pos rfl, if_pos (by omega), k1]
      show _ = some _
      rw [exs, if_pos rfl]
    · rw [if_neg c, e, List.getElem?_map]
      cases q : pz[i]? with
      | none => rfl
      | some x =>
        have n1 : x ≠ pz.getD k 0 := fun z => c (by
          have lt := (List.getElem?_eq_some_iff.mp q).1
          exact (List.getElem?_inj hk nd).mp (by rw [k1, q, z]))
        show some _ = some _
        rw [exs, if_neg n1]
/-- all lists of n places -/
def allL : Nat → List (List Nat)
  | 0 => [[]]
  | n + 1 => (List.range 18).flatMap fun d => (allL n).map (d :: ·)
theorem allL_len : ∀ n, (allL n).length = 18 ^ n
  | 0 => rfl
  | n + 1 => by
    have ih := allL_len n
    have h : ∀ l : List Nat, (l.flatMap fun d => (allL n).map (d :: ·)).length = l.length * 18 ^ n := fun l => by
      induction l with
      | nil => simp
      | cons d l ihl => rw [List.flatMap_cons, List.length_append, List.length_map, ih, ihl, List.length_cons, Nat.add_mul, Nat.one_mul, Nat.add_comm]
    show ((List.range 18).flatMap fun d => (allL n).map (d :: ·)).length = _
    rw [h, List.length_range, Nat.pow_succ, Nat.mul_comm]
theorem allL_mem : ∀ {s : List Nat}, (∀ x ∈ s, x < 18) → s ∈ allL s.length
  | [], _ => List.mem_cons_self ..
  | d :: s, h => List.mem_flatMap.mpr ⟨d, List.mem_range.mpr (h d (List.mem_cons_self ..)), List.mem_map.mpr ⟨s, allL_mem fun x hx => h x (List.mem_cons_of_mem _ hx), rfl⟩⟩
/-- the states seen -/
structure Sn (n : Nat) (sn : List (List Nat)) : Prop where
  one : sn.Nodup
  ok : ∀ s ∈ sn, s.length = n ∧ ∀ x ∈ s, x < 18
theorem Sn.len {n : Nat} {sn : List (List Nat)} (h : Sn n sn) (hn : n ≤ 5) : sn.length ≤ 2000000 := by
  have h1 := M59.sub_lenG (N := allL n) h.one fun s hs => by
    obtain ⟨a, b⟩ := h.ok s hs
    rw [← a]
    exact allL_mem b
  rw [allL_len] at h1
  have h2 : 18 ^ n ≤ 18 ^ 5 := Nat.pow_le_pow_right (by decide) hn
  have h3 : 18 ^ 5 ≤ 2000000 := by decide
  omega
def snK (s : List Nat) : List L2.Key × V := (s.map keyP, .bl true)
theorem keyL_inj : ∀ {s t : List Nat}, (∀ x ∈ s, x < 18) → (∀ x ∈ t, x < 18) → s.map keyP = t.map keyP → s = t
  | [], [], _, _, _ => rfl
  | [], _ :: _, _, _, h => by cases h
  | _ :: _, [], _, _, h => by cases h
  | a :: s, b :: t, ha, hb, h => by
    injection h with h1 h2
    rw [keyP_inj (ha a (List.mem_cons_self ..)) (hb b (List.mem_cons_self ..)) h1, keyL_inj (fun x hx => ha x (List.mem_cons_of_mem _ hx)) (fun x hx => hb x (List.mem_cons_of_mem _ hx)) h2]
theorem Sn.val {n : Nat} {t : List Nat} (ht : ∀ x ∈ t, x < 18) : ∀ {sn : List (List Nat)}, (∀ s ∈ sn, ∀ x ∈ s, x < 18) → valV (sn.map snK) (t.map keyP) = if t ∈ sn then some (.bl true) else none
  | [], _ => rfl
  | s :: sn, h => by
    have ih := Sn.val (n := n) ht (sn := sn) fun x hx => h x (List.mem_cons_of_mem _ hx)
    rw [List.map_cons]
    by_cases c : s = t
    · subst c
      rw [valV_pos (show (snK s).1 = s.map keyP from rfl), if_pos (List.mem_cons_self ..)]
      rfl
    · rw [valV_neg (show ¬ (snK s).1 = t.map keyP from fun z => c (keyL_inj (h s (List.mem_cons_self ..)) ht z)), ih]
      by_cases d : t ∈ sn
      · rw [if_pos d, if_pos (List.mem_cons_of_mem _ d)]
      · rw [if_neg d, if_neg (fun z => (List.mem_cons.mp z).elim (fun e => c e.symm) d)]
theorem stC_key (s : List Nat) : stC s = (s.map keyP).map kV := by
  rw [List.map_map]
  rfl
/-- all but S and F stay -/
def Sb2 (S F : Addr) (H H' : Hp) : Prop := ∀ b o, b ≠ S → b ≠ F → H b = some o → H' b = some o
theorem TuA.keep {α : Type} {c : α → List V} {H H' : Hp} (k : ∀ b vs, H b = some (.tup vs) → H' b = some (.tup vs)) : ∀ {as : List Addr} {ms : List α}, TuA c H as ms → TuA c H' as ms
  | _, _, .nil => .nil
  | _, _, .cons h t => .cons (k _ _ h) (t.keep k)
theorem Sb2.tup {S F : Addr} {H H' : Hp} (h : Sb2 S F H H') {k : List (List L2.Key × V)} {l : List V} (e1 : H S = some (.dT k)) (e2 : H F = some (.lst l)) (b : Addr) (vs : List V) (e : H b = some (.tup vs)) : H' b = some (.tup vs) :=
  h b _ (fun z => by rw [z, e1] at e; cases e) (fun z => by rw [z, e2] at e; cases e) e
def spLeast : Sp := fun vs H Q _ => ∃ (a b : Addr) (ps : M59.Prs) (pz : List Nat) (m : Nat), vs = [.ref a, .ref b, .int (m : Int)] ∧ H a = some (.tup (stC pz)) ∧ PlH H b ps ∧ Ok ps ∧ 2 ≤ pz.length ∧ pz.length ≤ 5 ∧ pz.Nodup ∧ (∀ x ∈ pz, x < 18) ∧ m ≤ 7 ∧ (∀ n s, n < m → Rch pz n s → dueB ps pz s = false) ∧ ∀ H', Same H H' → Q (.int (m : Int)) H'
section
variable {P : Program} {w : World} {K : PySem.W.Frag} {mg : Str → Option Value} {base : Heap}
theorem sc__law_least : FnScope ["_law_places", "_law_pairs", "_law_most", "_law_start", "_law_seen", "_law_layer", "_law_count", "_law_state", "_law_further", "_law_other"] ["_law_places", "_law_pairs", "_law_most"] (defScope s_law_least) := ⟨rfl, rfl, rfl, by decide +kernel, rfl, by decide +kernel, by decide +kernel⟩
theorem ok_lleast {f : Addr} {fd : FuncData} (F : FnP K "_law_least" s_law_least f fd) (c__law_is_done : Cal P w K mg base 1 "_law_is_done" ["_law_places", "_law_pairs", "_law_state"] spDone) (c__law_next : Cal P w K mg base 1 "_law_next" ["_law_places", "_law_state"] spNext) (G : NkF K mg) (rng : mg "range" = none) (tup : mg "tuple" = none) : FnOk P w K mg base CX0 2 f fd ["_law_places", "_law_pairs", "_law_most"] spLeast := by
  obtain ⟨f__law_is_done, fd__law_is_done, g__law_is_done, k__law_is_done, b__law_is_done, G__law_is_done⟩ := c__law_is_done
  obtain ⟨f__law_next, fd__law_next, g__law_next, k__law_next, b__law_next, G__law_next⟩ := c__law_next
  refine F.ok sc__law_least (fun vs H Q E h => ?_) (fun cdv A outer s H vs Q E hr h => ?_)
  · obtain ⟨a, b, ps, pz, m, rfl, _⟩ := h
    rfl
  · obtain ⟨a, b, ps, pz, m, rfl, ea, hP, ok, l2, l5, nd5, p18, m7, hno, k⟩ := h
    have nd := sc__law_least.nd
    have hu := hu_of hr
    have hun := Nat.lt_of_le_of_lt (Nat.le_add_right _ 64) hr.units
    apply Exists.intro
    apply And.intro
    case left =>
     apply PSs.nox
     apply pss_cons
     · exact (ps_set (i := 3) nd rfl (.inl rfl) (pe_callTy call_tuple_of (by rfl) tup (by decide +kernel) (pa_cons (pv 0) pa_nil)))
     apply pss_cons
     · exact (ps_par (X := (cxOf CX0 P w K mg base ["_law_places", "_law_pairs", "_law_most", "_law_start", "_law_seen", "_law_layer", "_law_count", "_law_state", "_law_further", "_law_other"] "_law_least" (defScope s_law_least) f cdv A outer s H E).nox) (i := 4) (j := 5) rfl nd rfl rfl (by decide) rfl rfl (pa_cons (pe_dispT1 hu (pv 3) pe_bl) (pa_cons (pe_lst (pa_cons (pv 3) pa_nil)) pa_nil)) (by rfl))
     apply pss_cons
     · apply ps_for PassesOwn.never rfl
       · exact (pi_range1 (by rfl) rng (pa_cons (pv 2) pa_nil))
       · exact (pg_name (i := 6) nd rfl (Or.inl rfl))
       · apply pss_cons
         · exact (ps_if (pt_cmpR (op_neEL hun) (pe_lc (own := [("_law_state", 7)]) (g := gName 7) rfl nd (pi_list (pv 5)) (blkOk_by (own := [("_law_state", 7)]) (N := ["_law_places", "_law_pairs", "_law_most", "_law_start", "_law_seen", "_law_layer", "_law_count", "_law_state", "_law_further", "_law_other"]) (sc := defScope s_law_least) (by decide +kernel)) (fun _ _ _ _ _ => (pg_name (i := 7) nd rfl (Or.inl rfl))) (fun _ _ _ _ _ => pts_one (pt_val (pe_call G__law_is_done (hr.mono (by decide)) rfl g__law_is_done k__law_is_done b__law_is_done .nil pass0 (pa_cons (pv 0) (pa_cons (pv 1) (pa_cons (pv 7) pa_nil)))))) (fun _ _ _ _ _ => (pv 7))) (pe_lst pa_nil) (nomark _)) (pss_one (ps_ret (pv 6))) pss_nil)
         apply pss_cons
         · exact (ps_set (i := 8) nd rfl (.inl rfl) (pe_lst pa_nil))
         apply pss_cons
         · apply ps_for PassesOwn.never rfl
           · exact (pi_list (pe_ifExp (pt_cmpR op_lt (pe_op op_add (pv 6) pe_int) (pv 2) (nomark _)) (pv 5) (pe_lst pa_nil)))
           · exact (pg_name (i := 7) nd rfl (Or.inl rfl))
           · apply pss_one
             apply ps_for PassesOwn.never rfl
             · exact (pi_list (pe_call G__law_next (hr.mono (by decide)) rfl g__law_next k__law_next b__law_next .nil pass0 (pa_cons (pv 0) (pa_cons (pv 7) pa_nil))))
             · exact (pg_name (i := 9) nd rfl (Or.inl rfl))
             · apply pss_one
               exact (ps_if (pt_cmp (pc_dnotin hu (pv 9) (pv 4))) (pss_cons (ps_dput hu (pv 4) (pv 9) pe_bl rfl) (pss_one (ps_expr (pe_bm PySem.F.plainAttrs_list PySem.F.slot_list_append PySem.F.type_list_append mt_append (pv 8) (pa_cons (pv 9) pa_nil))))) pss_nil)
         apply pss_one
         exact (ps_set (i := 5) nd rfl (.inl rfl) (pv 8))
     apply pss_one
     exact (ps_ret (pv 2))
    case right =>
      refine ⟨_, rfl, a, _, rfl, .inr ⟨SqT.of ea, ?_⟩⟩
      intro S hS
      refine ⟨_, rfl, upd_same, a, pz.map keyP, rfl, ?_, ?_⟩
      · rw [← stC_key]
        exact (same_new hS) _ _ ea
      rw [upd_upd]
      have s1 := same_new (o := .dT [(pz.map keyP, V.bl true)]) hS
      have eS : (upd H S (.dT [(pz.map keyP, V.bl true)])) S = some (.dT ([pz].map snK)) := upd_same
      generalize upd H S (.dT [(pz.map keyP, V.bl true)]) = H1 at s1 eS ⊢
      refine ⟨_, rfl, (show 1 ≤ sizeLine by decide), fun La hLa => ⟨_, _, rfl, ?_⟩⟩
      have eS2 := (same_new (o := .lst [V.ref a]) hLa) _ _ eS
      have s2 := s1.trans (same_new (o := .lst [V.ref a]) hLa)
      have eL2 : (upd H1 La (.lst [V.ref a])) La = some (.lst ([a].map V.ref)) := upd_same
      generalize upd H1 La (.lst [V.ref a]) = H2 at s2 eS2 eL2 ⊢
      refine ⟨_, rfl, _, rfl, by omega, by omega, ?_⟩
      rw [show Int.toNat ((m : Nat) : Int) = m from rfl]
      have snok0 : Sn pz.length [pz] := ⟨by simp, fun s hs => by rw [List.mem_singleton.mp hs]; exact ⟨rfl, p18⟩⟩
      refine for_range (lo := 0) (n := m) (fun j σ H' => ∃ (La : Addr) (as : List Addr) (ts sn : List (List Nat)) (w6 w7 w8 w9 : Option V), σ = [some (.ref a), some (.ref b), some (.int (m : Int)), some (.ref a), some (.ref S), some (.ref La), w6, w7, w8, w9] ∧ Same H H' ∧ H' S = some (.dT (sn.map snK)) ∧ H' La = some (.lst (as.map V.ref)) ∧ TuA stC H' as ts ∧ (∀ s ∈ ts, Rch pz j s) ∧ Sn pz.length sn ∧ ts.length ≤ sn.length) ⟨La, [a], [pz], [pz], _, _, _, _, rfl, s2, eS2, eL2, .cons (s2 _ _ ea) .nil, (fun s hs => by rw [List.mem_singleton.mp hs]; exact rch0 pz), snok0, Nat.le_refl _⟩ ?_ ?_
      rotate_left
      · rintro σ H3 ⟨La, as, ts, sn, w6, w7, w8, w9, rfl, s3, _⟩
        exact ⟨_, rfl, k _ s3⟩
      clear snok0 eL2 eS2 s2 hLa eS s1
      rintro j σ H3 hj ⟨La, as, ts, sn, w6, w7, w8, w9, rfl, s3, eS, eL, tu, hr3, snok, tl⟩
      have s18 : ∀ s ∈ ts, s.length = pz.length ∧ ∀ x ∈ s, x < 18 := fun s hs => ⟨(hr3 s hs).len, fun x hx => p18 x ((hr3 s hs).mem x hx)⟩
      refine ⟨_, rfl, La, rfl, ⟨_, SqL.of eL⟩, fun D hD => ?_⟩
      refine it_gen (walk_list (xs := as.map V.ref)) (fun i H' => Same H3 H' ∧ H' D = some (.lst [])) ⟨same_new hD, upd_same⟩ (fun i H' _ h => SqL.of (h.1 _ _ eL)) ?_ ?_
      · rintro i x Hx H4 hi ⟨s4, eD⟩ ⟨rfl, hx⟩
        obtain ⟨q, st, rfl, hq, hst, eq⟩ := tu.ref hx
        have mem := List.mem_of_getElem? hst
        refine ⟨rfl, _, rfl, _, rfl, _, rfl, a, b, q, ps, pz, st, rfl, (s3.trans s4) _ _ ea, hP.same (s3.trans s4), ok, s4 _ _ eq, (s18 st mem).1, l2, by omega, p18, (s18 st mem).2, fun H5 s5 => ⟨_, rfl, ?_⟩⟩
        rw [hno j st hj (hr3 st mem)]
        exact iteF ⟨s4.trans s5, s5 _ _ eD⟩
      rintro H4 ⟨s4, eD⟩
      refine ⟨(show 0 ≤ sizeLine by decide), fun q hq => ⟨D, q, _, rfl, rfl, SqL.of ((same_new hq) _ _ eD), SqL.of upd_same, _, rfl, iteF ?_⟩⟩
      have s5 := s4.trans (same_new (o := .lst []) hq)
      generalize upd H4 q (.lst []) = H5 at s5 ⊢
      have s05 := s3.trans s5
      have eS5 := s5 _ _ eS
      have eL5 := s5 _ _ eL
      have tu5 := tu.same s5
      refine ⟨(show 0 ≤ sizeLine by decide), fun FL hFL => ?_⟩
      have s6 := same_new (o := .lst []) hFL
      have hF0 : H FL = none := s05.free hFL
      have hS0 : H S = none := hS
      have FS : FL ≠ S := fun z => by rw [z, eS5] at hFL; cases hFL
      have eF6 : (upd H5 FL (.lst [])) FL = some (.lst (([] : List Addr).map V.ref)) := upd_same
      have eS6 := s6 _ _ eS5
      have fresh : ∀ b o, H5 b = some o → b ≠ FL := fun b o e z => by rw [z, hFL] at e; cases e
      have s06 := s05.trans s6
      have eL6 := s6 _ _ eL5
      have tu6 := tu5.same s6
      have neL := fresh _ _ eL5
      generalize upd H5 FL (.lst []) = H6 at s06 eL6 tu6 eF6 eS6 ⊢
      refine ⟨_, rfl, _, _, rfl, rfl, _, rfl, _, _, rfl, rfl, _, rfl, ?_⟩
      rcases Classical.em ((0 : Int) + (j : Int) + 1 < (m : Int)) with c1 | c1
      case' inl =>
        rw [decide_eq_true c1]
        refine iteT ⟨_, rfl, ?_⟩
        obtain ⟨Lx, as2, ts2, Hx, hLx, keepX, eX, tuX, hrX, neX, eSx, eFx⟩ : ∃ Lx as2 ts2 Hx, (Lx = La ∧ Hx = H6) ∧ Same H Hx ∧ Hx Lx = some (.lst (as2.map V.ref)) ∧ TuA stC Hx as2 ts2 ∧ (∀ s ∈ ts2, Rch pz j s) ∧ Lx ≠ FL ∧ Hx S = some (.dT (sn.map snK)) ∧ Hx FL = some (.lst (([] : List Addr).map V.ref)) := ⟨La, as, ts, H6, ⟨rfl, rfl⟩, s06, eL6, tu6, hr3, neL, eS6, eF6⟩
        rw [← hLx.1, ← hLx.2]
      case' inr =>
        rw [decide_eq_false c1]
        refine iteF ⟨(show 0 ≤ sizeLine by decide), fun q2 hq2 => ?_⟩
        have s7 := same_new (o := .lst []) hq2
        obtain ⟨Lx, as2, ts2, Hx, hLx, keepX, eX, tuX, hrX, neX, eSx, eFx⟩ : ∃ Lx as2 ts2 Hx, (Lx = q2 ∧ Hx = upd H6 q2 (.lst [])) ∧ Same H Hx ∧ Hx Lx = some (.lst (as2.map V.ref)) ∧ TuA stC Hx as2 ts2 ∧ (∀ s ∈ ts2, Rch pz j s) ∧ Lx ≠ FL ∧ Hx S = some (.dT (sn.map snK)) ∧ Hx FL = some (.lst (([] : List Addr).map V.ref)) := ⟨q2, [], [], _, ⟨rfl, rfl⟩, s06.trans s7, upd_same, .nil, (fun _ h => nomatch h), (fun z => by rw [z, eF6] at hq2; cases hq2), s7 _ _ eS6, s7 _ _ eF6⟩
        rw [← hLx.1]
        rw [hLx.1, ← hLx.2, ← hLx.1]
      all_goals
        refine ⟨Lx, rfl, ⟨_, SqL.of eX⟩, ?_⟩
        have base : ∀ H', Sb2 S FL Hx H' → Same H H' := fun H' sb b o e => sb b o (fun z => by rw [z, hS0] at e; cases e) (fun z => by rw [z, hF0] at e; cases e) (keepX b o e)
        have neXS : Lx ≠ S := fun z => by rw [z, eSx] at eX; cases eX
        refine for_it (walk_list (xs := as2.map V.ref)) (fun i σ H' => ∃ (fs : List Addr) (gs sn' : List (List Nat)) (w5 w7 w9 : Option V), σ = [some (.ref a), some (.ref b), some (.int (m : Int)), some (.ref a), some (.ref S), w5, some (.int (0 + (j : Int))), w7, some (.ref FL), w9] ∧ Sb2 S FL Hx H' ∧ H' S = some (.dT (sn'.map snK)) ∧ H' FL = some (.lst (fs.map V.ref)) ∧ TuA stC H' fs gs ∧ (∀ s ∈ gs, Rch pz (j + 1) s) ∧ Sn pz.length sn' ∧ gs.length ≤ sn'.length) ⟨[], [], sn, _, _, _, rfl, (fun _ _ _ _ e => e), eSx, eFx, .nil, (fun _ h => nomatch h), snok, Nat.zero_le _⟩ (fun i σ H' _ ⟨_, _, _, _, _, _, _, sb, _⟩ => SqL.of (sb _ _ neXS neX eX)) ?_ ?_
        · rintro i x σ H0x H' hi ⟨fs, gs, sn', w5, w7, w9, rfl, sb, eS', eF', tuF, hrF, snok', gl⟩ ⟨rfl, hx⟩
          obtain ⟨q, st, rfl, hq, hst, eq⟩ := tuX.ref hx
          have mem := List.mem_of_getElem? hst
          have rst := hrX st mem
          have eq' := sb.tup eSx eFx q _ eq
          refine ⟨_, rfl, _, rfl, a, q, pz, st, rfl, base _ sb _ _ ea, eq', rst.len, by omega, p18, (fun x hx => p18 x (rst.mem x hx)), fun H7 Q7 as7 ts7 s7 n7 e7 tu7 st7 => ⟨Q7, rfl, ⟨_, SqL.of e7⟩, ?_⟩⟩
          have eS7 := s7 _ _ eS'
          have eF7 := s7 _ _ eF'
          have neQ : Q7 ≠ FL := fun z => by rw [z, eF'] at n7; cases n7
          have neQS : Q7 ≠ S := fun z => by rw [z, eS'] at n7; cases n7
          refine for_it (walk_list (xs := as7.map V.ref)) (fun i σ H' => ∃ (fs : List Addr) (gs sn' : List (List Nat)) (w9 : Option V), σ = [some (.ref a), some (.ref b), some (.int (m : Int)), some (.ref a), some (.ref S), w5, some (.int (0 + (j : Int))), some (.ref q), some (.ref FL), w9] ∧ Sb2 S FL H7 H' ∧ H' S = some (.dT (sn'.map snK)) ∧ H' FL = some (.lst (fs.map V.ref)) ∧ TuA stC H' fs gs ∧ (∀ s ∈ gs, Rch pz (j + 1) s) ∧ Sn pz.length sn' ∧ gs.length ≤ sn'.length) ⟨fs, gs, sn', _, rfl, (fun _ _ _ _ e => e), eS7, eF7, tuF.same s7, hrF, snok', gl⟩ (fun i σ H' _ ⟨_, _, _, _, _, sb, _⟩ => SqL.of (sb _ _ neQS neQ e7)) ?_ ?_
          · clear tuF hrF snok' gl
            rintro i2 x σ H8x H8 hi2 ⟨fs, gs, sn', w9, rfl, sb8, eS8, eF8, tuF, hrF, snok', gl⟩ ⟨rfl, hx2⟩
            obtain ⟨o, tt, rfl, ho, htt, eo⟩ := tu7.ref hx2
            have eo8 := sb8.tup eS7 eF7 o _ eo
            have rt : Rch pz (j + 1) tt := rst.step nd5 (st7 tt (List.mem_of_getElem? htt))
            have t18 : ∀ x ∈ tt, x < 18 := fun x hx => p18 x (rt.mem x hx)
            have val := Sn.val (n := 5) t18 (sn := sn') fun s hs => (snok'.ok s hs).2
            rw [stC_key] at eo8
            refine ⟨_, rfl, _, rfl, S, _, rfl, .inr ⟨_, tt.map keyP, o, .inl eS8, rfl, eo8, rfl⟩, _, rfl, ?_⟩
            rw [val]
            by_cases c : tt ∈ sn'
            · rw [if_pos c]
              exact iteN1 ⟨fs, gs, sn', _, rfl, sb8, eS8, eF8, tuF, hrF, snok', gl⟩
            rw [if_neg c] at val ⊢
            have l20 := snok'.len l5
            refine iteN0 ⟨_, rfl, _, rfl, S, _, rfl, .inr ⟨_, tt.map keyP, o, eS8, rfl, eo8, ?_, rfl⟩, ?_⟩
            · rw [List.length_map]
              exact Nat.lt_of_le_of_lt l20 (by decide)
            have eF9 : (upd H8 S (.dT (putK (sn'.map snK) (tt.map keyP) (.bl true)))) FL = some (.lst (fs.map V.ref)) := by rw [upd_ne FS]; exact eF8
            have tup9 : ∀ b vs, H8 b = some (.tup vs) → (upd (upd H8 S (.dT (putK (sn'.map snK) (tt.map keyP) (.bl true)))) FL (.lst (fs.map V.ref ++ [.ref o]))) b = some (.tup vs) := fun b vs e => by
              rw [upd_ne (fun z => by rw [z, eF8] at e; cases e), upd_ne (fun z => by rw [z, eS8] at e; cases e)]
              exact e
            refine ⟨_, rfl, .inl ⟨rfl, _, SqL.of eF9⟩, _, rfl, FL, _, _, rfl, rfl, eF9, ?_, fs ++ [o], gs ++ [tt], sn' ++ [tt], _, rfl, fun b ob n1 n2 e => ?_, ?_, by rw [upd_same, List.map_append]; rfl, (tuF.keep tup9).app (TuA.one (c := stC) (m := tt) (tup9 _ _ (by rw [stC_key]; exact eo8))), fun s hs => ?_, ⟨?_, fun s hs => ?_⟩, ?_⟩
            · rw [List.length_map, tuF.length]
              exact Nat.lt_of_le_of_lt (show gs.length ≤ 2000000 by omega) (by decide)
            · rw [upd_ne n2, upd_ne n1]
              exact sb8 b ob n1 n2 e
            · rw [upd_ne (Ne.symm FS), upd_same, putK_new _ val, List.map_append]
              rfl
            · rcases List.mem_append.mp hs with hs | hs
              · exact hrF s hs
              · rw [List.mem_singleton.mp hs]
                exact rt
            · exact List.nodup_append.mpr ⟨snok'.one, by simp, fun x hx y hy e => c (by rw [← List.mem_singleton.mp hy, ← e]; exact hx)⟩
            · rcases List.mem_append.mp hs with hs | hs
              · exact snok'.ok s hs
              · rw [List.mem_singleton.mp hs]
                exact ⟨rt.len, t18⟩
            · rw [List.length_append, List.length_append]
              exact Nat.add_le_add_right gl _
          · rintro σ H8 ⟨fs, gs, sn', w9, rfl, sb8, eS8, eF8, tuF, hrF, snok', gl⟩
            exact ⟨fs, gs, sn', _, _, _, rfl, fun b ob n1 n2 e => sb8 b ob n1 n2 (s7 _ _ (sb b ob n1 n2 e)), eS8, eF8, tuF, hrF, snok', gl⟩
        · rintro σ H' ⟨fs, gs, sn', w5, w7, w9, rfl, sb, eS', eF', tuF, hrF, snok', gl⟩
          exact ⟨_, rfl, FL, fs, gs, sn', _, _, _, _, rfl, base _ sb, eS', eF', tuF, hrF, snok', gl⟩
end
/-! ## data as they are written in a text -/
def sD (t : TE) (d : PyData) : Prop := ∀ (σ : L2.St) (H : Hp) (Q : VK), (∀ v H', Same H H' → Dt (fun a => H a = none) H' v d → Q v H') → t σ H Q
def sA (t : TA) (ds : List PyData) : Prop := ∀ (σ : L2.St) (H : Hp) (Q : List V → Hp → Prop), (∀ vs H', Same H H' → DtA (fun a => H a = none) H' vs ds → Q vs H') → t σ H Q
theorem sD_non : sD (tC .non) .none := fun _ _ _ k => k _ _ (Same.refl _) .non
theorem sD_bl {b : Bool} : sD (tC (.bl b)) (.bool b) := fun _ _ _ k => k _ _ (Same.refl _) (.bl b)
theorem sD_int {n : Int} : sD (tC (.int n)) (.int n) := fun _ _ _ k => k _ _ (Same.refl _) (.int n)
theorem sD_str {z : Str} : sD (tC (.str z)) (.str z) := fun _ _ _ k => k _ _ (Same.refl _) (.str z)
theorem sD_dic : sD tDNewK (.dict []) := fun _ _ _ k p hp => k _ _ (same_new hp) (.dic hp upd_same)
theorem sA_nil : sA tNil [] := fun _ _ _ k => k _ _ (Same.refl _) .nil
theorem sA_cons {t : TE} {ta : TA} {d : PyData} {ds : List PyData} (h1 : sD t d) (h2 : sA ta ds) : sA (tCons t ta) (d :: ds) := fun σ H _ k =>
  h1 σ H _ fun _ H1 s1 d1 => h2 σ H1 _ fun _ _ s2 d2 => k _ _ (s1.trans s2) (.cons (d1.same s2) (d2.to fun _ _ g e => ⟨e, s1.free g⟩))
theorem sD_tup {ta : TA} {ds : List PyData} (h : sA ta ds) (hl : ds.length ≤ sizeLine) : sD (tTup ta) (.tuple ds) := fun σ H _ k =>
  h σ H _ fun vs H1 s1 d1 => ⟨by rw [d1.length]; exact hl, fun _ hp => k _ _ (s1.trans (same_new hp)) (.tup (s1.free hp) upd_same (d1.same (same_new hp)))⟩
theorem sD_lst {ta : TA} {ds : List PyData} (h : sA ta ds) (hl : ds.length ≤ sizeLine) : sD (tLst ta) (.list ds) := fun σ H _ k =>
  h σ H _ fun vs H1 s1 d1 => ⟨by rw [d1.length]; exact hl, fun _ hp => k _ _ (s1.trans (same_new hp)) (.lst (s1.free hp) upd_same (d1.same (same_new hp)))⟩
theorem it_sD {K : PySem.W.Frag} {t : TE} {ds : List PyData} (h : sD t (.list ds)) {σ : L2.St} {H : Hp} {R : It → Hp → Prop}
    (k : ∀ (J : It) (G : Hp → Prop) (xs : List V) (H1 : Hp) (a : Addr), Walk J xs.length G (YAt xs) → (∀ H', H' a = H1 a → G H') → H a = none → Same H H1 → DtA (fun a => H a = none) H1 xs ds → R J H1) : iList K t σ H R :=
  h σ H _ fun v H1 s1 hv => by
    cases hv with
    | lst g e hA => exact ⟨_, rfl, ⟨_, SqL.of e⟩, k _ _ _ _ _ walk_list (fun H' s => SqL.of (s.trans e)) g s1 hA⟩
theorem sD_neg {n : Int} : sD (tUn (rU fun i => .int (-i)) (tC (.int n))) (.int (-n)) := fun _ _ _ k => ⟨n, rfl, k _ _ (Same.refl _) (.int (-n))⟩
theorem sD_rng {n : Nat} {k : Nat} {te : TE} {d : PyData} (hn : n ≤ 10000) (he : sD te d) : sD (tLc (iRng1 (tCons (tC (.int (n : Int))) tNil)) (gName k) tYes te [k]) (.list (List.replicate n d)) := fun σ H Q q => by
  refine ⟨(n : Int), rfl, by omega, by omega, fun D hD => ?_⟩
  refine lc_range (lo := 0) (n := Int.toNat (n : Int)) (fun j H' => Same H H' ∧ ∃ acc, H' D = some (.lst acc) ∧ DtA (fun b => H b = none ∧ b ≠ D) H' acc (List.replicate j d)) ⟨same_new hD, [], upd_same, .nil⟩ ?_ ?_
  · rintro j H1 hj ⟨sj, acc, ej, Aj⟩
    have la := Aj.length
    rw [List.length_replicate] at la
    refine ⟨?_, yesIf (he _ _ _ fun v H2 s2 hv => ?_)⟩
    · show ((σ.set k none).set k _).set k none = σ.set k none
      rw [List.set_set, List.set_set]
    · refine ⟨acc, s2 _ _ ej, Nat.lt_of_lt_of_le (show acc.length < 10000 by omega) (by decide), same_sub (sj.trans s2) hD, _, upd_same, ?_⟩
      rw [List.replicate_succ']
      exact (Aj.to fun b o g e => ⟨by rw [upd_ne g.2]; exact s2 _ _ e, g⟩).app (.cons (hv.to fun b o g e => by
        have n1 : b ≠ D := fun z => by rw [z, ej] at g; cases g
        exact ⟨by rw [upd_ne n1]; exact e, sj.free g, n1⟩) .nil)
  · rintro H1 ⟨sj, acc, ej, Aj⟩
    rw [Int.toNat_natCast] at Aj
    exact q _ _ sj (.lst hD ej (Aj.to fun b o g e => ⟨e, g.1⟩))
theorem pick_sD {K : PySem.W.Frag} {i t : Nat} {d : Addr} {V0 H : Hp} {σ : L2.St} {Q : VK} {te : TE} (ds : List PyData) (h : sD te (.list ds)) (hσ : σ[i]? = some (some (.ref d))) (hD : Dw t V0 H d) (ht : t < T40) (l0 : 0 < ds.length) (l1 : ds.length ≤ 1000)
    (k : ∀ v dd H' V', dd ∈ ds → Dw (t + 1) V' H' d → Same V0 V' → Dt anyA V' v dd → Q v H') : tCall (spPick K) [] C8.E0 (tCons (tVar i) (tCons te tNil)) σ H Q := by
  refine ⟨_, hσ, h σ H _ fun v H1 s1 hv => ?_⟩
  cases hv with
  | @lst a xs _ g e A =>
    obtain ⟨V1, D1, y1, gv⟩ := hD.grow s1
    have eV := gv _ _ g e
    have AV : DtA anyA V1 xs ds := A.to fun b o gb eb => ⟨gv b o gb eb, trivial⟩
    have la := AV.length
    refine ⟨t, V1, d, .ref a, xs, rfl, D1, ht, .lst (SqL.of eV), by omega, by omega, fun v H' hv D2 => ?_⟩
    obtain ⟨j, hj⟩ := List.mem_iff_getElem?.mp hv
    obtain ⟨dd, hdd, hy⟩ := AV.at hj
    exact k v dd H' V1 (List.mem_of_getElem? hdd) D2 y1 hy
/-! ## k60's law -/
open M59 (isR Ok src)
theorem merge_nodup : ∀ {more acc : List (Key × V)}, ((acc ++ more).map (·.1)).Nodup → mergeK acc more = acc ++ more
  | [], acc, _ => by simp [mergeK]
  | (k, v) :: more, acc, h => by
    have hn : valV acc k = none := by
      cases e : valV acc k with
      | none => rfl
      | some u =>
        have m := valV_in e
        rw [List.map_append] at h
        exact ((List.nodup_append.mp h).2.2 k m k (by simp) rfl).elim
    show mergeK (putK acc k v) more = _
    rw [putK_new _ hn, merge_nodup (acc := acc ++ [(k, v)]) (by simpa using h)]
    simp
/-- what the places hold -/
def hdK (l : List Nat) (g : Nat → Nat) : List (Key × V) := l.map fun x => (keyP x, plV (g x))
theorem hdK_val {g : Nat → Nat} {t : Nat} (ht : t < 18) : ∀ {l : List Nat}, (∀ x ∈ l, x < 18) → t ∈ l → valV (hdK l g) (keyP t) = some (plV (g t))
  | [], _, h => nomatch h
  | x :: l, h18, h => by
    unfold hdK
    rw [List.map_cons]
    by_cases c : x = t
    · rw [valV_pos (by rw [c]), c]
    · rw [valV_neg (fun z => c (keyP_inj (h18 x (List.mem_cons_self ..)) ht z))]
      exact hdK_val ht (fun y hy => h18 y (List.mem_cons_of_mem _ hy)) ((List.mem_cons.mp h).resolve_left fun e => c e.symm)
theorem hdK_put {g : Nat → Nat} {t v : Nat} {l : List Nat} (ht : t < 18) (h18 : ∀ x ∈ l, x < 18) (h : t ∈ l) : putK (hdK l g) (keyP t) (plV v) = hdK l fun x => if x = t then v else g x := by
  unfold putK
  rw [valV_any, hdK_val ht h18 h]
  show (hdK l g).map _ = _
  unfold hdK
  rw [List.map_map]
  refine List.map_congr_left fun x hx => ?_
  show (if keyP x = keyP t then (keyP x, plV v) else (keyP x, plV (g x))) = (keyP x, plV (if x = t then v else g x))
  by_cases c : x = t
  · rw [if_pos (by rw [c]), if_pos c]
  · rw [if_neg (fun z => c (keyP_inj (h18 x hx) ht z)), if_neg c]
theorem keyP_nodup {l : List Nat} (h18 : ∀ x ∈ l, x < 18) (nd : l.Nodup) : (l.map keyP).Nodup := by
  induction l with
  | nil => exact .nil
  | cons x l ih =>
    rw [List.nodup_cons] at nd
    rw [List.map_cons, List.nodup_cons]
    refine ⟨fun h => ?_, ih (fun y hy => h18 y (List.mem_cons_of_mem _ hy)) nd.2⟩
    obtain ⟨y, hy, e⟩ := List.mem_map.mp h
    exact nd.1 (keyP_inj (h18 y (List.mem_cons_of_mem _ hy)) (h18 x (List.mem_cons_self ..)) e ▸ hy)
section
variable {K : PySem.W.Frag} {H : Hp} {C CH : Addr} {Q : VK} {E : XK} {y : V}
theorem TuA.itA {as : List Addr} {ps : M59.Prs} (h : TuA prC H as ps) (lt : ∀ m ∈ ps, m.1 < 18 ∧ m.2 < 18) : ItA K H (as.map V.ref) (ps.map some) := ⟨by rw [List.length_map, List.length_map, h.length], fun i x e => by
  obtain ⟨a, m, rfl, ha, hm, e⟩ := h.ref e
  have l := lt m (List.mem_of_getElem? hm)
  exact ⟨some m, by rw [List.getElem?_map, hm]; rfl, .one e l.1 l.2⟩⟩
theorem PsH.op {a : Addr} {ps : M59.Prs} (h : PsH H a ps) (ok : Ok ps) (k : ∀ H' q, Same H H' → OpL H' q ps → Q (.ref q) H') : spOpnP K C [.ref a] H Q E := by
  obtain ⟨as, hS, tu⟩ := h
  have := okLen ok
  exact ⟨_, rfl, .inr ⟨a, _, rfl, hS, .inr ⟨_, by rw [List.length_map, tu.length]; omega, tu.itA ok.lt, .inr ⟨ps, rfl, ok, k⟩⟩⟩⟩
theorem PsH.mvG {a : Addr} {ps : M59.Prs} {h0 h1 : Nat} (h : PsH H a ps) (ok : Ok ps) (hg : HlG H ps y h0 h1) (k : ∀ H' q l, Same H H' → TuL rowC H' q (M59.allRows ps h0 h1 l) → M59.Lp ps (M59.fixed ps) l → Q (.ref q) H') : spMoves K C CH [.ref a, y] H Q E := by
  obtain ⟨as, hS, tu⟩ := h
  have := okLen ok
  exact ⟨_, _, rfl, .inr ⟨a, _, rfl, hS, .inr ⟨_, by rw [List.length_map, tu.length]; omega, tu.itA ok.lt, .inr ⟨ps, rfl, ok, .inr ⟨h0, h1, hg, k⟩⟩⟩⟩⟩
end
theorem erase_map {α β : Type} (f : α → β) : ∀ (l : List α) (k : Nat), (l.map f).eraseIdx k = (l.eraseIdx k).map f
  | [], _ => rfl
  | _ :: _, 0 => rfl
  | a :: l, k + 1 => congrArg (f a :: ·) (erase_map f l k)
theorem filter_both {α : Type} (p : α → Bool) : ∀ l : List α, (l.filter p).length + (l.filter fun x => !p x).length = l.length
  | [] => rfl
  | x :: l => by
    have ih := filter_both p l
    rw [List.filter_cons, List.filter_cons, List.length_cons]
    cases p x with
    | true =>
      rw [if_pos rfl, if_neg (by decide), List.length_cons]
      omega
    | false =>
      rw [if_neg (by decide), if_pos (show (!false) = true from rfl), List.length_cons]
      omega
theorem Dw.keep {t : Nat} {V0 H H1 : Hp} {d : Addr} (h : Dw t V0 H d) (e : Same H H1) : Dw t V0 H1 d := by
  obtain ⟨V', D, y, _⟩ := h.grow e
  exact D.less y
/-- the three places -/
structure Pz (pz : List Nat) : Prop where
  one : pz.Nodup
  len : pz.length = 3
  mem : ∀ x ∈ pz, x ∈ [0, 1, 2, 9, 10, 11]
theorem Pz.lt {pz : List Nat} (h : Pz pz) {x : Nat} (hx : x ∈ pz) : x < 18 ∧ x ≠ 7 ∧ x ≠ 8 := by
  have : ∀ x ∈ [0, 1, 2, 9, 10, 11], x < 18 ∧ x ≠ 7 ∧ x ≠ 8 := by decide
  exact this x (h.mem x hx)
abbrev P5 (pz : List Nat) : List Nat := pz ++ [7, 8]
theorem Pz.five {pz : List Nat} (h : Pz pz) : (P5 pz).Nodup ∧ (P5 pz).length = 5 ∧ ∀ x ∈ P5 pz, x < 18 := by
  refine ⟨List.nodup_append.mpr ⟨h.one, by decide, fun x hx y hy e => ?_⟩, by rw [List.length_append, h.len]; rfl, fun x hx => ?_⟩
  · have h1 := h.lt hx
    simp only [List.mem_cons, List.not_mem_nil, or_false] at hy
    omega
  · rcases List.mem_append.mp hx with hx | hx
    · exact (h.lt hx).1
    · simp only [List.mem_cons, List.not_mem_nil, or_false] at hx
      omega
theorem Pz.at {pz : List Nat} (h : Pz pz) {i : Nat} (hi : i < 3) : (P5 pz).getD i 0 = pz.getD i 0 ∧ pz.getD i 0 ∈ pz := by
  have l := h.len
  refine ⟨?_, (getD_in (by omega)).2⟩
  rw [List.getD_eq_getElem?_getD, List.getD_eq_getElem?_getD, List.getElem?_append_left (by omega)]
structure Prz (pz : List Nat) (ps : M59.Prs) : Prop where
  one : (ps.map (·.1)).Nodup
  mem : ∀ m ∈ ps, m.1 ∈ pz ∧ m.2 ∈ pz
theorem Prz.ok {pz : List Nat} {ps : M59.Prs} (h : Prz pz ps) (z : Pz pz) : Ok ps := ⟨h.one, fun m hm => ⟨(z.lt (h.mem m hm).1).1, (z.lt (h.mem m hm).2).1⟩⟩
theorem Prz.free {pz : List Nat} {ps : M59.Prs} (h : Prz pz ps) (z : Pz pz) : M59.Free ps 7 ∧ M59.Free ps 8 :=
  ⟨fun m hm => ⟨(z.lt (h.mem m hm).1).2.1, (z.lt (h.mem m hm).2).2.1⟩, fun m hm => ⟨(z.lt (h.mem m hm).1).2.2, (z.lt (h.mem m hm).2).2.2⟩⟩
/-- fewer rows do not do it -/
theorem no_few {pz : List Nat} {ps : M59.Prs} (z : Pz pz) (h : Prz pz ps) {n : Nat} {s : List Nat} (hn : n < (M59.mov ps).length + M59.nOpen ps) (hr : Rch (P5 pz) n s) : dueB ps (P5 pz) s = false := by
  cases e : dueB ps (P5 pz) s with
  | false => rfl
  | true =>
    exfalso
    obtain ⟨rows, h1, h2, h3, rfl⟩ := hr
    have ok := h.ok z
    obtain ⟨f0, f1⟩ := h.free z
    obtain ⟨n5, l5, _⟩ := z.five
    have := M59.no_fewer ok ⟨h2, f0, f1, fun x x7 x8 => ?_⟩
    · omega
    · by_cases hx : x ∈ pz
      · obtain ⟨i, hi, hix⟩ := List.getElem_of_mem hx
        have i3 : i < 3 := by rw [← z.len]; exact hi
        unfold dueB at e
        have e1 := of_decide_eq_true (List.all_eq_true.mp e i (List.mem_range.mpr (by omega)))
        have e2 : (P5 pz).getD i 0 = x := by
          rw [(z.at i3).1, List.getD_eq_getElem?_getD, List.getElem?_eq_getElem hi]
          exact hix
        rw [e2, List.getD_eq_getElem?_getD, List.getElem?_map, (getD_in (show i < (P5 pz).length by omega)).1, e2] at e1
        exact e1
      · have hx5 : x ∉ P5 pz := fun q => by
          rcases List.mem_append.mp q with q | q
          · exact hx q
          · simp only [List.mem_cons, List.not_mem_nil, or_false] at q
            omega
        rw [M59.ex_not rows id x fun m hm e => hx5 (e ▸ (h3 m hm).1), M59.src_self fun p hp => hx (h.mem _ (M59.mov_mem.mp hp).1).1]
        rfl
/-- moves does it -/
theorem all_due {pz : List Nat} {ps : M59.Prs} (z : Pz pz) (h : Prz pz ps) {l : List Nat} (lp : M59.Lp ps (M59.fixed ps) l) : dueB ps (P5 pz) ((P5 pz).map (M59.ex id (M59.allRows ps 7 8 l))) = true := by
  obtain ⟨f0, f1⟩ := h.free z
  obtain ⟨n5, l5, _⟩ := z.five
  unfold dueB
  refine List.all_eq_true.mpr fun i hi => decide_eq_true ?_
  have hi := List.mem_range.mp hi
  have i3 : i < 3 := by omega
  obtain ⟨a1, a2⟩ := z.at i3
  have := z.lt a2
  rw [List.getD_eq_getElem?_getD, List.getElem?_map, (getD_in (show i < (P5 pz).length by omega)).1]
  show M59.ex id _ ((P5 pz).getD i 0) = _
  rw [a1]
  exact M59.moves_ok (h.ok z) f0 f1 (by decide) lp _ this.2.1 this.2.2
structure LawF (P : Program) (w : World) (K : PySem.W.Frag) (mg : Str → Option Value) (base : Heap) (C CH : Addr) : Prop where
  G : NkF K mg
  lis : mg "list" = none
  tup : mg "tuple" = none
  dct : mg "dict" = none
  zip : mg "zip" = none
  rng : mg "range" = none
  min : mg "min" = none
  begun : Cal P w K mg base 1 "_law_begun" ["_law_script"] (spBegun K)
  take : Cal P w K mg base 2 "_law_take" ["_law_draw", "_law_many"] spTake
  pick : Cal P w K mg base 3 "_law_pick" ["_law_draw", "_law_some"] (spPick K)
  shuf : Cal P w K mg base 3 "_law_shuffled" ["_law_draw", "_law_some"] spShuf
  done : Cal P w K mg base 1 "_law_is_done" ["_law_places", "_law_pairs", "_law_state"] spDone
  least : Cal P w K mg base 2 "_law_least" ["_law_places", "_law_pairs", "_law_most"] spLeast
  moves : CalX P w K mg base 7 "moves" ["pairs", "helpers"] (spMoves K C CH)
  openings : CalX P w K mg base 6 "openings" ["pairs"] (spOpnP K C)
def spLaw (K : PySem.W.Frag) : Sp := fun vs H Q _ => ∃ (a : Addr) (ns : List Int), vs = [.ref a] ∧ SqL K H a (ns.map V.int) ∧ ns.length ≤ 63 ∧ ∀ H', Q (.bl true) H'
section
variable {P : Program} {w : World} {K : PySem.W.Frag} {mg : Str → Option Value} {base : Heap}
theorem sc_law : FnScope ["_law_script", "_law_draw", "_law_turn", "_law_places", "_law_targets", "_law_left", "_law_pairs", "_law_target", "_law_way", "_law_rows", "_law_idle", "_law_source", "_law_state", "_law_held", "_law_word", "_law_place"] ["_law_script"] (defScope s_law) := ⟨rfl, rfl, rfl, by decide +kernel, rfl, by decide +kernel, by decide +kernel⟩
theorem ok_law {f C CH : Addr} {fd : FuncData} (F : FnP K "law" s_law f fd) (R : LawF P w K mg base C CH) : FnG P w K mg base 8 f fd ["_law_script"] (spLaw K) := by
  obtain ⟨f__law_begun, fd__law_begun, g__law_begun, k__law_begun, b__law_begun, G__law_begun⟩ := R.begun
  obtain ⟨f__law_take, fd__law_take, g__law_take, k__law_take, b__law_take, G__law_take⟩ := R.take
  obtain ⟨f__law_pick, fd__law_pick, g__law_pick, k__law_pick, b__law_pick, G__law_pick⟩ := R.pick
  obtain ⟨f__law_shuffled, fd__law_shuffled, g__law_shuffled, k__law_shuffled, b__law_shuffled, G__law_shuffled⟩ := R.shuf
  obtain ⟨f__law_is_done, fd__law_is_done, g__law_is_done, k__law_is_done, b__law_is_done, G__law_is_done⟩ := R.done
  obtain ⟨f__law_least, fd__law_least, g__law_least, k__law_least, b__law_least, G__law_least⟩ := R.least
  obtain ⟨f2, fd2, g2, k2, b2, G2⟩ := R.moves
  obtain ⟨f3, fd3, g3, k3, b3, G3⟩ := R.openings
  have G := R.G
  have lis := R.lis
  have tup := R.tup
  have m_dict := R.dct
  have m_zip := R.zip
  have rng := R.rng
  have m_min := R.min
  refine FunD.okG F sc_law (fun vs H Q E h => ?_) (fun cdv A outer s H vs Q E hgd hr h => ?_)
  · obtain ⟨a, ns, rfl, _⟩ := h
    rfl
  · obtain ⟨a, ns, rfl, hS, hl, k⟩ := h
    have nd := sc_law.nd
    have hu := hu_of hr
    apply Exists.intro
    apply And.intro
    case left =>
     apply PSs.nox
     apply pss_cons
     · exact (ps_set (i := 1) nd rfl (.inl rfl) (pe_call G__law_begun (hr.mono (by decide)) rfl g__law_begun k__law_begun b__law_begun .nil pass0 (pa_cons (pv 0) pa_nil)))
     apply pss_cons
     · apply ps_for PassesOwn.never rfl
       · exact (pi_range1 (by rfl) rng (pa_cons (pe_op op_add pe_int (pe_callB (call_min2 (by rfl)) (by rfl) m_min (by decide +kernel) (pa_cons (pe_callB call_len (by rfl) G.len PySem.boot_len (pa_cons (pv 0) pa_nil)) (pa_cons pe_int pa_nil)))) pa_nil))
       · exact (pg_name (i := 2) nd rfl (Or.inl rfl))
       · apply pss_cons
         · exact (ps_set (i := 3) nd rfl (.inl rfl) (pe_slice sl_list (pe_call G__law_shuffled (hr.mono (by decide)) rfl g__law_shuffled k__law_shuffled b__law_shuffled .nil pass0 (pa_cons (pv 1) (pa_cons (pe_lst (pa_cons pe_str (pa_cons pe_str (pa_cons pe_str (pa_cons pe_str (pa_cons pe_str (pa_cons pe_str pa_nil))))))) pa_nil))) po_none (po_some pe_int)))
         apply pss_cons
         · exact (ps_set (i := 4) nd rfl (.inl rfl) (pe_slice sl_list (pe_call G__law_shuffled (hr.mono (by decide)) rfl g__law_shuffled k__law_shuffled b__law_shuffled .nil pass0 (pa_cons (pv 1) (pa_cons (pv 3) pa_nil))) po_none (po_some (pe_call G__law_pick (hr.mono (by decide)) rfl g__law_pick k__law_pick b__law_pick .nil pass0 (pa_cons (pv 1) (pa_cons (pe_lst (pa_cons pe_int (pa_cons pe_int (pa_cons pe_int (pa_cons pe_int (pa_cons pe_int pa_nil)))))) pa_nil))))))
         apply pss_cons
         · exact (ps_par (X := (cxOf CX0 P w K mg base ["_law_script", "_law_draw", "_law_turn", "_law_places", "_law_targets", "_law_left", "_law_pairs", "_law_target", "_law_way", "_law_rows", "_law_idle", "_law_source", "_law_state", "_law_held", "_law_word", "_law_place"] "law" (defScope s_law) f cdv A outer s H E).nox) (i := 5) (j := 6) rfl nd rfl rfl (by decide) rfl rfl (pa_cons (pe_callTy call_list_of (by rfl) lis (by decide +kernel) (pa_cons (pv 3) pa_nil)) (pa_cons (pe_lst pa_nil) pa_nil)) (by rfl))
         apply pss_cons
         · apply ps_for PassesOwn.never rfl
           · exact (pi_list (pv 4))
           · exact (pg_name (i := 7) nd rfl (Or.inl rfl))
           · apply pss_cons
             · exact (ps_set (i := 8) nd rfl (.inl rfl) (pe_call G__law_take (hr.mono (by decide)) rfl g__law_take k__law_take b__law_take .nil pass0 (pa_cons (pv 1) (pa_cons pe_int pa_nil))))
             apply pss_one
             exact (ps_expr (pe_bm PySem.F.plainAttrs_list PySem.F.slot_list_append PySem.F.type_list_append mt_append (pv 6) (pa_cons (pe_tup (pa_cons (pv 7) (pa_cons (pe_ifExp (pt_cmpR op_gt (pv 8) pe_int (nomark _)) (pe_bm PySem.F.plainAttrs_list PySem.F.slot_list_pop PySem.F.type_list_pop mt_popAt (pv 5) (pa_cons (pe_call G__law_take (hr.mono (by decide)) rfl g__law_take k__law_take b__law_take .nil pass0 (pa_cons (pv 1) (pa_cons (pe_callB call_len (by rfl) G.len PySem.boot_len (pa_cons (pv 5) pa_nil)) pa_nil))) pa_nil)) (pe_call G__law_pick (hr.mono (by decide)) rfl g__law_pick k__law_pick b__law_pick .nil pass0 (pa_cons (pv 1) (pa_cons (pv 3) pa_nil)))) pa_nil))) pa_nil)))
         apply pss_cons
         · exact (ps_set (i := 9) nd rfl (.inl rfl) (pe_call G2 (hr.mono (by decide)) rfl g2 k2 b2 .nil (passes_call LamX.takes0 (fun _ _ _ _ h => h)) (pa_cons (pe_callTy call_list_of (by rfl) lis (by decide +kernel) (pa_cons (pv 6) pa_nil)) (pa_cons (pe_tup (pa_cons pe_str (pa_cons pe_str pa_nil))) pa_nil))))
         apply pss_cons
         · exact (ps_set (i := 10) nd rfl (.inl rfl) (pe_callB call_len (by rfl) G.len PySem.boot_len (pa_cons (pe_lc (own := [("_law_target", 7), ("_law_source", 11)]) (g := gTup K 2 (gCons (gName 7) (gCons (gName 11) gNil))) rfl nd (pi_list (pv 6)) (blkOk_by (own := [("_law_target", 7), ("_law_source", 11)]) (N := ["_law_script", "_law_draw", "_law_turn", "_law_places", "_law_targets", "_law_left", "_law_pairs", "_law_target", "_law_way", "_law_rows", "_law_idle", "_law_source", "_law_state", "_law_held", "_law_word", "_law_place"]) (sc := defScope s_law) (by decide +kernel)) (fun _ _ _ _ _ => by exact (pg_tup rfl (pgs_cons (pg_name (i := 7) nd rfl (Or.inl rfl)) (pgs_cons (pg_name (i := 11) nd rfl (Or.inl rfl)) pgs_nil)))) (fun _ _ _ _ _ => pts_one (pt_cmpR op_eq (pv 7) (pv 11) (nomark _))) (fun _ _ _ _ _ => (pv 7))) pa_nil)))
         apply pss_cons
         · exact (ps_if (PW.pt (pw_or (pt_not (pt_val (pe_callB call_isi (by rfl) G.isi (by decide +kernel) (pa_cons (pv 9) (pa_cons (pe_bltn (v := .ty "list") (by rfl) lis (by decide +kernel) rfl) pa_nil))))) (pw_or1 (pt_cmpR op_ne (pe_callB call_len (by rfl) G.len PySem.boot_len (pa_cons (pv 9) pa_nil)) (pe_op op_add (pe_op op_sub (pe_callB call_len (by rfl) G.len PySem.boot_len (pa_cons (pv 6) pa_nil)) (pv 10)) (pe_callB call_len (by rfl) G.len PySem.boot_len (pa_cons (pe_call G3 (hr.mono (by decide)) rfl g3 k3 b3 .nil (passes_call LamX.takes0 (fun _ _ _ _ h => h)) (pa_cons (pe_callTy call_list_of (by rfl) lis (by decide +kernel) (pa_cons (pv 6) pa_nil)) pa_nil)) pa_nil))) (nomark _))))) (pss_one (ps_ret pe_bl)) pss_nil)
         apply pss_cons
         · exact (ps_set (i := 12) nd rfl (.inl rfl) (pe_op op_catT (pe_callTy call_tuple_of (by rfl) tup (by decide +kernel) (pa_cons (pv 3) pa_nil)) (pe_tup (pa_cons pe_str (pa_cons pe_str pa_nil)))))
         apply pss_cons
         · exact (ps_set (i := 13) nd rfl (.inr rfl) (pe_dictZip rfl (by rfl) m_dict (by rfl) m_zip (pa_cons (pv 12) (pa_cons (pv 12) pa_nil))))
         apply pss_cons
         · apply ps_for PassesOwn.never rfl
           · exact (pi_list (pv 9))
           · exact (pg_tup rfl (pgs_cons (pg_name (i := 7) nd rfl (Or.inl rfl)) (pgs_cons (pg_name (i := 14) nd rfl (Or.inl rfl)) (pgs_cons (pg_name (i := 11) nd rfl (Or.inl rfl)) pgs_nil))))
           · apply C8.pss_cut
             · exact (ps_if (PW.pt (pw_or (pt_cmpR op_ne (pv 14) pe_str (nomark _)) (pw_or (pt_cmp (pc_dnotin hu (pv 7) (pv 13))) (pw_or (pt_cmp (pc_dnotin hu (pv 11) (pv 13))) (pw_or1 (PW.pt (pw_and (pt_cmpR op_eq (pe_ix ix_str (pv 7) pe_int (fun _ _ => rfl)) pe_str (nomark _)) (pw_and1 (pt_cmpR op_eq (pe_ix ix_str (pv 11) pe_int (fun _ _ => rfl)) pe_str (nomark _)))))))))) (pss_one (ps_ret pe_bl)) pss_nil)
             apply pss_one
             exact (ps_dput hu (pv 13) (pv 7) (pe_dget hu (pv 13) (pv 11) (fun _ _ => rfl)) rfl)
         apply pss_cons
         · exact (ps_if (pt_not (pt_val (pe_call G__law_is_done (hr.mono (by decide)) rfl g__law_is_done k__law_is_done b__law_is_done .nil pass0 (pa_cons (pv 12) (pa_cons (pv 6) (pa_cons (pe_callTy call_tuple_of (by rfl) tup (by decide +kernel) (pa_cons (pe_lc (own := [("_law_place", 15)]) (g := gName 15) rfl nd (pi_tup (pv 12)) (blkOk_by (own := [("_law_place", 15)]) (N := ["_law_script", "_law_draw", "_law_turn", "_law_places", "_law_targets", "_law_left", "_law_pairs", "_law_target", "_law_way", "_law_rows", "_law_idle", "_law_source", "_law_state", "_law_held", "_law_word", "_law_place"]) (sc := defScope s_law) (by decide +kernel)) (fun _ _ _ _ _ => (pg_name (i := 15) nd rfl (Or.inl rfl))) (fun _ _ _ _ _ => pts_nil) (fun _ _ _ _ _ => (pe_dget (by exact hu) (pv 13) (pv 15) (fun _ _ => rfl)))) pa_nil)) pa_nil)))))) (pss_one (ps_ret pe_bl)) pss_nil)
         apply pss_one
         exact (ps_if (pt_cmpR op_ne (pe_call G__law_least (hr.mono (by decide)) rfl g__law_least k__law_least b__law_least .nil pass0 (pa_cons (pv 12) (pa_cons (pv 6) (pa_cons (pe_callB (call_min2 (by rfl)) (by rfl) m_min (by decide +kernel) (pa_cons (pe_callB call_len (by rfl) G.len PySem.boot_len (pa_cons (pv 9) pa_nil)) (pa_cons pe_int pa_nil))) pa_nil)))) (pe_callB (call_min2 (by rfl)) (by rfl) m_min (by decide +kernel) (pa_cons (pe_callB call_len (by rfl) G.len PySem.boot_len (pa_cons (pv 9) pa_nil)) (pa_cons pe_int pa_nil))) (nomark _)) (pss_one (ps_ret pe_bl)) pss_nil)
     apply pss_one
     exact (ps_ret pe_bl)
    case right =>
      refine ⟨_, rfl, a, ns, rfl, hS, hl, fun H1 d D1 _ => ?_⟩
      refine ⟨_, rfl, _, _, rfl, .inl ⟨_, D1.same.seq hS, rfl⟩, _, _, rfl, ?_⟩
      obtain ⟨n, hn, n7⟩ : ∃ n : Int, (1 : Int) + (if (2 : Int) < (((ns.map V.int).length : Nat) : Int) then 2 else (((ns.map V.int).length : Nat) : Int)) = n ∧ 0 ≤ n ∧ n ≤ 3 := by
        rw [List.length_map]
        by_cases c : (2 : Int) < ((ns.length : Nat) : Int)
        · exact ⟨_, rfl, by rw [if_pos c]; decide⟩
        · exact ⟨_, rfl, by rw [if_neg c]; omega⟩
      refine ⟨_, _, rfl, rfl, n, congrArg (fun z => [V.int z]) hn, by omega, by omega, ?_⟩
      refine for_range (lo := 0) (n := n.toNat) (fun j σ H' => ∃ (V' : Hp) (v2 v3 v4 v5 v6 v7 v8 v9 v10 v11 v12 v13 v14 : Option V), σ = [some (.ref a), some (.ref d), v2, v3, v4, v5, v6, v7, v8, v9, v10, v11, v12, v13, v14, none] ∧ Dw (100 * j) V' H' d) ⟨H, _, _, _, _, _, _, _, _, _, _, _, _, _, rfl, D1⟩ ?_ ?_
      rotate_left
      · rintro σ H2 ⟨V2, v2, v3, v4, v5, v6, v7, v8, v9, v10, v11, v12, v13, v14, rfl, D2⟩
        exact k _
      rintro j σ H2 hj ⟨V2, v2, v3, v4, v5, v6, v7, v8, v9, v10, v11, v12, v13, v14, rfl, D2⟩
      have hj : j < 3 := by omega
      generalize ht0 : 100 * j = t0 at D2
      have T0 : t0 ≤ 300 := by omega
      refine ⟨_, rfl, (show 6 ≤ sizeLine by decide), fun p0 hp0 => ?_⟩
      obtain ⟨V3, D3, y3, e3⟩ := D2.mk (o := .lst ([0, 1, 2, 9, 10, 11].map plV)) hp0
      refine ⟨t0, V3, d, p0, [0, 1, 2, 9, 10, 11].map plV, rfl, D3, by show t0 + 200 < 1099511627776; omega, e3, by decide, fun H4 V4 r ys D4 y4 n4 e4 pm => ?_⟩
      obtain ⟨l0, rfl, pl0⟩ := perm_of_map pm rfl
      have D4 : Dw (t0 + 6) V4 H4 d := D4
      refine ⟨_, rfl, r, _, rfl, SqL.of (D4.same _ _ e4), fun p1 hp1 => ?_⟩
      rw [show (3 : Int) = ((3 : Nat) : Int) from rfl, cutV_take, ← List.map_take]
      obtain ⟨V5, D5, y5, e5⟩ := D4.mk (o := .lst ((l0.take 3).map plV)) hp1
      have hz : Pz (l0.take 3) := ⟨List.Nodup.sublist (List.take_sublist _ _) (pl0.nodup_iff.mpr (by decide)), by rw [List.length_take, pl0.length_eq]; rfl, fun x hx => pl0.mem_iff.mp (List.mem_of_mem_take hx)⟩
      generalize l0.take 3 = pz at hz e5 D5 ⊢
      have z3 := hz.len
      have lp3 : (pz.map plV).length = 3 := by rw [List.length_map, z3]
      refine ⟨_, rfl, _, rfl, t0 + 6, V5, d, p1, _, rfl, D5, by show t0 + 6 + 200 < 1099511627776; omega, e5, by omega, fun H6 V6 r2 ys2 D6 y6 n6 e6 pm2 => ?_⟩
      obtain ⟨l1, rfl, pl1⟩ := perm_of_map pm2 rfl
      rw [lp3] at D6
      have e56 := y6 _ _ e5
      refine pick_sD [.int 1, .int 2, .int 2, .int 3, .int 3] (sD_lst (by repeat' (first | exact sA_nil | exact sD_int | refine sA_cons ?_ ?_)) (show 5 ≤ sizeLine by decide)) rfl D6 (by show t0 + 6 + 3 < 1099511627776; omega) (by decide) (by decide) fun v dd H7 V7 hdd D7 y7 hv => ?_
      obtain ⟨q, rfl⟩ : ∃ q : Nat, v = .int (q : Int) := by
        simp only [List.mem_cons, List.not_mem_nil, or_false] at hdd
        rcases hdd with rfl | rfl | rfl | rfl | rfl <;> cases hv
        · exact ⟨1, rfl⟩
        · exact ⟨2, rfl⟩
        · exact ⟨2, rfl⟩
        · exact ⟨3, rfl⟩
        · exact ⟨3, rfl⟩
      refine ⟨_, rfl, r2, _, rfl, SqL.of (D7.same _ _ (y7 _ _ e6)), fun p2 hp2 => ?_⟩
      rw [cutV_take, ← List.map_take]
      obtain ⟨V8, D8, y8, e8⟩ := D7.mk (o := .lst ((l1.take q).map plV)) hp2
      have tg1 : (l1.take q).Nodup := List.Nodup.sublist (List.take_sublist _ _) (pl1.nodup_iff.mpr hz.one)
      have tgm : ∀ x ∈ l1.take q, x ∈ pz := fun x hx => pl1.mem_iff.mp (List.mem_of_mem_take hx)
      have tg3 : (l1.take q).length ≤ 3 := Nat.le_trans (List.length_take_le' _ _) (by rw [pl1.length_eq]; omega)
      generalize l1.take q = tg at tg1 tgm tg3 e8 D8 ⊢
      have e58 := y8 _ _ (y7 _ _ e56)
      refine ⟨_, rfl, p1, _, rfl, .inl (SqL.of (D8.same _ _ e58)), fun LL hLL => ⟨(show 0 ≤ sizeLine by decide), fun FL hFL => ⟨_, _, rfl, ?_⟩⟩⟩
      obtain ⟨V9, D9, y9, e9⟩ := D8.mk (o := .lst (pz.map plV)) hLL
      obtain ⟨V10, D10, y10, e10⟩ := D9.mk (o := .lst []) hFL
      have nL : V8 LL = none := D8.same.free hLL
      have nF : V8 FL = none := y9.free (D9.same.free hFL)
      have FLL : FL ≠ LL := fun z => by rw [z, upd_same] at hFL; cases hFL
      have e8' := (y9.trans y10) _ _ e8
      have n82 : p2 ≠ LL := ne_of_none e8 nL
      have n8F : p2 ≠ FL := ne_of_none e8 nF
      have n5L : p1 ≠ LL := ne_of_none e58 nL
      have n5F : p1 ≠ FL := ne_of_none e58 nF
      refine ⟨_, rfl, p2, rfl, ⟨_, SqL.of (D10.same _ _ e8')⟩, ?_⟩
      refine for_it (walk_list (xs := tg.map plV)) (fun i σ H' => ∃ (V' : Hp) (t' : Nat) (as : List Addr) (ps : M59.Prs) (lf : List Nat) (w7 w8 : Option V), σ = [some (.ref a), some (.ref d), some (.int (0 + (j : Int))), some (.ref p1), some (.ref p2), some (.ref LL), some (.ref FL), w7, w8, v9, v10, v11, v12, v13, v14, none] ∧ Dw t' V' H' d ∧ t' ≤ t0 + 10 + 3 * i ∧ V' p1 = some (.lst (pz.map plV)) ∧ V' p2 = some (.lst (tg.map plV)) ∧ V' FL = some (.lst (as.map V.ref)) ∧ V' LL = some (.lst (lf.map plV)) ∧ (∀ x ∈ lf, x ∈ pz) ∧ lf.length ≤ 3 ∧ 3 ≤ lf.length + i ∧ TuA prC V' as ps ∧ ps.map (·.1) = tg.take i ∧ ∀ m ∈ ps, m.2 ∈ pz)
        ⟨V10, t0 + 10, [], [], pz, _, _, rfl, D10, Nat.le_refl _, (y9.trans y10) _ _ e58, e8', e10, y10 _ _ e9, fun _ h => h, by omega, by omega, .nil, rfl, fun _ h => nomatch h⟩ (fun i σ H' _ ⟨_, _, _, _, _, _, _, _, D', _, _, e, _⟩ => SqL.of (D'.same _ _ e)) ?_ ?_
      · rintro i x σ Hx H' hi ⟨V', t', as, ps, lf, w7, w8, rfl, D', tb, ep1, ep2, eF, eL, hlf, l3, lfi, tu, hm, hs⟩ ⟨rfl, hx⟩
        obtain ⟨u, hu2, rfl⟩ := map_at hx
        have i3 : i < 3 := Nat.lt_of_lt_of_le (List.getElem?_eq_some_iff.mp hu2).1 tg3
        have asl : (as.map V.ref).length < sizeLine := by
          rw [List.length_map, tu.length]
          have h1 := congrArg List.length hm
          rw [List.length_map] at h1
          have h2 := List.length_take_le' i tg
          exact Nat.lt_of_le_of_lt (show ps.length ≤ 18 by omega) (by decide)
        have fin : ∀ (V6 H6 : Hp) (t6 s : Nat) (lf' : List Nat) (pp : Addr) (w : Int), Dw t6 V6 H6 d → t6 ≤ t' + 3 → V6 p1 = some (.lst (pz.map plV)) → V6 p2 = some (.lst (tg.map plV)) → V6 FL = some (.lst (as.map V.ref)) → V6 LL = some (.lst (lf'.map plV)) → (∀ x ∈ lf', x ∈ pz) → lf'.length ≤ 3 → 3 ≤ lf'.length + (i + 1) → TuA prC V6 as ps → s ∈ pz → V6 pp = some (.tup [plV u, plV s]) →
            ∃ (V' : Hp) (t' : Nat) (as' : List Addr) (ps : M59.Prs) (lf : List Nat) (w7 w8 : Option V), ([some (.ref a), some (.ref d), some (.int (0 + (j : Int))), some (.ref p1), some (.ref p2), some (.ref LL), some (.ref FL), some (plV u), some (.int w), v9, v10, v11, v12, v13, v14, none] : L2.St) = [some (.ref a), some (.ref d), some (.int (0 + (j : Int))), some (.ref p1), some (.ref p2), some (.ref LL), some (.ref FL), w7, w8, v9, v10, v11, v12, v13, v14, none] ∧ Dw t' V' (upd H6 FL (.lst (as.map V.ref ++ [.ref pp]))) d ∧ t' ≤ t0 + 10 + 3 * (i + 1) ∧ V' p1 = some (.lst (pz.map plV)) ∧ V' p2 = some (.lst (tg.map plV)) ∧ V' FL = some (.lst (as'.map V.ref)) ∧ V' LL = some (.lst (lf.map plV)) ∧ (∀ x ∈ lf, x ∈ pz) ∧ lf.length ≤ 3 ∧ 3 ≤ lf.length + (i + 1) ∧ TuA prC V' as' ps ∧ ps.map (·.1) = tg.take (i + 1) ∧ ∀ m ∈ ps, m.2 ∈ pz := by
          intro V6 H6 t6 s lf' pp w g1 g2 g3 g4 g5 g6 g7 g8 g9 g10 g11 g12
          refine ⟨upd V6 FL (.lst (as.map V.ref ++ [.ref pp])), t6, as ++ [pp], ps ++ [(u, s)], lf', _, _, rfl, g1.set g5, by omega, ?_, ?_, ?_, ?_, g7, g8, g9, ?_, ?_, fun m hm2 => ?_⟩
          · rw [upd_ne n5F]
            exact g3
          · rw [upd_ne n8F]
            exact g4
          · rw [upd_same, List.map_append]
            rfl
          · rw [upd_ne (Ne.symm FLL)]
            exact g6
          · exact (g10.app (TuA.one (c := prC) (m := (u, s)) g12)).put g5 fun vs z => by cases z
          · rw [List.map_append, hm, take_snoc2 hu2]
            rfl
          · rcases List.mem_append.mp hm2 with hm2 | hm2
            · exact hs m hm2
            · rw [List.mem_singleton.mp hm2]
              exact g11
        refine ⟨_, rfl, t', V', d, 3, rfl, D', by show t' < 1099511627776; omega, by decide, by decide, fun way H6 w0 w1 D6 => ?_⟩
        refine ⟨_, rfl, .inl ⟨rfl, _, SqL.of (D6.same _ _ eF)⟩, _, rfl, _, rfl, _, _, rfl, rfl, _, rfl, ?_⟩
        by_cases c1 : way > 0
        · rw [decide_eq_true c1]
          refine iteT ⟨_, rfl, .inl ⟨rfl, _, SqL.of (D6.same _ _ eL)⟩, _, rfl, _, rfl, _, _, rfl, .inl ⟨_, SqL.of (D6.same _ _ eL), rfl⟩, t' + 1, V', d, _, rfl, D6, by show t' + 1 < 1099511627776; omega, by rw [List.length_map]; omega, by rw [List.length_map]; omega, fun kk H8 h0 h1 D8 => ?_⟩
          obtain ⟨k0, rfl⟩ := Int.eq_ofNat_of_zero_le h0
          have hk : k0 < (lf.map plV).length := by omega
          obtain ⟨y, hy⟩ : ∃ y, (lf.map plV)[k0]? = some y := ⟨_, List.getElem?_eq_getElem hk⟩
          obtain ⟨s0, hs0, rfl⟩ := map_at hy
          have hk2 : k0 < lf.length := by rw [List.length_map] at hk; exact hk
          refine ⟨LL, _, _, k0, _, rfl, rfl, D8.same _ _ eL, by omega, by omega, sIx_ok hk, hy, (show 2 ≤ sizeLine by decide), fun pp hpp => ?_⟩
          have D9' := D8.set (o' := .lst ((lf.map plV).eraseIdx k0)) eL
          obtain ⟨V12, D12, y12, e12⟩ := D9'.mk (o := .tup [plV u, plV s0]) hpp
          have eF9 : (upd V' LL (.lst ((lf.map plV).eraseIdx k0))) FL = some (.lst (as.map V.ref)) := by rw [upd_ne FLL]; exact eF
          have eF12 := y12 _ _ eF9
          refine ⟨FL, _, .ref pp, rfl, rfl, D12.same _ _ eF12, asl, ?_⟩
          refine fin V12 _ _ s0 (lf.eraseIdx k0) pp way D12 (by omega) (y12 _ _ (by rw [upd_ne n5L]; exact ep1)) (y12 _ _ (by rw [upd_ne n82]; exact ep2)) eF12 (y12 _ _ (by rw [upd_same, erase_map])) (fun x hx => hlf x (List.mem_of_mem_eraseIdx hx)) (Nat.le_trans (List.length_eraseIdx_le _ _) l3) ?_ ((tu.put eL fun vs z => by cases z).same y12) (hlf _ (List.mem_of_getElem? hs0)) e12
          rw [List.length_eraseIdx_of_lt hk2]
          omega
        · rw [decide_eq_false c1]
          refine iteF ⟨_, rfl, _, rfl, t' + 1, V', d, .ref p1, _, rfl, D6, by show t' + 1 < 1099511627776; omega, .lst (SqL.of ep1), by omega, by omega, fun v H8 hv D8 => ?_⟩
          obtain ⟨s0, hs0, rfl⟩ := List.mem_map.mp hv
          refine ⟨(show 2 ≤ sizeLine by decide), fun pp hpp => ?_⟩
          obtain ⟨V12, D12, y12, e12⟩ := D8.mk (o := .tup [plV u, plV s0]) hpp
          have eF12 := y12 _ _ eF
          refine ⟨FL, _, .ref pp, rfl, rfl, D12.same _ _ eF12, asl, ?_⟩
          exact fin V12 _ _ s0 lf pp way D12 (by omega) (y12 _ _ ep1) (y12 _ _ ep2) eF12 (y12 _ _ eL) hlf l3 (by omega) (tu.same y12) hs0 e12
      rintro σ H11 ⟨V11, t11, as, ps, lf, w7, w8, rfl, D11, tb, ep1, ep2, eF, eL, hlf, l3, lfi, tu, hm, hs⟩
      rw [List.length_map] at tb hm
      rw [List.take_length] at hm
      have hps : Prz pz ps := ⟨by rw [hm]; exact tg1, fun m hm2 => ⟨tgm _ (by rw [← hm]; exact List.mem_map.mpr ⟨m, hm2, rfl⟩), hs m hm2⟩⟩
      have ok := hps.ok hz
      obtain ⟨f7, f8⟩ := hps.free hz
      have t100 : t11 ≤ 100 * (j + 1) := by omega
      have eFx := D11.same _ _ eF
      have tux := tu.same D11.same
      have ep1x := D11.same _ _ ep1
      have lx : (as.map V.ref).length = ps.length := by rw [List.length_map, tu.length]
      clear D2 D3 D4 D5 D6 D7 D8 D9 D10 e3 e4 e5 e6 e8 e9 e10 e56 e58 e8' y3 y4 y5 y6 y7 y8 y9 y10 pm pm2 n4 n6
      refine ⟨_, rfl, FL, _, rfl, .inl (SqL.of eFx), fun pb hpb => ?_⟩
      have s1 := same_new (o := .lst (as.map V.ref)) hpb
      have eb : (upd H11 pb (.lst (as.map V.ref))) pb = some (.lst (as.map V.ref)) := upd_same
      generalize upd H11 pb (.lst (as.map V.ref)) = H12 at s1 eb ⊢
      refine ⟨(show 2 ≤ sizeLine by decide), fun hp hhp => ?_⟩
      have s2 := s1.trans (same_new (o := .tup [plV 7, plV 8]) hhp)
      have eb2 := (same_new (o := .tup [plV 7, plV 8]) hhp) _ _ eb
      have eh : (upd H12 hp (.tup [plV 7, plV 8])) hp = some (.tup [plV 7, plV 8]) := upd_same
      have hup : upd H12 hp (.tup [V.str "r7", V.str "r8"]) = upd H12 hp (.tup [plV 7, plV 8]) := rfl
      rw [hup]
      generalize upd H12 hp (.tup [plV 7, plV 8]) = H13 at s2 eb2 eh ⊢
      have hPb : PlH H13 pb ps := ⟨as, eb2, tux.same s2⟩
      dsimp only [tNil]
      refine hPb.ps.mvG ok ⟨hp, rfl, eh, by decide, by decide, by decide, f7, f8⟩ fun H14 L lq s3 tl lp => ?_
      obtain ⟨rs, eL2, tuL⟩ := tl
      have s14 := s2.trans s3
      have len := M59.moves_len ok (h1 := 8) f7 lp
      -- idle pairs
      refine ⟨_, rfl, FL, rfl, ⟨_, SqL.of (s14 _ _ eFx)⟩, fun D hD => ?_⟩
      refine it_gen (walk_list (xs := as.map V.ref)) (fun i H' => Same H14 H' ∧ H' D = some (.lst ((((ps.take i).filter fun m => decide (m.1 = m.2)).map (·.1)).map plV))) ⟨same_new hD, upd_same⟩ (fun i H' _ h => SqL.of (h.1 _ _ (s14 _ _ eFx))) ?_ ?_
      · rintro i x Hx H' hi ⟨s5, e5⟩ ⟨rfl, hx⟩
        obtain ⟨q, m, rfl, hq, hm2, eq⟩ := tux.ref hx
        have m18 := ok.lt _ (List.mem_of_getElem? hm2)
        have mv : (ps.take (i + 1)).filter (fun m => decide (m.1 = m.2)) = (ps.take i).filter (fun m => decide (m.1 = m.2)) ++ if decide (m.1 = m.2) = true then [m] else [] := by
          rw [take_snoc2 hm2, List.filter_append, List.filter_cons, List.filter_nil]
        refine ⟨q, _, rfl, SqT.of (s5 _ _ (s14 _ _ eq)), rfl, _, _, rfl, _, _, rfl, rfl, rfl, ?_⟩
        refine ⟨_, rfl, _, rfl, rfl, _, rfl, ?_⟩
        rw [show decide (plV m.1 = plV m.2) = decide (m.1 = m.2) from plV_dec m18.1 m18.2]
        by_cases c : m.1 = m.2
        · rw [decide_eq_true c]
          refine iteT ⟨_, rfl, _, e5, ?_, same_sub s5 hD, ?_⟩
          · rw [List.length_map, List.length_map]
            have h1 := List.length_filter_le (fun m : Nat × Nat => decide (m.1 = m.2)) (ps.take i)
            have h2 := List.length_take_le' i ps
            have h3 := okLen ok
            exact Nat.lt_of_le_of_lt (show _ ≤ 18 by omega) (by decide)
          · rw [upd_same, mv, if_pos (decide_eq_true c), List.map_append, List.map_append]
            rfl
        · rw [decide_eq_false c]
          refine iteF ⟨s5, ?_⟩
          rw [mv, if_neg (by rw [decide_eq_false c]; decide), List.append_nil]
          exact e5
      rintro H15 ⟨s5, e5⟩
      rw [lx, List.take_length] at e5
      refine ⟨_, _, rfl, .inl ⟨_, SqL.of e5, rfl⟩, ?_⟩
      have s15 := s14.trans s5
      have eL3 := s5 _ _ eL2
      refine ⟨_, rfl, _, _, _, _, true, rfl, .ty _, .base (.lst eL3), kit_ty (by decide +kernel), _, rfl, iteN1 ?_⟩
      refine ⟨_, rfl, _, _, rfl, .inl ⟨_, SqL.of eL3, rfl⟩, _, rfl, _, _, rfl, .inl ⟨_, SqL.of (s15 _ _ eFx), rfl⟩, _, rfl, _, _, rfl, rfl, ?_⟩
      refine ⟨_, rfl, FL, _, rfl, .inl (SqL.of (s15 _ _ eFx)), fun pc hpc => ?_⟩
      have s6 := same_new (o := .lst (as.map V.ref)) hpc
      have ec6 : (upd H15 pc (.lst (as.map V.ref))) pc = some (.lst (as.map V.ref)) := upd_same
      generalize upd H15 pc (.lst (as.map V.ref)) = H16 at s6 ec6 ⊢
      have s16 := s15.trans s6
      have hPc : PlH H16 pc ps := ⟨as, ec6, tux.same s16⟩
      dsimp only [tNil]
      refine hPc.ps.op ok fun H17 q17 s7 ⟨os, bs, eO, tuO, rnO⟩ => ?_
      refine ⟨_, _, rfl, .inl ⟨_, SqL.of eO, rfl⟩, _, _, rfl, rfl, rfl, _, rfl, ?_⟩
      have s17 := s16.trans s7
      have both := filter_both (fun m : Nat × Nat => decide (m.1 = m.2)) ps
      have mvl : (ps.filter fun m => !decide (m.1 = m.2)) = M59.mov ps := by
        unfold M59.mov
        refine List.filter_congr fun m _ => ?_
        by_cases c : m.1 = m.2
        · rw [decide_eq_true c, decide_eq_false (fun z => z c)]
          rfl
        · rw [decide_eq_false c, decide_eq_true c]
          rfl
      rw [mvl] at both
      have nO : M59.nOpen ps = (opS ps).length + (opR ps).length := rfl
      have e12 : V.int (((rs.map V.ref).length : Nat) : Int) = V.int (((as.map V.ref).length : Nat) - (((((ps.filter fun m => decide (m.1 = m.2)).map (·.1)).map plV).length : Nat) : Int) + (((os.map V.ref ++ bs.map V.ref).length : Nat) : Int)) := by
        rw [List.length_map, tuL.length, len, lx, List.length_map, List.length_map, List.length_append, List.length_map, List.length_map, tuO.length, rnO.length, nO]
        congr 1
        omega
      rw [decide_eq_true e12]
      refine iteN1 ?_
      -- the state
      have D17 := D11.keep s17
      have ep17 := s17 _ _ ep1x
      refine ⟨_, rfl, p1, _, rfl, .inl ⟨SqL.of ep17, fun pt hpt => ?_⟩⟩
      have s8 := same_new (o := .tup (pz.map plV)) hpt
      have e8 : (upd H17 pt (.tup (pz.map plV))) pt = some (.tup (pz.map plV)) := upd_same
      generalize upd H17 pt (.tup (pz.map plV)) = H18 at s8 e8 ⊢
      refine ⟨(show 2 ≤ sizeLine by decide), fun pq hpq => ?_⟩
      have s9 := same_new (o := .tup [V.str "r7", V.str "r8"]) hpq
      have e9 : (upd H18 pq (.tup [V.str "r7", V.str "r8"])) pq = some (.tup [V.str "r7", V.str "r8"]) := upd_same
      replace e8 := s9 _ _ e8
      generalize upd H18 pq (.tup [V.str "r7", V.str "r8"]) = H19 at s9 e8 e9 ⊢
      have pzn : pz.map plV ≠ [] := fun z => by rw [z] at lp3; cases lp3
      refine ⟨pt, pq, _, _, rfl, rfl, SqT.of e8, SqT.of e9, pzn, by rw [lp3]; decide, (fun z => nomatch z), fun _ p5 hp5 => ?_⟩
      have s10 := same_new (o := .tup (stC (P5 pz))) hp5
      have e10 : (upd H19 p5 (.tup (stC (P5 pz)))) p5 = some (.tup (stC (P5 pz))) := upd_same
      have hup2 : upd H19 p5 (.tup (pz.map plV ++ [V.str "r7", V.str "r8"])) = upd H19 p5 (.tup (stC (P5 pz))) := by
        unfold stC P5
        rw [List.map_append]
        rfl
      rw [hup2]
      generalize upd H19 p5 (.tup (stC (P5 pz))) = H20 at s10 e10 ⊢
      have s20 := s17.trans (s8.trans (s9.trans s10))
      obtain ⟨n5, l5, p18⟩ := hz.five
      have kk1 : (hdK (P5 pz) id).map (fun kv => kV kv.1) = stC (P5 pz) := by
        unfold hdK stC
        rw [List.map_map]
        rfl
      have kk2 : (hdK (P5 pz) id).map (·.2) = stC (P5 pz) := by
        unfold hdK stC
        rw [List.map_map]
        rfl
      refine ⟨_, rfl, _, rfl, p5, p5, hdK (P5 pz) id, rfl, by rw [kk1]; exact SqT.of e10, by rw [kk2]; exact SqT.of e10, fun DD hDD => ?_⟩
      rw [merge_nodup (acc := []) (by
        rw [List.nil_append]
        unfold hdK
        rw [List.map_map]
        exact keyP_nodup p18 n5), List.nil_append]
      have s11 := same_new (o := .dK (hdK (P5 pz) id)) hDD
      have eD21 : (upd H20 DD (.dK (hdK (P5 pz) id))) DD = some (.dK (hdK (P5 pz) id)) := upd_same
      have nD11 : H11 DD = none := s20.free hDD
      have hDD' := hDD
      generalize upd H20 DD (.dK (hdK (P5 pz) id)) = H21 at s11 eD21 ⊢
      have s21 := s20.trans s11
      -- rows are done
      have eL21 : H21 L = some (.lst (rs.map V.ref)) := (s5.trans (s6.trans (s7.trans (s8.trans (s9.trans (s10.trans s11)))))) _ _ eL2
      have tu21 : TuA rowC H21 rs (M59.allRows ps 7 8 lq) := tuL.same (s5.trans (s6.trans (s7.trans (s8.trans (s9.trans (s10.trans s11))))))
      have e1021 := s11 _ _ e10
      have LD : L ≠ DD := fun z => by rw [z, eD21] at eL21; cases eL21
      have val := M59.moves_val ok (h0 := 7) (h1 := 8) (by decide) (by decide) lp
      have inu := M59.inu_rows (U := fun x => x ∈ P5 pz) (ps := ps) (fun m hm => ⟨List.mem_append_left _ (hps.mem m hm).1, List.mem_append_left _ (hps.mem m hm).2⟩) ok (h0 := 7) (h1 := 8) (List.mem_append_right _ (by decide)) (List.mem_append_right _ (by decide)) lp
      generalize hrows : M59.allRows ps 7 8 lq = rows at tuL len tu21 val inu
      refine ⟨_, rfl, L, rfl, ⟨_, SqL.of eL21⟩, ?_⟩
      refine for_it (walk_list (xs := rs.map V.ref)) (fun i σ H' => ∃ (w7 w11 w14 : Option V), σ = [some (.ref a), some (.ref d), some (.int (0 + (j : Int))), some (.ref p1), some (.ref p2), some (.ref LL), some (.ref FL), w7, w8, some (.ref L), some (.int ((((ps.filter fun m => decide (m.1 = m.2)).map (·.1)).map plV).length : Nat)), w11, some (.ref p5), some (.ref DD), w14, none] ∧ Sb DD H21 H' ∧ H' DD = some (.dK (hdK (P5 pz) (M59.ex id (rows.take i))))) ⟨_, _, _, rfl, (fun _ _ _ e => e), eD21⟩ (fun i σ H' _ ⟨_, _, _, _, sb, _⟩ => SqL.of (sb _ _ LD eL21)) ?_ ?_
      · rintro i x σ H0x H' hi ⟨w7, w11, w14, rfl, sb, eD⟩ ⟨rfl, hx⟩
        obtain ⟨q, m, rfl, hq, hm2, eq⟩ := tu21.ref hx
        have eq' := sb q _ (fun z => by rw [z, eD21] at eq; cases eq) eq
        have mem := List.mem_of_getElem? hm2
        obtain ⟨hv, m1, m2⟩ := val m mem
        obtain ⟨u1, u2⟩ := inu m mem
        have g1 := hdK_val (g := M59.ex id (rows.take i)) m1 p18 u1
        have g2 := hdK_val (g := M59.ex id (rows.take i)) m2 p18 u2
        obtain ⟨l1, l2⟩ := lt_at m1
        obtain ⟨n1, n2⟩ := lt_at m2
        refine ⟨q, _, rfl, SqT.of eq', rfl, _, _, rfl, _, _, rfl, _, _, rfl, rfl, ?_⟩
        refine ⟨fun σ H5 => H5 = H' ∧ σ = [some (.ref a), some (.ref d), some (.int (0 + (j : Int))), some (.ref p1), some (.ref p2), some (.ref LL), some (.ref FL), some (plV m.1), w8, some (.ref L), some (.int ((((ps.filter fun m => decide (m.1 = m.2)).map (·.1)).map plV).length : Nat)), some (plV m.2), some (.ref p5), some (.ref DD), some (.str "copy"), none], ?_, ?_⟩
        · refine ⟨_, rfl, rfl, _, rfl, ?_⟩
          rw [decide_eq_true (show V.str "copy" = V.str "copy" from rfl)]
          refine iteN1 ⟨_, rfl, _, rfl, DD, _, rfl, .inl ⟨_, keyP m.1, .inl eD, rfl, rfl⟩, _, rfl, ?_⟩
          rw [g1]
          refine iteN1 ⟨_, rfl, _, rfl, DD, _, rfl, .inl ⟨_, keyP m.2, .inl eD, rfl, rfl⟩, _, rfl, ?_⟩
          rw [g2]
          refine iteN1 ⟨_, rfl, _, 0, _, rfl, rfl, l1, l2, rfl, _, rfl, ?_⟩
          rw [show decide ((V.str ⟨#[if isR m.1 = true then 114 else 115]⟩) = V.str "s") = !isR m.1 from lt_s _]
          cases c1 : isR m.1 with
          | true => exact iteF (iteF ⟨rfl, rfl⟩)
          | false =>
            have c2 : isR m.2 = true := hv.resolve_left fun z => by rw [c1] at z; cases z
            refine iteT ⟨_, rfl, _, 0, _, rfl, rfl, n1, n2, rfl, _, rfl, ?_⟩
            rw [show decide ((V.str ⟨#[if isR m.2 = true then 114 else 115]⟩) = V.str "s") = !isR m.2 from lt_s _, c2]
            exact iteF ⟨rfl, rfl⟩
        rintro σ H5 ⟨rfl, rfl⟩
        refine ⟨_, rfl, _, rfl, DD, _, rfl, .inl ⟨_, keyP m.2, .inl eD, rfl, g2.symm⟩, _, rfl, _, rfl, DD, _, rfl, .inl ⟨_, keyP m.1, eD, rfl, ?_, rfl⟩, _, _, _, rfl, fun b o nb e => ?_, ?_⟩
        · unfold hdK
          rw [List.length_map, l5]
          decide
        · rw [upd_ne nb]
          exact sb b o nb e
        · rw [upd_same, hdK_put m1 p18 u1, take_snoc2 hm2]
          unfold hdK
          congr 2
          refine List.map_congr_left fun x _ => ?_
          rw [M59.ex_app]
          rfl
      rintro σ H22 ⟨w7', w11, w14, rfl, sb, eD⟩
      have hal : (rs.map V.ref).length = rows.length := by rw [List.length_map]; exact tu21.length
      rw [hal, List.take_length] at eD
      have s22 : Same H20 H22 := fun b o e => sb b o (fun z => by rw [z, hDD'] at e; cases e) (s11 _ _ e)
      have s022 := s20.trans s22
      have e1022 := s22 _ _ e10
      have hP22 : PlH H22 FL ps := ⟨as, s022 _ _ eFx, tux.same s022⟩
      -- done
      refine ⟨_, rfl, _, rfl, _, rfl, p5, rfl, ⟨_, SqT.of e1022⟩, fun D2 hD2 => ?_⟩
      refine it_gen (walk_tup (xs := stC (P5 pz))) (fun i H' => Same H22 H' ∧ H' D2 = some (.lst (((P5 pz).take i).map fun x => plV (M59.ex id rows x)))) ⟨same_new hD2, upd_same⟩ (fun i H' _ h => SqT.of (h.1 _ _ e1022)) ?_ ?_
      · rintro i x Hx H' hi ⟨s1, e1⟩ ⟨rfl, hx⟩
        obtain ⟨p, hp2, rfl⟩ := map_at hx
        have pin := List.mem_of_getElem? hp2
        have g := hdK_val (g := M59.ex id rows) (p18 p pin) p18 pin
        refine ⟨rfl, yesIf ⟨_, rfl, _, rfl, DD, _, rfl, .inl ⟨_, keyP p, .inl (s1 _ _ eD), rfl, g.symm⟩, _, e1, ?_, same_sub s1 hD2, ?_⟩⟩
        · rw [List.length_map]
          have := List.length_take_le' i (P5 pz)
          exact Nat.lt_of_le_of_lt (show ((P5 pz).take i).length ≤ 5 by omega) (by decide)
        · rw [upd_same, take_snoc2 hp2, List.map_append]
          rfl
      rintro H23 ⟨s1', e1'⟩
      have lst5 : (stC (P5 pz)).length = (P5 pz).length := by unfold stC; rw [List.length_map]
      rw [lst5, List.take_length] at e1'
      refine ⟨D2, _, rfl, .inl ⟨SqL.of e1', fun pt2 hpt2 => ?_⟩⟩
      have s24 := s1'.trans (same_new (o := .tup ((P5 pz).map fun x => plV (M59.ex id rows x))) hpt2)
      have e24 : (upd H23 pt2 (.tup ((P5 pz).map fun x => plV (M59.ex id rows x)))) pt2 = some (.tup (stC ((P5 pz).map (M59.ex id rows)))) := by
        rw [upd_same]
        unfold stC
        rw [List.map_map]
        rfl
      generalize upd H23 pt2 (.tup ((P5 pz).map fun x => plV (M59.ex id rows x))) = H24 at s24 e24 ⊢
      have st18 : ∀ x ∈ (P5 pz).map (M59.ex id rows), x < 18 := fun x hx => by
        obtain ⟨y, hy, rfl⟩ := List.mem_map.mp hx
        exact p18 _ (ex_in (pz := P5 pz) rows id inu (fun _ h => h) y hy)
      refine ⟨p5, FL, pt2, ps, P5 pz, _, rfl, s24 _ _ e1022, hP22.same s24, ok, e24, by rw [List.length_map], by omega, by omega, p18, st18, fun H25 s25 => ⟨_, rfl, ?_⟩⟩
      have due := all_due hz hps lp
      rw [hrows] at due
      rw [due]
      refine iteN1 ?_
      have s26 := s24.trans s25
      have eL26 : H25 L = some (.lst (rs.map V.ref)) := s26 _ _ (sb _ _ LD eL21)
      obtain ⟨m, hm7, hmr, hmi⟩ : ∃ m : Nat, m ≤ 7 ∧ m ≤ rows.length ∧ (if (7 : Int) < (((rs.map V.ref).length : Nat) : Int) then (7 : Int) else (((rs.map V.ref).length : Nat) : Int)) = (m : Int) := by
        rw [hal]
        by_cases c : (7 : Int) < ((rows.length : Nat) : Int)
        · exact ⟨7, Nat.le_refl _, by omega, by rw [if_pos c]; rfl⟩
        · exact ⟨rows.length, by omega, Nat.le_refl _, by rw [if_neg c]⟩
      refine ⟨_, rfl, _, rfl, _, rfl, _, _, rfl, .inl ⟨_, SqL.of eL26, rfl⟩, _, _, rfl, ?_⟩
      rw [hmi]
      refine ⟨p5, FL, ps, P5 pz, m, rfl, s26 _ _ e1022, hP22.same s26, ok, by omega, by omega, n5, p18, hm7, fun n s hn hr => no_few hz hps (by omega) hr, fun H27 s27 => ?_⟩
      refine ⟨_, rfl, _, _, rfl, .inl ⟨_, SqL.of (s27 _ _ eL26), rfl⟩, _, _, rfl, ?_⟩
      rw [hmi]
      refine ⟨rfl, _, rfl, ?_⟩
      rw [decide_eq_true (show V.int (m : Int) = V.int (m : Int) from rfl)]
      exact iteN1 ⟨V11, _, _, _, _, _, _, _, _, _, _, _, _, _, rfl, (D11.keep (s022.trans (s26.trans s27))).mono t100⟩
end
section
abbrev LW : PySem.W.OpenLaw := PySem.Challenge.rw_stopanywhere_k60_no_fewer_moves
theorem nkF {K : PySem.W.Frag} {h : Heap} {mg : Str → Option Value} (X : K.In h) (G : h.Ns mainGlobals mg) (c : SaysZ fbL fnL csL K) : NkF K mg where
  isi := He.free_ok X G (fact_f_isinstance c)
  int := He.free_ok X G (fact_f_int c)
  str := He.free_ok X G (fact_f_str c)
  len := He.free_ok X G (fact_f_len c)
  bool := He.free_ok X G (fact_f_bool c)
theorem law_at {w : World} {K : PySem.W.Frag} {h : Heap} {mg : Str → Option Value} {fa : Addr} (X : K.In h) (G : h.Ns mainGlobals mg) (c : SaysZ fbL fnL csL K) (T : TabsZ tsL K h) (hfa : mg "law" = some (.ref fa)) : LawAtZ LW w 8 63 "_law_script" mg fa h := by
  have e := hfa.symm.trans (He.glo_ok X G (fact_g_law c))
  cases e
  obtain ⟨fd, F⟩ := def_law c
  refine ⟨K, fd, [], spLaw K, X, ?_, ?_, ?_, fun s u => F.bindsA (ps := ["_law_script"]) (fun _ _ _ _ _ _ us hl => match us, hl with | [_], _ => rfl) s [u] rfl, fun H a ns hl hH hS => ⟨a, ns, rfl, hS, hl, fun _ => rfl⟩, fun base KX GX hB => ?_⟩
  · exact fun p hp => nomatch hp
  · exact fun p hp => nomatch hp
  · exact fun p hp => nomatch hp
  · have nk := nkF X G c
    have su := He.free_ok X G (fact_f_super c)
    have iP : Ix1 LW.prog w K mg base "BadPairs" (He.ga K "BadPairs") "at" := by
      obtain ⟨iC, tI, cc, cda, fi, FI⟩ := supB_ok (P := LW.prog) (mg := mg) (d := i_BadPairs) (ini_BadPairs c) (fact_sup_BadPairs c) (by decide +kernel) su
      exact ⟨He.glo_ok X G (fact_g_BadPairs c), oexB_ok (fact_o_BadPairs c), _, fi, iC, tI, ok_BadPairs (P := LW.prog) (w := w) (base := base) FI (oexB_ok (fact_o_BadPairs c)) (He.eqO_ok (fact_a_at c)), FI.binds (fact_dfl_BadPairs c) fun _ _ _ _ _ us hl => match us, hl with | [_, _], _ => rfl⟩
    have pH : PlnX K mg "BadHelpers" (He.ga K "BadHelpers") := ⟨He.glo_ok X G (fact_g_BadHelpers c), fact_p_BadHelpers c, oexB_ok (fact_o_BadHelpers c)⟩
    have rg : RgC K mg (He.ga K "Ring") := ⟨He.glo_ok X G (fact_g_Ring c), He.cls_ok (fact_cls_Ring c), He.eqO_ok (fact_na_places c), He.eqO_ok (fact_na_takers c), He.eqO_ok (fact_na_helpers c), He.eqO_ok (fact_na_rows c), He.eqO_ok (fact_na_late c), He.eqO_ok (fact_na_keeper c)⟩
    have mk := He.mkr_ok (fact_mkr_Ring c)
    have pf : PlF mg := ⟨He.int_ok X G (fact_n_MOST_NUMBER c), He.int_ok X G (fact_n_MOST_REGISTER c), He.int_ok X G (fact_n_MOST_SLOT c)⟩
    obtain ⟨f_sort_of_place, F_sort_of_place⟩ := def_sort_of_place c
    obtain ⟨f_number_of, F_number_of⟩ := def_number_of c
    obtain ⟨f_place_rank, F_place_rank⟩ := def_place_rank c
    obtain ⟨f_is_register, F_is_register⟩ := def_is_register c
    obtain ⟨f_is_slot, F_is_slot⟩ := def_is_slot c
    obtain ⟨f_is_machine_place, F_is_machine_place⟩ := def_is_machine_place c
    obtain ⟨f_need_pairs, F_need_pairs⟩ := def_need_pairs c
    obtain ⟨f_need_helpers, F_need_helpers⟩ := def_need_helpers c
    obtain ⟨f_takers_of, F_takers_of⟩ := def_takers_of c
    obtain ⟨f_rings_of, F_rings_of⟩ := def_rings_of c
    obtain ⟨f_by_slots, F_by_slots⟩ := def_by_slots c
    obtain ⟨f_opens, F_opens⟩ := def_opens c
    obtain ⟨f_openings, F_openings⟩ := def_openings c
    obtain ⟨f_taken, F_taken⟩ := def_taken c
    obtain ⟨f_sources_below, F_sources_below⟩ := def_sources_below c
    obtain ⟨f_moves_of, F_moves_of⟩ := def_moves_of c
    obtain ⟨f_moves, F_moves⟩ := def_moves c
    obtain ⟨f__law_begun, F__law_begun⟩ := def__law_begun c
    obtain ⟨f__law_mixed, F__law_mixed⟩ := def__law_mixed c
    obtain ⟨f__law_take, F__law_take⟩ := def__law_take c
    obtain ⟨f__law_pick, F__law_pick⟩ := def__law_pick c
    obtain ⟨f__law_shuffled, F__law_shuffled⟩ := def__law_shuffled c
    obtain ⟨f__law_is_done, F__law_is_done⟩ := def__law_is_done c
    obtain ⟨f__law_next, F__law_next⟩ := def__law_next c
    obtain ⟨f__law_least, F__law_least⟩ := def__law_least c
    obtain ⟨f_Ring_init, F_Ring_init⟩ := def_Ring___init__ c
    have b_Ring_init : Binds K f_Ring_init ["self", "places", "takers", "helpers"] [] := F_Ring_init.bindsN fun _ _ _ _ _ _ us hl => match us, hl with | [_, _, _, _], _ => rfl
    obtain ⟨f_Ring_hold, F_Ring_hold⟩ := def_Ring_hold c
    have b_Ring_hold : Binds K f_Ring_hold ["self", "place", "helper"] [] := F_Ring_hold.bindsN fun _ _ _ _ _ _ us hl => match us, hl with | [_, _, _], _ => rfl
    obtain ⟨f_Ring_bring, F_Ring_bring⟩ := def_Ring_bring c
    have b_Ring_bring : Binds K f_Ring_bring ["self", "target", "source"] [] := F_Ring_bring.bindsN fun _ _ _ _ _ _ us hl => match us, hl with | [_, _, _], _ => rfl
    obtain ⟨f_Ring_turn, F_Ring_turn⟩ := def_Ring_turn c
    have b_Ring_turn : Binds K f_Ring_turn ["self"] [] := F_Ring_turn.bindsN fun _ _ _ _ _ _ us hl => match us, hl with | [_], _ => rfl
    have b_sort_of_place : Binds K f_sort_of_place ["thing"] [] := F_sort_of_place.bindsN fun _ _ _ _ _ _ us hl => match us, hl with | [_], _ => rfl
    have b_number_of : Binds K f_number_of ["place"] [] := F_number_of.bindsN fun _ _ _ _ _ _ us hl => match us, hl with | [_], _ => rfl
    have b_place_rank : Binds K f_place_rank ["thing"] [] := F_place_rank.bindsN fun _ _ _ _ _ _ us hl => match us, hl with | [_], _ => rfl
    have b_is_register : Binds K f_is_register ["thing", "registers"] [] := F_is_register.bindsN fun _ _ _ _ _ _ us hl => match us, hl with | [_, _], _ => rfl
    have b_is_slot : Binds K f_is_slot ["thing"] [] := F_is_slot.bindsN fun _ _ _ _ _ _ us hl => match us, hl with | [_], _ => rfl
    have b_is_machine_place : Binds K f_is_machine_place ["thing"] [] := F_is_machine_place.bindsN fun _ _ _ _ _ _ us hl => match us, hl with | [_], _ => rfl
    have b_need_pairs : Binds K f_need_pairs ["pairs"] [] := F_need_pairs.bindsN fun _ _ _ _ _ _ us hl => match us, hl with | [_], _ => rfl
    have b_need_helpers : Binds K f_need_helpers ["pairs", "helpers"] [] := F_need_helpers.bindsN fun _ _ _ _ _ _ us hl => match us, hl with | [_, _], _ => rfl
    have b_takers_of : Binds K f_takers_of ["pairs"] [] := F_takers_of.bindsN fun _ _ _ _ _ _ us hl => match us, hl with | [_], _ => rfl
    have b_rings_of : Binds K f_rings_of ["pairs"] [] := F_rings_of.bindsN fun _ _ _ _ _ _ us hl => match us, hl with | [_], _ => rfl
    have b_by_slots : Binds K f_by_slots ["takers", "place"] [] := F_by_slots.bindsN fun _ _ _ _ _ _ us hl => match us, hl with | [_, _], _ => rfl
    have b_opens : Binds K f_opens ["takers", "ring"] [] := F_opens.bindsN fun _ _ _ _ _ _ us hl => match us, hl with | [_, _], _ => rfl
    have b_openings : Binds K f_openings ["pairs"] [] := F_openings.bindsN fun _ _ _ _ _ _ us hl => match us, hl with | [_], _ => rfl
    have b_taken : Binds K f_taken ["place", "takers", "helper"] [] := F_taken.bindsN fun _ _ _ _ _ _ us hl => match us, hl with | [_, _, _], _ => rfl
    have b_sources_below : Binds K f_sources_below ["roots", "takers", "fixed"] [] := F_sources_below.bindsN fun _ _ _ _ _ _ us hl => match us, hl with | [_, _, _], _ => rfl
    have b_moves_of : Binds K f_moves_of ["pairs", "helpers"] [] := F_moves_of.bindsN fun _ _ _ _ _ _ us hl => match us, hl with | [_, _], _ => rfl
    have b_moves : Binds K f_moves ["pairs", "helpers"] [] := F_moves.bindsN fun _ _ _ _ _ _ us hl => match us, hl with | [_, _], _ => rfl
    have b__law_begun : Binds K f__law_begun ["_law_script"] [] := F__law_begun.bindsN fun _ _ _ _ _ _ us hl => match us, hl with | [_], _ => rfl
    have b__law_mixed : Binds K f__law_mixed ["_law_draw"] [] := F__law_mixed.bindsN fun _ _ _ _ _ _ us hl => match us, hl with | [_], _ => rfl
    have b__law_take : Binds K f__law_take ["_law_draw", "_law_many"] [] := F__law_take.bindsN fun _ _ _ _ _ _ us hl => match us, hl with | [_, _], _ => rfl
    have b__law_pick : Binds K f__law_pick ["_law_draw", "_law_some"] [] := F__law_pick.bindsN fun _ _ _ _ _ _ us hl => match us, hl with | [_, _], _ => rfl
    have b__law_shuffled : Binds K f__law_shuffled ["_law_draw", "_law_some"] [] := F__law_shuffled.bindsN fun _ _ _ _ _ _ us hl => match us, hl with | [_, _], _ => rfl
    have b__law_is_done : Binds K f__law_is_done ["_law_places", "_law_pairs", "_law_state"] [] := F__law_is_done.bindsN fun _ _ _ _ _ _ us hl => match us, hl with | [_, _, _], _ => rfl
    have b__law_next : Binds K f__law_next ["_law_places", "_law_state"] [] := F__law_next.bindsN fun _ _ _ _ _ _ us hl => match us, hl with | [_, _], _ => rfl
    have b__law_least : Binds K f__law_least ["_law_places", "_law_pairs", "_law_most"] [] := F__law_least.bindsN fun _ _ _ _ _ _ us hl => match us, hl with | [_, _, _], _ => rfl
    have mi := He.free_ok X G (fact_f_int c)
    have o__law_begun := ok_begun (P := LW.prog) (w := w) (base := base) F__law_begun mi (He.free_ok X G (fact_f_abs c))
    have o__law_take := ok_take (P := LW.prog) (w := w) (base := base) F__law_take F__law_mixed (He.glo_ok X G (fact_g__law_mixed c)) mi
    have o__law_pick := ok_pick (P := LW.prog) (w := w) (base := base) F__law_pick (He.glo_ok X G (fact_g__law_take c)) F__law_take.kp b__law_take o__law_take (He.free_ok X G (fact_f_len c))
    have o_sort_of_place := ok_sort (P := LW.prog) (w := w) (mg := mg) (base := base) (CX := CX0) F_sort_of_place nk pf
    have o_number_of := ok_numof (P := LW.prog) (w := w) (mg := mg) (base := base) (CX := CX0) F_number_of nk
    have o_place_rank := ok_rank (P := LW.prog) (w := w) (mg := mg) (base := base) F_place_rank ⟨_, _, He.glo_ok X G (fact_g_sort_of_place c), F_sort_of_place.kp, b_sort_of_place, o_sort_of_place⟩ ⟨_, _, He.glo_ok X G (fact_g_number_of c), F_number_of.kp, b_number_of, o_number_of⟩ nk
    have o_is_register := ok_isreg (P := LW.prog) (w := w) (mg := mg) (base := base) (CX := CX0) F_is_register F_sort_of_place (He.glo_ok X G (fact_g_sort_of_place c)) F_number_of (He.glo_ok X G (fact_g_number_of c)) nk pf
    have o_is_slot := ok_isslot (P := LW.prog) (w := w) (mg := mg) (base := base) (CX := CX0) F_is_slot F_sort_of_place (He.glo_ok X G (fact_g_sort_of_place c)) nk pf
    have o_is_machine_place := ok_mpl (P := LW.prog) (w := w) (mg := mg) (base := base) F_is_machine_place ⟨_, _, He.glo_ok X G (fact_g_is_register c), F_is_register.kp, b_is_register, o_is_register⟩ ⟨_, _, He.glo_ok X G (fact_g_is_slot c), F_is_slot.kp, b_is_slot, o_is_slot⟩ (He.int_ok X G (fact_n_MOST_REGISTERS c))
    have o_need_pairs := ok_needP (P := LW.prog) (w := w) (mg := mg) (base := base) F_need_pairs ⟨_, _, He.glo_ok X G (fact_g_is_machine_place c), F_is_machine_place.kp, b_is_machine_place, o_is_machine_place⟩ (He.int_ok X G (fact_n_MOST_PAIRS c)) nk iP (He.free_ok X G (fact_f_tuple c)) (He.free_ok X G (fact_f_list c)) (He.free_ok X G (fact_f_enumerate c))
    have o_need_helpers := ok_needH (P := LW.prog) (w := w) (mg := mg) (base := base) F_need_helpers ⟨_, _, He.glo_ok X G (fact_g_is_register c), F_is_register.kp, b_is_register, o_is_register⟩ (He.int_ok X G (fact_n_MOST_REGISTERS c)) nk pH (He.free_ok X G (fact_f_tuple c))
    have o_takers_of := ok_takers (P := LW.prog) (w := w) (mg := mg) (base := base) F_takers_of ⟨_, _, He.glo_ok X G (fact_g_place_rank c), F_place_rank.kp, b_place_rank, o_place_rank⟩ (He.free_ok X G (fact_f_sorted c))
    have o_rings_of := ok_rings (P := LW.prog) (w := w) (mg := mg) (base := base) F_rings_of ⟨_, _, He.glo_ok X G (fact_g_place_rank c), F_place_rank.kp, b_place_rank, o_place_rank⟩ nk (He.free_ok X G (fact_f_sorted c)) (He.free_ok X G (fact_f_tuple c))
    have o_by_slots := ok_bys (P := LW.prog) (w := w) (mg := mg) (base := base) F_by_slots ⟨_, _, He.glo_ok X G (fact_g_is_slot c), F_is_slot.kp, b_is_slot, o_is_slot⟩ (He.free_ok X G (fact_f_all c))
    have o_opens := ok_opens (P := LW.prog) (w := w) (mg := mg) (base := base) F_opens ⟨_, _, He.glo_ok X G (fact_g_by_slots c), F_by_slots.kp, b_by_slots, o_by_slots⟩ ⟨_, _, He.glo_ok X G (fact_g_is_register c), F_is_register.kp, b_is_register, o_is_register⟩ (He.int_ok X G (fact_n_MOST_REGISTERS c)) nk (He.free_ok X G (fact_f_enumerate c))
    have o_openings := ok_openings (P := LW.prog) (w := w) (mg := mg) (base := base) F_openings ⟨_, _, He.glo_ok X G (fact_g_need_pairs c), F_need_pairs.kp, b_need_pairs, o_need_pairs⟩ ⟨_, _, He.glo_ok X G (fact_g_takers_of c), F_takers_of.kp, b_takers_of, o_takers_of⟩ ⟨_, _, He.glo_ok X G (fact_g_rings_of c), F_rings_of.kp, b_rings_of, o_rings_of⟩ ⟨_, _, He.glo_ok X G (fact_g_by_slots c), F_by_slots.kp, b_by_slots, o_by_slots⟩ ⟨_, _, He.glo_ok X G (fact_g_opens c), F_opens.kp, b_opens, o_opens⟩ nk
    have o_taken := ok_taken (P := LW.prog) (w := w) (mg := mg) (base := base) F_taken ⟨_, _, He.glo_ok X G (fact_g_is_register c), F_is_register.kp, b_is_register, o_is_register⟩ (He.int_ok X G (fact_n_MOST_REGISTERS c))
    have o_Ring_init := ok_ringI (P := LW.prog) (w := w) (mg := mg) (base := base) F_Ring_init rg ⟨_, _, He.glo_ok X G (fact_g_is_register c), F_is_register.kp, b_is_register, o_is_register⟩ ⟨_, _, He.glo_ok X G (fact_g_is_slot c), F_is_slot.kp, b_is_slot, o_is_slot⟩ ⟨_, _, He.glo_ok X G (fact_g_taken c), F_taken.kp, b_taken, o_taken⟩ (He.int_ok X G (fact_n_MOST_REGISTERS c)) nk (He.free_ok X G (fact_f_enumerate c))
    have o_Ring_hold := ok_hold (P := LW.prog) (w := w) (mg := mg) (base := base) F_Ring_hold rg
    have o_Ring_bring := ok_bring (P := LW.prog) (w := w) (mg := mg) (base := base) F_Ring_bring rg ⟨_, _, He.glo_ok X G (fact_g_is_slot c), F_is_slot.kp, b_is_slot, o_is_slot⟩ ⟨_, _, He.meth_ok (fact_me_Ring_hold c), b_Ring_hold, o_Ring_hold⟩
    have o_Ring_turn := ok_turn (P := LW.prog) (w := w) (mg := mg) (base := base) F_Ring_turn rg ⟨_, _, He.glo_ok X G (fact_g_opens c), F_opens.kp, b_opens, o_opens⟩ ⟨_, _, He.meth_ok (fact_me_Ring_hold c), b_Ring_hold, o_Ring_hold⟩ ⟨_, _, He.meth_ok (fact_me_Ring_bring c), b_Ring_bring, o_Ring_bring⟩ nk (He.free_ok X G (fact_f_range c))
    have o_sources_below := ok_below (P := LW.prog) (w := w) (mg := mg) (base := base) F_sources_below nk (He.free_ok X G (fact_f_list c))
    have o_moves_of := ok_movesof (P := LW.prog) (w := w) (mg := mg) (base := base) F_moves_of rg mk o_Ring_init b_Ring_init ⟨_, _, He.glo_ok X G (fact_g_takers_of c), F_takers_of.kp, b_takers_of, o_takers_of⟩ ⟨_, _, He.glo_ok X G (fact_g_rings_of c), F_rings_of.kp, b_rings_of, o_rings_of⟩ ⟨_, _, He.glo_ok X G (fact_g_sources_below c), F_sources_below.kp, b_sources_below, o_sources_below⟩ ⟨_, _, He.glo_ok X G (fact_g_taken c), F_taken.kp, b_taken, o_taken⟩ ⟨_, _, He.meth_ok (fact_me_Ring_turn c), b_Ring_turn, o_Ring_turn⟩ nk (He.free_ok X G (fact_f_list c))
    have o_moves := ok_moves (P := LW.prog) (w := w) (mg := mg) (base := base) F_moves ⟨_, _, He.glo_ok X G (fact_g_need_pairs c), F_need_pairs.kp, b_need_pairs, o_need_pairs⟩ ⟨_, _, He.glo_ok X G (fact_g_need_helpers c), F_need_helpers.kp, b_need_helpers, o_need_helpers⟩ ⟨_, _, He.glo_ok X G (fact_g_moves_of c), F_moves_of.kp, b_moves_of, o_moves_of⟩
    have o__law_shuffled := ok_lshuf (P := LW.prog) (w := w) (mg := mg) (base := base) F__law_shuffled ⟨_, _, He.glo_ok X G (fact_g__law_take c), F__law_take.kp, b__law_take, o__law_take⟩ nk (He.free_ok X G (fact_f_list c))
    have o__law_is_done := ok_ldone (P := LW.prog) (w := w) (mg := mg) (base := base) F__law_is_done nk (He.free_ok X G (fact_f_range c))
    have o__law_next := ok_lnext (P := LW.prog) (w := w) (mg := mg) (base := base) F__law_next nk (He.free_ok X G (fact_f_range c))
    have o__law_least := ok_lleast (P := LW.prog) (w := w) (mg := mg) (base := base) F__law_least ⟨_, _, He.glo_ok X G (fact_g__law_is_done c), F__law_is_done.kp, b__law_is_done, o__law_is_done⟩ ⟨_, _, He.glo_ok X G (fact_g__law_next c), F__law_next.kp, b__law_next, o__law_next⟩ nk (He.free_ok X G (fact_f_range c)) (He.free_ok X G (fact_f_tuple c))
    exact ok_law F ⟨nk, He.free_ok X G (fact_f_list c), He.free_ok X G (fact_f_tuple c), He.free_ok X G (fact_f_dict c), He.free_ok X G (fact_f_zip c), He.free_ok X G (fact_f_range c), He.free_ok X G (fact_f_min c), ⟨_, _, He.glo_ok X G (fact_g__law_begun c), F__law_begun.kp, b__law_begun, o__law_begun⟩, ⟨_, _, He.glo_ok X G (fact_g__law_take c), F__law_take.kp, b__law_take, o__law_take⟩, ⟨_, _, He.glo_ok X G (fact_g__law_pick c), F__law_pick.kp, b__law_pick, o__law_pick⟩, ⟨_, _, He.glo_ok X G (fact_g__law_shuffled c), F__law_shuffled.kp, b__law_shuffled, o__law_shuffled⟩, ⟨_, _, He.glo_ok X G (fact_g__law_is_done c), F__law_is_done.kp, b__law_is_done, o__law_is_done⟩, ⟨_, _, He.glo_ok X G (fact_g__law_least c), F__law_least.kp, b__law_least, o__law_least⟩, ⟨_, _, He.glo_ok X G (fact_g_moves c), F_moves.kp, b_moves, o_moves⟩, ⟨_, _, He.glo_ok X G (fact_g_openings c), F_openings.kp, b_openings, o_openings⟩⟩
end
end My
open PySem PySem.W PySem.Calls PyProof.Rows
set_option maxHeartbeats 0 in
theorem PySem.Challenge.cw_stopanywhere_k60_no_fewer_moves_holds : PySem.Challenge.rw_stopanywhere_k60_no_fewer_moves.Holds := by
  w_on; o_law
  refine HandSHeadRun.head_any (r := OpenLaw.row PySem.Challenge.rw_stopanywhere_k60_no_fewer_moves) (q := view (OpenLaw.row PySem.Challenge.rw_stopanywhere_k60_no_fewer_moves).prog [38]) (H := My.hk) (ob := My.ob) (M := 60000) (loose := My.looseL) (d := HandSHeadRun.topDef (OpenLaw.row PySem.Challenge.rw_stopanywhere_k60_no_fewer_moves).prog 38) (kwd := []) My.ob_eq
    (by kernel_rfl) (fun s => by kernel_rfl) My.run (by kernel_rfl) (by kernel_rfl) (by kernel_rfl) (by rfl) (by first | assumption | decide +kernel) (by decide +kernel) ⟨rfl, rfl, rfl, rfl, rfl, by decide +kernel⟩ ?hw ?hc
  case hw => w_witness2
  case hc =>
    refine My.walk_ofZ (l := PySem.Challenge.rw_stopanywhere_k60_no_fewer_moves) (n := 63) (k := 8) (x := "_law_script") rfl (by decide) (by kernel_rfl) ⟨rfl, by decide, by decide⟩ ?F
    intro w mg fa h Y G hmg0
    obtain ⟨K, KX, c, T⟩ := Y
    have hmg : mg ("law" : PySem.Str) = some (.ref fa) := by
      have e : (HandSHeadRun.topDef (OpenLaw.row PySem.Challenge.rw_stopanywhere_k60_no_fewer_moves).prog 38).name = ("law" : PySem.Str) := by kernel_rfl
      rw [← e]
      exact hmg0
    exact My.law_at KX G c T hmg
