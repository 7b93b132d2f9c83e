import PyProof.Rows.All
import Wide.All
import OpenK.AllK
import Wide.FinOn
import KE.KStateDown
import KE.KExcSuper
import Lean
import HandS.ForMost
import HandS.More
import HandS.WordsExc
import HandS.Defaults
import HandS.Head0
import HandS.Head1
import HandS.Head2
import HandS.HeadEnd
import HandS.HeadHook1
import HandS.HeadHook2
import HandS.HeadHook4
import HandS.IsInst
import HandS.ExcIs
import HandS.ExcInit
import HandS.ExcValue
import HandS.Strs
import HandS.Lambda
import HandS.CallLocal
import HandS.CallSlots
import HandS.IntHex
import HandS.MakeKwOnly
import HandS.StrMore
import HandS.Style
import HandS.Text
import HandS.Walk
import HandS.Wide
import PyProof.FitsInt
import PyProof.ReprRoom
import PyProof.StrLawsRepr
import PySem.Challenge.RW_stopanywhere_k82_numbers_in_bits
set_option Elab.async false
set_option linter.all false
set_option maxRecDepth 100000
set_option maxHeartbeats 4000000
namespace My
open PySem L2
def top (i : Nat) : Stmt := PySem.Challenge.pw_stopanywhere_k82_numbers_in_bits.main.body.getD i (.Pass ⟨0, 0, 0, 0⟩)
abbrev s_BadBits___init__ : Stmt := inClass (top 3) 0
abbrev s_is_number : Stmt := top 5
abbrev s_count_of : Stmt := top 7
abbrev s_count_bits : Stmt := top 8
abbrev s_number_written : Stmt := top 9
abbrev s_number_bits : Stmt := top 10
abbrev s_is_bits : Stmt := top 11
abbrev s_need_bits : Stmt := top 12
abbrev s_need_index : Stmt := top 13
abbrev s_count_at : Stmt := top 14
abbrev s_number_at : Stmt := top 15
abbrev s_read_count : Stmt := top 16
abbrev s_read_number : Stmt := top 17
abbrev s_law_begun : Stmt := top 19
abbrev s_law_mixed : Stmt := top 20
abbrev s_law_take : Stmt := top 21
abbrev s_law_pick : Stmt := top 22
abbrev s_law_figure : Stmt := top 23
abbrev s_law_digits : Stmt := top 24
abbrev s_law_count : Stmt := top 25
abbrev s_law_signed : Stmt := top 26
abbrev s_law_bits : Stmt := top 27
abbrev s_law_read : Stmt := top 28
abbrev s_law_value : Stmt := top 29
abbrev s_law_outcome : Stmt := top 30
abbrev s_law_edge : Stmt := top 31
abbrev s_law_signed_at : Stmt := top 32
abbrev s_law_written_right : Stmt := top 33
abbrev s_law_refused : Stmt := top 34
abbrev s_law : Stmt := top 35

/-! ## the visible heap -/
/-- from the visible H0 (of H) to the visible H0' (of H') -/
structure Vs (H0 H H0' H' : Hp) : Prop where
  grow : Same H0 H0'
  sub : Same H0' H'
  old : ∀ b o, H0' b = some o → H0 b = some o ∨ H b = none
theorem Vs.refl {H0 H : Hp} (s : Same H0 H) : Vs H0 H H0 H := ⟨Same.refl _, s, fun _ _ e => .inl e⟩
theorem free_mono {H0 H : Hp} (s : Same H0 H) {p : Addr} (h : H p = none) : H0 p = none := s.free h
theorem same_upd {H0 H : Hp} (s : Same H0 H) (p : Addr) (o : HO) : Same (upd H0 p o) (upd H p o) := fun b u e => by
  by_cases hb : b = p
  · rw [hb, upd_same] at e ⊢; exact e
  · rw [upd_ne hb] at e ⊢; exact s b u e
theorem same_new {H : Hp} {p : Addr} {o : HO} (h : H p = none) : Same H (upd H p o) := fun b u e => by
  rw [upd_ne (ne_of_none e h)]; exact e
theorem same_sub {H0 H : Hp} (s : Same H0 H) {p : Addr} {o : HO} (h : H0 p = none) : Same H0 (upd H p o) := fun b u e => by
  rw [upd_ne (ne_of_none e h)]; exact s b u e

/-! ## draws -/
def kWide : Key := Sum.inr "wide"
def kCells : Key := Sum.inr "cells"
def kRest : Key := Sum.inr "rest"
def kTurn : Key := Sum.inr "turn"
def drK (w c : Addr) (rest turn : Int) : List (Key × V) := [(kWide, .ref w), (kCells, .ref c), (kRest, .int rest), (kTurn, .int turn)]
theorem ne_cw : ¬ kCells = kWide := by unfold kCells kWide; decide +kernel
theorem ne_rw : ¬ kRest = kWide := by unfold kRest kWide; decide +kernel
theorem ne_tw : ¬ kTurn = kWide := by unfold kTurn kWide; decide +kernel
theorem ne_rc : ¬ kRest = kCells := by unfold kRest kCells; decide +kernel
theorem ne_tc : ¬ kTurn = kCells := by unfold kTurn kCells; decide +kernel
theorem ne_tr : ¬ kTurn = kRest := by unfold kTurn kRest; decide +kernel
theorem dr_wide (w c : Addr) (r t : Int) : valV (drK w c r t) kWide = some (.ref w) := valV_pos rfl
theorem dr_cells (w c : Addr) (r t : Int) : valV (drK w c r t) kCells = some (.ref c) := by
  unfold drK; rw [valV_neg (Ne.symm ne_cw)]; exact valV_pos rfl
theorem dr_rest (w c : Addr) (r t : Int) : valV (drK w c r t) kRest = some (.int r) := by
  unfold drK; rw [valV_neg (Ne.symm ne_rw), valV_neg (Ne.symm ne_rc)]; exact valV_pos rfl
theorem dr_turn (w c : Addr) (r t : Int) : valV (drK w c r t) kTurn = some (.int t) := by
  unfold drK; rw [valV_neg (Ne.symm ne_tw), valV_neg (Ne.symm ne_tc), valV_neg (Ne.symm ne_tr)]; exact valV_pos rfl
theorem dr_putRest (w c : Addr) (r t x : Int) : putK (drK w c r t) kRest (.int x) = drK w c x t := by
  have e1 : ((drK w c r t).any fun kv => decide (kv.1 = kRest)) = true := by rw [valV_any, dr_rest]; rfl
  unfold putK
  rw [if_pos e1]
  unfold drK
  simp only [List.map_cons, List.map_nil]
  rw [if_neg (Ne.symm ne_rw), if_neg (Ne.symm ne_rc), if_pos True.intro, if_neg ne_tr]
theorem dr_putTurn (w c : Addr) (r t x : Int) : putK (drK w c r t) kTurn (.int x) = drK w c r x := by
  have e1 : ((drK w c r t).any fun kv => decide (kv.1 = kTurn)) = true := by rw [valV_any, dr_turn]; rfl
  unfold putK
  rw [if_pos e1]
  unfold drK
  simp only [List.map_cons, List.map_nil]
  rw [if_neg (Ne.symm ne_tw), if_neg (Ne.symm ne_tc), if_neg (Ne.symm ne_tr), if_pos True.intro]
theorem dr_made (w c : Addr) (r t : Int) : mergeK [] (drK w c r t) = drK w c r t := by
  have a1 : putK [] kWide (.ref w) = [(kWide, .ref w)] := putK_new _ valV_nil
  have a2 : putK [(kWide, .ref w)] kCells (.ref c) = [(kWide, .ref w), (kCells, .ref c)] := putK_new _ (by rw [valV_neg (Ne.symm ne_cw)]; exact valV_nil)
  have a3 : putK [(kWide, .ref w), (kCells, .ref c)] kRest (.int r) = [(kWide, .ref w), (kCells, .ref c), (kRest, .int r)] := putK_new _ (by rw [valV_neg (Ne.symm ne_rw), valV_neg (Ne.symm ne_rc)]; exact valV_nil)
  have a4 : putK [(kWide, .ref w), (kCells, .ref c), (kRest, .int r)] kTurn (.int t) = drK w c r t := putK_new _ (by rw [valV_neg (Ne.symm ne_tw), valV_neg (Ne.symm ne_tc), valV_neg (Ne.symm ne_tr)]; exact valV_nil)
  show putK (putK (putK (putK [] kWide (.ref w)) kCells (.ref c)) kRest (.int r)) kTurn (.int t) = drK w c r t
  rw [a1, a2, a3, a4]
/-- what the drawing dict at d holds, with its lists at w and c -/
structure DrD (H : Hp) (d w c : Addr) (ws cs : List Int) (rest turn : Int) : Prop where
  hd : H d = some (.dK (drK w c rest turn))
  hw : H w = some (.lst (ws.map V.int))
  hc : H c = some (.lst (cs.map V.int))
  wc : w ≠ c
  wl : ws.length ≤ 63
  wn : ∀ x ∈ ws, 0 ≤ x
  cl : cs.length ≤ 63
  rn : 0 ≤ rest
  tn : 0 ≤ turn
/-- H0 is seen of H, the drawing dict at d is not -/
def Dw (t : Nat) (H0 H : Hp) (d : Addr) : Prop := Same H0 H ∧ ∃ (w c : Addr) (ws cs : List Int) (rest turn : Int), H0 d = none ∧ H0 w = none ∧ H0 c = none ∧ turn ≤ t ∧ DrD H d w c ws cs rest turn
theorem Dw.same {t : Nat} {H0 H : Hp} {d : Addr} (h : Dw t H0 H d) : Same H0 H := h.1
theorem Dw.mono {t t' : Nat} {H0 H : Hp} {d : Addr} (h : Dw t H0 H d) (l : t ≤ t') : Dw t' H0 H d := by
  obtain ⟨s, w, c, ws, cs, rest, turn, h1, h2, h3, ht, D⟩ := h
  exact ⟨s, w, c, ws, cs, rest, turn, h1, h2, h3, by omega, D⟩
theorem DrD.updo {H : Hp} {d w c p : Addr} {o : HO} {ws cs : List Int} {rest turn : Int} (h : DrD H d w c ws cs rest turn) (n1 : p ≠ d) (n2 : p ≠ w) (n3 : p ≠ c) : DrD (upd H p o) d w c ws cs rest turn :=
  ⟨by rw [upd_ne (Ne.symm n1)]; exact h.hd, by rw [upd_ne (Ne.symm n2)]; exact h.hw, by rw [upd_ne (Ne.symm n3)]; exact h.hc, h.wc, h.wl, h.wn, h.cl, h.rn, h.tn⟩
theorem DrD.same {H H' : Hp} {d w c : Addr} {ws cs : List Int} {rest turn : Int} (h : DrD H d w c ws cs rest turn) (s : Same H H') : DrD H' d w c ws cs rest turn :=
  ⟨s _ _ h.hd, s _ _ h.hw, s _ _ h.hc, h.wc, h.wl, h.wn, h.cl, h.rn, h.tn⟩
/-- a new object -/
theorem Dw.new {t : Nat} {H0 H : Hp} {d p : Addr} {o : HO} (h : Dw t H0 H d) (hp : H p = none) : Dw t (upd H0 p o) (upd H p o) d := by
  obtain ⟨s, w, c, ws, cs, rest, turn, h1, h2, h3, ht, D⟩ := h
  have n1 : d ≠ p := ne_of_none D.hd hp
  have n2 : w ≠ p := ne_of_none D.hw hp
  have n3 : c ≠ p := ne_of_none D.hc hp
  exact ⟨same_upd s p o, w, c, ws, cs, rest, turn, by rw [upd_ne n1]; exact h1, by rw [upd_ne n2]; exact h2, by rw [upd_ne n3]; exact h3, ht, D.updo n1.symm n2.symm n3.symm⟩
/-- an object that is seen is changed -/
theorem Dw.set {t : Nat} {H0 H : Hp} {d p : Addr} {o o' : HO} (h : Dw t H0 H d) (hp : H0 p = some o) : Dw t (upd H0 p o') (upd H p o') d := by
  obtain ⟨s, w, c, ws, cs, rest, turn, h1, h2, h3, ht, D⟩ := h
  have n1 : p ≠ d := ne_of_none hp h1
  have n2 : p ≠ w := ne_of_none hp h2
  have n3 : p ≠ c := ne_of_none hp h3
  exact ⟨same_upd s p o', w, c, ws, cs, rest, turn, by rw [upd_ne n1.symm]; exact h1, by rw [upd_ne n2.symm]; exact h2, by rw [upd_ne n3.symm]; exact h3, ht, D.updo n1 n2 n3⟩
/-- behind what only adds -/
theorem Dw.go {t : Nat} {H0 H H0' H' : Hp} {d : Addr} (h : Dw t H0 H d) (v : Vs H0 H H0' H') (s : Same H H') : Dw t H0' H' d := by
  obtain ⟨_, w, c, ws, cs, rest, turn, h1, h2, h3, ht, D⟩ := h
  have f : ∀ {b : Addr} {o : HO}, H0 b = none → H b = some o → H0' b = none := fun {b o} e e2 => by
    cases q : H0' b with
    | none => rfl
    | some u =>
      rcases v.old b u q with z | z
      · rw [e] at z; cases z
      · rw [e2] at z; cases z
  exact ⟨v.sub, w, c, ws, cs, rest, turn, f h1 D.hd, f h2 D.hw, f h3 D.hc, ht, D.same s⟩
/-- less is seen -/
theorem Dw.less {t : Nat} {H0 H1 H : Hp} {d : Addr} (h : Dw t H0 H d) (s : Same H1 H0) : Dw t H1 H d := by
  obtain ⟨s0, w, c, ws, cs, rest, turn, h1, h2, h3, ht, D⟩ := h
  exact ⟨s.trans s0, w, c, ws, cs, rest, turn, s.free h1, s.free h2, s.free h3, ht, D⟩

/-- how many draws at most -/
abbrev T40 : Nat := 1099511627776
theorem dget_wide {H : Hp} {d w c : Addr} {r t : Int} (h : H d = some (.dK (drK w c r t))) : DGet H d (.str "wide") (some (.ref w)) := by
  have := DGet.k (k := kWide) h
  rw [dr_wide] at this
  exact this
theorem dget_cells {H : Hp} {d w c : Addr} {r t : Int} (h : H d = some (.dK (drK w c r t))) : DGet H d (.str "cells") (some (.ref c)) := by
  have := DGet.k (k := kCells) h
  rw [dr_cells] at this
  exact this
theorem dget_rest {H : Hp} {d w c : Addr} {r t : Int} (h : H d = some (.dK (drK w c r t))) : DGet H d (.str "rest") (some (.int r)) := by
  have := DGet.k (k := kRest) h
  rw [dr_rest] at this
  exact this
theorem dget_turn {H : Hp} {d w c : Addr} {r t : Int} (h : H d = some (.dK (drK w c r t))) : DGet H d (.str "turn") (some (.int t)) := by
  have := DGet.k (k := kTurn) h
  rw [dr_turn] at this
  exact this
theorem dput_rest {H : Hp} {d w c : Addr} {r t : Int} (x : Int) (h : H d = some (.dK (drK w c r t))) : DPut H d (.str "rest") (.int x) (upd H d (.dK (drK w c x t))) := by
  have := DPut.k (k := kRest) (v := .int x) h (by rw [sizeLine_eq]; exact (by decide : 4 < 16777216))
  rw [dr_putRest] at this
  exact this
theorem dput_turn {H : Hp} {d w c : Addr} {r t : Int} (x : Int) (h : H d = some (.dK (drK w c r t))) : DPut H d (.str "turn") (.int x) (upd H d (.dK (drK w c r x))) := by
  have := DPut.k (k := kTurn) (v := .int x) h (by rw [sizeLine_eq]; exact (by decide : 4 < 16777216))
  rw [dr_putTurn] at this
  exact this
theorem DrD.ne_dw {H : Hp} {d w c : Addr} {ws cs : List Int} {rest turn : Int} (h : DrD H d w c ws cs rest turn) : d ≠ w := ne_of h.hd h.hw (by intro z; cases z)
theorem DrD.ne_dc {H : Hp} {d w c : Addr} {ws cs : List Int} {rest turn : Int} (h : DrD H d w c ws cs rest turn) : d ≠ c := ne_of h.hd h.hc (by intro z; cases z)
theorem DrD.setD {H : Hp} {d w c : Addr} {ws cs : List Int} {rest turn r2 t2 : Int} (h : DrD H d w c ws cs rest turn) (h1 : 0 ≤ r2) (h2 : 0 ≤ t2) : DrD (upd H d (.dK (drK w c r2 t2))) d w c ws cs r2 t2 :=
  ⟨upd_same, by rw [upd_ne h.ne_dw.symm]; exact h.hw, by rw [upd_ne h.ne_dc.symm]; exact h.hc, h.wc, h.wl, h.wn, h.cl, h1, h2⟩
def spBegun (K : PySem.W.Frag) : Sp := fun vs H Q _ => ∃ (a : Addr) (ns : List Int), vs = [.ref a] ∧ SqL K H a (ns.map V.int) ∧ ns.length ≤ 63 ∧ ∀ (H' : Hp) (d : Addr), Dw 0 H H' d → H d = none → Q (.ref d) H'
def spMixed : Sp := fun vs H Q _ => ∃ (d w c : Addr) (ws cs : List Int) (rest turn : Int), vs = [.ref d] ∧ turn < T40 ∧ DrD H d w c ws cs rest turn ∧
  ∀ (n : Int) (H' : Hp), 0 ≤ n → DrD H' d w c ws cs rest (turn + 1) → (∀ b o, H b = some o → b ≠ d → H' b = some o) → Q (.int n) H'
def spTake : Sp := fun vs H Q _ => ∃ (t : Nat) (H0 : Hp) (d : Addr) (n : Int), vs = [.ref d, .int n] ∧ Dw t H0 H d ∧ t < T40 ∧ 0 < n ∧ n < 1152921504606846976 ∧
  ∀ (k : Int) (H' : Hp), 0 ≤ k → k < n → Dw (t + 1) H0 H' d → Q (.int k) H'
/-- what _law_pick picks from -/
inductive SomeV (K : PySem.W.Frag) (H : Hp) : V → List V → Prop where
  | lst {a : Addr} {xs : List V} (h : SqL K H a xs) : SomeV K H (.ref a) xs
  | tup {a : Addr} {xs : List V} (h : SqT K H a xs) : SomeV K H (.ref a) xs
  | str {z : Str} (h : z.length ≤ 100000) : SomeV K H (.str z) (z.cps.toList.map fun c => V.str ⟨#[c]⟩)
def spPick (K : PySem.W.Frag) : Sp := fun vs H Q _ => ∃ (t : Nat) (H0 : Hp) (d : Addr) (x : V) (xs : List V), vs = [.ref d, x] ∧ Dw t H0 H d ∧ t < T40 ∧ SomeV K H0 x xs ∧ 0 < xs.length ∧ xs.length < 100000 ∧
  ∀ (v : V) (H' : Hp), v ∈ xs → Dw (t + 1) H0 H' d → Q v H'
/-! ## own exceptions whose __init__ begins with super().__init__(text) -/
theorem lookup_app {α : Type} {x : Str} : ∀ {l m : List (Str × α)}, (l ++ m).lookup x = match l.lookup x with | some v => some v | none => m.lookup x
  | [], m => rfl
  | (y, v) :: l, m => by
    show (match x == y with | true => some v | false => (l ++ m).lookup x) = match (match x == y with | true => some v | false => l.lookup x) with | some v => some v | none => m.lookup x
    cases (x == y) with
    | true => rfl
    | false => exact lookup_app
theorem lookup_out {α : Type} {x : Str} : ∀ {l : List (Str × α)}, (∀ v, (x, v) ∉ l) → l.lookup x = none
  | [], _ => rfl
  | (y, v) :: l, h => by
    have e : (x == y) = false := by
      apply Bool.eq_false_iff.mpr
      intro q
      exact h v (by rw [eq_of_beq q]; exact List.mem_cons_self ..)
    show (match x == y with | true => some v | false => l.lookup x) = none
    rw [e]
    exact lookup_out fun w hw => h w (List.mem_cons_of_mem _ hw)
theorem rev_lookup {x : Str} {u : Value} : ∀ {ps : List Str} {us : List Value} {i : Nat}, ps.Nodup → ps[i]? = some x → us[i]? = some u → (ps.zip us).reverse.lookup x = some u
  | [], _, _, _, h, _ => by simp at h
  | _ :: _, [], _, _, _, h => by simp at h
  | p :: ps, v :: us, 0, nd, h1, h2 => by
    simp at h1 h2
    subst h1 h2
    show ((p, v) :: ps.zip us).reverse.lookup p = some v
    rw [List.reverse_cons, lookup_app, lookup_out]
    · show (match p == p with | true => some v | false => _) = some v
      rw [beq_self_eq_true]
    · intro w hw
      exact (List.nodup_cons.mp nd).1 (List.of_mem_zip (List.mem_reverse.mp hw)).1
  | p :: ps, v :: us, i + 1, nd, h1, h2 => by
    show ((p, v) :: ps.zip us).reverse.lookup x = some u
    rw [List.reverse_cons, lookup_app, rev_lookup (i := i) (List.nodup_cons.mp nd).2 (by simpa using h1) (by simpa using h2)]

/-- the context of such an __init__ behind its first statement -/
abbrev supEnv (qual : Str) (scope : Scope) (L f : Addr) (cd : Value) (cc : Addr) : Env := PySem.W.ksEnv qual scope L f cd cc
def cxS (CX : CXT) (P : Program) (w : World) (K : PySem.W.Frag) (mg : Str → Option Value) (base : Heap) (N : List Str) (qual : Str) (scope : Scope) (f : Addr) (cd : Value) (cc : Addr) (A : Around) (outer : List Env) (s : Shared) (H : Hp) (E : XK) : Cx where
  prog := P
  w := w
  K := K
  mg := mg
  base := base
  A := A.deeper (supEnv qual scope s.heap.objs.size f cd cc)
  N := N
  s_0 := s
  H_0 := H
  env := supEnv qual scope s.heap.objs.size f cd cc
  outer := outer
  stack := supEnv qual scope s.heap.objs.size f cd cc :: outer
  ex := []
  calm := true
  fn := fun _ => false
  pn := []
  xe := fun e s' => wpAny (model P w) (A.deeper (supEnv qual scope s.heap.objs.size f cd cc)) (leaving (supEnv qual scope s.heap.objs.size f cd cc) e) (fun _ s'' => CX outer H s E e s'') (fun e' s'' => CX outer H s E e' s'') s'
structure ScopeS (N : List Str) (sc : Scope) : Prop where
  kind : sc.kind = .function
  co : sc.isCoroutine = false
  gen : sc.isGenerator = false
  nd : N.Nodup
  par : ∀ x ∈ N, sc.names.lookup x = some .local
  free : ∀ y ∈ sc.names, y.2 ≠ .cell ∧ (y.2 = .free → y.1 = "__class__")
  cls : sc.names.lookup ("__class__" : Str) = some .free
  sup : sc.names.lookup ("super" : Str) = some .globalImplicit
section
variable {P : Program} {w : World} {K : PySem.W.Frag} {mg : Str → Option Value} {base : Heap}
theorem invS_start {CX : CXT} {N : List Str} {qual : Str} {scope : Scope} {f cc : Addr} {cd : Value} {A : Around} {outer : List Env} {s : Shared} {H : Hp} {E : XK} {us : List Value} {vs : List V} {h0 : Heap} {tk : Nat} {oc : Obj} {cv : Option Value}
    (S : ScopeS N scope) (hd : A.handled = none) (e0 : Env0 P w K mg base A outer s H) (hl : vs.length = N.length) (r : Vals vs us) (hcc : base.get? cc = some oc) (hcd : oc.data = .cell cv)
    (hns : h0.Ns s.heap.objs.size fun x => (N.zip us).reverse.lookup x) (hk : ∀ b o, s.heap.get? b = some o → h0.get? b = some o) :
    Inv (cxS CX P w K mg base N qual scope f cd cc A outer s H E) [] (vs.map some) H { s with heap := h0, toks := tk } := by
  have noA : ∀ b : Addr, b ∉ (cxS CX P w K mg base N qual scope f cd cc A outer s H E).ex := fun b z => absurd (show b ∈ ([] : List Addr) from z) (by simp)
  have one : ∀ {y : Str} {c : Addr}, List.lookup y [(("__class__" : Str), cc)] = some c → y = "__class__" ∧ c = cc := fun {y c} h => by
    have h2 : (match y == ("__class__" : Str) with | true => some cc | false => none) = some c := h
    cases q : (y == ("__class__" : Str)) with
    | true =>
      rw [q] at h2
      exact ⟨eq_of_beq q, (Option.some.inj h2).symm⟩
    | false =>
      rw [q] at h2
      cases h2
  have has : List.lookup ("__class__" : Str) [(("__class__" : Str), cc)] = some cc := by
    show (match ("__class__" : Str) == ("__class__" : Str) with | true => some cc | false => none) = some cc
    rw [beq_self_eq_true]
  refine ⟨⟨e0.mod, S.kind, rfl, rfl, Nat.le_refl _, fun y z c h1 h2 => ?_, fun y hy => ?_, fun y c z _ => ?_, fun _ => hd, Around.frames_deeper e0.frames, .inr ⟨rfl, rfl⟩, fun b z => absurd z (noA b), e0.bs, e0.bsz, fun b _ _ => noA b, fun b z => absurd z (noA b), e0.funs, e0.frf⟩,
    rfl, e0.bare, Un.kept hk, ⟨_, hns, fun i y v h1 h2 h3 => ?_⟩, fun y c h => ?_, e0.hok.fresh (Nat.le_refl _), fun y c h => ?_, fun p hp => absurd (show p ∈ ([] : List (Addr × Obj)) from hp) (by simp), e0.hok.kept hk, ?_⟩
  · rw [(one h1).1, (one h2).1]
  · have hy : scope.names.lookup y = some .cell ∨ scope.names.lookup y = some .free := hy
    rcases hy with hy | hy
    · exact absurd rfl (S.free _ (PySem.mem_of_lookup hy)).1
    · have e : y = "__class__" := (S.free _ (PySem.mem_of_lookup hy)).2 rfl
      exact ⟨cc, by rw [e]; exact has⟩
  · have z : false = true := z
    cases z
  · have h1 : N[i]? = some y := h1
    rw [List.getElem?_map] at h2
    cases e : vs[i]? with
    | none => rw [e] at h2; cases h2
    | some a =>
      rw [e] at h2
      cases h2
      obtain ⟨u, hu, rv⟩ := r.get e
      exact ⟨u, rv, .inl ⟨S.par y (List.mem_of_getElem? h1), rev_lookup S.nd h1 hu⟩⟩
  · rw [(one h).2]
    exact ⟨cv, oc, hk _ _ (e0.bs _ _ hcc).1, hcd⟩
  · rw [(one h).2]
    exact (e0.bs _ _ hcc).2
  · show (vs.map some).length = N.length
    rw [List.length_map, hl]

/-- the written part about such a class and its __init__ -/
structure SupF (P : Program) (K : PySem.W.Frag) (mg : Str → Option Value) (C f cc cda : Addr) (qual : Str) (params : Arguments) (body : List Stmt) (scope : Scope) (fd : FuncData) : Prop where
  ex : ∃ (oc : Value) (od : Option Addr) (dV kV doc pm ct : Value) (an : Option Addr) (osl : Array (Option Value)),
    fd = PySem.W.ksFn "__init__" qual params body scope dV kV doc pm an (.ref cda) ct cc ∧ K.lookup f = some ⟨oc, od, .func fd, osl⟩
  cd : PySem.W.codeIn K (.ref cda) qual = true
  co : ∃ (oc : Obj) (vs : Array Value) (file : Str) (tf : Tok), K.lookup cda = some oc ∧ oc.data = .fields vs ∧ vs[2]? = some (.str file tf) ∧ ((P.main.file : Str) == file) = true
  cell : ∃ oc : Obj, K.lookup cc = some oc ∧ oc.data = .cell (some (.ref C))
  top : (P.main.scope.names.lookup ("super" : Str)).isSome = false
  sub : PySem.W.mroIn K C (.ref C) = some true
  opq : PySem.W.nsIn K cStatics "thirdparty.any" = some none
  al : ∃ cd, PySem.W.clsIn K C = some cd ∧ PySem.W.alongIn K "__init__" ((cd.mro.dropWhile (· != .ref C)).drop 1) = some (some (.builtin "ValueError.__init__"))
  ve : PySem.W.subIn K (.ref C) (.type "ValueError") = some true
  su : mg "super" = none
/-- the first statement -/
abbrev supCall (p0 p1 p2 p3 p4 : Pos) (txt : Str) (kd : Nat) : Expr := .Call (.Attribute (.Call (.Name "super" p0) [] [] p1) "__init__" p2) [.Constant (.str txt) kd p3] [] p4
/-- what the evaluator's own text says there, by rfl at a written scope -/
structure SupE (qual : Str) (scope : Scope) (p0 p1 p2 p3 p4 p5 : Pos) (txt : Str) (kd : Nat) : Prop where
  hi : ∀ L f cd cc, interactive (supEnv qual scope L f cd cc) = false
  hs : ∀ L f cd cc, swapsWith (supCall p0 p1 p2 p3 p4 txt kd) none p5.line (supEnv qual scope L f cd cc) = pure false
  he : ∃ pl : Sem Bool, ∀ L f cd cc, eval (supCall p0 p1 p2 p3 p4 txt kd) (supEnv qual scope L f cd cc) = (do
      let ov ← attributeBase (.Call (.Name "super" p0) [] [] p1) "__init__" (supEnv qual scope L f cd cc) (eval (.Call (.Name "super" p0) [] [] p1) (supEnv qual scope L f cd cc))
      standAt p2.atName
      let (g, first) ← holding [ov] (getMethod ov "__init__" pl)
      callWith p4 g first (backTo p4 (starEach [.Constant (.str txt) kd p3] (supEnv qual scope L f cd cc))) [])
theorem super_init {CX : CXT} {N : List Str} {qual : Str} {params : Arguments} {body : List Stmt} {scope : Scope} {C f cc cda e : Addr} {fd : FuncData} {A : Around} {outer : List Env} {s : Shared} {H : Hp} {E : XK} {s0 : Shared} {H0 : Hp} {σ : St} {p0 p1 p2 p3 p4 p5 : Pos} {txt : Str} {kd : Nat} {ar : Arg}
    (F : SupF P K mg C f cc cda qual params body scope fd) (T : OexC K C) (S : ScopeS N scope) (SE : SupE qual scope p0 p1 p2 p3 p4 p5 txt kd) (hhd : (params.posonlyargs ++ params.args).head? = some ar) (hN : N[0]? = some ar.arg)
    (I : Inv (cxS CX P w K mg base N qual scope f (.ref cda) cc A outer s0 H0 E) [] σ H s) (hσ : σ[0]? = some (some (.ref e))) (he : H e = some (exo e C none)) {Q : Flow → Shared → Prop} {EE : Value → Shared → Prop}
    (h : ∀ s', Inv (cxS CX P w K mg base N qual scope f (.ref cda) cc A outer s0 H0 E) [] σ H s' → Q .next s') :
    PySem.wpAt (model P w) (A.deeper (supEnv qual scope s0.heap.objs.size f (.ref cda) cc)) (.func body (supEnv qual scope s0.heap.objs.size f (.ref cda) cc))
      (exec (.Expr (supCall p0 p1 p2 p3 p4 txt kd) p5) (supEnv qual scope s0.heap.objs.size f (.ref cda) cc)) Q EE s := by
  obtain ⟨oc, od, dV, kV, doc, pm, ct, an, osl, rfl, lk⟩ := F.ex
  obtain ⟨co, vs, file, tf, lco, dco, vs2, hfile⟩ := F.co
  obtain ⟨cel, lcel, dcel⟩ := F.cell
  obtain ⟨cdC, hcl, hal⟩ := F.al
  have X := I.kIn
  obtain ⟨t1, ho⟩ := exo_at I.hok he
  obtain ⟨oD, hD1, hD2⟩ : ∃ oD, s.heap.get? C = some oD ∧ oD.data = .cls cdC := by
    unfold PySem.W.clsIn at hcl
    split at hcl
    · rename_i c d cd' sl hoo
      cases hcl
      exact ⟨_, X _ _ hoo, rfl⟩
    · cases hcl
  have eC : e ≠ C := fun z => by
    rw [z] at ho
    rw [ho] at hD1
    cases hD1
    cases hD2
  obtain ⟨m, hns, hloc⟩ := I.loc
  have harl : scope.names.lookup ar.arg = some .local := S.par _ (List.mem_of_getElem? hN)
  obtain ⟨u, ru, lu⟩ := hloc 0 ar.arg (.ref e) hN hσ (.inl harl)
  cases (show u = Value.ref e from ru)
  have hm : m ar.arg = some (.ref e) := by
    rcases lu with ⟨_, z⟩ | ⟨z, _⟩
    · exact z
    · have z : scope.names.lookup ar.arg = some .cell ∨ scope.names.lookup ar.arg = some .free := z
      rw [harl] at z
      rcases z with z | z <;> cases z
  have J : PySem.W.InstAt s.heap e ({ cls := .ref C, dict := none, data := .fields #[.ref t1, .none, .none, .none, .bool false, .none] } : Obj) C none := ⟨ho, rfl, rfl, trivial⟩
  obtain ⟨pl, hev⟩ := SE.he
  refine PySem.ks_wpAt_Expr_any ?_ (SE.hi _ _ _ _) (SE.hs _ _ _ _)
  refine PySem.ks_wpAt_MethodCall (pl := pl) ?_ (hev _ _ _ _)
  refine PySem.ks_wpAt_super_base (env := supEnv qual scope s0.heap.objs.size f (.ref cda) cc) S.sup S.cls (by decide +kernel) rfl (X _ _ lk) rfl hhd rfl (X _ _ lco) dco vs2 hfile F.top ?_
  obtain ⟨mb, mb1, mb2⟩ := I.mod.blt
  refine PySem.W.ks_loadName_global S.kind S.sup (Calls.loadGlobal_builtin (env := supEnv qual scope s0.heap.objs.size f (.ref cda) cc) (I.mod.glob.keeps I.bk) F.su (mb1.keeps I.bk) ((mb2 _ (by decide)).trans (show bootBuiltins "super" = some (.type "super") by decide +kernel)) ⟨rfl, ?_⟩)
  refine wpAny_loadName_free S.kind S.cls rfl ⟨_, X _ _ lcel, dcel⟩ ?_
  refine wpAny_loadName_local S.kind harl hns hm ?_
  refine ks_wpAny_isType_cls hD1 hD2 ⟨rfl, ?_⟩
  obtain ⟨hp, g, d, t, os⟩ := s
  refine ks_wpAny_call_super hD1 hD2 ho rfl (fun c z => by cases z) (PySem.W.looks_mroIn X F.sub) (fun h' es k => ?_)
  have I1 : Inv (cxS CX P w K mg base N qual scope f (.ref cda) cc A outer s0 H0 E) [] σ H ⟨h', g, d, t, os⟩ := I.kept (t' := t) k
  have X1 := I1.kIn
  refine PySem.W.kxs_getMethod PySem.W.kxs_ValueError es (PySem.W.looks_opaque X1 F.opq) (l₀ := cdC.mro) (fun A Q E s k q => wpAny_bind ((PySem.W.looks_clsIn X1 hcl) A _ E s k (wpAny_pure q))) rfl X1 hal ((show PySem.W.InstAt h' e _ C none from ⟨k _ _ ho, rfl, rfl, trivial⟩).type.andThen (PySem.W.looks_subIn X1 F.ve)) eC (by decide +kernel) ?_
  have es2 : (h'.push (PySem.W.kxs_mw "ValueError.__init__" e)).get? h'.objs.size = some (PySem.W.kxs_mw "ValueError.__init__" e) := Heap.get?_push_at rfl rfl
  generalize h'.objs.size = u at es2
  have k2 : ∀ b o, h'.get? b = some o → (h'.push (PySem.W.kxs_mw "ValueError.__init__" e)).get? b = some o := fun b o q => Heap.get?_push_of_some _ q
  generalize h'.push (PySem.W.kxs_mw "ValueError.__init__" e) = h2 at es2 k2
  have I2 : Inv (cxS CX P w K mg base N qual scope f (.ref cda) cc A outer s0 H0 E) [] σ H ⟨h2, g, d, t + 1, os⟩ := I1.kept (t' := t + 1) k2
  have hee : ∀ env : Env, starEach [.Constant (.str txt) kd p3] env = (false, eval (.Constant (.str txt) kd p3) env) :: starEach [] env := fun env => rfl
  refine PySem.W.kxs_callWith (i := "ValueError.__init__") (x := e) (by rw [hee]; rfl) ?_
  rw [hee]
  refine Calls.evalArgs_plain (Calls.spliced_cons (Calls.Constant_str (pos := p3) (k := kd) (Calls.spliced_nil ?_)))
  refine ⟨es2, ?_⟩
  have he2 := k2 _ _ (k _ _ ho)
  obtain ⟨nm, q, N', bs, bm, sn, sub, ab, col, dd, k0, k1, k2', k3, k5, hC, hbm⟩ := T.cls
  have hC2 := I2.kIn _ _ hC
  refine wpAny_call (codeAny_of_tree ?_)
  show wpAny _ (A.deeper (supEnv qual scope s0.heap.objs.size f (.ref cda) cc)).in1 (callAny (.ref u) ⟨[.str txt _], []⟩) _ _ _
  simp only [callAny]
  refine wpAny_bind (wpAny_load es2 ?_)
  simp only [PySem.W.kxs_mw, show (Value.type "method-wrapper" == Value.type "method" || Value.type "method-wrapper" == Value.type "builtin_function_or_method" || Value.type "method-wrapper" == Value.type "method-wrapper") = true by decide, if_true]
  refine PySem.W.KFB.if_so (by decide) ?_
  refine wpAny_bind (PySem.W.check_bound_init PySem.F.excBase_ValueError.toExcCallFacts hC2 he2 rfl ?_)
  refine wpAny_bind (wpAny_pure (wpAny_pure ?_))
  refine ⟨plainId_quiet PySem.F.excBase_ValueError.init.plain _, codeAny_builtin PySem.F.excBase_ValueError.initEntry ?_⟩
  refine PySem.W.exc_init_tree (cls := .ref C) (t0 := t1) (dv := none) (c2 := .none) (c3 := .none) (b4 := .bool false) he2 (by rw [sizeLine_eq]; exact (by decide : 1 ≤ 16777216)) fun h3 k3 hx _ => ?_
  have I3 : Inv (cxS CX P w K mg base N qual scope f (.ref cda) cc A outer s0 H0 E) [] σ (upd H e (exo e C none)) ⟨h3, g, d, t + 1 + 1, os⟩ := I2.write (t' := t + 1 + 1) (x := e) (e := e) (o := exo e C none) (by rw [he]; exact True.intro) (.inl rfl) k3 ⟨_, hx⟩ (exo_ok hx)
  have eu : upd H e (exo e C none) = H := by
    funext b
    by_cases hb : b = e
    · rw [hb, upd_same, he]
    · rw [upd_ne hb]
  rw [eu] at I3
  exact h _ I3
end
section
variable {P : Program} {w : World} {K : PySem.W.Frag} {mg : Str → Option Value} {base : Heap}
/-- THE RULE for such an __init__: behind its first statement, by the rest of its body -/
theorem fn_super {CX : CXT} {k : Nat} {sp : Sp} {N : List Str} {qual : Str} {params : Arguments} {rest : List Stmt} {scope : Scope} {C f cc cda : Addr} {fd : FuncData} {p0 p1 p2 p3 p4 p5 : Pos} {txt : Str} {kd : Nat} {ar : Arg}
    (F : SupF P K mg C f cc cda qual params (.Expr (supCall p0 p1 p2 p3 p4 txt kd) p5 :: rest) scope fd) (T : OexC K C) (S : ScopeS N scope) (SE : SupE qual scope p0 p1 p2 p3 p4 p5 txt kd) (hhd : (params.posonlyargs ++ params.args).head? = some ar) (hN : N[0]? = some ar.arg)
    (len : ∀ vs H Q E, sp vs H Q E → vs.length = N.length) (first : ∀ vs H Q E, sp vs H Q E → ∃ e r, vs = .ref e :: r ∧ H e = some (exo e C none))
    (hbody : ∀ (A : Around) (outer : List Env) (s : Shared) (H : Hp) (vs : List V) (Q : VK) (E : XK), sp vs H Q E →
      ∃ t, PSs (cxS CX P w K mg base N qual scope f (.ref cda) cc A outer s H E) rest t ∧ t { nx := fun _ H' => Q .non H', rt := Q } (vs.map some) H) : FnOk P w K mg base CX (k + 1) f fd N sp := by
  refine ⟨len, fun A outer s H args us vs Q E hr e0 hb r hsp => ?_⟩
  have hl := len _ _ _ _ hsp
  obtain ⟨e, rv, rfl, he⟩ := first _ _ _ _ hsp
  have F' := F
  obtain ⟨oc, od, dV, kV, doc, pm, ct, an, osl, rfl, lk⟩ := F.ex
  obtain ⟨oc', lcel, dcel⟩ := F.cell
  have KX : K.In s.heap := e0.mod.kin.keeps fun b o e => (e0.bs b o e).1
  have lim : s.heap.NoLimit := e0.mod.nolimit.keeps fun b o e => (e0.bs b o e).1
  have hloc : ∀ x ∈ N.zip us, scope.names.lookup x.1 = some .local := fun ⟨n, v⟩ hy => S.par n (List.of_mem_zip hy).1
  refine PySem.ks_codeAny_call_defAt (binds := N.zip us) hr.depth (KX _ _ lk) rfl lim (PySem.W.codeRec_of KX F.cd) rfl hb (fun x hx => (S.free x hx).1) hloc (fun h0 hns hk => ?_) S.co S.gen S.kind
  have I := invS_start (CX := CX) (P := P) (w := w) (E := E) (f := f) (cd := .ref cda) (tk := s.toks + (N.zip us).length) (qual := qual) S hr.hd e0 hl r (e0.mod.kin _ _ lcel) dcel hns hk
  obtain ⟨t, ht, hq⟩ := hbody A outer s H _ Q E hsp
  refine PySem.ks_wpAt_execs_cons (super_init F' T S SE hhd hN I rfl he fun s' I' => wpAt_of_wpAny ?_)
  refine wpAny_mono (ht.run [] s' _ H _ I' hq) (fun fl s' hs => ?_) fun e s' hs => hs
  have fin : ∀ {σ' : St} {H' : Hp} {v : V} {u : Value}, Inv (cxS CX P w K mg base N qual scope f (.ref cda) cc A outer s H E) [] σ' H' s' → RelV v u → Q v H' → CE outer P w H s Q u s' :=
    fun {σ' H' v u} J rv q => ⟨v, H', J.os, J.bare, J.base, J.hok, rv, q⟩
  cases fl with
  | ret u =>
    obtain ⟨v, σ', H', J, rv, q⟩ := hs
    exact fin J rv q
  | next =>
    obtain ⟨σ', H', J, q⟩ := hs
    exact fin (v := V.non) (u := Value.none) J rfl q
  | brk =>
    obtain ⟨_, _, _, q⟩ := hs
    exact False.elim q
  | cont =>
    obtain ⟨_, _, _, q⟩ := hs
    exact False.elim q
end
/-- C(e, ..) as a value, C an own exception whose __init__ keeps sp -/
def tMkV (C : Addr) (sp : Sp) (E : XK) (ta : TA) : TE := fun σ H Q => ta σ H fun vs H1 => vs.length ≤ 1000 ∧ ∀ a, H1 a = none → sp (.ref a :: vs) (upd H1 a (exo a C none)) (fun v H2 => v = .non ∧ Q (.ref a) H2) E
theorem pe_mkS {X : Cx} {e : Expr} {es : List Expr} {ta : TA} {p pos : Pos} {CX : CXT} {x : Str} {C fI : Addr} {k : Nat} {fd : FuncData} {ps : List Str} {sp : Sp} {E : XK} (T : OexC X.K C) (iC : PySem.W.findIn X.K (.ref C) "__init__" = some (some (.ref fI))) (tI : PySem.W.typeIn X.K (.ref fI) = some (.type "function"))
    (F1 : FnOk X.prog X.w X.K X.mg X.base CX k fI fd ps sp) (hr : Room (k + 1) X.A) (hb : Binds X.K fd ps []) (hx : Passes CX X E) (hg : Gl X x) (hm : X.mg x = some (.ref C)) (ha : PA X (e :: es) ta)
    (hdb : (x == ("__debug__" : Str)) = false := by decide) (he : starEach (e :: es) X.env = (false, eval e X.env) :: starEach es X.env := by rfl) (hpl : (backTo pos (starEach es X.env)).any (·.1) = false := by rfl) :
    PE X (.Call (.Name x p) (e :: es) [] pos) (tMkV C sp E ta) := by
  refine ⟨fun pins s σ H Q I h => ?_⟩
  obtain ⟨nm, q, N, bs, bm, sn, sub, ab, col, dd, k0, k1, k2, k3, k5, hC, hbm⟩ := T.cls
  refine wpAny_Call_Name_kw (ld_glob I hg hm ?_ hdb)
  refine PySem.W.callWith_K (h₀ := X.base) I.ok.mod.kin T.kC (thn (ha.run pos pins s σ H _ I h) fun us s1 ⟨vs, H1, I1, r1, hz, q1⟩ => ⟨I1.kIn, ?_⟩) he hpl
  show wpAny _ _ (call (.ref C) us) _ _ _
  obtain ⟨hp, g, dr, tk, os⟩ := s1
  have hsz : hp.objs.size ≤ hp.objs.size + 1 := Nat.le_succ _
  have hn : H1 (hp.objs.size + 1) = none := I1.hok.fresh hsz
  have hq := q1 (hp.objs.size + 1) hn
  have kk : ∀ b o, hp.get? b = some o → ((hp.push (PySem.W.kdv_tup us)).push (PySem.HandSPX.excO C hp.objs.size)).get? b = some o := fun b o e => Heap.get?_push_of_some _ (Heap.get?_push_of_some _ e)
  have hget : ((hp.push (PySem.W.kdv_tup us)).push (PySem.HandSPX.excO C hp.objs.size)).get? (hp.objs.size + 1) = some (PySem.HandSPX.excO C hp.objs.size) := by heap_get
  have I2 : Inv X pins σ (upd H1 (hp.objs.size + 1) (exo (hp.objs.size + 1) C none)) ⟨(hp.push (PySem.W.kdv_tup us)).push (PySem.HandSPX.excO C hp.objs.size), g, dr, tk, os⟩ :=
    I1.laid (t' := tk) (a := hp.objs.size + 1) (o := exo (hp.objs.size + 1) C none) (h' := (hp.push (PySem.W.kdv_tup us)).push (PySem.HandSPX.excO C hp.objs.size)) kk hsz (exo_ok hget)
  have r2 : Vals (V.ref (hp.objs.size + 1) :: vs) (Value.ref (hp.objs.size + 1) :: us) := .cons rfl r1
  have hl : (Value.ref (hp.objs.size + 1) :: us).length = ps.length := by
    have e := r2.length
    rw [F1.len _ _ _ _ hq] at e
    exact e.symm
  have hus : us.length ≤ sizeLine := by
    rw [← Paired.length r1, sizeLine_eq]
    omega
  have hb' := hb ⟨(hp.push (PySem.W.kdv_tup us)).push (PySem.HandSPX.excO C hp.objs.size), g, dr, tk, os⟩ (Value.ref (hp.objs.size + 1) :: us) I2.kIn (by rw [List.append_nil]; exact hl)
  rw [List.append_nil] at hb'
  refine wpAny_call (PySem.HandSPX.call_own PySem.F.excBase_ValueError (fun Y => PySem.HandSPX.refsVE_contains Y bm hbm) (I1.kIn _ _ hC) (PySem.W.looks_findIn I1.kIn iC) (fun self => PySem.W.bind_fn I1.kIn self tI) hus
    (codeAny_mono (F1.run _ X.stack _ _ ⟨Value.ref (hp.objs.size + 1) :: us, []⟩ (Value.ref (hp.objs.size + 1) :: us) _ _ E (hr.make C us []) (I2.env0.make C us []) hb' r2 hq) fun r s' hq' => ?_))
  cases r with
  | error er => exact hx pins σ _ _ er s' I2 hq'
  | ok fl =>
    cases fl with
    | ret u =>
      obtain ⟨v, H', I3, rv, ev, q3⟩ := I2.after hq'
      subst ev
      exact ⟨rv, V.ref (hp.objs.size + 1), H', I3, rfl, q3⟩
    | next => exact False.elim hq'
    | brk => exact False.elim hq'
    | cont => exact False.elim hq'
/-! ## an exception that a clause has caught stays held -/
/-- an exception of the class cls, its dict d, stands at a -/
def ExH (cls : Value) (a : Addr) (d : Option Addr) : HO := .ext fun h => ∃ (oe : Obj) (vs : Array Value), h.get? a = some oe ∧ Zc cls d oe ∧ oe.data = .fields vs
theorem exH_ok {P : Program} {w : World} {H : Hp} {h : Heap} {a : Addr} {cls : Value} {d : Option Addr} {oe : Obj} {vs : Array Value} (e : h.get? a = some oe) (z : Zc cls d oe) (dd : oe.data = .fields vs) : ObjOk P w H h a (ExH cls a d) :=
  ⟨⟨oe, vs, e, z, dd⟩, ⟨oe, e⟩, fun _ _ ⟨o, v, q, r⟩ k => ⟨o, v, k o q, r⟩⟩
section
variable {X : Cx} {pins : List (Addr × Obj)} {σ : L2.St} {H : Hp} {s : Shared}
theorem inv_track {a : Addr} {o : HO} {ob : Obj} (I : Inv X pins σ H s) (n0 : X.s_0.heap.get? a = none) (na : H a = none) (nL : a ≠ X.env.locals) (ha : s.heap.get? a = some ob) (nc : ∀ v, ob.data ≠ .cell v)
    (np : ∀ p ∈ X.pn ++ pins, p.1 ≠ a) (ok : ObjOk X.prog X.w (upd H a o) s.heap a o) : Inv X pins σ (upd H a o) s := by
  have old : ∀ {b : Addr} {u : Obj}, X.s_0.heap.get? b = some u → b ≠ a := fun {b u} e z => by
    rw [z, n0] at e
    cases e
  have nec : ∀ x c, X.env.cells.lookup x = some c → c ≠ a := fun x c e z => by
    obtain ⟨v, oc, hoc, hd⟩ := I.cell x c e
    rw [z, ha] at hoc
    cases hoc
    exact nc v hd
  refine ⟨I.ok, I.os, I.bare, ⟨I.base.keep, I.base.slot, fun b u e n x => ?_, I.base.there, fun b xs e => ?_, fun b u v e => ?_, fun b ps e => ?_⟩, I.loc, I.cell, ?_, fun x c e => ?_, fun p hp => ?_, fun b u e => ?_, I.len⟩
  · rw [upd_ne (old e)]
    exact I.base.free b u e n x
  · rw [upd_ne (ne_of_none (I.base.tups b xs e) na)]
    exact I.base.tups b xs e
  · rw [upd_ne (ne_of_none (I.base.frzs b u v e) na)]
    exact I.base.frzs b u v e
  · obtain ⟨m, q⟩ := I.base.tbls b ps e
    exact ⟨m, by rw [upd_ne (ne_of_none q na)]; exact q⟩
  · rw [upd_ne nL.symm]
    exact I.free
  · rw [upd_ne (nec x c e)]
    exact I.freeC x c e
  · obtain ⟨h1, h2, h3⟩ := I.pin p hp
    exact ⟨h1, by rw [upd_ne (np p hp)]; exact h2, h3⟩
  · by_cases hb : b = a
    · subst hb
      rw [upd_same] at e
      cases e
      exact ok
    · rw [upd_ne hb] at e
      exact (I.hok b u e).stay (fun c v _ q => q) (fun c q => by rw [upd_ne (ne_of_none q na)]; exact q) fun c xs q => by rw [upd_ne (ne_of_none q na)]; exact q
end
/-- what the clause 'except x as n' wishes, behind which the exception stays held -/
def wHeld (K : PySem.W.Frag) (c : Value) (i : Nat) (ts : Addr → Value → Option Addr → TS) (Wout : WX) (D : Ends) : WX := fun cls d σ H =>
  ∃ b, PySem.W.exmOne K cls c = some b ∧ (b = true → ∀ a, H a = none → ts a cls d
    { nx := fun σ' H' => D.nx (σ'.set i none) (upd H' a (ExH cls a d)), rt := fun v H' => D.rt v (upd H' a (ExH cls a d)), bk := fun σ' H' => D.bk (σ'.set i none) (upd H' a (ExH cls a d)), ct := fun σ' H' => D.ct (σ'.set i none) (upd H' a (ExH cls a d)) } (σ.set i (some (.ref a))) H) ∧
    (b = false → Wout cls d σ H)
section
variable {X : Cx} {x n : Str} {c : Value} {i : Nat} {body suite : List Stmt} {b₀ : Stmt} {np pos pos' : Pos} {tb : WX → TS} {ts : Addr → Value → Option Addr → TS} {Wout : WX}
theorem ps_try_held (hex : X.ex = []) (hs : X.stack = X.env :: X.outer) (hf : X.env.frame = some X.env.locals) (hN : X.N.Nodup) (hi : X.N[i]? = some n) (hln : X.env.kindOf n = some .local) (hc : Names X x c) (tk : Takes X Wout)
    (hb : ∀ (W : WX) (pn : List (Addr × Obj)) (xe : Value → Shared → Prop), Takes (X.tr pn xe) W → PassesOwn (model X.prog X.w) X.A X.env xe → PSs (X.tr pn xe) body (tb W))
    (hsu : ∀ (a : Addr) (oe : Obj) (cls : Value) (d : Option Addr) (pn : List (Addr × Obj)), Zc cls d oe → (∃ vs, oe.data = .fields vs) → PSs (X.suite a ((a, oe) :: pn)) (b₀ :: suite) (ts a cls d)) :
    PS X (.Try body [.ExceptHandler (some (.Name x np)) (some n) (b₀ :: suite) pos'] [] [] pos) (fun D σ H => tb (wHeld X.K c i ts Wout D) D σ H) := by
  refine ⟨fun pins s σ H D I hw => ?_⟩
  have ok := I.ok
  have frames1 : X.A.frames = some (X.env :: X.outer) := ok.frames.trans (congrArg some hs)
  refine wpAny_Try_except ?_
  refine wpAny_mono ((hb (wHeld X.K c i ts Wout D) (X.pn ++ pins) (fun e s1 => wpAny (model X.prog X.w) X.A (noteFrame e X.env) (fun _ s2 => wpAny (model X.prog X.w) X.A (setFlight e none) (fun _ s3 =>
    wpAny (model X.prog X.w) X.A (handleBy e X.env [.ExceptHandler (some (.Name x np)) (some n) (b₀ :: suite) pos']) (SP X pins D) X.xe s3) X.xe s2) X.xe s1) (fun u s' air => ?_) PassesOwn.looking).run [] s σ H D (I.toTry _) hw) (fun f s1 hsp => ?_) (fun e s1 he => he)
  · obtain ⟨a, B, sI, pins', σ', H', cls, d, rfl, J0, nb, up, sky, na, os, ag, b, hb1, hyes, hno⟩ := air
    have J : Inv X pins σ' H' sI := J0.ofTry ok
    have skyE : Sky B (X.env :: X.outer) a (Zc cls d) X.env.locals s'.heap := hs ▸ sky
    show wpAny (model X.prog X.w) X.A (noteFrame (.ref a) X.env) _ _ _
    refine Sky.land Zc.steady frames1 hf skyE fun h3 fl3 up3 => ?_
    have J3 : Inv X pins σ' H' { s' with heap := h3 } := J.landed nb fl3.1 (up.trans up3) os ag
    obtain ⟨oe3, vs3, he3, hz3, hd3⟩ := fl3.there
    have nfr : a ∉ frs (X.env :: X.outer) := fun hm => by
      obtain ⟨_, o', e', hnf⟩ := fl3.2.2.1.mem hm
      rw [he3] at e'
      cases e'
      exact hnf _ hd3
    have nL : a ≠ X.env.locals := fun z => nfr (List.mem_filterMap.mpr ⟨X.env, List.mem_cons_self, hf.trans (congrArg some z.symm)⟩)
    have nF : a ∉ X.fs := fun hm => by
      obtain ⟨e, he, q⟩ := List.mem_filterMap.mp hm
      exact nfr (List.mem_filterMap.mpr ⟨e, List.mem_cons_of_mem _ he, q⟩)
    -- the exception is not of the state ahead
    have nI : sI.heap.get? a = none := by
      cases e : sI.heap.get? a with
      | none => rfl
      | some o =>
        have z := nb a o e (by rw [hs]; exact nfr)
        rw [fl3.2.1] at z
        cases z
    have n0 : X.s_0.heap.get? a = none := by
      cases e : X.s_0.heap.get? a with
      | none => rfl
      | some o =>
        obtain ⟨o', z⟩ := J.base.there a o e (by rw [hex]; exact fun q => nomatch q)
        rw [nI] at z
        cases z
    have np' : ∀ p ∈ X.pn ++ pins, p.1 ≠ a := fun p hp z => by
      have q := (J.pin p hp).1
      rw [z, nI] at q
      cases q
    have S3 := J3.suite he3 hd3 na nL nF
    refine wpAny_handleBy_cons (codeAny_handlers_test ?_) (by intro q; cases q)
    have looksT : PySem.W.Looks (model X.prog X.w) h3 (typeOf (.ref a)) cls := fun A Q E s k q => wpAny_typeOf_ref (k _ _ he3) (by rw [hz3.1]; exact q)
    have looksM := PySem.W.exm_one (M := model X.prog X.w) J3.kIn looksT hb1
    have named : ∀ {Q : Value → Shared → Prop} {E : Value → Shared → Prop}, Q c { s' with heap := h3 } → wpAny (model X.prog X.w) (X.A.mark (some (.ref a))) (eval (.Name x np) X.env) Q E { s' with heap := h3 } := fun {Q E} q => by
      obtain ⟨hg, hdbg, hm | ⟨hm, hv, hnn⟩⟩ := hc
      · exact ld_glob (X := X.suite a ((a, oe3) :: (X.pn ++ pins))) S3 hg hm q hdbg
      · exact ld_blt (X := X.suite a ((a, oe3) :: (X.pn ++ pins))) S3 hg hm hv q hnn hdbg
    refine named (looksM.here ?_)
    cases b with
    | true =>
      refine codeAny_handlers_suite_as (HandSPX.lands_againZ fl3 fun h4 fl4 up4 => ?_)
      have J4 : Inv X pins σ' H' { s' with heap := h4 } := J.landed nb fl4.1 ((up.trans up3).trans up4) os ag
      obtain ⟨oe4, vs4, he4, hz4, hd4⟩ := fl4.there
      have S4 := J4.suite he4 hd4 na nL nF
      refine store_ok (X := X.suite a ((a, oe4) :: (X.pn ++ pins))) (v := .ref a) S4 hN hi (.inl hln) rfl (fun s5 S5 => ?_) (.inr hln)
      refine wpAny_mono ((hsu a oe4 cls d (X.pn ++ pins) hz4 ⟨_, hd4⟩).run [] s5 _ H' _ S5 (hyes rfl a na)) (fun f s6 hsp => ?_) (fun _ _ z => False.elim z)
      have leave : ∀ {σ6 : L2.St} {H6 : Hp} {Q : Shared → Prop}, Inv (X.suite a ((a, oe4) :: (X.pn ++ pins))) [] σ6 H6 s6 → (∀ s7, Inv X pins (σ6.set i none) (upd H6 a (ExH cls a d)) s7 → Q s7) →
          wpAny (model X.prog X.w) X.A (do bindName X.env n .none; unbindBehindTheSuite X.env n pos') (fun _ s7 => Q s7) X.xe s6 := fun {σ6 H6 Q} S6 hq => by
        obtain ⟨g1, g2, _, _, g5⟩ := S6.pin (a, oe4) (List.mem_append_left _ List.mem_cons_self)
        exact gone_ok (inv_track (S6.unsuite ok) n0 g2 nL g1 g5 np' (exH_ok g1 hz4 hd4)) hN hi hln hq
      cases f with
      | next =>
        obtain ⟨σ6, H6, S6, q6⟩ := hsp
        exact leave S6 fun s7 J7 => ⟨_, _, J7, q6⟩
      | brk =>
        obtain ⟨σ6, H6, S6, q6⟩ := hsp
        exact leave S6 fun s7 J7 => ⟨_, _, J7, q6⟩
      | cont =>
        obtain ⟨σ6, H6, S6, q6⟩ := hsp
        exact leave S6 fun s7 J7 => ⟨_, _, J7, q6⟩
      | ret u =>
        obtain ⟨v6, σ6, H6, S6, r6, q6⟩ := hsp
        exact leave S6 fun s7 J7 => ⟨_, _, _, J7, r6, q6⟩
    | false =>
      show wpAny _ X.A (handleBy (.ref a) X.env []) _ _ _
      refine wpAny_handleBy_nil ?_
      obtain ⟨k1, k2, k3, oe, vs, T, oT, ts', he, hz, hd, h1, hr⟩ := id fl3
      unfold PySem.passOn
      refine wpAny_bind (wpAny_field he hd h1 ?_)
      rw [if_neg (show ¬ ((Value.ref T == Value.none) = true) from by simp)]
      have thrown : wpAny (model X.prog X.w) X.A (setFlight (.ref a) X.env.frame) (fun _ s4 => wpAny (model X.prog X.w) X.A (throw (.ref a) : Sem Flow) (SP X pins D) X.xe s4) X.xe { s' with heap := h3 } := by
        rw [hf]
        refine HandSPX.setFlight_upZ fl3 fun h4 hh4 up4 => wpAny_throw (tk _ _ ?_)
        exact ⟨a, B, sI, pins, σ', H', cls, d, rfl, J, nb, (up.trans up3).trans up4, .inr (.inr (hs ▸ hh4)), na, os, ag, hno rfl⟩
      first
        | exact wpAny_bind (wpAny_pure (wpAny_bind thrown))
        | exact wpAny_bind thrown
  · cases f with
    | next =>
      obtain ⟨σ', H', J', q⟩ := hsp
      exact wpAny_execs_nil ⟨σ', H', J'.ofTry ok, q⟩
    | brk =>
      obtain ⟨σ', H', J', q⟩ := hsp
      exact ⟨σ', H', J'.ofTry ok, q⟩
    | cont =>
      obtain ⟨σ', H', J', q⟩ := hsp
      exact ⟨σ', H', J'.ofTry ok, q⟩
    | ret u =>
      obtain ⟨v, σ', H', J', r, q⟩ := hsp
      exact ⟨v, σ', H', J'.ofTry ok, r, q⟩
end
/-! ## attributes and classes of exceptions that are held -/
/-- what the class at D says, for reads of its instances -/
structure ExcR (K : PySem.W.Frag) (D : Addr) : Prop where
  ga : PySem.W.findIn K (.ref D) "__getattribute__" = some (some (.builtin "BaseException.__getattribute__"))
  gt : PySem.W.findIn K (.ref D) "__getattr__" = some none
  sb : PySem.W.subIn K (.ref D) (.type "BaseException") = some true
  hd : PySem.W.hasDictIn K D = true
  kl : PySem.W.findIn K (.ref D) "__class__" = some (some (.builtin "object.__class__"))
  sp : PySem.W.specialIn K (.builtin "object.__class__") "__get__" = some (some (.builtin "getset_descriptor.__get__"))
  tk : PySem.W.takesIn K (.builtin "object.__class__") = some true
  ob : PySem.W.mroIn K D (.type "object") = some true
/-- an exception of the class at D stands at a -/
def ExAt (H : Hp) (a D : Addr) : Prop := (∃ d, H a = some (exo a D d) ∧ ∀ dx, d = some dx → ∃ fs, H dx = some (exd dx fs)) ∨ H a = some (ExO (.ref D) a) ∨ ∃ d, H a = some (ExH (.ref D) a d) ∧ ∀ dx, d = some dx → ∃ fs, H dx = some (.xd fs)
section
variable {X : Cx} {pins : List (Addr × Obj)} {σ : L2.St} {H : Hp} {s : Shared}
theorem exAt_inst {a D : Addr} (I : Inv X pins σ H s) (h : ExAt H a D) : ∃ ob od, PySem.W.InstAt s.heap a ob D od := by
  rcases h with ⟨d, h1, h2⟩ | h | ⟨d, h1, h2⟩
  · obtain ⟨t1, ho⟩ := exo_at I.hok h1
    cases d with
    | none => exact ⟨_, none, ho, rfl, rfl, trivial⟩
    | some dx =>
      obtain ⟨fs, h3⟩ := h2 dx rfl
      obtain ⟨mA, ⟨od, es, ep, hod, r⟩, _⟩ := exd_at I.hok h3
      exact ⟨_, some od, ho, rfl, rfl, hod⟩
  · have x : ObjOk X.prog X.w H s.heap a (ExO (.ref D) a) := I.hok a _ h
    obtain ⟨⟨oe, vs, e1, e2, e3, _⟩, _⟩ := x
    obtain ⟨oc, odd, oda, osl⟩ := oe
    obtain ⟨z1, z2⟩ := e2
    dsimp only at z1 z2 e3
    subst z1 z2 e3
    exact ⟨_, none, e1, rfl, rfl, trivial⟩
  · have x : ObjOk X.prog X.w H s.heap a (ExH (.ref D) a d) := I.hok a _ h1
    obtain ⟨⟨oe, vs, e1, e2, e3⟩, _⟩ := x
    obtain ⟨oc, odd, oda, osl⟩ := oe
    obtain ⟨z1, z2⟩ := e2
    dsimp only at z1 z2 e3
    subst z1 z2 e3
    cases odd with
    | none => exact ⟨_, none, e1, rfl, rfl, trivial⟩
    | some dx =>
      obtain ⟨fs, h3⟩ := h2 dx rfl
      obtain ⟨mA, ⟨od, es, ep, hod, r⟩, _⟩ : ∃ mA, s.heap.Ns1 dx mA ∧ ∀ f, RelO (fs.lookup f) (mA f) := I.hok dx _ h3
      exact ⟨_, some od, e1, rfl, rfl, hod⟩
end
open PySem.W in
theorem exc_class {prog : Program} {w : World} {A : Around} {E : Value → Shared → Prop} {s : Shared} {K : Frag} {x D : Addr} {ox : Obj} {od : Option Obj} {Q : Option Value → Shared → Prop} (C : ExcR K D)
    (X : K.In s.heap) (I : InstAt s.heap x ox D od) (h : Q (some (.ref D)) { s with toks := s.toks + 1 }) : wpAny (model prog w) A (getAttr? (.ref x) "__class__") Q E s := by
  obtain ⟨cdD, hcD⟩ : ∃ cd, clsIn K D = some cd := by
    obtain ⟨cd, q, _⟩ := any_some C.hd
    exact ⟨cd, q⟩
  have hfo : findObj K D od "__class__" = some (.bind (.builtin "getset_descriptor.__get__") (.builtin "object.__class__")) := by
    unfold findObj
    rw [hcD, Option.bind_some, C.kl, Option.bind_some]
    simp [C.sp, C.tk]
  obtain ⟨hp, gs, dr, tk, os⟩ := s
  have lt := I.type (M := model prog w)
  have lg := looks_findIn (M := model prog w) X C.ga
  have lh := looks_findIn (M := model prog w) X C.gt
  have lf := looks_find (M := model prog w) X I hfo
  have lb : Looks (model prog w) hp (isInstance (.ref x) (.type "BaseException")) true := lt.andThen (looks_subIn X C.sb)
  have z2 : (onTheHeap (Value.ref D) && Value.builtin "BaseException.__getattribute__" == Value.builtin "object.__getattribute__") = false := by
    rw [show (Value.builtin "BaseException.__getattribute__" == Value.builtin "object.__getattribute__") = false by decide +kernel] <;> rfl
  unfold getAttr? getAttrBy? getAttrBy
  refine wpAny_bind (wpAny_mkText (wpAny_bind (wpAny_attempt (wpAny_holding (wpAny_bind (lt.at (wpAny_bind (lg.at ?_))))))))
  show wpAny _ _ (if (onTheHeap (Value.ref D) && Value.builtin "BaseException.__getattribute__" == Value.builtin "object.__getattribute__") = true then _ else _) _ _ _
  rw [z2, if_neg Bool.false_ne_true]
  unfold getAttrByItsOwn hookBefore
  refine wpAny_bind ?_
  rw [if_pos (show onTheHeap (Value.ref D) = true from rfl)]
  refine lh.at (wpAny_bind (wpAny_attempt (wpAny_holding ?_)))
  unfold callGetattribute
  rw [show (false && onTheHeap (Value.builtin "BaseException.__getattribute__")) = false from rfl, if_neg Bool.false_ne_true]
  unfold boundAndCalled
  rw [PySem.F.excAttr_ValueError.ga.bind (.ref x)]
  refine wpAny_bind (wpAny_pure ?_)
  show wpAny _ _ (call (.builtin "BaseException.__getattribute__") [.ref x, .str "__class__" tk]) _ _ _
  refine wpAny_call (codeAny_call_builtin PySem.F.excAttr_ValueError.ga.plain PySem.F.entry_bexc_ga ?_)
  refine @check_slot (model prog w) _ _ ⟨hp, gs, dr, tk + 1, os⟩ "BaseException.__getattribute__" "BaseException" "__getattribute__" (.ref x) [.str "__class__" tk] [] _ (by decide +kernel) (by decide +kernel) lb (PySem.F.args_bexc_ga (.ref x) (.str "__class__" tk)) ?_
  unfold Builtin.«object.__getattribute__»
  refine wpAny_bind (wpAny_of_eq (a := ((Value.ref x : Value), [Value.str "__class__" tk])) (by first | rfl | (simp only [slotArgs]; rfl)) ?_)
  refine wpAny_bind (wpAny_pure (wpAny_bind (lt.at (wpAny_bind (lf.at ?_)))))
  show wpAny _ _ (holding [Value.builtin "object.__class__"] (call (.builtin "getset_descriptor.__get__") [.builtin "object.__class__", .ref x, .ref D]) >>= ret) _ _ _
  refine wpAny_bind (wpAny_holding (wpAny_call (class_get (s := ⟨hp, gs, dr, tk + 1, os⟩) (ox := ox) (od := od) X I C.ob ?_)))
  refine wpAny_pure ?_
  show wpAny _ _ (handedOut (.ref D)) _ _ _
  rw [handedOut_of (v := .ref D) rfl]
  exact wpAny_pure (wpAny_pure h)
open PySem.W in
theorem kitx_held {K : Frag} {x D : Addr} (C : ExcR K D) : KitX K (.ref x) (.ref D) (fun h => ∃ ox od, InstAt h x ox D od) where
  ty := fun _ _ _ ⟨_, _, I⟩ => I.type
  it := fun _ _ X _ => by
    obtain ⟨cdD, hcD, _⟩ := any_some C.hd
    unfold clsIn at hcD
    split at hcD
    · rename_i c' d' cd' sl' ho
      intro A' Q' E' s' k q
      unfold isType loadHead
      exact wpAny_bind (wpAny_loadPart (k _ _ (X _ _ ho)) (wpAny_pure q))
    · cases hcD
  ne := fun h tp dd its n sl X htp => by
    obtain ⟨cdD, hcD, _⟩ := any_some C.hd
    refine Bool.eq_false_iff.mpr fun q => ?_
    have e : D = tp := Value.ref.inj (beq_iff_eq.mp q)
    subst e
    unfold clsIn at hcD
    split at hcD
    · rename_i c' d' cd' sl' ho
      have z := (X _ _ ho).symm.trans htp
      cases z
    · cases hcD
  ca := fun X ⟨_, _, I⟩ k => exc_class C X I k
/-- isinstance(e, c), e an exception that is held -/
def rIsiX (K : PySem.W.Frag) : List V → Hp → VK → Prop := fun xs H Q => ∃ (a D : Addr) (c : V) (u : Value) (b : Bool), xs = [.ref a, c] ∧ ClsV c u ∧ ExcR K D ∧ ExAt H a D ∧ PySem.W.kitOne K (.ref D) u = some b ∧ Q (.bl b) H
theorem call_isiX {X : Cx} : CallR X (.builtin "isinstance") (rIsiX X.K) := by
  intro pins s σ H xs us Q I r h
  obtain ⟨a, D, c, u, b, rfl, k, C, ea, e, q⟩ := h
  obtain ⟨u1, u2, rfl, r1, r2⟩ := vals2 r
  have e2 := k.eq r2
  subst e2
  cases (show u1 = Value.ref a from r1)
  obtain ⟨ob, od, J⟩ := exAt_inst I ea
  exact PySem.W.kia_one (kitx_held C) I.kIn ⟨_, _, J⟩ e (fun z => nomatch z) fun tk => ⟨.bl b, H, I.tok tk, rfl, q⟩
/-- e.f, e an exception that is held, f a field of its own dict -/
def tExF (K : PySem.W.Frag) (te : TE) (f : Str) : TE := fun σ H Q => te σ H fun x H1 => ∃ (a D dx : Addr) (fs : List (Str × V)) (v : V), x = .ref a ∧ ExcR K D ∧ PySem.W.findIn K (.ref D) f = some none ∧ ((H1 a = some (exo a D (some dx)) ∧ H1 dx = some (exd dx fs)) ∨ (H1 a = some (ExH (.ref D) a (some dx)) ∧ H1 dx = some (.xd fs))) ∧ fs.lookup f = some v ∧ Q v H1
theorem pe_exF {X : Cx} {e : Expr} {te : TE} {f : Str} {pos : Pos} (he : PE X e te) (hb : attributeBase e f X.env (eval e X.env) = eval e X.env := by rfl) : PE X (.Attribute e f pos) (tExF X.K te f) := by
  refine ⟨fun pins s σ H Q I h => ?_⟩
  refine attr_of hb (thn (he.run pins s σ H _ I h) fun u s1 hh => ?_)
  obtain ⟨x, H1, I1, rx, a, D, dx, fs, v, ex, C, no, st, l, q⟩ := hh
  subst ex
  cases (show u = Value.ref a from rx)
  have key : ∃ (ob : Obj) (mA : Str → Option Value), s1.heap.Ns1 dx mA ∧ (∀ f, RelO (fs.lookup f) (mA f)) ∧ s1.heap.get? a = some ob ∧ ob.cls = .ref D ∧ PySem.W.notCls ob = true ∧ ob.dict = some dx := by
    rcases st with ⟨ea, ed⟩ | ⟨ea, ed⟩
    · obtain ⟨t1, ho⟩ := exo_at I1.hok ea
      obtain ⟨mA, hns, hr⟩ := exd_at I1.hok ed
      exact ⟨_, mA, hns, hr, ho, rfl, rfl, rfl⟩
    · have x : ObjOk X.prog X.w H1 s1.heap a (ExH (.ref D) a (some dx)) := I1.hok a _ ea
      obtain ⟨⟨oe, vs, e1, e2, e3⟩, _⟩ := x
      obtain ⟨mA, hns, hr⟩ : ∃ mA, s1.heap.Ns1 dx mA ∧ ∀ f, RelO (fs.lookup f) (mA f) := I1.hok dx _ ed
      exact ⟨oe, mA, hns, hr, e1, e2.1, by unfold PySem.W.notCls; rw [e3] <;> rfl, e2.2⟩
  obtain ⟨ob, mA, hns, hr, ho, oc, onc, odx⟩ := key
  obtain ⟨od, hod, hlk⟩ := lookIn_ns hns
  have rl := hr f
  rw [l] at rl
  cases hm : mA f with
  | none =>
    rw [hm] at rl
    exact rl.elim
  | some y =>
    rw [hm] at rl
    have J : PySem.W.InstAt s1.heap a ob D (some od) := ⟨ho, oc, onc, by rw [odx]; exact hod⟩
    exact PySem.HandSPX.exc_get I1.kIn J C.ga C.gt C.sb (PySem.W.findObj_own C.hd no rfl (by rw [hlk, hm])) (handed_of rl) ⟨v, H1, I1.tok _, rl, q⟩
/-! ## defs that are called where no repr runs -/
structure FnG (P : Program) (w : World) (K : PySem.W.Frag) (mg : Str → Option Value) (base : Heap) (k : Nat) (f : Addr) (fd : FuncData) (ps : List Str) (sp : Sp) : Prop where
  len : ∀ vs H Q E, sp vs H Q E → vs.length = ps.length
  run : ∀ (A : Around) (outer : List Env) (s : Shared) (H : Hp) (args : Args) (us : List Value) (vs : List V) (Q : VK) (E : XK), A.guards = some [] → Room k A → Env0 P w K mg base A outer s H → BindsTo s fd args (ps.zip us) → Vals vs us → sp vs H Q E →
    codeAny (model P w) A (.call (.ref f) args) (CR CX0 outer P w H s Q E) s
section
variable {P : Program} {w : World} {K : PySem.W.Frag} {mg : Str → Option Value} {base : Heap} {x qual : Str} {params : Arguments} {body : List Stmt} {scope : Scope} {dvs : List V} {kws : List (Str × V)} {f : Addr} {fd : FuncData}
theorem FunD.okG {N ps : List Str} {k : Nat} {sp : Sp} (F : FunD K x qual params body scope dvs kws f fd) (S : FnScope N ps scope) (len : ∀ vs H Q E, sp vs H Q E → vs.length = ps.length)
    (hbody : ∀ (cdv : Value) (A : Around) (outer : List Env) (s : Shared) (H : Hp) (vs : List V) (Q : VK) (E : XK), (A.deeper (PyProof.Rows.envOfC qual scope s.heap.objs.size f cdv)).guards = some [] → Room k (A.deeper (PyProof.Rows.envOfC qual scope s.heap.objs.size f cdv)) → sp vs H Q E →
      ∃ t, PSs (cxOf CX0 P w K mg base N qual scope f cdv A outer s H E) body t ∧ t { nx := fun _ H' => Q .non H', rt := Q } (start N vs) H) : FnG P w K mg base (k + 1) f fd ps sp := by
  obtain ⟨oc, od, dV, kV, doc, pm, an, cdv, ct, osl, rfl, lk, hcd, _, _⟩ := F.ex
  refine ⟨len, fun A outer s H args us vs Q E hg hr e0 hb r hsp => ?_⟩
  have hlen := len _ _ _ _ hsp
  have kin : K.In s.heap := e0.mod.kin.keeps fun b o e => (e0.bs b o e).1
  have nol : s.heap.NoLimit := e0.mod.nolimit.keeps fun b o e => (e0.bs b o e).1
  have kinds : ∀ y ∈ ps.zip us, scope.names.lookup y.1 = some .local ∨ (scope.names.lookup y.1 = some .cell ∧ ((cellsFrom (s.heap.objs.size + 1) scope.names []).lookup y.1).isSome = true) := fun ⟨n, v⟩ hy => by
    rcases S.par n (List.of_mem_zip hy).1 with q | q
    · exact .inl q
    · exact .inr ⟨q, PySem.W.cellsFrom_some _ _ _ (.inl q)⟩
  refine codeAny_call_function hr.depth (kin _ _ lk) rfl S.co S.gen rfl (PySem.W.codeRec_of kin hcd) (hb _ _ _ _ ?_)
  refine wpAny_newFunctionEnv_cells S.kind kinds fun env he s1 ic => ?_
  subst he
  refine ⟨nol.keeps ic.toInCall.keep, codeAny_func ?_⟩
  obtain ⟨t, ht, hq⟩ := hbody cdv A outer s H vs Q E hg (hr.deeper _) hsp
  have I : Inv (cxOf CX0 P w K mg base N qual scope f cdv A outer s H E) [] (start N vs) H s1 := inv_start S hr.hd e0 hlen r ic
  refine wpAny_mono (ht.run [] s1 (start N vs) H _ I hq) (fun fl s' hs => ?_) fun e s' hs => hs
  cases fl with
  | ret u =>
    obtain ⟨v, σ', H', J, rv, q⟩ := hs
    exact ⟨v, H', J.os, J.bare, J.base, J.hok, rv, q⟩
  | next =>
    obtain ⟨σ', H', J, q⟩ := hs
    exact ⟨V.non, H', J.os, J.bare, J.base, J.hok, rfl, q⟩
  | brk =>
    obtain ⟨_, _, _, q⟩ := hs
    exact q.elim
  | cont =>
    obtain ⟨_, _, _, q⟩ := hs
    exact q.elim
end
section
variable {X : Cx} {k : Nat} {f : Addr} {fd : FuncData} {ps : List Str} {sp : Sp} {E : XK} {x : Str} {p pos : Pos} {e : Expr} {es : List Expr} {t : TA} {ds : List Value} {dvs : List V}
theorem run_fnG {pins : List (Addr × Obj)} {σ : L2.St} {H : Hp} {s : Shared} {Q : VK} {us : List Value} {vs : List V} (F : FnG X.prog X.w X.K X.mg X.base k f fd ps sp) (hg : X.A.guards = some []) (hr : Room k X.A) (hb : Binds X.K fd ps ds) (hd : Vals dvs ds)
    (I : Inv X pins σ H s) (r : Vals vs us) (h : sp (vs ++ dvs) H Q E) : wpAny (model X.prog X.w) X.A (call (.ref f) us) (EP X pins σ Q) X.xe s := by
  have rr : Vals (vs ++ dvs) (us ++ ds) := r.append hd
  have hlen : (us ++ ds).length = ps.length := by
    rw [← rr.length]
    exact F.len _ _ _ _ h
  refine wpAny_call (codeAny_mono (F.run X.A X.stack s H ⟨us, []⟩ (us ++ ds) (vs ++ dvs) Q E hg hr I.env0 (hb s us I.kIn hlen) rr h) fun r s' hq => ?_)
  cases r with
  | error e => exact False.elim hq
  | ok fl =>
    cases fl with
    | ret u => exact I.after hq
    | next => exact hq.elim
    | brk => exact hq.elim
    | cont => exact hq.elim
theorem pe_callG (F : FnG X.prog X.w X.K X.mg X.base k f fd ps sp) (hgd : X.A.guards = some []) (hr : Room k X.A) (hg : Gl X x) (hm : X.mg x = some (.ref f)) (hk : PySem.W.keepIn X.K (.ref f) = true) (hb : Binds X.K fd ps ds) (hd : Vals dvs ds)
    (ha : PA X (e :: es) t) (hdb : (x == ("__debug__" : Str)) = false := by decide) (he : starEach (e :: es) X.env = (false, eval e X.env) :: starEach es X.env := by rfl) (hpl : (backTo pos (starEach es X.env)).any (·.1) = false := by rfl) :
    PE X (.Call (.Name x p) (e :: es) [] pos) (tCall sp dvs E t) :=
  ⟨fun pins s σ H Q I h => wpAny_Call_Name_kw (ld_glob I hg hm (PySem.W.callWith_K (h₀ := X.base) I.ok.mod.kin hk (thn (ha.run pos pins s σ H _ I h) fun us s1 ⟨vs, H1, I1, r, q⟩ => ⟨I1.kIn, run_fnG F hgd hr hb hd I1 r q⟩) he hpl) hdb)⟩
end
/-! ## repr of data, where no repr runs -/
def keyD : Key → PyData
  | .inl i => .int i
  | .inr x => .str x
mutual
inductive Dx (K : PySem.W.Frag) (H : Hp) : V → PyData → Prop
  | non : Dx K H .non .none
  | bl (b : Bool) : Dx K H (.bl b) (.bool b)
  | int (i : Int) : Dx K H (.int i) (.int i)
  | str (x : Str) : Dx K H (.str x) (.str x)
  | lst {a : Addr} {xs : List V} {ds : List PyData} : SqL K H a xs → DxAll K H xs ds → Dx K H (.ref a) (.list ds)
  | tup {a : Addr} {xs : List V} {ds : List PyData} : SqT K H a xs → DxAll K H xs ds → Dx K H (.ref a) (.tuple ds)
  | dic {a : Addr} {kvs : List (Key × V)} {ds : List PyData} : H a = some (.dK kvs) → DxAll K H (kvs.map (·.2)) ds → Dx K H (.ref a) (.dict ((kvs.map fun kv => keyD kv.1).zip ds))
inductive DxAll (K : PySem.W.Frag) (H : Hp) : List V → List PyData → Prop
  | nil : DxAll K H [] []
  | cons {v : V} {vs : List V} {d : PyData} {ds : List PyData} : Dx K H v d → DxAll K H vs ds → DxAll K H (v :: vs) (d :: ds)
end
/-- the modules' table is a dict of the written part -/
def SmD (K : PySem.W.Frag) : Prop := ∃ o : Obj, K.lookup sysModules = some o ∧ o.cls = .type "dict"
theorem DxAll.length {K : PySem.W.Frag} {H : Hp} : ∀ {vs : List V} {ds : List PyData}, DxAll K H vs ds → vs.length = ds.length
  | _, _, .nil => rfl
  | _, _, .cons _ t => by rw [List.length_cons, List.length_cons, t.length]
section
variable {X : Cx} {pins : List (Addr × Obj)} {σ : L2.St} {H : Hp} {s : Shared}
theorem keys_read {P : Program} {w : World} : ∀ {es : List DictEntry} {vs : List (Key × Value)} {kvs : List (Key × V)} {h : Heap}, Pairs (mixKind P w) es vs → KV kvs vs → ∃ as, ReadsAll h (es.map (·.key)) (kvs.map fun kv => keyD kv.1) as ∧ as = []
  | _, _, _, h, .nil, .nil => ⟨[], .nil, rfl⟩
  | e :: es, kv :: vs, p :: kvs, h, .cons k1 _ t, .cons r t2 => by
    obtain ⟨as, q, rfl⟩ := keys_read (h := h) t t2
    obtain ⟨c1, e1, e2⟩ := e
    obtain ⟨kk, vv⟩ := p
    have ek : kv.1 = kk := r.1.symm
    rw [ek] at k1
    have kd : Reads h e1 (keyD kk) [] := by
      rcases keyIs_shape k1 with ⟨i, tt, rfl, z⟩ | ⟨x, tt, rfl, z⟩
      · have z : e1 = Value.int i tt := z
        subst z
        exact Reads.int i tt
      · have z : e1 = Value.str x tt := z
        subst z
        exact Reads.str x tt
    exact ⟨_, ReadsAll.cons kd q, rfl⟩
theorem vals_read {P : Program} {w : World} : ∀ {es : List DictEntry} {vs : List (Key × Value)} {kvs : List (Key × V)}, Pairs (mixKind P w) es vs → KV kvs vs → Vals (kvs.map (·.2)) (es.map (·.val))
  | _, _, _, .nil, .nil => .nil
  | e :: es, kv :: vs, p :: kvs, .cons _ e1 t, .cons r t2 => by
    refine .cons ?_ (vals_read t t2)
    show RelV p.2 e.val
    rw [e1]
    exact r.2
theorem zip_fst {α β : Type} : ∀ {l : List α} {m : List β}, l.length = m.length → (l.zip m).map (·.1) = l
  | [], _, _ => rfl
  | a :: l, b :: m, h => by
    show a :: (l.zip m).map (·.1) = a :: l
    rw [zip_fst (Nat.succ.inj h)]
theorem zip_snd {α β : Type} : ∀ {l : List α} {m : List β}, l.length = m.length → (l.zip m).map (·.2) = m
  | [], [], _ => rfl
  | a :: l, b :: m, h => by
    show b :: (l.zip m).map (·.2) = b :: m
    rw [zip_snd (Nat.succ.inj h)]
mutual
theorem Dx.reads (I : Inv X pins σ H s) (S : SmD X.K) : ∀ {d : PyData} {v : V} {u : Value}, Dx X.K H v d → RelV v u → ∃ as, Reads s.heap u d as ∧ sysModules ∉ as
  | _, _, _, .non, r => by
    cases r
    exact ⟨_, Reads.none, by simp⟩
  | _, _, _, .bl b, r => by
    cases r
    exact ⟨_, Reads.bool b, by simp⟩
  | _, _, _, .int i, r => by
    obtain ⟨t, rfl⟩ := r
    exact ⟨_, Reads.int i t, by simp⟩
  | _, _, _, .str x, r => by
    obtain ⟨t, rfl⟩ := r
    exact ⟨_, Reads.str x t, by simp⟩
  | _, _, _, .lst hs ha, r => by
    cases r
    obtain ⟨its, rv, ⟨o, n, ho, hc, _, hd⟩, _⟩ := I.list hs
    obtain ⟨as, hr, hn⟩ := DxAll.reads I S ha rv
    refine ⟨_, Reads.list ho hc hd hr, fun z => ?_⟩
    rcases List.mem_cons.mp z with z | z
    · obtain ⟨om, hm, hmc⟩ := S
      have h2 := I.kIn _ _ hm
      rw [z, ho] at h2
      cases h2
      rw [hc] at hmc
      exact absurd hmc (by decide)
    · exact hn z
  | _, _, _, .tup hs ha, r => by
    cases r
    obtain ⟨its, rv, ⟨o, ho, hc, n, hd⟩, _⟩ := I.tuple hs
    obtain ⟨as, hr, hn⟩ := DxAll.reads I S ha rv
    exact ⟨_, Reads.tuple ho hc hd hr, hn⟩
  | _, _, _, .dic (a := a) (kvs := kvs) (ds := ds) hk ha, r => by
    cases r
    obtain ⟨hz, hsm, vs, rk, o, es, ep, ho, hx, hd, _, hp, _⟩ : kvs.length ≤ sizeLine ∧ (a == sysModules) = false ∧ ∃ vs, KV kvs vs ∧ s.heap.DictOf (mixKind X.prog X.w) a vs := I.hok _ _ hk
    obtain ⟨as, h1, rfl⟩ := keys_read (h := s.heap) hp rk
    obtain ⟨bs, h2, hn⟩ := DxAll.reads I S ha (vals_read hp rk)
    have hl : (kvs.map fun kv => keyD kv.1).length = ds.length := by rw [List.length_map, ← ha.length, List.length_map]
    refine ⟨_, Reads.dict (kvs := (kvs.map fun kv => keyD kv.1).zip ds) ho hx.1 hd (by rw [zip_fst hl]; exact h1) (by rw [zip_snd hl]; exact h2), fun z => ?_⟩
    rcases List.mem_cons.mp z with z | z
    · rw [z] at hsm
      simp at hsm
    · exact hn (by simpa using z)
theorem DxAll.reads (I : Inv X pins σ H s) (S : SmD X.K) : ∀ {ds : List PyData} {vs : List V} {us : List Value}, DxAll X.K H vs ds → Vals vs us → ∃ as, ReadsAll s.heap us ds as ∧ sysModules ∉ as
  | _, _, _, .nil, r => by
    cases r
    exact ⟨_, ReadsAll.nil, by simp⟩
  | _, _, _, .cons h1 h2, r => by
    cases r with
    | cons r1 r2 =>
      obtain ⟨as, q1, n1⟩ := Dx.reads I S h1 r1
      obtain ⟨bs, q2, n2⟩ := DxAll.reads I S h2 r2
      exact ⟨_, ReadsAll.cons q1 q2, fun z => (List.mem_append.mp z).elim n1 n2⟩
end
end
/-- repr(x), x a list, tuple or dict of data -/
def rRepr (K : PySem.W.Frag) : List V → Hp → VK → Prop := fun xs H Q => ∃ (a : Addr) (d : PyData), xs = [.ref a] ∧ Dx K H (.ref a) d ∧ d.showable = true ∧ d.depth ≤ 100 ∧ d.shown.length ≤ sizeLine ∧ Q (.str d.shown) H
theorem call_reprX {X : Cx} (hg : X.A.guards = some []) (hu : X.A.units + 101 < cLine) (S : SmD X.K) : CallR X (.builtin "repr") (rRepr X.K) := by
  intro pins s σ H xs us Q I r h
  obtain ⟨a, d, rfl, hd, hs, hdp, hz, q⟩ := h
  obtain ⟨u, rfl, ru⟩ := vals1 r
  obtain ⟨as, hr, hn⟩ := hd.reads I S ru
  cases (show u = Value.ref a from ru)
  exact repr_of_reads' hr hs (fun _ => hn) hg (by omega) (fun _ _ e => e) (fun h' t tk hk => ⟨.str d.shown, H, I.kept (t' := tk) hk, ⟨_, rfl⟩, q⟩) hz
abbrev FnP (K : PySem.W.Frag) (x : Str) (st : Stmt) (f : Addr) (fd : FuncData) : Prop := FunD K x x (defArgs st) (defBody st) (defScope st) [] [] f fd
section
variable {P : Program} {w : World} {K : PySem.W.Frag} {mg : Str → Option Value} {base : Heap}
theorem getI {ns : List Int} {i : Nat} {y : V} (h : (ns.map V.int)[i]? = some y) : ∃ z, ns[i]? = some z ∧ y = .int z := by
  rw [List.getElem?_map] at h
  cases e : ns[i]? with
  | none => rw [e] at h; cases h
  | some z => rw [e] at h; exact ⟨z, rfl, (Option.some.inj h).symm⟩
theorem sl_of {n : Nat} (h : n ≤ 100000) : n ≤ sizeLine := Nat.le_trans h (by decide)
theorem sc_mixed : FnScope ["_law_draw", "_law_turn", "_law_found", "_law_prime", "_law_blend", "_law_cell"] ["_law_draw"] (defScope s_law_mixed) := ⟨rfl, rfl, rfl, by decide +kernel, rfl, by decide +kernel, by decide +kernel⟩
theorem primes_ok {i : Nat} {y : V} (h : ([V.int 2147483629, V.int 2147483587, V.int 2147483579, V.int 2147483563] : List V)[i]? = some y) : ∃ z : Int, y = .int z ∧ 2147483563 ≤ z ∧ z ≤ 2147483629 := by
  match i, h with
  | 0, h => cases h; exact ⟨_, rfl, by decide, by decide⟩
  | 1, h => cases h; exact ⟨_, rfl, by decide, by decide⟩
  | 2, h => cases h; exact ⟨_, rfl, by decide, by decide⟩
  | 3, h => cases h; exact ⟨_, rfl, by decide, by decide⟩
  | n + 4, h => cases h
theorem ok_mixed {f : Addr} {fd : FuncData} (F : FnP K "_law_mixed" s_law_mixed f fd) (gI : mg "int" = none) : FnOk P w K mg base CX0 1 f fd ["_law_draw"] spMixed := by
  refine F.ok sc_mixed (fun vs H Q E h => ?_) (fun cdv A outer s H vs Q E hr h => ?_)
  · obtain ⟨d, w, c, ws, cs, rest, turn, rfl, _⟩ := h
    rfl
  · obtain ⟨d, w, c, ws, cs, rest, turn, rfl, hT, D, k⟩ := h
    have hu := hu_of hr
    have nd := sc_mixed.nd
    refine ⟨_, PSs.nox (pss_cons (ps_par (i := 1) (j := 2) rfl nd rfl rfl (by decide) rfl rfl (pa_cons (pe_op op_add (pe_dget hu (pv 0) pe_str (fun _ _ => rfl)) pe_int) (pa_cons pe_int pa_nil)) (by rfl))
      (pss_cons (ps_dput hu (pv 0) pe_str (pv 1) rfl)
      (pss_cons (ps_for PassesOwn.never rfl (pi_list (pe_lst (pa_cons pe_int (pa_cons pe_int (pa_cons pe_int (pa_cons pe_int pa_nil)))))) (pg_name (i := 3) nd rfl (Or.inl rfl))
        (pss_cons (ps_set (i := 4) nd rfl (Or.inl rfl) (pe_op op_add (pe_op op_mul pe_int (pv 1)) (pe_op op_fdivN (pv 3) pe_int)))
        (pss_cons (ps_for PassesOwn.never rfl (pi_list (pe_dget hu (pv 0) pe_str (fun _ _ => rfl))) (pg_name (i := 5) nd rfl (Or.inl rfl))
          (pss_one (ps_set (i := 4) nd rfl (Or.inl rfl) (pe_op op_modN (pe_callTy call_int1 (by rfl) gI (by decide +kernel) (pa_cons (pe_op op_add (pe_op op_add (pe_op op_mul (pv 4) pe_int) (pv 5)) (pv 1)) pa_nil)) (pv 3)))))
        (pss_one (ps_set (i := 2) nd rfl (Or.inl rfl) (pe_op op_add (pe_op op_mul (pv 2) pe_int) (pe_op op_modN (pe_callTy call_int1 (by rfl) gI (by decide +kernel) (pa_cons (pe_op op_pow (pv 4) pe_int) pa_nil)) (pv 3))))))))
      (pss_one (ps_ret (pv 2)))))), ?_⟩
    have T0 := D.tn
    refine ⟨_, rfl, d, _, rfl, dget_turn D.hd, _, _, rfl, rfl, _, _, rfl, ?_⟩
    refine ⟨_, rfl, _, rfl, d, _, rfl, dput_turn _ D.hd, ?_⟩
    have D1 := D.setD (t2 := turn + 1) D.rn (by omega)
    have K1 : ∀ b o, H b = some o → b ≠ d → (upd H d (.dK (drK w c rest (turn + 1)))) b = some o := fun b o e n => by rw [upd_ne n]; exact e
    generalize upd H d (.dK (drK w c rest (turn + 1))) = H1 at D1 K1
    refine ⟨sl_of (by decide), fun p hp => ⟨p, rfl, ⟨_, SqL.of upd_same⟩, ?_⟩⟩
    have ndp : d ≠ p := ne_of_none D1.hd hp
    have nwp : w ≠ p := ne_of_none D1.hw hp
    have ncp : c ≠ p := ne_of_none D1.hc hp
    refine for_list (K := K) (a := p) (xs := [V.int 2147483629, V.int 2147483587, V.int 2147483579, V.int 2147483563]) (fun i σ H' => ∃ (fnd : Int) (v3 v4 v5 : Option V), σ = [some (.ref d), some (.int (turn + 1)), some (.int fnd), v3, v4, v5] ∧ 0 ≤ fnd ∧ H' = upd H1 p (.lst [V.int 2147483629, V.int 2147483587, V.int 2147483579, V.int 2147483563]))
      ⟨0, none, none, none, rfl, by decide, rfl⟩ (fun i σ H' _ ⟨_, _, _, _, _, _, e⟩ => by rw [e]; exact SqL.of upd_same) ?_ ?_
    · rintro i y σ H' hi ⟨fnd, v3, v4, v5, rfl, hf, rfl⟩
      obtain ⟨z, rfl, z1, z2⟩ := primes_ok hi
      have z0 : z ≠ 0 := by omega
      have D2 := D1.updo (o := .lst [V.int 2147483629, V.int 2147483587, V.int 2147483579, V.int 2147483563]) ndp.symm nwp.symm ncp.symm
      refine ⟨_, rfl, _, _, rfl, rfl, .inl ⟨by decide, by decide⟩, _, rfl, _, _, rfl, rfl, ⟨by decide, by decide⟩, _, _, rfl, rfl, ?_⟩
      refine ⟨_, rfl, d, _, rfl, dget_cells D2.hd, c, rfl, ⟨_, SqL.of D2.hc⟩, ?_⟩
      have b0 : 0 ≤ 61441 * (turn + 1) + z.fdiv 19 := by
        rw [Int.fdiv_eq_ediv_of_nonneg _ (by decide)]
        omega
      have b1 : 61441 * (turn + 1) + z.fdiv 19 < 2 ^ 63 := by
        rw [Int.fdiv_eq_ediv_of_nonneg _ (by decide)]
        have : turn < 1099511627776 := hT
        omega
      refine for_list (K := K) (a := c) (xs := cs.map V.int) (fun j σ H' => ∃ (bl : Int) (v5 : Option V), σ = [some (.ref d), some (.int (turn + 1)), some (.int fnd), some (.int z), some (.int bl), v5] ∧ 0 ≤ bl ∧ bl < 2 ^ 63 ∧ H' = upd H1 p (.lst [V.int 2147483629, V.int 2147483587, V.int 2147483579, V.int 2147483563]))
        ⟨_, v5, rfl, b0, b1, rfl⟩ (fun j σ H' _ ⟨_, _, _, _, _, e⟩ => by rw [e]; exact SqL.of D2.hc) ?_ ?_
      · rintro j y σ H' hj ⟨bl, v6, rfl, h0, h1, rfl⟩
        obtain ⟨q, _, rfl⟩ := getI hj
        refine ⟨_, rfl, _, _, rfl, rfl, .inr ⟨by decide, by decide⟩, _, rfl, _, _, rfl, rfl, _, rfl, _, _, rfl, rfl, .inl ⟨_, rfl, ?_⟩⟩
        refine ⟨_, rfl, _, _, rfl, rfl, z0, ?_⟩
        have m0 := Int.fmod_nonneg_of_pos (bl * 48271 + q + (turn + 1)) (b := z) (by omega)
        have m1 := Int.fmod_lt_of_pos (bl * 48271 + q + (turn + 1)) (b := z) (by omega)
        exact ⟨_, _, rfl, m0, by omega, rfl⟩
      · rintro σ H' ⟨bl, v6, rfl, h0, h1, rfl⟩
        refine ⟨_, rfl, _, _, rfl, rfl, .inr ⟨by decide, by decide⟩, _, rfl, _, _, rfl, rfl, ⟨by decide, by decide, by omega⟩, .inl ⟨_, rfl, ?_⟩⟩
        refine ⟨_, rfl, _, _, rfl, rfl, z0, _, _, rfl, rfl, ?_⟩
        have m0 := Int.fmod_nonneg_of_pos (bl ^ Int.toNat 5) (b := z) (by omega)
        exact ⟨_, _, _, _, rfl, by omega, rfl⟩
    · rintro σ H' ⟨fnd, v3, v4, v5, rfl, hf, rfl⟩
      refine ⟨_, rfl, ?_⟩
      refine k _ _ hf (D1.updo ndp.symm nwp.symm ncp.symm) fun b o e n => ?_
      have e1 := K1 b o e n
      rw [upd_ne (ne_of_none e1 hp)]
      exact e1
end
section
variable {P : Program} {w : World} {K : PySem.W.Frag} {mg : Str → Option Value} {base : Heap}
theorem sc_take : FnScope ["_law_draw", "_law_many", "_law_found"] ["_law_draw", "_law_many"] (defScope s_law_take) := ⟨rfl, rfl, rfl, by decide +kernel, rfl, by decide +kernel, by decide +kernel⟩
theorem dpAll_ints {K : PySem.W.Frag} {H : Hp} : ∀ ns : List Int, DpAll K H (ns.map V.int) (ns.map PyData.int)
  | [] => .nil
  | n :: ns => .cons (.int n) (dpAll_ints ns)
theorem shaped_lst (ns : List Int) : SeqAt.shaped (.list (ns.map PyData.int)) = true := PySem.W.ke_shaped_ints ns
theorem eqv_nil (ns : List Int) : PyData.eqv (.list (ns.map PyData.int)) (.list []) = ns.isEmpty := by
  cases ns <;> simp [PyData.eqv, PyData.eqvAll]
theorem ok_take {f fM : Addr} {fd fdM : FuncData} (F : FnP K "_law_take" s_law_take f fd) (FM : FnP K "_law_mixed" s_law_mixed fM fdM) (gM : mg "_law_mixed" = some (.ref fM)) (gI : mg "int" = none) : FnOk P w K mg base CX0 2 f fd ["_law_draw", "_law_many"] spTake := by
  have GM : FnOk P w K mg base CX0 1 fM fdM ["_law_draw"] spMixed := ok_mixed FM gI
  have bM : Binds K fdM ["_law_draw"] [] := FM.bindsN fun _ _ _ _ _ _ us hl => match us, hl with | [_], _ => rfl
  refine F.ok sc_take (fun vs H Q E h => ?_) (fun cdv A outer s H vs Q E hr h => ?_)
  · obtain ⟨t, H0, d, n, rfl, _⟩ := h
    rfl
  · obtain ⟨t, H0, d, n, rfl, hD, ht, n0, n1, k⟩ := h
    have hu := hu_of hr
    have nd := sc_take.nd
    obtain ⟨sm, w, c, ws, cs, rest, turn, h1, h2, h3, htu, D⟩ := hD
    refine ⟨_, PSs.nox (pss_cons (ps_if (pt_cmpR op_eq (pe_dget hu (pv 0) pe_str (fun _ _ => rfl)) pe_int (nomark _))
       (pss_one (ps_dput hu (pv 0) pe_str (pe_ifExp (pt_cmpR (op_neD hr.units) (pe_dget hu (pv 0) pe_str (fun _ _ => rfl)) (pe_lst pa_nil) (nomark _))
          (pe_bm PySem.F.plainAttrs_list PySem.F.slot_list_pop PySem.F.type_list_pop mt_popAt (pe_dget hu (pv 0) pe_str (fun _ _ => rfl)) (pa_cons pe_int pa_nil))
          (pe_call GM hr rfl gM FM.kp bM .nil pass0 (pa_cons (pv 0) pa_nil))) rfl)) pss_nil)
      (pss_cons (ps_set (i := 2) nd rfl (.inl rfl) (pe_op op_modN (pe_callTy call_int1 (by rfl) gI (by decide +kernel) (pa_cons (pe_dget hu (pv 0) pe_str (fun _ _ => rfl)) pa_nil)) (pv 1)))
      (pss_cons (ps_dput hu (pv 0) pe_str (pe_op op_fdivW (pe_dget hu (pv 0) pe_str (fun _ _ => rfl)) (pv 1)) rfl)
      (pss_one (ps_ret (pv 2)))))), ?_⟩
    -- what follows the if
    have fin : ∀ (ws : List Int) (rest turn : Int) (H1 : Hp), turn ≤ (t + 1 : Nat) → Same H0 H1 → DrD H1 d w c ws cs rest turn →
        tSeq (tAsg (tOp (rI (fun _ j => j ≠ 0) fun i j => .int (i.fmod j)) (tCB (fun xs H Q => (∃ i, xs = [.int i] ∧ Q (.int i) H) ∨ ∃ k, xs = [.bl k] ∧ Q (.int (if k then 1 else 0)) H) (tCons (tDGet (tVar 0) (tC (.str "rest"))) tNil)) (tVar 1)) (gName 2))
          (tSeq (sDPut (tVar 0) (tC (.str "rest")) (tOp (rI CDivW fun i j => .int (i / j)) (tDGet (tVar 0) (tC (.str "rest"))) (tVar 1))) (tRet (tVar 2))) { nx := fun _ H' => Q .non H', rt := Q } [some (.ref d), some (.int n), none] H1 := by
      intro ws rest turn H1 hle sm1 D1
      refine ⟨_, rfl, d, _, rfl, dget_rest D1.hd, .inl ⟨_, rfl, _, rfl, _, _, rfl, rfl, by omega, ?_⟩⟩
      have r0 := D1.rn
      have q0 : 0 ≤ rest / n := Int.ediv_nonneg r0 (by omega)
      refine ⟨_, rfl, d, _, rfl, dget_rest D1.hd, _, rfl, _, _, rfl, rfl, wide_div n0 (b := 60) (by omega) (by decide) (by decide), _, rfl, d, _, rfl, dput_rest _ D1.hd, _, rfl, ?_⟩
      refine k _ _ (Int.fmod_nonneg_of_pos _ n0) (Int.fmod_lt_of_pos _ n0) ⟨same_sub sm1 h1, w, c, ws, cs, _, turn, h1, h2, h3, hle, D1.setD q0 D1.tn⟩
    refine ⟨_, rfl, d, _, rfl, dget_rest D.hd, rfl, _, rfl, ?_⟩
    by_cases e : rest = 0
    · subst e
      refine iteT ?_
      refine ⟨_, rfl, d, _, rfl, dget_wide D.hd, Nat.zero_le _, fun p hp => ?_⟩
      have ndp : d ≠ p := ne_of_none D.hd hp
      have nwp : w ≠ p := ne_of_none D.hw hp
      have ncp : c ≠ p := ne_of_none D.hc hp
      have D2 := D.updo (o := .lst []) ndp.symm nwp.symm ncp.symm
      refine ⟨_, _, .lst (SqL.of D2.hw) (dpAll_ints ws), .lst (SqL.of upd_same) .nil, shaped_lst ws, shaped_lst [], _, rfl, ?_⟩
      rw [eqv_nil]
      have sm2 : Same H0 (upd H p (.lst [])) := same_sub sm (sm.free hp)
      generalize upd H p (.lst []) = H2 at D2 sm2
      cases ws with
      | nil =>
        refine iteF ?_
        refine ⟨_, rfl, ?_⟩
        refine ⟨d, w, c, [], cs, 0, turn, rfl, by have : t < 1099511627776 := ht; show turn < 1099511627776; omega, D2, fun m H3 m0 D3 k3 => ?_⟩
        refine ⟨_, rfl, d, _, rfl, dput_rest _ D3.hd, ?_⟩
        have sm3 : Same H0 H3 := fun b o e => k3 b o (sm2 b o e) (ne_of_none e h1)
        exact fin _ _ _ _ (by omega) (same_sub sm3 h1) (D3.setD m0 D3.tn)
      | cons m ws =>
        refine iteT ?_
        refine ⟨_, rfl, d, _, rfl, dget_wide D2.hd, .inl ⟨rfl, _, SqL.of D2.hw⟩, w, _, 0, 0, .int m, rfl, rfl, D2.hw, by decide, by decide, ?_, rfl, ?_⟩
        · simp [seqIndex?]
        · have nwd := D2.ne_dw
          refine ⟨_, rfl, d, _, rfl, dput_rest _ (by rw [upd_ne nwd]; exact D2.hd), ?_⟩
          have m0 := D2.wn m (List.mem_cons_self ..)
          have l0 := D2.wl
          rw [List.length_cons] at l0
          have D3 : DrD (upd H2 w (.lst (ws.map V.int))) d w c ws cs 0 turn := ⟨by rw [upd_ne nwd]; exact D2.hd, upd_same, by rw [upd_ne D2.wc.symm]; exact D2.hc, D2.wc, by omega, fun x hx => D2.wn x (List.mem_cons_of_mem _ hx), D2.cl, by decide, D2.tn⟩
          exact fin _ _ _ _ (by omega) (same_sub (same_sub sm2 h2) h1) (D3.setD m0 D3.tn)
    · have e2 : decide (V.int rest = V.int 0) = false := decide_eq_false fun z => e (by injection z)
      rw [e2]
      refine iteF ?_
      exact fin _ _ _ _ (by omega) sm D
end
theorem Same.seqT {K : PySem.W.Frag} {H H' : Hp} {a : Addr} {xs : List V} (e : Same H H') (h : SqT K H a xs) : SqT K H' a xs := by
  rcases h with (h | ⟨o, h⟩) | h
  · exact .inl (.inl (e _ _ h))
  · exact .inl (.inr ⟨o, e _ _ h⟩)
  · exact .inr h
theorem yesIf {σ : L2.St} {H : Hp} {A B : Hp → Prop} (h : A H) : tYes σ H (fun b H3 => if b = true then A H3 else B H3) := by
  show if true = true then A H else B H
  exact iteT h
section
variable {P : Program} {w : World} {K : PySem.W.Frag} {mg : Str → Option Value} {base : Heap}
theorem sc_pick : FnScope ["_law_draw", "_law_some"] ["_law_draw", "_law_some"] (defScope s_law_pick) := ⟨rfl, rfl, rfl, by decide +kernel, rfl, by decide +kernel, by decide +kernel⟩
theorem toNat_get {xs : List V} {k : Int} (h0 : 0 ≤ k) (h1 : k < (xs.length : Int)) : ∃ v, v ∈ xs ∧ xs[k.toNat]? = some v := by
  have h : k.toNat < xs.length := by omega
  exact ⟨xs[k.toNat], List.getElem_mem h, List.getElem?_eq_getElem h⟩
theorem atI_int {α : Type} {xs : List α} {k : Int} {v : α} (h0 : 0 ≤ k) (h : xs[k.toNat]? = some v) : atI xs k = some v := by
  have e : ((k.toNat : Nat) : Int) = k := by omega
  rw [← e]
  exact atI_nat h
theorem ok_pick {f fT : Addr} {fd fdT : FuncData} (F : FnP K "_law_pick" s_law_pick f fd) (gT : mg "_law_take" = some (.ref fT)) (kT : PySem.W.keepIn K (.ref fT) = true) (bT : Binds K fdT ["_law_draw", "_law_many"] []) (GT : FnOk P w K mg base CX0 2 fT fdT ["_law_draw", "_law_many"] spTake) (gL : mg "len" = none) :
    FnOk P w K mg base CX0 3 f fd ["_law_draw", "_law_some"] (spPick K) := by
  refine F.ok sc_pick (fun vs H Q E h => ?_) (fun cdv A outer s H vs Q E hr h => ?_)
  · obtain ⟨t, H0, d, x, xs, rfl, _⟩ := h
    rfl
  · obtain ⟨t, H0, d, x, xs, rfl, hD, ht, hx, l0, l1, k⟩ := h
    refine ⟨_, PSs.nox (pss_one (ps_ret (pe_ix ix_seq (pv 1) (pe_call GT hr rfl gT kT bT .nil pass0 (pa_cons (pv 0) (pa_cons (pe_callB call_len (by rfl) gL PySem.boot_len (pa_cons (pv 1) pa_nil)) pa_nil))) (fun _ _ => rfl)))), ?_⟩
    have hl : LenV K x H xs.length := by
      cases hx with
      | lst h => exact .inl ⟨_, hD.same.seq h, rfl⟩
      | tup h => exact .inr ⟨_, Same.seqT hD.same h, rfl⟩
      | str h =>
        rw [List.length_map]
        exact ⟨sl_of h, rfl⟩
    refine ⟨_, rfl, _, rfl, _, rfl, _, _, rfl, hl, ?_⟩
    refine ⟨t, H0, d, xs.length, rfl, hD, ht, by omega, by omega, fun i H' i0 i1 hD' => ?_⟩
    obtain ⟨v, hv, hg⟩ := toNat_get i0 i1
    have q := k v H' hv hD'
    cases hx with
    | lst h => exact .inl ⟨_, _, _, _, rfl, rfl, hD'.same.seq h, atI_int i0 hg, q⟩
    | tup h => exact .inr (.inl ⟨_, _, _, _, rfl, rfl, Same.seqT hD'.same h, atI_int i0 hg, q⟩)
    | @str z h =>
      rw [List.getElem?_map] at hg
      cases e : z.cps.toList[i.toNat]? with
      | none => rw [e] at hg; cases hg
      | some c =>
        rw [e] at hg
        cases (Option.some.inj hg)
        exact .inr (.inr ⟨_, _, _, rfl, rfl, sl_of h, atI_int i0 e, q⟩)
theorem sc_begun : FnScope ["_law_script", "_law_wide", "_law_cell"] ["_law_script"] (defScope s_law_begun) := ⟨rfl, rfl, rfl, by decide +kernel, rfl, by decide +kernel, by decide +kernel⟩
theorem ok_begun {f : Addr} {fd : FuncData} (F : FnP K "_law_begun" s_law_begun f fd) (gI : mg "int" = none) (gA : mg "abs" = none) : FnOk P w K mg base CX0 1 f fd ["_law_script"] (spBegun K) := by
  refine F.ok sc_begun (fun vs H Q E h => ?_) (fun cdv A outer s H vs Q E hr h => ?_)
  · obtain ⟨a, ns, rfl, _⟩ := h
    rfl
  · obtain ⟨a, ns, rfl, hS, hl, k⟩ := h
    have hu := hu_of hr
    have nd := sc_begun.nd
    refine ⟨_, PSs.nox (pss_cons (ps_setLc (i := 1) (own := [("_law_cell", 2)]) (g := gName 2) rfl nd rfl rfl (sw_true rfl rfl rfl (by decide +kernel)) (pi_list (pv 0)) (blkOk_by (own := [("_law_cell", 2)]) (N := ["_law_script", "_law_wide", "_law_cell"]) (sc := defScope s_law_begun) (by decide +kernel))
        (fun _ _ _ _ _ => pg_name (i := 2) nd rfl (Or.inl rfl))
        (fun _ _ _ _ _ => pts_one (pt_cmpR op_ge (pe_callB call_abs (by rfl) gA (by decide +kernel) (pa_cons (pv 2) pa_nil)) (pe_op op_pow pe_int pe_int) (nomark _)))
        (fun _ _ _ _ _ => pe_op op_sub (pe_callB call_abs (by rfl) gA (by decide +kernel) (pa_cons (pv 2) pa_nil)) (pe_op op_pow pe_int pe_int)))
      (pss_one (ps_ret (pe_disp (pps_cons pe_str (pv 1) (pps_cons pe_str
        (pe_lc (own := [("_law_cell", 2)]) (g := gName 2) rfl nd (pi_list (pv 0)) (blkOk_by (own := [("_law_cell", 2)]) (N := ["_law_script", "_law_wide", "_law_cell"]) (sc := defScope s_law_begun) (by decide +kernel))
          (fun _ _ _ _ _ => pg_name (i := 2) nd rfl (Or.inl rfl)) (fun _ _ _ _ _ => pts_nil)
          (fun _ _ _ _ _ => pe_op op_modN (pe_callTy call_int1 (by rfl) gI (by decide +kernel) (pa_cons (pe_callB call_abs (by rfl) gA (by decide +kernel) (pa_cons (pv 2) pa_nil)) pa_nil)) pe_int))
        (pps_cons pe_str pe_int (pps_cons pe_str pe_int pps_nil)))) (by rfl) (by rfl) (fun z => by cases z) (by decide))))), ?_⟩
    refine ⟨_, rfl, a, rfl, ⟨_, hS⟩, fun D hD => ?_⟩
    have sD : ∀ o, Same H (upd H D o) := fun o => same_new hD
    refine lc_list (K := K) (a := a) (xs := ns.map V.int) (fun i H' => ∃ acc : List Int, H' = upd H D (.lst (acc.map V.int)) ∧ acc.length ≤ i ∧ ∀ x ∈ acc, 0 ≤ x) ⟨[], rfl, Nat.le_refl _, by simp⟩ (fun i H' _ ⟨acc, e, _⟩ => by rw [e]; exact (sD _).seq hS) ?_ ?_
    · rintro i x H' hi ⟨acc, rfl, hal, ha⟩
      obtain ⟨z, hz, rfl⟩ := getI hi
      have hil : i < ns.length := (List.getElem?_eq_some_iff.mp hz).1
      refine ⟨rfl, ?_⟩
      refine ⟨_, rfl, _, rfl, _, _, rfl, rfl, ⟨by decide, by decide, by decide⟩, _, _, rfl, rfl, _, rfl, ?_⟩
      refine ite2 (fun c => ?_) (fun c => ?_)
      · have c1 := of_decide_eq_true c
        refine ⟨_, rfl, _, rfl, _, _, rfl, rfl, ⟨by decide, by decide, by decide⟩, _, _, rfl, rfl, _, upd_same, ?_, acc ++ [(if z < 0 then -z else z) - 10 ^ Int.toNat 18], ?_, ?_, ?_⟩
        · rw [List.length_map]
          exact Nat.lt_of_lt_of_le (show acc.length < 64 by omega) (by decide)
        · rw [upd_upd, List.map_append]
          rfl
        · rw [List.length_append]
          exact Nat.succ_le_succ hal
        · intro x hx
          rcases List.mem_append.mp hx with h | h
          · exact ha x h
          · rw [List.mem_singleton.mp h]
            omega
      · exact ⟨acc, rfl, by omega, ha⟩
    · rintro H' ⟨ws, rfl, hwl, hw⟩
      rw [List.length_map] at hwl
      intro p hp
      have npD : p ≠ D := fun z => by rw [z, upd_same] at hp; cases hp
      have s1 : Same H (upd (upd H D (.lst (ws.map V.int))) p (.dK [])) := (sD _).trans (same_new hp)
      refine ⟨_, rfl, ?_⟩
      refine ⟨_, rfl, a, rfl, ⟨_, s1.seq hS⟩, fun D2 hD2 => ?_⟩
      have nDD : D ≠ D2 := fun z => by rw [← z, upd_ne npD.symm, upd_same] at hD2; cases hD2
      have npD2 : p ≠ D2 := fun z => by rw [← z, upd_same] at hD2; cases hD2
      refine lc_list (K := K) (a := a) (xs := ns.map V.int) (fun i H' => ∃ acc : List Int, H' = upd (upd (upd H D (.lst (ws.map V.int))) p (.dK [])) D2 (.lst (acc.map V.int)) ∧ acc.length ≤ i) ⟨[], rfl, Nat.le_refl _⟩ (fun i H' _ ⟨acc, e, _⟩ => by rw [e]; exact (s1.trans (same_new hD2)).seq hS) ?_ ?_
      · rintro i x H' hi ⟨acc, rfl, hal⟩
        obtain ⟨z, hz, rfl⟩ := getI hi
        have hil : i < ns.length := (List.getElem?_eq_some_iff.mp hz).1
        refine ⟨rfl, yesIf ?_⟩
        refine ⟨_, rfl, _, rfl, .inl ⟨_, rfl, _, _, rfl, rfl, (show (2147483629 : Int) ≠ 0 by decide), ?_⟩⟩
        refine ⟨_, upd_same, ?_, acc ++ [(if z < 0 then -z else z).fmod 2147483629], ?_, ?_⟩
        · rw [List.length_map]
          exact Nat.lt_of_lt_of_le (show acc.length < 64 by omega) (by decide)
        · rw [upd_upd, List.map_append]
          rfl
        · rw [List.length_append]
          exact Nat.succ_le_succ hal
      · rintro H' ⟨cs, rfl, hcl⟩
        rw [List.length_map] at hcl
        refine ⟨by rw [upd_ne npD2, upd_same], drK D D2 0 0, rfl, (show 4 ≤ 15 by decide), ?_⟩
        rw [dr_made]
        have hpn : H p = none := (sD _).free hp
        have hD2n : H D2 = none := s1.free hD2
        refine k _ p ⟨fun b o e => ?_, D, D2, ws, cs, 0, 0, hpn, hD, hD2n, Int.le_refl _, ⟨upd_same, ?_, ?_, nDD, by omega, hw, by omega, Int.le_refl _, Int.le_refl _⟩⟩ hpn
        · rw [upd_ne (ne_of_none e hpn), upd_ne (ne_of_none e hD2n), upd_ne (ne_of_none e hpn), upd_ne (ne_of_none e hD)]
          exact e
        · rw [upd_ne npD.symm, upd_ne nDD, upd_ne npD.symm, upd_same]
        · rw [upd_ne npD2.symm, upd_same]
end
/-! ## texts as lists of codes -/
def sT (t : List Nat) : Str := ⟨t.toArray⟩
theorem sT_len (t : List Nat) : (sT t).length = t.length := by show t.toArray.size = t.length; simp
theorem sT_cps (t : List Nat) : (sT t).cps.toList = t := by show t.toArray.toList = t; simp
theorem sT_of (z : Str) : sT z.cps.toList = z := by cases z; simp [sT]
theorem sT_inj {a b : List Nat} (h : sT a = sT b) : a = b := by rw [← sT_cps a, ← sT_cps b, h]
def chV (c : Nat) : V := .str ⟨#[c]⟩
theorem chV_sT (c : Nat) : chV c = .str (sT [c]) := rfl
theorem cut_nat (t : List Nat) (a b : Nat) : cutS (sT t) (some (a : Int)) (some (b : Int)) = sT ((t.drop a).take (b - a)) := by
  unfold cutS
  rw [sT_len, sT_cps, HT.sIx_nat, HT.sIx_nat]
  unfold sT
  congr 2
  apply List.ext_getElem?
  intro i
  simp only [List.getElem?_take, List.getElem?_drop]
  by_cases h : a ≤ t.length
  · rw [Nat.min_eq_left h]
    by_cases h2 : b ≤ t.length
    · rw [Nat.min_eq_left h2]
    · rw [Nat.min_eq_right (by omega)]
      by_cases h3 : i < t.length - a
      · rw [if_pos h3, if_pos (by omega)]
      · rw [if_neg h3]
        by_cases h4 : i < b - a
        · rw [if_pos h4, List.getElem?_eq_none (by omega)]
        · rw [if_neg h4]
  · rw [Nat.min_eq_right (show t.length ≤ a by omega), if_neg (by omega)]
    by_cases h4 : i < b - a
    · rw [if_pos h4, List.getElem?_eq_none (by omega)]
    · rw [if_neg h4]
theorem cut_from (t : List Nat) (a : Nat) : cutS (sT t) (some (a : Int)) none = sT (t.drop a) := by
  unfold cutS
  rw [sT_len, sT_cps, HT.sIx_nat, HT.sIx_none]
  unfold sT
  congr 2
  apply List.ext_getElem?
  intro i
  simp only [List.getElem?_take, List.getElem?_drop]
  by_cases h : a ≤ t.length
  · rw [Nat.min_eq_left h]
    by_cases h3 : i < t.length - a
    · rw [if_pos h3]
    · rw [if_neg h3, List.getElem?_eq_none (by omega)]
  · rw [Nat.min_eq_right (by omega), if_neg (by omega), List.getElem?_eq_none (by omega)]
theorem cut_to (t : List Nat) (b : Nat) : cutS (sT t) none (some (b : Int)) = sT (t.take b) := by
  have h := cut_nat t 0 b
  rw [List.drop_zero, Nat.sub_zero] at h
  rw [← h]
  unfold cutS
  rw [HT.sIx_none]
  rfl
def isSmall (c : Nat) : Bool := decide (97 ≤ c) && decide (c ≤ 122)
def isBig (c : Nat) : Bool := decide (65 ≤ c) && decide (c ≤ 90)
def isFig (c : Nat) : Bool := decide (48 ≤ c) && decide (c ≤ 57)
def isInner (c : Nat) : Bool := isSmall c || isBig c || isFig c || decide (c = 95)
def isGood (c : Nat) : Bool := decide (c = 10) || (decide (32 ≤ c) && decide (c ≤ 126) && !decide (c = 37))
theorem cps_small : ("abcdefghijklmnopqrstuvwxyz" : Str).cps.toList = [97, 98, 99, 100, 101, 102, 103, 104, 105, 106, 107, 108, 109, 110, 111, 112, 113, 114, 115, 116, 117, 118, 119, 120, 121, 122] := by decide +kernel
theorem cps_fig : ("0123456789" : Str).cps.toList = [48, 49, 50, 51, 52, 53, 54, 55, 56, 57] := by decide +kernel
theorem cps_inner : ("abcdefghijklmnopqrstuvwxyzABCDEFGHIJKLMNOPQRSTUVWXYZ0123456789_" : Str).cps.toList = [97, 98, 99, 100, 101, 102, 103, 104, 105, 106, 107, 108, 109, 110, 111, 112, 113, 114, 115, 116, 117, 118, 119, 120, 121, 122, 65, 66, 67, 68, 69, 70, 71, 72, 73, 74, 75, 76, 77, 78, 79, 80, 81, 82, 83, 84, 85, 86, 87, 88, 89, 90, 48, 49, 50, 51, 52, 53, 54, 55, 56, 57, 95] := by decide +kernel
theorem cps_blank : (" \n" : Str).cps.toList = [32, 10] := by decide +kernel
theorem mem_small (c : Nat) : decide (c ∈ ("abcdefghijklmnopqrstuvwxyz" : Str).cps.toList) = isSmall c := by
  rw [cps_small]
  unfold isSmall
  rw [← Bool.decide_and]
  apply decide_eq_decide.mpr
  simp only [List.mem_cons, List.not_mem_nil, or_false]
  omega
theorem mem_fig (c : Nat) : decide (c ∈ ("0123456789" : Str).cps.toList) = isFig c := by
  rw [cps_fig]
  unfold isFig
  rw [← Bool.decide_and]
  apply decide_eq_decide.mpr
  simp only [List.mem_cons, List.not_mem_nil, or_false]
  omega
theorem mem_inner (c : Nat) : decide (c ∈ ("abcdefghijklmnopqrstuvwxyzABCDEFGHIJKLMNOPQRSTUVWXYZ0123456789_" : Str).cps.toList) = isInner c := by
  rw [cps_inner]
  unfold isInner isSmall isBig isFig
  rw [← Bool.decide_and, ← Bool.decide_and, ← Bool.decide_and, ← Bool.decide_or, ← Bool.decide_or, ← Bool.decide_or]
  apply decide_eq_decide.mpr
  simp only [List.mem_cons, List.not_mem_nil, or_false]
  omega
theorem mem_blank (c : Nat) : decide (c ∈ (" \n" : Str).cps.toList) = (decide (c = 32) || decide (c = 10)) := by
  rw [cps_blank, ← Bool.decide_or]
  apply decide_eq_decide.mpr
  simp only [List.mem_cons, List.not_mem_nil, or_false]
/-- c between two signs, as the law says it -/
theorem le_sign (a c : Nat) : (!decide ([c] < [a])) = decide (a ≤ c) := by
  rw [← decide_not]
  apply decide_eq_decide.mpr
  rw [List.cons_lt_cons_iff]
  simp
/-! the longest word that begins a rest -/
def isLong : List Nat → Bool
  | [] => false
  | c :: r => isInner c || (decide (c = 45) && (match r with | [] => false | d :: _ => isFig d))
theorem isLong_cons (c : Nat) (r : List Nat) : isLong (c :: r) = (isInner c || (decide (c = 45) && (match r with | [] => false | d :: _ => isFig d))) := rfl
def wl (t : List Nat) : Nat := if isLong t = true then 1 + ((t.drop 1).takeWhile isInner).length else if t.take 2 = [60, 61] ∨ t.take 2 = [61, 61] then 2 else 1
theorem take_prefix_tw (p : Nat → Bool) : ∀ t : List Nat, (t.takeWhile p).length ≤ t.length
  | [] => Nat.le_refl _
  | c :: r => by
    unfold List.takeWhile
    split
    · exact Nat.succ_le_succ (take_prefix_tw p r)
    · exact Nat.zero_le _
theorem wl_pos (t : List Nat) : 1 ≤ wl t := by unfold wl; split <;> try split <;> omega
                                               all_goals omega
theorem wl_le {t : List Nat} (h : t ≠ []) : wl t ≤ t.length := by
  obtain ⟨c, r, rfl⟩ := List.exists_cons_of_ne_nil h
  unfold wl
  split
  · have := take_prefix_tw isInner r
    simp only [List.drop_one, List.tail_cons, List.length_cons]
    omega
  · split
    · rename_i q
      have : ((c :: r).take 2).length = 2 := by rcases q with q | q <;> rw [q] <;> rfl
      rw [List.length_take] at this
      omega
    · simp
theorem tw_take (p : Nat → Bool) : ∀ t : List Nat, (t.take (t.takeWhile p).length).takeWhile p = t.takeWhile p
  | [] => rfl
  | c :: r => by
    by_cases h : p c = true
    · have e : (c :: r).takeWhile p = c :: r.takeWhile p := by simp [List.takeWhile, h]
      rw [e, List.length_cons, List.take_succ_cons]
      simp only [List.takeWhile, h]
      rw [tw_take p r]
    · have e : (c :: r).takeWhile p = [] := by simp [List.takeWhile, h]
      rw [e]
      rfl
theorem wl_take {t : List Nat} (h : t ≠ []) : wl (t.take (wl t)) = wl t := by
  obtain ⟨c, r, rfl⟩ := List.exists_cons_of_ne_nil h
  by_cases hl : isLong (c :: r) = true
  · have e : wl (c :: r) = 1 + (r.takeWhile isInner).length := by unfold wl; rw [if_pos hl]; rfl
    rw [e, Nat.add_comm, List.take_succ_cons]
    have hl2 : isLong (c :: r.take (r.takeWhile isInner).length) = true := by
      rw [isLong_cons] at hl ⊢
      cases hi : isInner c with
      | true => rfl
      | false =>
        rw [hi, Bool.false_or] at hl
        rw [Bool.false_or]
        cases r with
        | nil => simpa using hl
        | cons d q =>
          simp only [Bool.and_eq_true] at hl
          have hd : isInner d = true := by unfold isInner; rw [hl.2]; simp
          simp only [List.takeWhile, hd, List.length_cons, List.take_succ_cons, Bool.and_eq_true]
          exact hl
    unfold wl
    rw [if_pos hl2]
    simp only [List.drop_one, List.tail_cons]
    rw [tw_take, Nat.add_comm]
  · have hlf : isLong (c :: r) = false := by simpa using hl
    by_cases q : (c :: r).take 2 = [60, 61] ∨ (c :: r).take 2 = [61, 61]
    · have e : wl (c :: r) = 2 := by unfold wl; rw [if_neg hl, if_pos q]
      rw [e]
      rcases q with q | q <;> rw [q] <;> rfl
    · have e : wl (c :: r) = 1 := by unfold wl; rw [if_neg hl, if_neg q]
      rw [e]
      have h1 : ([c] : List Nat).take 2 ≠ [60, 61] ∧ ([c] : List Nat).take 2 ≠ [61, 61] := ⟨by simp, by simp⟩
      show wl [c] = 1
      unfold wl
      split
      · rfl
      · rw [if_neg (by simp)]
/-- a text's words with their places -/
def cutF : Nat → List Nat → Nat → Nat → List (List Nat × Nat × Nat)
  | 0, _, _, _ => []
  | _ + 1, [], _, _ => []
  | n + 1, c :: r, l, k => if c = 10 then cutF n r (l + 1) 1 else if c = 32 then cutF n r l (k + 1) else ((c :: r).take (wl (c :: r)), l, k) :: cutF n ((c :: r).drop (wl (c :: r))) l (k + wl (c :: r))
abbrev cutT (t : List Nat) : List (List Nat × Nat × Nat) := cutF t.length t 1 1
theorem cutF_nil (n l k : Nat) : cutF n [] l k = [] := by cases n <;> rfl
theorem cutF_mem {n : Nat} : ∀ {t : List Nat} {l k : Nat} {x : List Nat × Nat × Nat}, x ∈ cutF n t l k → (∀ c ∈ x.1, c ∈ t) ∧ x.1 ≠ [] ∧ x.1.length ≤ t.length ∧ cutT x.1 = [(x.1, 1, 1)] := by
  induction n with
  | zero => intro t l k x h; cases h
  | succ n ih =>
    intro t l k x h
    cases t with
    | nil => cases h
    | cons c r =>
      unfold cutF at h
      split at h
      · obtain ⟨h1, h2, h3, h4⟩ := ih h
        exact ⟨fun d hd => List.mem_cons_of_mem _ (h1 d hd), h2, by simp only [List.length_cons]; omega, h4⟩
      · split at h
        · obtain ⟨h1, h2, h3, h4⟩ := ih h
          exact ⟨fun d hd => List.mem_cons_of_mem _ (h1 d hd), h2, by simp only [List.length_cons]; omega, h4⟩
        · rename_i n1 n2
          rcases List.mem_cons.mp h with h | h
          · subst h
            have p1 := wl_pos (c :: r)
            have p2 := wl_le (t := c :: r) (by simp)
            have ht := wl_take (t := c :: r) (by simp)
            have e : (c :: r).take (wl (c :: r)) = c :: r.take (wl (c :: r) - 1) := by
              obtain ⟨m, hm⟩ : ∃ m, wl (c :: r) = m + 1 := ⟨wl (c :: r) - 1, by omega⟩
              rw [hm, List.take_succ_cons]; rfl
            refine ⟨fun d hd => List.mem_of_mem_take hd, by simp only [e]; simp, by simp only [List.length_take]; omega, ?_⟩
            have hlen : ((c :: r).take (wl (c :: r))).length = wl (c :: r) := by rw [List.length_take]; omega
            show cutF ((c :: r).take (wl (c :: r))).length _ 1 1 = _
            obtain ⟨m, hm⟩ : ∃ m, ((c :: r).take (wl (c :: r))).length = m + 1 := ⟨wl (c :: r) - 1, by omega⟩
            rw [hm]
            generalize hw : (c :: r).take (wl (c :: r)) = w at *
            rw [e]
            unfold cutF
            rw [if_neg n1, if_neg n2, ← e, ht, List.take_of_length_le (by omega), List.drop_of_length_le (by omega), cutF_nil]
          · obtain ⟨h1, h2, h3, h4⟩ := ih h
            refine ⟨fun d hd => List.mem_of_mem_drop (h1 d hd), h2, ?_, h4⟩
            rw [List.length_drop] at h3
            omega
theorem cutF_len {n : Nat} : ∀ {t : List Nat} {l k : Nat}, (cutF n t l k).length ≤ t.length := by
  induction n with
  | zero => intro t l k; exact Nat.zero_le _
  | succ n ih =>
    intro t l k
    cases t with
    | nil => exact Nat.zero_le _
    | cons c r =>
      unfold cutF
      split
      · exact Nat.le_succ_of_le ih
      · split
        · exact Nat.le_succ_of_le ih
        · have h := ih (t := (c :: r).drop (wl (c :: r))) (l := l) (k := k + wl (c :: r))
          rw [List.length_drop] at h
          have := wl_pos (c :: r)
          have := wl_le (t := c :: r) (by simp)
          simp only [List.length_cons] at *
          omega
/-! sorts -/
def keptV : List V := [V.str "and", V.str "at", V.str "choice", V.str "else", V.str "fail", V.str "false", V.str "function", V.str "if", V.str "let", V.str "long", V.str "make", V.str "match", V.str "new", V.str "not", V.str "number", V.str "of", V.str "or", V.str "over", V.str "put", V.str "rest", V.str "return", V.str "row", V.str "set", V.str "show", V.str "true", V.str "truth", V.str "try", V.str "unit", V.str "uses", V.str "while"]
def signsV : List V := [V.str "(", V.str ")", V.str "{", V.str "}", V.str ",", V.str ":", V.str "=", V.str "|", V.str "+", V.str "-", V.str "*", V.str "<", V.str "<=", V.str "=="]
def keptB (t : List Nat) : Bool := inV (.str (sT t)) keptV
def signB (t : List Nat) : Bool := inV (.str (sT t)) signsV
def nameB (t : List Nat) : Bool := decide (1 ≤ t.length) && decide (t.length ≤ 8) && !keptB t && t.all isSmall
def figsOf (t : List Nat) : List Nat := if t.take 1 = [45] then t.drop 1 else t
def numB (t : List Nat) : Bool := !decide (figsOf t = []) && (figsOf t).all isFig && (decide (t = [48]) || !decide ((figsOf t).take 1 = [48]))
def goodB (t : List Nat) : Bool := t.all isGood
def sortF (t : List Nat) : Str := if keptB t = true ∨ signB t = true then sT t else if numB t = true then "figures" else if nameB t = true then "name" else "strange"
theorem name_num {t : List Nat} (h : nameB t = true) : numB t = false := by
  unfold nameB at h
  simp only [Bool.and_eq_true, decide_eq_true_eq, List.all_eq_true] at h
  obtain ⟨⟨⟨h1, _⟩, _⟩, h2⟩ := h
  cases t with
  | nil => simp at h1
  | cons c r =>
    have hc := h2 c (List.mem_cons_self ..)
    unfold isSmall at hc
    simp only [Bool.and_eq_true, decide_eq_true_eq] at hc
    unfold numB figsOf
    rw [if_neg (by simp; omega)]
    have : isFig c = false := by unfold isFig; simp; omega
    simp [this]
/-! ## f'{n:b}', int(t, 2), repr of data of any kind -/
/-- signs 0 and 1 -/
def bit (b : Bool) : Nat := if b then 49 else 48
def bT (l : List Bool) : List Nat := l.map bit
def bv (b : Bool) : Nat := if b then 1 else 0
def valB (l : List Bool) : Nat := l.foldl (fun a b => a * 2 + bv b) 0
namespace Bq
open PySem PyProof.Rows
def specB : Builtin.Float.FormatSpec := { align := 62, type := some 98 }
theorem fmt_tree (a : Nat) (t u : Tok) : Builtin.«int.__format__» ⟨[.int (.ofNat a) t, .str "b" u], []⟩ = retStr (intField' specB false [] ((Nat.toDigits 2 a).map Char.toNat) [] 4) := by
  kernel_rfl
theorem field_plain (ds : List Nat) (h : ds ≠ []) : intField' specB false [] ds [] 4 = ⟨ds.toArray⟩ := by
  obtain ⟨d, r, rfl⟩ := List.exists_cons_of_ne_nil h
  unfold intField' specB
  simp
  omega
theorem digits_ne (a : Nat) : (Nat.toDigits 2 a).map Char.toNat ≠ [] := by
  intro z
  have h := Nat.length_toDigits_pos (b := 2) (n := a)
  rw [List.map_eq_nil_iff] at z
  rw [z] at h
  exact Nat.lt_irrefl 0 h
theorem gives_bin (a : Nat) (t u : Tok) : Gives (Builtin.«int.__format__» ⟨[.int (a : Int) t, .str "b" u], []⟩) (.str ⟨((Nat.toDigits 2 a).map Char.toNat).toArray⟩) := by
  refine .of_eq ((fmt_tree a t u).trans ?_)
  rw [field_plain _ (digits_ne a)]
  rfl
open PySem.NumText Hx
theorem dig2 (b : Bool) : digit? (bit b) = some (bv b) := by cases b <;> rfl
theorem stp2 (ds : Array Nat) (z : Bool) (b : Bool) : PySem.NumText.step 2 (ds, z) (bit b) = some (ds.push (bv b), true) := by cases b <;> rfl
theorem run2 : ∀ (l : List Bool) (ds : Array Nat), (bT l).foldlM (PySem.NumText.step 2) (ds, true) = some (l.foldl (fun z b => z.push (bv b)) ds, true)
  | [], _ => rfl
  | b :: l, ds => by
    show (bit b :: bT l).foldlM _ _ = _
    rw [List.foldlM_cons, stp2]
    exact run2 l _
theorem sum2 : ∀ (l : List Bool) (ds : Array Nat), (l.foldl (fun z b => z.push (bv b)) ds).foldl (fun a d => a * 2 + d) 0 = l.foldl (fun a b => a * 2 + bv b) (ds.foldl (fun a d => a * 2 + d) 0)
  | [], _ => rfl
  | b :: l, ds => by
    rw [List.foldl_cons, List.foldl_cons, sum2 l]
    simp
theorem bit_rng (b : Bool) : 33 ≤ bit b ∧ bit b ≠ 45 ∧ bit b ≠ 43 ∧ bit b ≤ 49 := by cases b <;> decide
theorem drop2 : ∀ l : List Bool, (bT l).dropWhile blank = bT l
  | [] => rfl
  | b :: _ => dropWhile_of (bit_rng b).1
theorem sgn2 : ∀ l : List Bool, sign (bT l) = (false, bT l)
  | [] => rfl
  | b :: _ => sign_of (bit_rng b).2.1 (bit_rng b).2.2.1
theorem bas2 : ∀ l : List Bool, based 2 (bT l) = (2, false, bT l)
  | [] => rfl
  | [b] => by cases b <;> rfl
  | b :: c :: l => by cases b <;> cases c <;> rfl
theorem rev2 (l : List Bool) : (bT l).reverse = bT l.reverse := (List.map_reverse ..).symm
theorem dgs2 (l : List Bool) (h : l ≠ []) : digits? 2 (bT l) = some (l.foldl (fun z b => z.push (bv b)) #[]) := by
  obtain ⟨b, r, rfl⟩ := List.exists_cons_of_ne_nil h
  unfold digits?
  rw [show bT (b :: r) = bit b :: bT r from rfl, List.foldlM_cons, stp2]
  show Option.bind ((bT r).foldlM (PySem.NumText.step 2) ((#[] : Array Nat).push (bv b), true)) _ = _
  rw [run2]
  rfl
theorem num2 (l : List Bool) (h : l ≠ []) : (int_private% "readNumeral") 0 2 (bT l) = (int_private% "Numeral.value") ((valB l : Nat) : Int) := by
  rw [readNumeral_eq, drop2, sgn2, bas2]
  show judge 0 false 2 false (digits? 2 (((bT l).reverse.dropWhile blank).reverse)) = _
  rw [rev2, drop2, ← rev2, List.reverse_reverse, dgs2 l h]
  show (int_private% "Numeral.value") (((l.foldl (fun z b => z.push (bv b)) (#[] : Array Nat)).foldl (fun a d => a * 2 + d) 0 : Nat) : Int) = _
  rw [sum2]
  rfl
end Bq
section
variable {X : Cx}
/-- f'{e:b}', e not negative -/
def tBin (te : TE) : TE := fun σ H Q => te σ H fun x H1 => ∃ a : Nat, x = .int (a : Int) ∧ (Nat.toDigits 2 a).length ≤ sizeLine ∧ Q (.str (sT ((Nat.toDigits 2 a).map Char.toNat))) H1
theorem pe_bin {e : Expr} {te : TE} {j : Nat} {p1 p2 p3 p4 : Pos} (he : PE X e te) : PE X (.JoinedStr [.FormattedValue e (-1) (some (.JoinedStr [.Constant (.str "b") j p1] p2)) p3] p4) (tBin te) := by
  refine ⟨fun pins s σ H Q I h => wpAny_JoinedStr_one (wpAny_FormattedValue_spec (thn (he.run pins s σ H _ I h) fun v s1 ⟨x, H1, I1, r1, a, ex, hl, q⟩ => ?_))⟩
  subst ex
  obtain ⟨t, rfl⟩ := r1
  refine wpAny_JoinedStr_one (Calls.Constant_str ⟨_, _, rfl, ?_⟩)
  refine wpAny_formatField_spec (by decide) (fun s' => typeIs_int s' _ t) F.slot_int_format F.entry_int_format F.args_int_format_2 (fun u => Bq.gives_bin a t u) ?_ (by decide) (by show (_ : List Nat).toArray.size ≤ _; simpa using hl)
  exact ⟨.str (sT ((Nat.toDigits 2 a).map Char.toNat)), H1, (I1.tok _).tok _, ⟨_, rfl⟩, q⟩
def rInt2 : List V → Hp → VK → Prop := fun xs H Q => ∃ l : List Bool, xs = [.str (sT (bT l)), .int 2] ∧ l ≠ [] ∧ l.length ≤ 640 ∧ Q (.int ((valB l : Nat) : Int)) H
end
namespace Bq
open PySem PySem.Calls PyProof.Rows Hx
theorem hexs (l : List Bool) : ∀ c ∈ (sT (bT l)).cps.toList, IsHex c := by
  intro c hc
  rw [sT_cps] at hc
  obtain ⟨b, _, rfl⟩ := List.mem_map.mp hc
  refine .inl ?_
  cases b <;> decide
set_option maxHeartbeats 4000000 in
theorem gives_int2 {u t : Tok} (l : List Bool) (hl : l.length ≤ 640) (hne : l ≠ []) : Gives (Builtin.«int.__new__» ⟨[.type "int", .str (sT (bT l)) u, .int 2 t], []⟩) (.int ((valB l : Nat) : Int)) := by
  refine .of_wp fun M A E s Q hQ => ?_
  have g1 := F.conv_sub_int
  have g2 := F.madeHere_int
  have g6 : typeOf (.str (sT (bT l)) u) = pure (.type "str") := rfl
  have kk : Hid ((numSeenOf (sT (bT l))).length ≤ 640 ∧ (int_private% "readNumeral") 0 2 (numSeenOf (sT (bT l))) = (int_private% "Numeral.value") ((valB l : Nat) : Int) ∧ ((numSeenOf (sT (bT l))).length == (numTextOf (sT (bT l))).length) = true) := by
    obtain ⟨e1, e2⟩ := seen_hex (hexs l)
    rw [e1, e2, sT_cps]
    exact ⟨by unfold bT; rw [List.length_map]; exact hl, num2 l hne, beq_self_eq_true _⟩
  obtain ⟨hp, g, d, tk, os⟩ := s
  clear hl hne
  repeat (any_goals (first
    | assumption
    | ((with_reducible show wpAny _ _ ((int_private% "intFromText") _ _ _) _ _ _); refine wp_textB kk.out.1 kk.out.2.1 kk.out.2.2 ?_)
    | wp_step))
  all_goals first | exact ⟨_, rfl, hQ⟩ | skip
end Bq
section
variable {X : Cx}
theorem call_int2 : CallR X (.type "int") rInt2 := by
  intro pins s σ H xs us Q I r h
  obtain ⟨l, rfl, hne, hl, q⟩ := h
  obtain ⟨u, w', rfl, ⟨t1, rfl⟩, t2, rfl⟩ := vals2 r
  exact PySem.callType_new F.called_int F.newNe_int (Hx.typeCall_int_2 _ _) (Hx.newCall_int_2 _ _) (fun obj => F.initArgs_range_2 obj _ _) F.entry_int_new (Bq.gives_int2 l hl hne).meets
    (show (Made.int ((valB l : Nat) : Int)).post _ s from ⟨rfl, .int ((valB l : Nat) : Int), H, I.tok _, ⟨_, rfl⟩, q⟩)
/-- repr of data of any kind -/
def rReprA (K : PySem.W.Frag) : List V → Hp → VK → Prop := fun xs H Q => ∃ (x : V) (d : PyData), xs = [x] ∧ Dx K H x d ∧ d.showable = true ∧ d.depth ≤ 100 ∧ d.shown.length ≤ sizeLine ∧ Q (.str d.shown) H
theorem call_reprA (hg : X.A.guards = some []) (hu : X.A.units + 101 < cLine) (S : SmD X.K) : CallR X (.builtin "repr") (rReprA X.K) := by
  intro pins s σ H xs us Q I r h
  obtain ⟨x, d, rfl, hd, hs, hdp, hz, q⟩ := h
  have any : ∀ a, x = .ref a → wpAny (model X.prog X.w) X.A (call (.builtin "repr") us) (EP X pins σ Q) X.xe s := fun a e => by
    subst e
    exact call_reprX hg hu S pins s σ H _ us Q I r ⟨a, d, rfl, hd, hs, hdp, hz, q⟩
  obtain ⟨u, rfl, ru⟩ := vals1 r
  cases hd with
  | non =>
    cases (show u = Value.none from ru)
    exact call_repr_gives (typeIs_none s) F.slot_NoneType_repr F.entry_NoneType_repr (F.args_NoneType_repr_1 _) gives_none_repr ⟨.str "None", H, I.tok _, ⟨_, rfl⟩, by simpa only [PyData.shown] using q⟩ rfl (by decide)
  | bl b =>
    cases (show u = Value.bool b from ru)
    refine call_repr_gives (typeIs_bool s b) F.slot_bool_repr F.entry_bool_repr (F.args_bool_repr_1 _) (gives_bool_repr b) ⟨.str (if b then ("True" : Str) else ("False" : Str)), H, I.tok _, ⟨s.toks, ?_⟩, by simpa only [PyData.shown] using q⟩ rfl (by cases b <;> decide)
    cases b <;> rfl
  | int i =>
    obtain ⟨t, rfl⟩ := ru
    exact PySem.P.repr_of_int (by simpa [PyData.showable] using hs) ⟨.str _, H, I.tok _, ⟨_, rfl⟩, by simpa only [PyData.shown] using q⟩
  | str z =>
    obtain ⟨t, rfl⟩ := ru
    exact call_repr_gives (typeIs_str s z t) F.slot_str_repr F.entry_str_repr (F.args_str_repr_1 _) (gives_str_repr z t) ⟨.str (reprText z), H, I.tok _, ⟨_, rfl⟩, by simpa only [PyData.shown] using q⟩ rfl (by simpa only [PyData.shown] using hz)
  | lst _ _ => exact any _ rfl
  | tup _ _ => exact any _ rfl
  | dic _ _ => exact any _ rfl
end
/-! ## numbers in bits: the mathematics -/
def binB (n : Nat) : List Bool := if h : n < 2 then [n == 1] else binB (n / 2) ++ [n % 2 == 1]
termination_by n
decreasing_by omega
theorem binB_lt {n : Nat} (h : n < 2) : binB n = [n == 1] := by rw [binB, dif_pos h]
theorem binB_ge {n : Nat} (h : ¬ n < 2) : binB n = binB (n / 2) ++ [n % 2 == 1] := by rw [binB, dif_neg h]
theorem bT_app (a b : List Bool) : bT (a ++ b) = bT a ++ bT b := List.map_append
theorem bT_len (l : List Bool) : (bT l).length = l.length := List.length_map ..
theorem digit_bit {n : Nat} (h : n < 2) : n.digitChar.toNat = bit (n == 1) := by
  match n, h with
  | 0, _ => rfl
  | 1, _ => rfl
theorem toDigits2 (n : Nat) : (Nat.toDigits 2 n).map Char.toNat = bT (binB n) := by
  induction n using Nat.strongRecOn with
  | _ n ih =>
    by_cases h : n < 2
    · rw [Nat.toDigits_of_lt_base h, binB_lt h]
      show [n.digitChar.toNat] = [bit (n == 1)]
      rw [digit_bit h]
    · rw [Nat.toDigits_of_base_le (by decide) (by omega), binB_ge h, List.map_append, ih (n / 2) (by omega), bT_app]
      show _ ++ [(n % 2).digitChar.toNat] = _ ++ [bit (n % 2 == 1)]
      rw [digit_bit (Nat.mod_lt _ (by decide))]
theorem valB_app (l : List Bool) (b : Bool) : valB (l ++ [b]) = valB l * 2 + bv b := by
  unfold valB
  rw [List.foldl_append]
  rfl
theorem bv_eq {n : Nat} (h : n < 2) : bv (n == 1) = n := by
  match n, h with
  | 0, _ => rfl
  | 1, _ => rfl
theorem valB_bin (n : Nat) : valB (binB n) = n := by
  induction n using Nat.strongRecOn with
  | _ n ih =>
    by_cases h : n < 2
    · rw [binB_lt h]
      show 0 * 2 + bv (n == 1) = n
      rw [bv_eq h]
      omega
    · rw [binB_ge h, valB_app, ih (n / 2) (by omega), bv_eq (Nat.mod_lt _ (by decide))]
      omega
theorem binB_head (n : Nat) (h : 1 ≤ n) : ∃ r, binB n = true :: r := by
  induction n using Nat.strongRecOn with
  | _ n ih =>
    by_cases h2 : n < 2
    · have : n = 1 := by omega
      subst this
      exact ⟨[], binB_lt h2⟩
    · obtain ⟨r, e⟩ := ih (n / 2) (by omega) (by omega)
      exact ⟨r ++ [n % 2 == 1], by rw [binB_ge h2, e]; rfl⟩
def lg (n : Nat) : Nat := (binB n).length - 1
theorem binB_len (n : Nat) : (binB n).length = lg n + 1 := by
  have : 1 ≤ (binB n).length := by
    rw [binB]
    split <;> simp
  unfold lg
  omega
theorem lg_lt {n : Nat} (h : n < 2) : lg n = 0 := by unfold lg; rw [binB_lt h]; rfl
theorem lg_ge {n : Nat} (h : ¬ n < 2) : lg n = lg (n / 2) + 1 := by
  have e := binB_len n
  rw [binB_ge h, List.length_append, binB_len] at e
  simp only [List.length_cons, List.length_nil] at e
  omega
theorem lg_pow : ∀ (k n : Nat), n < 2 ^ k → lg n ≤ k
  | 0, n, h => by rw [lg_lt (by omega)]; omega
  | k + 1, n, h => by
    by_cases h2 : n < 2
    · rw [lg_lt h2]; omega
    · rw [lg_ge h2]
      have := lg_pow k (n / 2) (by rw [Nat.pow_succ] at h; omega)
      omega
/-- the m low bits -/
def digs : Nat → Nat → List Bool
  | _, 0 => []
  | n, m + 1 => digs (n / 2) m ++ [n % 2 == 1]
theorem digs_len : ∀ n m, (digs n m).length = m
  | _, 0 => rfl
  | n, m + 1 => by rw [digs, List.length_append, digs_len]; rfl
theorem digs_bin (n : Nat) : digs n (lg n + 1) = binB n := by
  induction n using Nat.strongRecOn with
  | _ n ih =>
    by_cases h : n < 2
    · rw [lg_lt h, binB_lt h]
      show [] ++ [n % 2 == 1] = _
      rw [Nat.mod_eq_of_lt h]
      rfl
    · rw [binB_ge h, ← ih (n / 2) (by omega), lg_ge h]
      rfl
/-- the writing of a count -/
def gam (n : Nat) : List Bool := List.replicate (lg (n + 1)) false ++ binB (n + 1)
theorem gam_len (n : Nat) : (gam n).length = 2 * lg (n + 1) + 1 := by
  unfold gam
  rw [List.length_append, List.length_replicate, binB_len]
  omega
/-- what stands at an index -/
def zer (l : List Bool) : Nat := (l.takeWhile not).length
def rd (l : List Bool) (i : Nat) : Option (Nat × Nat) :=
  if l.length < i + 2 * zer (l.drop i) + 1 then none else some (valB ((l.drop (i + zer (l.drop i))).take (zer (l.drop i) + 1)) - 1, i + 2 * zer (l.drop i) + 1)
theorem zer_rep (k : Nat) (r : List Bool) : zer (List.replicate k false ++ true :: r) = k := by
  unfold zer
  induction k with
  | zero => rfl
  | succ k ih =>
    rw [List.replicate_succ, List.cons_append, List.takeWhile_cons, show (!false) = true from rfl, if_pos rfl, List.length_cons, ih]
theorem zer_all (k : Nat) : zer (List.replicate k false) = k := by
  unfold zer
  induction k with
  | zero => rfl
  | succ k ih => rw [List.replicate_succ, List.takeWhile_cons, show (!false) = true from rfl, if_pos rfl, List.length_cons, ih]
theorem rd_gam (pre suf : List Bool) (n : Nat) : rd (pre ++ (gam n ++ suf)) pre.length = some (n, pre.length + (gam n).length) := by
  obtain ⟨r, er⟩ := binB_head (n + 1) (by omega)
  have ez : zer (gam n ++ suf) = lg (n + 1) := by
    unfold gam
    rw [List.append_assoc, er, List.cons_append]
    exact zer_rep _ _
  unfold rd
  rw [List.drop_left, ez, if_neg (by rw [List.length_append, List.length_append, gam_len]; omega), gam_len]
  have ed : (pre ++ (gam n ++ suf)).drop (pre.length + lg (n + 1)) = binB (n + 1) ++ suf := by
    rw [← List.drop_drop, List.drop_left]
    unfold gam
    rw [List.append_assoc, List.drop_left' (by simp)]
  rw [ed, List.take_left' (binB_len _), valB_bin]
  simp
  omega
theorem rd_cut (pre : List Bool) (n c : Nat) (h : c < (gam n).length) : rd (pre ++ (gam n).take c) pre.length = none := by
  obtain ⟨r, er⟩ := binB_head (n + 1) (by omega)
  have hl := gam_len n
  have hlen : ((gam n).take c).length = c := by rw [List.length_take]; omega
  unfold rd
  rw [List.drop_left, if_pos]
  rw [List.length_append, hlen]
  by_cases hc : c ≤ lg (n + 1)
  · have e : (gam n).take c = List.replicate c false := by
      unfold gam
      rw [List.take_append_of_le_length (by simpa using hc), List.take_replicate, Nat.min_eq_left hc]
    rw [e, zer_all]
    omega
  · have e : ∃ q, (gam n).take c = List.replicate (lg (n + 1)) false ++ true :: q := by
      unfold gam
      rw [er, List.take_append, List.length_replicate, List.take_of_length_le (by simp; omega)]
      obtain ⟨k, hk⟩ : ∃ k, c - lg (n + 1) = k + 1 := ⟨c - lg (n + 1) - 1, by omega⟩
      rw [hk, List.take_succ_cons]
      exact ⟨_, rfl⟩
    obtain ⟨q, e⟩ := e
    rw [e, zer_rep]
    omega
/-- signed numbers as counts -/
def sgn (z : Int) : Nat := if 0 ≤ z then (2 * z).toNat else (-2 * z - 1).toNat
def uns (m : Nat) : Int := if m % 2 = 0 then ((m / 2 : Nat) : Int) else -(((m + 1) / 2 : Nat) : Int)
theorem uns_sgn (z : Int) : uns (sgn z) = z := by
  unfold sgn uns
  split <;> split <;> omega
def rdS (l : List Bool) (i : Nat) : Option (Int × Nat) := (rd l i).map fun x => (uns x.1, x.2)
theorem rdS_gam (pre suf : List Bool) (z : Int) : rdS (pre ++ (gam (sgn z) ++ suf)) pre.length = some (z, pre.length + (gam (sgn z)).length) := by
  unfold rdS
  rw [rd_gam]
  show some (uns (sgn z), _) = _
  rw [uns_sgn]
theorem rdS_cut (pre : List Bool) (z : Int) (c : Nat) (h : c < (gam (sgn z)).length) : rdS (pre ++ (gam (sgn z)).take c) pre.length = none := by
  unfold rdS
  rw [rd_cut _ _ _ h]
  rfl
/-! ## texts: times, count, find -/
theorem rep_fold (c : Nat) : ∀ (k : Nat) (a : Array Nat), (List.replicate k (#[c] : Array Nat)).foldl (· ++ ·) a = a ++ (List.replicate k c).toArray
  | 0, a => by simp
  | k + 1, a => by
    rw [List.replicate_succ, List.foldl_cons, rep_fold c k, List.replicate_succ]
    apply Array.ext'
    simp
section
variable {X : Cx}
theorem op_repc : OpR X (binaryOp .Mult) (fun x y H Q => ∃ c k : Nat, x = .str ⟨#[c]⟩ ∧ y = .int (k : Int) ∧ k ≤ 100000 ∧ Q (.str (sT (List.replicate k c))) H) := by
  intro pins s σ H x y v u Q I rx ry h
  obtain ⟨c, k, rfl, rfl, hk, q⟩ := h
  obtain ⟨t, rfl⟩ := rx
  obtain ⟨t2, rfl⟩ := ry
  have z1 : (⟨#[c]⟩ : Str).length = 1 := rfl
  refine PySem.P.mul_str (by rw [decide_eq_false (by omega), decide_eq_false (by omega)]; rfl) (fun h1 _ => ?_) (fun _ _ => ?_) ?_
  · rw [z1]
    have : (1 : Int) ≤ (2 ^ 63 - 1) / (k : Int) := by
      rw [Int.le_ediv_iff_mul_le (by omega)]
      omega
    omega
  · rw [z1, Nat.one_mul]
    unfold Builtin.Str.tooLong
    have : 100000 < sizeLine := by decide
    exact decide_eq_false (by simp; omega)
  · match k, hk, q with
    | 0, _, q =>
      rw [if_pos (by decide)]
      exact ⟨by decide, .str (sT (List.replicate 0 c)), H, I.tok _, ⟨_, rfl⟩, q⟩
    | 1, _, q =>
      rw [if_neg (by decide), if_pos (by rfl)]
      exact ⟨.str (sT (List.replicate 1 c)), H, I, ⟨t, rfl⟩, q⟩
    | k + 2, hk, q =>
      rw [if_neg (by omega), if_neg (by rw [z1]; simp; omega)]
      have e : (⟨(List.replicate (((k + 2 : Nat) : Int)).toNat (⟨#[c]⟩ : Str).cps).foldl (· ++ ·) #[]⟩ : Str) = sT (List.replicate (k + 2) c) := by
        rw [Int.toNat_natCast]
        show (⟨(List.replicate (k + 2) (#[c] : Array Nat)).foldl (· ++ ·) #[]⟩ : Str) = _
        rw [rep_fold]
        simp [sT]
      rw [e]
      exact ⟨by rw [sT_len, List.length_replicate]; exact sl_of hk, .str (sT (List.replicate (k + 2) c)), H, I.tok _, ⟨_, rfl⟩, q⟩
end
def cntC (c : Nat) (t : List Nat) : Nat := (t.filter fun d => decide (d = c)).length
theorem sum_cnt (c : Nat) : ∀ t : List Nat, (t.map fun n => if decide (n = c) = true then (1 : Int) else 0).sum = (cntC c t : Int)
  | [] => rfl
  | d :: t => by
    rw [List.map_cons, List.sum_cons, sum_cnt c t]
    unfold cntC
    rw [List.filter_cons]
    split <;> simp <;> omega
theorem count_char (c : Nat) (t : List Nat) : Txt.count (sT t) ⟨#[c]⟩ = (cntC c t : Int) := by
  rw [PyProof.Rows.count_is, sT_cps, PyProof.Rows.countIn_signs_sum, sum_cnt]
def isB (t : List Nat) : Bool := t.all fun c => decide (c = 48) || decide (c = 49)
theorem cntC_cons (c d : Nat) (t : List Nat) : cntC c (d :: t) = (if d = c then 1 else 0) + cntC c t := by
  unfold cntC
  rw [List.filter_cons]
  by_cases h : d = c
  · rw [if_pos (decide_eq_true h), if_pos h, List.length_cons]
    omega
  · rw [if_neg (fun z => h (of_decide_eq_true z)), if_neg h]
    omega
theorem isB_cons (c : Nat) (t : List Nat) : isB (c :: t) = true ↔ (c = 48 ∨ c = 49) ∧ isB t = true := by
  unfold isB
  simp
theorem cnt_le : ∀ t : List Nat, cntC 48 t + cntC 49 t ≤ t.length ∧ (cntC 48 t + cntC 49 t = t.length ↔ isB t = true)
  | [] => ⟨Nat.le_refl _, fun _ => rfl, fun _ => rfl⟩
  | c :: t => by
    obtain ⟨h1, h2⟩ := cnt_le t
    rw [cntC_cons, cntC_cons, List.length_cons, isB_cons, ← h2]
    by_cases a : c = 48
    · rw [if_pos a, if_neg (show ¬ c = 49 by omega)]
      exact ⟨by omega, fun z => ⟨.inl a, by omega⟩, fun z => by have := z.2; omega⟩
    · rw [if_neg a]
      by_cases b : c = 49
      · rw [if_pos b]
        exact ⟨by omega, fun z => ⟨.inr b, by omega⟩, fun z => by have := z.2; omega⟩
      · rw [if_neg b]
        exact ⟨by omega, fun z => by omega, fun z => z.1.elim (fun q => absurd q a) fun q => absurd q b⟩
theorem isB_bT : ∀ t : List Nat, isB t = true → ∃ l, t = bT l
  | [], _ => ⟨[], rfl⟩
  | c :: t, h => by
    unfold isB at h
    rw [List.all_cons, Bool.and_eq_true] at h
    obtain ⟨l, e⟩ := isB_bT t h.2
    simp only [Bool.or_eq_true, decide_eq_true_eq] at h
    rcases h.1 with z | z
    · exact ⟨false :: l, by rw [e, z]; rfl⟩
    · exact ⟨true :: l, by rw [e, z]; rfl⟩
theorem bT_isB (l : List Bool) : isB (bT l) = true := by
  unfold isB
  rw [List.all_eq_true]
  intro c hc
  obtain ⟨b, _, rfl⟩ := List.mem_map.mp hc
  cases b <;> rfl
theorem bT_tx {l : List Bool} (h : l.length ≤ 100000) : (bT l).length ≤ 100000 := by rw [bT_len]; exact h
/-! find -/
theorem zer_le (l : List Bool) : zer l ≤ l.length := by
  unfold zer
  induction l with
  | nil => exact Nat.le_refl _
  | cons b l ih =>
    rw [List.takeWhile_cons]
    split <;> simp <;> omega
theorem zer_in : ∀ {l : List Bool} {j : Nat}, j < zer l → l[j]? = some false
  | [], j, h => by simp [zer] at h
  | true :: l, j, h => by simp [zer, List.takeWhile_cons] at h
  | false :: l, 0, h => rfl
  | false :: l, j + 1, h => by
    have : zer (false :: l) = zer l + 1 := by unfold zer; rw [List.takeWhile_cons]; rfl
    rw [List.getElem?_cons_succ]
    exact zer_in (by omega)
theorem zer_at : ∀ {l : List Bool}, zer l < l.length → l[zer l]? = some true
  | [], h => by simp at h
  | true :: l, h => by
    have : zer (true :: l) = 0 := by unfold zer; rw [List.takeWhile_cons]; rfl
    rw [this]
    rfl
  | false :: l, h => by
    have e : zer (false :: l) = zer l + 1 := by unfold zer; rw [List.takeWhile_cons]; rfl
    rw [e] at h ⊢
    rw [List.getElem?_cons_succ]
    exact zer_at (by simpa using h)
theorem getD_bits (l : List Bool) (v : Nat) (b : Bool) (h : l[v]? = some b) : (sT (bT l)).cps.getD v 0 = bit b := by
  show (bT l).toArray.getD v 0 = bit b
  rw [Array.getD_eq_getD_getElem?]
  simp [bT, h]
theorem find_bits (l : List Bool) (i : Nat) (hi : i ≤ l.length) : Txt.find3 (sT (bT l)) ⟨#[49]⟩ (i : Int) = if i + zer (l.drop i) < l.length then ((i + zer (l.drop i) : Nat) : Int) else -1 := by
  have hl : (sT (bT l)).length = l.length := by rw [sT_len, bT_len]
  have hf : fromIndex (sT (bT l)).length (i : Int) = i := by
    unfold fromIndex
    rw [if_neg (by omega), Int.max_eq_right (by omega)]
    omega
  have zl := zer_le (l.drop i)
  rw [List.length_drop] at zl
  have inz : ∀ v, i ≤ v → v < i + zer (l.drop i) → (sT (bT l)).cps.getD v 0 ≠ 49 := by
    intro v h1 h2
    have h := zer_in (l := l.drop i) (j := v - i) (by omega)
    rw [List.getElem?_drop, show i + (v - i) = v by omega] at h
    rw [getD_bits l v false h]
    decide
  have atz : i + zer (l.drop i) < l.length → (sT (bT l)).cps.getD (i + zer (l.drop i)) 0 = 49 := by
    intro h
    have h := zer_at (l := l.drop i) (by rw [List.length_drop]; omega)
    rw [List.getElem?_drop] at h
    rw [getD_bits l _ true h]
    rfl
  rcases StrLaws.find3_spec (sT (bT l)) 49 (i : Int) with ⟨h, hn⟩ | ⟨k, h, h1, h2, h3, hn⟩
  · rw [h, if_neg]
    intro c
    rw [hf, hl] at hn
    exact hn _ (Nat.le_add_right _ _) c (atz c)
  · rw [hf] at h1 hn
    rw [hl] at h2
    have e1 : ¬ k < i + zer (l.drop i) := fun z => inz k h1 z h3
    have e2 : ¬ i + zer (l.drop i) < k := fun z => hn _ (Nat.le_add_right _ _) z (atz (by omega))
    rw [h, if_pos (by omega)]
    congr 1
    omega
/-! ## the program's functions of bits -/
theorem cps_1 : ("1" : Str).cps.toList = [49] := by decide +kernel
theorem cps_0' : ("0" : Str).cps.toList = [48] := by decide +kernel
theorem one_eq : ("1" : Str) = ⟨#[49]⟩ := by
  have h := sT_of "1"
  rw [cps_1] at h
  exact h.symm
theorem zero_eq : ("0" : Str) = ⟨#[48]⟩ := by
  have h := sT_of "0"
  rw [cps_0'] at h
  exact h.symm
theorem sT_ap (a b : List Nat) : sT a ++ sT b = sT (a ++ b) := by
  show (⟨a.toArray ++ b.toArray⟩ : Str) = ⟨(a ++ b).toArray⟩
  simp
/-- values that are no numbers -/
inductive OtV (H : Hp) : V → Prop where
  | non : OtV H .non
  | bl (b : Bool) : OtV H (.bl b)
  | str (z : Str) : OtV H (.str z)
  | lst {a : Addr} {xs : List V} (e : H a = some (.lst xs)) : OtV H (.ref a)
  | tup {a : Addr} {xs : List V} (e : H a = some (.tup xs)) : OtV H (.ref a)
  | dic {a : Addr} {kvs : List (Key × V)} (e : H a = some (.dK kvs)) : OtV H (.ref a)
theorem OtV.same {H H' : Hp} {v : V} (s : Same H H') (h : OtV H v) : OtV H' v := by
  cases h with
  | non => exact .non
  | bl b => exact .bl b
  | str z => exact .str z
  | lst e => exact .lst (s _ _ e)
  | tup e => exact .tup (s _ _ e)
  | dic e => exact .dic (s _ _ e)
/-- values that are no texts -/
inductive NtV (H : Hp) : V → Prop where
  | non : NtV H .non
  | bl (b : Bool) : NtV H (.bl b)
  | int (i : Int) : NtV H (.int i)
  | lst {a : Addr} {xs : List V} (e : H a = some (.lst xs)) : NtV H (.ref a)
  | tup {a : Addr} {xs : List V} (e : H a = some (.tup xs)) : NtV H (.ref a)
  | dic {a : Addr} {kvs : List (Key × V)} (e : H a = some (.dK kvs)) : NtV H (.ref a)
theorem NtV.same {H H' : Hp} {v : V} (s : Same H H') (h : NtV H v) : NtV H' v := by
  cases h with
  | non => exact .non
  | bl b => exact .bl b
  | int i => exact .int i
  | lst e => exact .lst (s _ _ e)
  | tup e => exact .tup (s _ _ e)
  | dic e => exact .dic (s _ _ e)
theorem NtV.ty {K : PySem.W.Frag} {H : Hp} {v : V} (h : NtV H v) : ∃ t, TyX K H v t ∧ PySem.W.kitOne K t (.type "str") = some false := by
  cases h with
  | non => exact ⟨_, .base .non, kit_ty (by decide +kernel)⟩
  | bl b => exact ⟨_, .base (.bl b), kit_ty (by decide +kernel)⟩
  | int i => exact ⟨_, .base (.int i), kit_ty (by decide +kernel)⟩
  | lst e => exact ⟨_, .base (.lst e), kit_ty (by decide +kernel)⟩
  | tup e => exact ⟨_, .base (.tup e), kit_ty (by decide +kernel)⟩
  | dic e => exact ⟨_, .base (.dK e), kit_ty (by decide +kernel)⟩
/-- values that are no bits -/
def NbV (H : Hp) (v : V) : Prop := (∃ t : List Nat, v = .str (sT t) ∧ t.length ≤ 100000 ∧ isB t = false) ∨ NtV H v
structure NkF (K : PySem.W.Frag) (mg : Str → Option Value) : Prop where
  isi : mg "isinstance" = none
  int : mg "int" = none
  str : mg "str" = none
  len : mg "len" = none
  bool : mg "bool" = none
def spNum : Sp := fun vs H Q _ => ∃ x, vs = [x] ∧ ((∃ i, x = .int i ∧ Q (.bl true) H) ∨ (OtV H x ∧ Q (.bl false) H))
def spCnt : Sp := fun vs H Q _ => ∃ n : Nat, vs = [.int (n : Int)] ∧ n < 2 ^ 62 ∧ Q (.str (sT (bT (gam n)))) H
def spWrit : Sp := fun vs H Q _ => ∃ z : Int, vs = [.int z] ∧ z.natAbs < 2 ^ 60 ∧ Q (.str (sT (bT (gam (sgn z))))) H
def spCB (C : Addr) : Sp := fun vs H Q E => ∃ x, vs = [x] ∧ ((∃ n : Nat, x = .int (n : Int) ∧ n < 2 ^ 62 ∧ Q (.str (sT (bT (gam n)))) H) ∨ (((∃ i : Int, x = .int i ∧ i < 0) ∨ OtV H x) ∧ E (.ref C) none H))
def spNB (C : Addr) : Sp := fun vs H Q E => ∃ x, vs = [x] ∧ ((∃ z : Int, x = .int z ∧ z.natAbs < 2 ^ 60 ∧ Q (.str (sT (bT (gam (sgn z))))) H) ∨ (OtV H x ∧ E (.ref C) none H))
def spIsB (K : PySem.W.Frag) : Sp := fun vs H Q _ => ∃ x, vs = [x] ∧ ((∃ t : List Nat, x = .str (sT t) ∧ t.length ≤ 100000 ∧ Q (.bl (isB t)) H) ∨ (NtV H x ∧ Q (.bl false) H))
theorem gam_small {n : Nat} (h : n < 2 ^ 62) : lg (n + 1) ≤ 63 ∧ (gam n).length ≤ 127 := by
  have := lg_pow 63 (n + 1) (by omega)
  rw [gam_len]
  omega
section
variable {P : Program} {w : World} {K : PySem.W.Frag} {mg : Str → Option Value} {base : Heap}
theorem sc_is_number : FnScope ["thing"] ["thing"] (defScope s_is_number) := ⟨rfl, rfl, rfl, by decide +kernel, rfl, by decide +kernel, by decide +kernel⟩
theorem ok_is_number {CX : CXT} {f : Addr} {fd : FuncData} (F : FnP K "is_number" s_is_number f fd) (G : NkF K mg) : FnOk P w K mg base CX 1 f fd ["thing"] spNum := by
  refine F.ok sc_is_number (fun vs H Q E h => ?_) (fun cdv A outer s H vs Q E hr h => ?_)
  · obtain ⟨x, rfl, _⟩ := h
    rfl
  · obtain ⟨x, rfl, h⟩ := h
    refine ⟨_, PSs.nox (pss_one (ps_ret (pe_and (pe_callB call_isi (by rfl) G.isi (by decide +kernel) (pa_cons (pv 0) (pa_cons (pe_bltn (v := .ty "int") (by rfl) G.int (by decide +kernel) rfl) pa_nil)))
      (pe_one (pe_not (pe_callB call_isi (by rfl) G.isi (by decide +kernel) (pa_cons (pv 0) (pa_cons (pe_bltn (v := .ty "bool") (by rfl) G.bool (by decide +kernel) rfl) pa_nil)))))))), ?_⟩
    rcases h with ⟨i, rfl, q⟩ | ⟨h, q⟩
    · exact ⟨_, rfl, _, _, _, _, true, rfl, .ty "int", .base (.int i), kit_ty (by decide +kernel), _, rfl, iteT ⟨_, rfl, _, _, _, _, false, rfl, .ty "bool", .base (.int i), kit_ty (by decide +kernel), _, rfl, q⟩⟩
    · have no : ∀ t, TyX K H x t → PySem.W.kitOne K t (.type "int") = some false → tRet (tAndV (tCB (rIsi K) (tCons (tVar 0) (tCons (tC (.ty "int")) tNil))) (tNotV (tCB (rIsi K) (tCons (tVar 0) (tCons (tC (.ty "bool")) tNil))))) { nx := fun _ H' => Q .non H', rt := Q } (start ["thing"] [x]) H :=
        fun t h1 h2 => ⟨_, rfl, _, _, _, _, false, rfl, .ty "int", h1, h2, _, rfl, iteF q⟩
      cases h with
      | non => exact no _ (.base .non) (kit_ty (by decide +kernel))
      | bl b => exact ⟨_, rfl, _, _, _, _, true, rfl, .ty "int", .base (.bl b), kit_ty (by decide +kernel), _, rfl, iteT ⟨_, rfl, _, _, _, _, true, rfl, .ty "bool", .base (.bl b), kit_ty (by decide +kernel), _, rfl, q⟩⟩
      | str z => exact no _ (.base (.str z)) (kit_ty (by decide +kernel))
      | lst e => exact no _ (.base (.lst e)) (kit_ty (by decide +kernel))
      | tup e => exact no _ (.base (.tup e)) (kit_ty (by decide +kernel))
      | dic e => exact no _ (.base (.dK e)) (kit_ty (by decide +kernel))
theorem sc_count_of : FnScope ["number", "writing"] ["number"] (defScope s_count_of) := ⟨rfl, rfl, rfl, by decide +kernel, rfl, by decide +kernel, by decide +kernel⟩
theorem ok_count_of {CX : CXT} {f : Addr} {fd : FuncData} (F : FnP K "count_of" s_count_of f fd) (G : NkF K mg) : FnOk P w K mg base CX 1 f fd ["number"] spCnt := by
  refine F.ok sc_count_of (fun vs H Q E h => ?_) (fun cdv A outer s H vs Q E hr h => ?_)
  · obtain ⟨x, rfl, _⟩ := h
    rfl
  · obtain ⟨n, rfl, hn, q⟩ := h
    have nd := sc_count_of.nd
    refine ⟨_, PSs.nox (pss_cons (ps_set (i := 1) nd rfl (.inl rfl) (pe_bin (pe_op op_add (pv 0) pe_int)))
      (pss_one (ps_ret (pe_op op_add_str (pe_op op_repc pe_str (pe_op op_sub (pe_callB call_len (by rfl) G.len PySem.boot_len (pa_cons (pv 1) pa_nil)) pe_int)) (pv 1))))), ?_⟩
    obtain ⟨l1, l2⟩ := gam_small hn
    have hd : (Nat.toDigits 2 (n + 1)).length ≤ 64 := by
      have e := congrArg List.length (toDigits2 (n + 1))
      rw [List.length_map, bT_len, binB_len] at e
      omega
    refine ⟨_, rfl, _, _, rfl, rfl, n + 1, by rfl, sl_of (by omega), ?_⟩
    rw [toDigits2]
    have hb : (sT (bT (binB (n + 1)))).length = lg (n + 1) + 1 := by rw [sT_len, bT_len, binB_len]
    refine ⟨_, rfl, _, _, rfl, ⟨sl_of (by omega), rfl⟩, _, _, rfl, rfl, 48, lg (n + 1), congrArg V.str zero_eq, ?_, by omega, _, rfl, _, _, rfl, rfl, ?_, ?_⟩
    · show V.int (((sT (bT (binB (n + 1)))).length : Int) - 1) = _
      rw [hb]
      congr 1
      omega
    · rw [sT_len, List.length_replicate, hb]
      exact sl_of (by omega)
    · rw [sT_ap]
      have e : List.replicate (lg (n + 1)) 48 ++ bT (binB (n + 1)) = bT (gam n) := by
        unfold gam
        rw [bT_app]
        congr 1
        unfold bT
        rw [List.map_replicate]
        rfl
      rw [e]
      exact q
end
section
variable {P : Program} {w : World} {K : PySem.W.Frag} {mg : Str → Option Value} {base : Heap}
structure PlnX (K : PySem.W.Frag) (mg : Str → Option Value) (x : Str) (C : Addr) : Prop where
  g : mg x = some (.ref C)
  x : PySem.W.excIn K C He.veBase "ValueError.__new__" = true
  o : OexC K C
/-- an own __init__ of one parameter -/
def spI1 (C : Addr) (a : Str) : Sp := fun vs H Q _ => ∃ (e : Addr) (l : V), vs = [.ref e, l] ∧ H e = some (exo e C none) ∧ ∀ dx, H dx = none → Q .non (upd (upd H dx (exd dx [(a, l)])) e (exo e C (some dx)))
theorem raise_i1 {C : Addr} {a : Str} {H : Hp} {l : V} {Q : XK} (k : ∀ H' d, Same H H' → H' d = some (.xd [(a, l)]) → H d = none → Q (.ref C) (some d) H') :
    ([l] : List V).length ≤ 1000 ∧ ∀ e, H e = none → spI1 C a (.ref e :: ([l] ++ [])) (upd H e (exo e C none)) (fun v H2 => v = .non ∧ ∃ (d : Addr) (fs : List (Str × V)), H2 e = some (exo e C (some d)) ∧ H2 d = some (exd d fs) ∧ H d = none ∧ Q (.ref C) (some d) (upd (del H2 e) d (.xd fs))) (fun _ _ _ => False) := by
  refine ⟨by show 1 ≤ 1000; decide, fun e he => ⟨e, l, rfl, upd_same, fun dx hd => ?_⟩⟩
  have hne : dx ≠ e := fun z => by rw [z, upd_same] at hd; cases hd
  have hd0 : H dx = none := by rw [upd_ne hne] at hd; exact hd
  refine ⟨rfl, dx, _, upd_same, by rw [upd_ne hne, upd_same], hd0, k _ _ (fun b o q => ?_) upd_same hd0⟩
  have n1 : b ≠ dx := ne_of_none q hd0
  have n2 : b ≠ e := ne_of_none q he
  rw [upd_ne n1, del_ne n2, upd_ne n2, upd_ne n1, upd_ne n2]
  exact q
structure Ix1 (P : Program) (w : World) (K : PySem.W.Frag) (mg : Str → Option Value) (base : Heap) (x : Str) (C : Addr) (a : Str) : Prop where
  g : mg x = some (.ref C)
  o : OexC K C
  i : ∃ (f : Addr) (fd : FuncData), PySem.W.findIn K (.ref C) "__init__" = some (some (.ref f)) ∧ PySem.W.typeIn K (.ref f) = some (.type "function") ∧ FnOk P w K mg base CX0 1 f fd ["self", a] (spI1 C a) ∧ Binds K fd ["self", a] []
theorem sc_bb : ScopeS ["self", "at"] (defScope s_BadBits___init__) := ⟨rfl, rfl, rfl, by decide +kernel, by decide +kernel, by decide +kernel, rfl, rfl⟩
theorem ok_bb {f cc cda C : Addr} {fd : FuncData} (F : SupF P K mg C f cc cda "BadBits.__init__" (defArgs s_BadBits___init__) (defBody s_BadBits___init__) (defScope s_BadBits___init__) fd) (T : OexC K C) (n1 : PySem.W.findIn K (.ref C) "at" = some none) :
    FnOk P w K mg base CX0 1 f fd ["self", "at"] (spI1 C "at") := by
  refine fn_super F T sc_bb ⟨fun _ _ _ _ => rfl, fun _ _ _ _ => rfl, ⟨_, fun _ _ _ _ => rfl⟩⟩ rfl rfl (fun vs H Q E h => ?_) (fun vs H Q E h => ?_) (fun A outer s H vs Q E h => ?_)
  · obtain ⟨e, l, rfl, _⟩ := h
    rfl
  · obtain ⟨e, l, rfl, he, _⟩ := h
    exact ⟨e, _, rfl, he⟩
  · obtain ⟨e, l, rfl, he, k⟩ := h
    refine ⟨_, PSs.nox (pss_one (ps_ost (pv 0) (pv 1))), ?_⟩
    exact ⟨_, rfl, _, rfl, e, C, rfl, T, n1, .inl ⟨he, fun dx hd _ => k dx hd⟩⟩
theorem sc_count_bits : FnScope ["number"] ["number"] (defScope s_count_bits) := ⟨rfl, rfl, rfl, by decide +kernel, rfl, by decide +kernel, by decide +kernel⟩
theorem ok_count_bits {f fN fC C : Addr} {fd fdN fdC : FuncData} (F : FnP K "count_bits" s_count_bits f fd) (FN : FnP K "is_number" s_is_number fN fdN) (gN : mg "is_number" = some (.ref fN)) (FC : FnP K "count_of" s_count_of fC fdC) (gC : mg "count_of" = some (.ref fC)) (G : NkF K mg) (B : PlnX K mg "BadNumber" C) :
    FnOk P w K mg base (L2.CX P w) 2 f fd ["number"] (spCB C) := by
  have GN : FnOk P w K mg base CX0 1 fN fdN ["thing"] spNum := ok_is_number FN G
  have bN : Binds K fdN ["thing"] [] := FN.bindsN fun _ _ _ _ _ _ us hl => match us, hl with | [_], _ => rfl
  have GC : FnOk P w K mg base CX0 1 fC fdC ["number"] spCnt := ok_count_of FC G
  have bC : Binds K fdC ["number"] [] := FC.bindsN fun _ _ _ _ _ _ us hl => match us, hl with | [_], _ => rfl
  refine F.ok sc_count_bits (fun vs H Q E h => ?_) (fun cdv A outer s H vs Q E hr h => ?_)
  · obtain ⟨x, rfl, _⟩ := h
    rfl
  · obtain ⟨x, rfl, h⟩ := h
    refine ⟨_, pss_cons (ps_if (PW.pt (pw_or (pt_not (pt_val (pe_call GN hr rfl gN FN.kp bN .nil pass0 (pa_cons (pv 0) pa_nil)))) (pw_or1 (pt_cmpR op_lt (pv 0) pe_int (nomark _)))))
        (pss_one (ps_raise rfl (takes_of rfl rfl rfl rfl) (pmk_own PySem.F.excBase_ValueError B.x B.g B.o.kC (raises_own B.o.exC B.o.tyC) rfl))) pss_nil)
        (PSs.nox (pss_one (ps_ret (pe_call GC hr rfl gC FC.kp bC .nil pass0 (pa_cons (pv 0) pa_nil))))), ?_⟩
    rcases h with ⟨n, rfl, hn, q⟩ | ⟨⟨i, rfl, hi⟩ | ho, q⟩
    · refine ⟨_, rfl, _, rfl, .inl ⟨_, rfl, _, rfl, iteF ⟨_, rfl, _, _, rfl, rfl, _, rfl, ?_⟩⟩⟩
      rw [decide_eq_false (show ¬ ((n : Int) < 0) by omega)]
      exact iteF ⟨_, rfl, n, rfl, hn, q⟩
    · refine ⟨_, rfl, _, rfl, .inl ⟨_, rfl, _, rfl, iteF ⟨_, rfl, _, _, rfl, rfl, _, rfl, ?_⟩⟩⟩
      rw [decide_eq_true hi]
      exact iteT q
    · exact ⟨_, rfl, _, rfl, .inr ⟨ho, _, rfl, iteT (iteT q)⟩⟩
theorem sc_written : FnScope ["number"] ["number"] (defScope s_number_written) := ⟨rfl, rfl, rfl, by decide +kernel, rfl, by decide +kernel, by decide +kernel⟩
theorem ok_written {CX : CXT} {f fC : Addr} {fd fdC : FuncData} (F : FnP K "number_written" s_number_written f fd) (FC : FnP K "count_of" s_count_of fC fdC) (gC : mg "count_of" = some (.ref fC)) (G : NkF K mg) :
    FnOk P w K mg base CX 2 f fd ["number"] spWrit := by
  have GC : FnOk P w K mg base CX0 1 fC fdC ["number"] spCnt := ok_count_of FC G
  have bC : Binds K fdC ["number"] [] := FC.bindsN fun _ _ _ _ _ _ us hl => match us, hl with | [_], _ => rfl
  refine F.ok sc_written (fun vs H Q E h => ?_) (fun cdv A outer s H vs Q E hr h => ?_)
  · obtain ⟨x, rfl, _⟩ := h
    rfl
  · obtain ⟨z, rfl, hz, q⟩ := h
    refine ⟨_, PSs.nox (pss_one (ps_ret (pe_call GC hr rfl gC FC.kp bC .nil pass0 (pa_cons (pe_ifExp (pt_cmpR op_ge (pv 0) pe_int (nomark _)) (pe_op op_mul pe_int (pv 0)) (pe_op op_sub (pe_op op_mul (pe_un un_neg pe_int) (pv 0)) pe_int)) pa_nil)))), ?_⟩
    refine ⟨_, rfl, _, _, rfl, rfl, _, rfl, ?_⟩
    refine ite2 (fun c => ?_) (fun c => ?_)
    · have c : 0 ≤ z := by have := of_decide_eq_true c; omega
      have e : ((sgn z : Nat) : Int) = 2 * z := by unfold sgn; rw [if_pos c]; omega
      exact ⟨_, rfl, _, _, rfl, rfl, .inl ⟨by decide, by decide⟩, sgn z, by rw [e]; rfl, by omega, q⟩
    · have c : ¬ 0 ≤ z := fun y => c (decide_eq_true (by omega))
      have e : ((sgn z : Nat) : Int) = -2 * z - 1 := by unfold sgn; rw [if_neg c]; omega
      exact ⟨_, rfl, _, rfl, _, _, rfl, rfl, .inl ⟨by decide, by decide⟩, _, _, rfl, rfl, sgn z, by rw [e]; rfl, by omega, q⟩
theorem sc_number_bits : FnScope ["number"] ["number"] (defScope s_number_bits) := ⟨rfl, rfl, rfl, by decide +kernel, rfl, by decide +kernel, by decide +kernel⟩
theorem ok_number_bits {f fN fC C : Addr} {fd fdN fdC : FuncData} (F : FnP K "number_bits" s_number_bits f fd) (FN : FnP K "is_number" s_is_number fN fdN) (gN : mg "is_number" = some (.ref fN)) (kC : PySem.W.keepIn K (.ref fC) = true) (gC : mg "number_written" = some (.ref fC)) (bC : Binds K fdC ["number"] []) (GC : FnOk P w K mg base CX0 2 fC fdC ["number"] spWrit)
    (G : NkF K mg) (B : PlnX K mg "BadNumber" C) : FnOk P w K mg base (L2.CX P w) 3 f fd ["number"] (spNB C) := by
  have GN : FnOk P w K mg base CX0 1 fN fdN ["thing"] spNum := ok_is_number FN G
  have bN : Binds K fdN ["thing"] [] := FN.bindsN fun _ _ _ _ _ _ us hl => match us, hl with | [_], _ => rfl
  refine F.ok sc_number_bits (fun vs H Q E h => ?_) (fun cdv A outer s H vs Q E hr h => ?_)
  · obtain ⟨x, rfl, _⟩ := h
    rfl
  · obtain ⟨x, rfl, h⟩ := h
    refine ⟨_, pss_cons (ps_if (pt_not (pt_val (pe_call GN (hr.mono (by decide)) rfl gN FN.kp bN .nil pass0 (pa_cons (pv 0) pa_nil))))
        (pss_one (ps_raise rfl (takes_of rfl rfl rfl rfl) (pmk_own PySem.F.excBase_ValueError B.x B.g B.o.kC (raises_own B.o.exC B.o.tyC) rfl))) pss_nil)
        (PSs.nox (pss_one (ps_ret (pe_call GC hr rfl gC kC bC .nil pass0 (pa_cons (pv 0) pa_nil))))), ?_⟩
    rcases h with ⟨z, rfl, hz, q⟩ | ⟨ho, q⟩
    · exact ⟨_, rfl, _, rfl, .inl ⟨_, rfl, _, rfl, iteF ⟨_, rfl, z, rfl, hz, q⟩⟩⟩
    · exact ⟨_, rfl, _, rfl, .inr ⟨ho, _, rfl, iteT q⟩⟩
theorem sc_is_bits : FnScope ["thing"] ["thing"] (defScope s_is_bits) := ⟨rfl, rfl, rfl, by decide +kernel, rfl, by decide +kernel, by decide +kernel⟩
theorem ok_is_bits {CX : CXT} {f : Addr} {fd : FuncData} (F : FnP K "is_bits" s_is_bits f fd) (G : NkF K mg) : FnOk P w K mg base CX 1 f fd ["thing"] (spIsB K) := by
  refine F.ok sc_is_bits (fun vs H Q E h => ?_) (fun cdv A outer s H vs Q E hr h => ?_)
  · obtain ⟨x, rfl, _⟩ := h
    rfl
  · obtain ⟨x, rfl, h⟩ := h
    refine ⟨_, PSs.nox (pss_one (ps_ret (pe_and (pe_callB call_isi (by rfl) G.isi (by decide +kernel) (pa_cons (pv 0) (pa_cons (pe_bltn (v := .ty "str") (by rfl) G.str (by decide +kernel) rfl) pa_nil)))
      (pe_one (pe_cmpR op_eq (pe_op op_add (pe_bm PySem.F.plainAttrs_str PySem.F.slot_str_count PySem.F.type_str_count mt_count (pv 0) (pa_cons pe_str pa_nil)) (pe_bm PySem.F.plainAttrs_str PySem.F.slot_str_count PySem.F.type_str_count mt_count (pv 0) (pa_cons pe_str pa_nil)))
        (pe_callB call_len (by rfl) G.len PySem.boot_len (pa_cons (pv 0) pa_nil)) (nomark _)))))), ?_⟩
    rcases h with ⟨t, rfl, hl, q⟩ | ⟨h, q⟩
    · refine ⟨_, rfl, _, _, _, _, true, rfl, .ty "str", .base (.str _), kit_ty (by decide +kernel), _, rfl, iteT ?_⟩
      refine ⟨_, rfl, rfl, _, _, rfl, rfl, _, rfl, rfl, _, _, rfl, rfl, _, _, rfl, rfl, _, rfl, _, _, rfl, ⟨sl_of (by rw [sT_len]; exact hl), rfl⟩, rfl, ?_⟩
      rw [zero_eq, one_eq, count_char, count_char, sT_len]
      obtain ⟨h1, h2⟩ := cnt_le t
      have e : decide (V.int ((cntC 48 t : Int) + (cntC 49 t : Int)) = V.int (t.length : Int)) = isB t := by
        rw [Bool.eq_iff_iff, decide_eq_true_eq, ← h2]
        constructor
        · intro z
          injection z with z
          omega
        · intro z
          congr 1
          omega
      show Q (.bl (decide (V.int ((cntC 48 t : Int) + (cntC 49 t : Int)) = V.int (t.length : Int)))) H
      rw [e]
      exact q
    · obtain ⟨ty, h1, h2⟩ := h.ty (K := K)
      exact ⟨_, rfl, _, _, _, _, false, rfl, .ty "str", h1, h2, _, rfl, iteF q⟩
end
/-- what the readers return -/
def ResV (H : Hp) (v : V) : Option (Int × Nat) → Prop
  | none => v = .non
  | some (a, b) => ∃ p, v = .ref p ∧ H p = some (.tup [.int a, .int (b : Int)])
def rdI (l : List Bool) (i : Nat) : Option (Int × Nat) := (rd l i).map fun x => ((x.1 : Int), x.2)
def spNeedB (C : Addr) (K : PySem.W.Frag) : Sp := fun vs H Q E => ∃ x, vs = [x] ∧ ((∃ t : List Nat, x = .str (sT t) ∧ t.length ≤ 100000 ∧ isB t = true ∧ Q .non H) ∨ (NbV H x ∧ ∀ H' d, Same H H' → H' d = some (.xd [("at", .non)]) → H d = none → E (.ref C) (some d) H'))
def BadIx (H : Hp) (n : Nat) (y : V) : Prop := (∃ i : Int, y = .int i ∧ (i < 0 ∨ (n : Int) < i)) ∨ OtV H y
def spNeedI (C : Addr) : Sp := fun vs H Q E => ∃ (t : List Nat) (y : V), vs = [.str (sT t), y] ∧ t.length ≤ 100000 ∧ ((∃ i : Nat, y = .int (i : Int) ∧ i ≤ t.length ∧ Q .non H) ∨ (BadIx H t.length y ∧ E (.ref C) none H))
def spAt (g : List Bool → Nat → Option (Int × Nat)) : Sp := fun vs H Q _ => ∃ (r : V) (l : List Bool) (i : Nat), vs = [r, .str (sT (bT l)), .int (i : Int)] ∧ l.length ≤ 600 ∧ i ≤ l.length ∧ ∀ v H', Same H H' → ResV H' v (g l i) → Q v H'
def spRead (CB CN : Addr) (g : List Bool → Nat → Option (Int × Nat)) : Sp := fun vs H Q E => ∃ (x y : V), vs = [x, y] ∧
  ((∃ (l : List Bool) (i : Nat), x = .str (sT (bT l)) ∧ y = .int (i : Int) ∧ l.length ≤ 600 ∧ i ≤ l.length ∧ ∀ v H', Same H H' → ResV H' v (g l i) → Q v H') ∨
   (∃ l : List Bool, x = .str (sT (bT l)) ∧ l.length ≤ 600 ∧ BadIx H l.length y ∧ E (.ref CN) none H) ∨
   (NbV H x ∧ ∀ H' d, Same H H' → H' d = some (.xd [("at", .non)]) → H d = none → E (.ref CB) (some d) H'))
theorem valB_ge : ∀ (l : List Bool) (a : Nat), a ≤ l.foldl (fun a b => a * 2 + bv b) a
  | [], a => Nat.le_refl _
  | b :: l, a => Nat.le_trans (by omega) (valB_ge l (a * 2 + bv b))
theorem valB_pos (l : List Bool) : 1 ≤ valB (true :: l) := valB_ge l 1
section
variable {P : Program} {w : World} {K : PySem.W.Frag} {mg : Str → Option Value} {base : Heap}
theorem sc_need_bits : FnScope ["bits"] ["bits"] (defScope s_need_bits) := ⟨rfl, rfl, rfl, by decide +kernel, rfl, by decide +kernel, by decide +kernel⟩
theorem ok_need_bits {f fI C : Addr} {fd fdI : FuncData} (F : FnP K "need_bits" s_need_bits f fd) (FI : FnP K "is_bits" s_is_bits fI fdI) (gI : mg "is_bits" = some (.ref fI)) (G : NkF K mg) (B : Ix1 P w K mg base "BadBits" C "at") :
    FnOk P w K mg base (L2.CX P w) 3 f fd ["bits"] (spNeedB C K) := by
  have GI : FnOk P w K mg base CX0 1 fI fdI ["thing"] (spIsB K) := ok_is_bits FI G
  have bI : Binds K fdI ["thing"] [] := FI.bindsN fun _ _ _ _ _ _ us hl => match us, hl with | [_], _ => rfl
  obtain ⟨fi, fdi, iC, tI, OI, bi⟩ := B.i
  refine F.ok sc_need_bits (fun vs H Q E h => ?_) (fun cdv A outer s H vs Q E hr h => ?_)
  · obtain ⟨x, rfl, _⟩ := h
    rfl
  · obtain ⟨x, rfl, h⟩ := h
    refine ⟨_, pss_one (ps_if (pt_not (pt_val (pe_call GI (hr.mono (by decide)) rfl gI FI.kp bI .nil pass0 (pa_cons (pv 0) pa_nil))))
        (pss_one (ps_raise rfl (takes_of rfl rfl rfl rfl) (pmk_oex B.o iC tI OI hr bi .nil pass0 rfl B.g (pa_cons pe_non pa_nil)))) pss_nil), ?_⟩
    rcases h with ⟨t, rfl, hl, hb, q⟩ | ⟨⟨t, rfl, hl, hb⟩ | hN, k⟩
    · exact ⟨_, rfl, _, rfl, .inl ⟨t, rfl, hl, _, rfl, by rw [hb]; exact iteF q⟩⟩
    · exact ⟨_, rfl, _, rfl, .inl ⟨t, rfl, hl, _, rfl, by rw [hb]; exact iteT (raise_i1 k)⟩⟩
    · exact ⟨_, rfl, _, rfl, .inr ⟨hN, _, rfl, iteT (raise_i1 k)⟩⟩
theorem sc_need_index : FnScope ["bits", "at"] ["bits", "at"] (defScope s_need_index) := ⟨rfl, rfl, rfl, by decide +kernel, rfl, by decide +kernel, by decide +kernel⟩
theorem ok_need_index {f fN C : Addr} {fd fdN : FuncData} (F : FnP K "need_index" s_need_index f fd) (FN : FnP K "is_number" s_is_number fN fdN) (gN : mg "is_number" = some (.ref fN)) (G : NkF K mg) (B : PlnX K mg "BadNumber" C) :
    FnOk P w K mg base (L2.CX P w) 2 f fd ["bits", "at"] (spNeedI C) := by
  have GN : FnOk P w K mg base CX0 1 fN fdN ["thing"] spNum := ok_is_number FN G
  have bN : Binds K fdN ["thing"] [] := FN.bindsN fun _ _ _ _ _ _ us hl => match us, hl with | [_], _ => rfl
  refine F.ok sc_need_index (fun vs H Q E h => ?_) (fun cdv A outer s H vs Q E hr h => ?_)
  · obtain ⟨t, y, rfl, _⟩ := h
    rfl
  · obtain ⟨t, y, rfl, hl, h⟩ := h
    refine ⟨_, pss_one (ps_if (PW.pt (pw_or (pt_not (pt_val (pe_call GN hr rfl gN FN.kp bN .nil pass0 (pa_cons (pv 1) pa_nil)))) (pw_or1 (pt_not (pt_chain op_le op_le pe_int (pv 1) (pe_callB call_len (by rfl) G.len PySem.boot_len (pa_cons (pv 0) pa_nil)))))))
        (pss_one (ps_raise rfl (takes_of rfl rfl rfl rfl) (pmk_own PySem.F.excBase_ValueError B.x B.g B.o.kC (raises_own B.o.exC B.o.tyC) rfl))) pss_nil), ?_⟩
    have sl : (sT t).length ≤ sizeLine := sl_of (by rw [sT_len]; exact hl)
    rcases h with ⟨i, rfl, hi, q⟩ | ⟨⟨i, rfl, hi⟩ | ho, q⟩
    · refine ⟨_, rfl, _, rfl, .inl ⟨_, rfl, _, rfl, iteF ⟨_, rfl, _, _, rfl, rfl, _, rfl, ?_⟩⟩⟩
      rw [decide_eq_true (show (0 : Int) ≤ (i : Int) by omega)]
      refine iteT ⟨_, rfl, _, _, rfl, ⟨sl, rfl⟩, _, _, rfl, rfl, _, rfl, ?_⟩
      rw [sT_len, decide_eq_true (show (i : Int) ≤ (t.length : Int) by omega)]
      exact iteF q
    · refine ⟨_, rfl, _, rfl, .inl ⟨_, rfl, _, rfl, iteF ⟨_, rfl, _, _, rfl, rfl, _, rfl, ?_⟩⟩⟩
      by_cases c : (0 : Int) ≤ i
      · rw [decide_eq_true c]
        refine iteT ⟨_, rfl, _, _, rfl, ⟨sl, rfl⟩, _, _, rfl, rfl, _, rfl, ?_⟩
        rw [sT_len, decide_eq_false (show ¬ i ≤ (t.length : Int) by omega)]
        exact iteT q
      · rw [decide_eq_false c]
        exact iteF ⟨_, rfl, iteT q⟩
    · exact ⟨_, rfl, _, rfl, .inr ⟨ho, _, rfl, iteT (iteT q)⟩⟩
theorem sc_count_at : FnScope ["registers", "bits", "at", "first", "behind"] ["registers", "bits", "at"] (defScope s_count_at) := ⟨rfl, rfl, rfl, by decide +kernel, rfl, by decide +kernel, by decide +kernel⟩
theorem ok_count_at {CX : CXT} {f : Addr} {fd : FuncData} (F : FnP K "count_at" s_count_at f fd) (G : NkF K mg) : FnOk P w K mg base CX 1 f fd ["registers", "bits", "at"] (spAt rdI) := by
  refine F.ok sc_count_at (fun vs H Q E h => ?_) (fun cdv A outer s H vs Q E hr h => ?_)
  · obtain ⟨r, l, i, rfl, _⟩ := h
    rfl
  · obtain ⟨r, l, i, rfl, hl, hi, k⟩ := h
    have nd := sc_count_at.nd
    refine ⟨_, PSs.nox (pss_cons (ps_set (i := 3) nd rfl (.inl rfl) (pe_bm PySem.F.plainAttrs_str PySem.F.slot_str_find PySem.F.type_str_find mt_find3 (pv 1) (pa_cons pe_str (pa_cons (pv 2) pa_nil))))
      (C8.pss_cut (ps_set (i := 4) nd rfl (.inl rfl) (pe_op op_add (pe_op op_sub (pe_op op_mul pe_int (pv 3)) (pv 2)) pe_int))
      (pss_cons (ps_if (PW.pt (pw_or (pt_cmpR op_lt (pv 3) pe_int (nomark _)) (pw_or1 (pt_cmpR op_gt (pv 4) (pe_callB call_len (by rfl) G.len PySem.boot_len (pa_cons (pv 1) pa_nil)) (nomark _))))) (pss_one (ps_ret pe_non)) pss_nil)
      (pss_one (ps_ret (pe_tup (pa_cons (pe_op op_sub (pe_callTy call_int2 (by rfl) G.int (by decide +kernel) (pa_cons (pe_slice sl_str (pv 1) (po_some (pv 3)) (po_some (pv 4))) (pa_cons pe_int pa_nil))) pe_int) (pa_cons (pv 4) pa_nil)))))))), ?_⟩
    have sl : (sT (bT l)).length ≤ sizeLine := sl_of (by rw [sT_len, bT_len]; omega)
    refine ⟨_, rfl, rfl, _, rfl, _, _, _, rfl, rfl, ?_⟩
    rw [one_eq, find_bits l i hi]
    have zl := zer_le (l.drop i)
    rw [List.length_drop] at zl
    obtain ⟨z, ez⟩ : ∃ z, z = zer (l.drop i) := ⟨_, rfl⟩
    rw [← ez] at zl ⊢
    have er : rdI l i = if l.length < i + 2 * z + 1 then none else some (((valB ((l.drop (i + z)).take (z + 1)) - 1 : Nat) : Int), i + 2 * z + 1) := by
      unfold rdI rd
      rw [← ez]
      split <;> rfl
    refine ⟨fun σ H' => H' = H ∧ ((i + z < l.length ∧ σ = [some r, some (.str (sT (bT l))), some (.int (i : Int)), some (.int ((i + z : Nat) : Int)), some (.int ((i + 2 * z + 1 : Nat) : Int))]) ∨ (¬ i + z < l.length ∧ ∃ b, σ = [some r, some (.str (sT (bT l))), some (.int (i : Int)), some (.int (-1)), some (.int b)])), ?_, ?_⟩
    · refine ⟨_, rfl, _, _, rfl, rfl, .inl ⟨by decide, by decide⟩, _, rfl, _, _, rfl, rfl, _, _, rfl, rfl, rfl, ?_⟩
      by_cases c : i + z < l.length
      · rw [if_pos c]
        refine .inl ⟨c, ?_⟩
        show [some r, some (.str (sT (bT l))), some (.int (i : Int)), some (.int ((i + z : Nat) : Int)), some (.int ((2 : Int) * ((i + z : Nat) : Int) - (i : Int) + 1))] = _
        rw [show (2 : Int) * ((i + z : Nat) : Int) - (i : Int) + 1 = ((i + 2 * z + 1 : Nat) : Int) by omega]
      · rw [if_neg c]
        exact .inr ⟨c, _, rfl⟩
    rintro σ H' ⟨rfl, ⟨c, rfl⟩ | ⟨c, b, rfl⟩⟩
    · refine ⟨_, rfl, _, _, rfl, rfl, _, rfl, ?_⟩
      rw [decide_eq_false (show ¬ (((i + z : Nat) : Int) < 0) by omega)]
      refine iteF ⟨_, rfl, _, rfl, _, _, rfl, ⟨sl, rfl⟩, _, _, rfl, rfl, _, rfl, ?_⟩
      rw [sT_len, bT_len]
      by_cases c2 : l.length < i + 2 * z + 1
      · rw [if_pos c2] at er
        rw [decide_eq_true (show (l.length : Int) < ((i + 2 * z + 1 : Nat) : Int) by omega)]
        exact iteT (k _ _ (Same.refl _) (by rw [er]; rfl))
      · rw [if_neg c2] at er
        rw [decide_eq_false (show ¬ (l.length : Int) < ((i + 2 * z + 1 : Nat) : Int) by omega)]
        have ne : (l.drop (i + z)).take (z + 1) ≠ [] := fun q => by
          have := congrArg List.length q
          rw [List.length_take, List.length_drop] at this
          simp at this
          omega
        have le : ((l.drop (i + z)).take (z + 1)).length ≤ 640 := by rw [List.length_take]; omega
        refine iteF ⟨_, rfl, _, rfl, _, rfl, _, rfl, _, rfl, _, rfl, sl, (l.drop (i + z)).take (z + 1), ?_, ne, le, _, _, rfl, rfl, _, rfl, (show 2 ≤ sizeLine by decide), fun p hp => ?_⟩
        · show [V.str (cutS (sT (bT l)) (some ((i + z : Nat) : Int)) (some ((i + 2 * z + 1 : Nat) : Int))), V.int 2] = _
          rw [cut_nat, show i + 2 * z + 1 - (i + z) = z + 1 by omega]
          unfold bT
          rw [List.map_take, List.map_drop]
        · refine k _ _ (same_new hp) ?_
          rw [er]
          refine ⟨p, rfl, ?_⟩
          rw [upd_same]
          have h1 : 1 ≤ valB ((l.drop (i + z)).take (z + 1)) := by
            have ha := zer_at (l := l.drop i) (by rw [List.length_drop]; omega)
            rw [← ez, List.getElem?_drop] at ha
            have e2 : l.drop (i + z) = true :: l.drop (i + z + 1) := by
              rw [List.drop_eq_getElem_cons c]
              congr 1
              rw [List.getElem?_eq_getElem c] at ha
              exact Option.some.inj ha
            rw [e2, List.take_succ_cons]
            exact valB_pos _
          rw [show ((valB ((l.drop (i + z)).take (z + 1)) - 1 : Nat) : Int) = ((valB ((l.drop (i + z)).take (z + 1)) : Nat) : Int) - 1 by omega]
    · rw [if_pos (by omega)] at er
      exact ⟨_, rfl, _, _, rfl, rfl, _, rfl, iteT (iteT (k _ _ (Same.refl _) (by rw [er]; rfl)))⟩
end
section
variable {P : Program} {w : World} {K : PySem.W.Frag} {mg : Str → Option Value} {base : Heap}
theorem sc_number_at : FnScope ["registers", "bits", "at", "told", "count", "behind"] ["registers", "bits", "at"] (defScope s_number_at) := ⟨rfl, rfl, rfl, by decide +kernel, rfl, by decide +kernel, by decide +kernel⟩
theorem ok_number_at {CX : CXT} {f fC : Addr} {fd fdC : FuncData} (F : FnP K "number_at" s_number_at f fd) (FC : FnP K "count_at" s_count_at fC fdC) (gC : mg "count_at" = some (.ref fC)) (G : NkF K mg) : FnOk P w K mg base CX 2 f fd ["registers", "bits", "at"] (spAt rdS) := by
  have GC : FnOk P w K mg base CX0 1 fC fdC ["registers", "bits", "at"] (spAt rdI) := ok_count_at FC G
  have bC : Binds K fdC ["registers", "bits", "at"] [] := FC.bindsN fun _ _ _ _ _ _ us hl => match us, hl with | [_, _, _], _ => rfl
  refine F.ok sc_number_at (fun vs H Q E h => ?_) (fun cdv A outer s H vs Q E hr h => ?_)
  · obtain ⟨r, l, i, rfl, _⟩ := h
    rfl
  · obtain ⟨r, l, i, rfl, hl, hi, k⟩ := h
    have nd := sc_number_at.nd
    refine ⟨_, PSs.nox (pss_cons (ps_set (i := 3) nd rfl (.inl rfl) (pe_call GC hr rfl gC FC.kp bC .nil pass0 (pa_cons (pv 0) (pa_cons (pv 1) (pa_cons (pv 2) pa_nil)))))
      (pss_cons (ps_if (pt_cmpR op_isN (pv 3) pe_non (nomark _)) (pss_one (ps_ret pe_non)) pss_nil)
      (pss_cons (ps_asg (pv 3) (pg_tup rfl (pgs_cons (pg_name (i := 4) nd rfl (Or.inl rfl)) (pgs_cons (pg_name (i := 5) nd rfl (Or.inl rfl)) pgs_nil))))
      (pss_one (ps_ret (pe_tup (pa_cons (pe_ifExp (pt_cmpR op_eq (pe_op op_modN (pv 4) pe_int) pe_int (nomark _)) (pe_op op_fdivN (pv 4) pe_int) (pe_un un_neg (pe_op op_fdivN (pe_op op_add (pv 4) pe_int) pe_int))) (pa_cons (pv 5) pa_nil)))))))), ?_⟩
    refine ⟨_, rfl, _, rfl, _, rfl, r, l, i, rfl, hl, hi, fun v H1 s1 hv => ?_⟩
    unfold rdI at hv
    unfold rdS at k
    cases e : rd l i with
    | none =>
      rw [e] at hv k
      have hv : v = .non := hv
      subst hv
      refine ⟨_, rfl, rfl, _, rfl, ?_⟩
      rw [decide_eq_true rfl]
      exact iteT (k _ _ s1 rfl)
    | some x =>
      obtain ⟨n, b⟩ := x
      rw [e] at hv k
      obtain ⟨p, rfl, hp⟩ := hv
      refine ⟨_, rfl, rfl, _, rfl, ?_⟩
      rw [decide_eq_false (fun z => by cases z)]
      refine iteF ⟨_, rfl, p, _, rfl, SqT.of hp, rfl, _, _, rfl, _, _, rfl, rfl, ?_⟩
      refine ⟨_, rfl, _, _, rfl, rfl, (show (2 : Int) ≠ 0 by decide), rfl, _, rfl, ?_⟩
      have hm : decide (V.int ((n : Int).fmod 2) = V.int 0) = decide (n % 2 = 0) := by
        rw [Int.fmod_eq_emod_of_nonneg _ (by decide)]
        apply decide_eq_decide.mpr
        constructor
        · intro z
          injection z with z
          omega
        · intro z
          congr 1
          omega
      show (if decide (V.int ((n : Int).fmod 2) = V.int 0) = true then _ else _)
      rw [hm]
      have fin : ∀ z : Int, z = uns n → ∀ q, H1 q = none → Q (.ref q) (upd H1 q (.tup [.int z, .int (b : Int)])) := by
        rintro z rfl q hq
        exact k _ _ (s1.trans (same_new hq)) ⟨q, rfl, upd_same⟩
      refine ite2 (fun c => ?_) (fun c => ?_)
      · have c := of_decide_eq_true c
        refine ⟨_, rfl, _, _, rfl, rfl, ⟨by decide, by decide⟩, _, rfl, (show 2 ≤ sizeLine by decide), fin _ ?_⟩
        unfold uns
        rw [if_pos c, Int.fdiv_eq_ediv_of_nonneg _ (by decide)]
        omega
      · have c : ¬ n % 2 = 0 := fun z => c (decide_eq_true z)
        refine ⟨_, rfl, _, _, rfl, rfl, _, _, rfl, rfl, ⟨by decide, by decide⟩, _, rfl, _, rfl, (show 2 ≤ sizeLine by decide), fin _ ?_⟩
        unfold uns
        rw [if_neg c]
        show -(((n : Int) + 1).fdiv 2) = _
        rw [Int.fdiv_eq_ediv_of_nonneg _ (by decide)]
        omega
theorem sc_read_count : FnScope ["bits", "at"] ["bits", "at"] (defScope s_read_count) := ⟨rfl, rfl, rfl, by decide +kernel, rfl, by decide +kernel, by decide +kernel⟩
theorem sc_read_number : FnScope ["bits", "at"] ["bits", "at"] (defScope s_read_number) := ⟨rfl, rfl, rfl, by decide +kernel, rfl, by decide +kernel, by decide +kernel⟩
structure RdF (P : Program) (w : World) (K : PySem.W.Frag) (mg : Str → Option Value) (base : Heap) (CB CN : Addr) : Prop where
  needB : ∃ (f : Addr) (fd : FuncData), mg "need_bits" = some (.ref f) ∧ PySem.W.keepIn K (.ref f) = true ∧ Binds K fd ["bits"] [] ∧ FnOk P w K mg base (L2.CX P w) 3 f fd ["bits"] (spNeedB CB K)
  needI : ∃ (f : Addr) (fd : FuncData), mg "need_index" = some (.ref f) ∧ PySem.W.keepIn K (.ref f) = true ∧ Binds K fd ["bits", "at"] [] ∧ FnOk P w K mg base (L2.CX P w) 2 f fd ["bits", "at"] (spNeedI CN)
theorem ok_read_count {f fA CB CN : Addr} {fd fdA : FuncData} (F : FnP K "read_count" s_read_count f fd) (R : RdF P w K mg base CB CN) (kA : PySem.W.keepIn K (.ref fA) = true) (gA : mg "count_at" = some (.ref fA)) (bA : Binds K fdA ["registers", "bits", "at"] []) (GA : FnOk P w K mg base CX0 1 fA fdA ["registers", "bits", "at"] (spAt rdI)) :
    FnOk P w K mg base (L2.CX P w) 4 f fd ["bits", "at"] (spRead CB CN rdI) := by
  obtain ⟨fB, fdB, gB, kB, bB, GB⟩ := R.needB
  obtain ⟨fI, fdI, gI, kI, bI, GI⟩ := R.needI
  refine F.ok sc_read_count (fun vs H Q E h => ?_) (fun cdv A outer s H vs Q E hr h => ?_)
  · obtain ⟨x, y, rfl, _⟩ := h
    rfl
  · obtain ⟨x, y, rfl, h⟩ := h
    refine ⟨_, pss_cons (ps_expr (pe_call GB hr rfl gB kB bB .nil (passes_call (takes_of rfl rfl rfl rfl) (fun _ _ _ _ h => h)) (pa_cons (pv 0) pa_nil)))
      (pss_cons (ps_expr (pe_call GI (hr.mono (by decide)) rfl gI kI bI .nil (passes_call (takes_of rfl rfl rfl rfl) (fun _ _ _ _ h => h)) (pa_cons (pv 0) (pa_cons (pv 1) pa_nil))))
      (PSs.nox (pss_one (ps_ret (pe_call GA (hr.mono (by decide)) rfl gA kA bA .nil pass0 (pa_cons pe_int (pa_cons (pv 0) (pa_cons (pv 1) pa_nil)))))))), ?_⟩
    rcases h with ⟨l, i, rfl, rfl, hl, hi, k⟩ | ⟨l, rfl, hl, hb, q⟩ | ⟨hb, k⟩
    · refine ⟨_, rfl, _, rfl, .inl ⟨bT l, rfl, bT_tx (by omega), bT_isB l, ?_⟩⟩
      refine ⟨_, rfl, _, rfl, bT l, _, rfl, bT_tx (by omega), .inl ⟨i, rfl, by rw [bT_len]; exact hi, ?_⟩⟩
      exact ⟨_, rfl, _, rfl, .int 0, l, i, rfl, hl, hi, k⟩
    · refine ⟨_, rfl, _, rfl, .inl ⟨bT l, rfl, bT_tx (by omega), bT_isB l, ?_⟩⟩
      exact ⟨_, rfl, _, rfl, bT l, _, rfl, bT_tx (by omega), .inr ⟨by rw [bT_len]; exact hb, q⟩⟩
    · exact ⟨_, rfl, _, rfl, .inr ⟨hb, k⟩⟩
theorem ok_read_number {f fA CB CN : Addr} {fd fdA : FuncData} (F : FnP K "read_number" s_read_number f fd) (R : RdF P w K mg base CB CN) (kA : PySem.W.keepIn K (.ref fA) = true) (gA : mg "number_at" = some (.ref fA)) (bA : Binds K fdA ["registers", "bits", "at"] []) (GA : FnOk P w K mg base CX0 2 fA fdA ["registers", "bits", "at"] (spAt rdS)) :
    FnOk P w K mg base (L2.CX P w) 4 f fd ["bits", "at"] (spRead CB CN rdS) := by
  obtain ⟨fB, fdB, gB, kB, bB, GB⟩ := R.needB
  obtain ⟨fI, fdI, gI, kI, bI, GI⟩ := R.needI
  refine F.ok sc_read_number (fun vs H Q E h => ?_) (fun cdv A outer s H vs Q E hr h => ?_)
  · obtain ⟨x, y, rfl, _⟩ := h
    rfl
  · obtain ⟨x, y, rfl, h⟩ := h
    refine ⟨_, pss_cons (ps_expr (pe_call GB hr rfl gB kB bB .nil (passes_call (takes_of rfl rfl rfl rfl) (fun _ _ _ _ h => h)) (pa_cons (pv 0) pa_nil)))
      (pss_cons (ps_expr (pe_call GI (hr.mono (by decide)) rfl gI kI bI .nil (passes_call (takes_of rfl rfl rfl rfl) (fun _ _ _ _ h => h)) (pa_cons (pv 0) (pa_cons (pv 1) pa_nil))))
      (PSs.nox (pss_one (ps_ret (pe_call GA (hr.mono (by decide)) rfl gA kA bA .nil pass0 (pa_cons pe_int (pa_cons (pv 0) (pa_cons (pv 1) pa_nil)))))))), ?_⟩
    rcases h with ⟨l, i, rfl, rfl, hl, hi, k⟩ | ⟨l, rfl, hl, hb, q⟩ | ⟨hb, k⟩
    · refine ⟨_, rfl, _, rfl, .inl ⟨bT l, rfl, bT_tx (by omega), bT_isB l, ?_⟩⟩
      refine ⟨_, rfl, _, rfl, bT l, _, rfl, bT_tx (by omega), .inl ⟨i, rfl, by rw [bT_len]; exact hi, ?_⟩⟩
      exact ⟨_, rfl, _, rfl, .int 0, l, i, rfl, hl, hi, k⟩
    · refine ⟨_, rfl, _, rfl, .inl ⟨bT l, rfl, bT_tx (by omega), bT_isB l, ?_⟩⟩
      exact ⟨_, rfl, _, rfl, bT l, _, rfl, bT_tx (by omega), .inr ⟨by rw [bT_len]; exact hb, q⟩⟩
    · exact ⟨_, rfl, _, rfl, .inr ⟨hb, k⟩⟩
end
/-! ## the law's functions of bits -/
theorem digs_cons : ∀ (j n : Nat), digs n (j + 1) = ((n / 2 ^ j) % 2 == 1) :: digs n j
  | 0, n => by
    show [] ++ [n % 2 == 1] = _
    rw [Nat.pow_zero, Nat.div_one]
    rfl
  | j + 1, n => by
    show digs (n / 2) (j + 1) ++ [n % 2 == 1] = _
    rw [digs_cons j (n / 2), List.cons_append, Nat.div_div_eq_div_mul, ← Nat.pow_succ']
    rfl
theorem str_bit (n : Nat) : (toString ((n : Int).fmod 2) : Str) = sT [bit (n % 2 == 1)] := by
  rw [Int.fmod_eq_emod_of_nonneg _ (by decide)]
  rcases Nat.mod_two_eq_zero_or_one n with h | h
  · rw [show (n : Int) % 2 = 0 by omega, h]
    decide +kernel
  · rw [show (n : Int) % 2 = 1 by omega, h]
    decide +kernel
def spFig : Sp := fun vs H Q _ => ∃ (t : Nat) (V0 : Hp) (d : Addr), vs = [.ref d] ∧ Dw t V0 H d ∧ t + 10 < T40 ∧ ∀ (z : Int) (H' : Hp), z.natAbs < 2 ^ 41 → Dw (t + 2) V0 H' d → Q (.int z) H'
def spDigs : Sp := fun vs H Q _ => ∃ n m : Nat, vs = [.int (n : Int), .int (m : Int)] ∧ m ≤ 600 ∧ Q (.str (sT (bT (digs n m)))) H
def spLCnt : Sp := fun vs H Q _ => ∃ n : Nat, vs = [.int (n : Int)] ∧ n < 2 ^ 62 ∧ Q (.str (sT (bT (gam n)))) H
def spBits : Sp := fun vs H Q _ => ∃ (t : Nat) (V0 : Hp) (d : Addr) (m : Nat), vs = [.ref d, .int (m : Int)] ∧ Dw t V0 H d ∧ t + 200 < T40 ∧ m ≤ 100 ∧ ∀ (l : List Bool) (H' : Hp), l.length ≤ m → Dw (t + m + 2) V0 H' d → Q (.str (sT (bT l))) H'
def spLRead (g : List Bool → Nat → Option (Int × Nat)) : Sp := fun vs H Q _ => ∃ (l : List Bool) (i : Nat), vs = [.str (sT (bT l)), .int (i : Int)] ∧ l.length ≤ 600 ∧ i ≤ l.length ∧ ∀ v H', Same H H' → ResV H' v (g l i) → Q v H'
def spVal : Sp := fun vs H Q _ => ∃ l : List Bool, vs = [.str (sT (bT l))] ∧ l.length ≤ 600 ∧ Q (.int ((valB l : Nat) : Int)) H
structure DrF (P : Program) (w : World) (K : PySem.W.Frag) (mg : Str → Option Value) (base : Heap) : Prop where
  take : ∃ (f : Addr) (fd : FuncData), mg "_law_take" = some (.ref f) ∧ PySem.W.keepIn K (.ref f) = true ∧ Binds K fd ["_law_draw", "_law_many"] [] ∧ FnOk P w K mg base CX0 2 f fd ["_law_draw", "_law_many"] spTake
  pick : ∃ (f : Addr) (fd : FuncData), mg "_law_pick" = some (.ref f) ∧ PySem.W.keepIn K (.ref f) = true ∧ Binds K fd ["_law_draw", "_law_some"] [] ∧ FnOk P w K mg base CX0 3 f fd ["_law_draw", "_law_some"] (spPick K)
  rng : mg "range" = none
section
variable {P : Program} {w : World} {K : PySem.W.Frag} {mg : Str → Option Value} {base : Heap}
theorem sc_figure : FnScope ["_law_draw", "_law_way"] ["_law_draw"] (defScope s_law_figure) := ⟨rfl, rfl, rfl, by decide +kernel, rfl, by decide +kernel, by decide +kernel⟩
theorem ok_figure {CX : CXT} {f : Addr} {fd : FuncData} (F : FnP K "_law_figure" s_law_figure f fd) (D : DrF P w K mg base) : FnOk P w K mg base CX 3 f fd ["_law_draw"] spFig := by
  obtain ⟨fT, fdT, gT, kT, bT', GT⟩ := D.take
  refine F.ok sc_figure (fun vs H Q E h => ?_) (fun cdv A outer s H vs Q E hr h => ?_)
  · obtain ⟨t, V0, d, rfl, _⟩ := h
    rfl
  · obtain ⟨t, V0, d, rfl, hD, ht, k⟩ := h
    have ht : t + 10 < 1099511627776 := ht
    have nd := sc_figure.nd
    have ct : ∀ m : Int, True := fun _ => trivial
    refine ⟨_, PSs.nox (pss_cons (ps_set (i := 1) nd rfl (.inl rfl) (pe_call GT hr rfl gT kT bT' .nil pass0 (pa_cons (pv 0) (pa_cons pe_int pa_nil))))
      (pss_cons (ps_if (pt_cmpR op_eq (pv 1) pe_int (nomark _)) (pss_one (ps_ret (pe_op op_sub (pe_call GT hr rfl gT kT bT' .nil pass0 (pa_cons (pv 0) (pa_cons pe_int pa_nil))) pe_int))) pss_nil)
      (pss_one (ps_ret (pe_ifExp (pt_cmpR op_lt (pv 1) pe_int (nomark _)) (pe_call GT hr rfl gT kT bT' .nil pass0 (pa_cons (pv 0) (pa_cons pe_int pa_nil))) (pe_op op_sub (pe_call GT hr rfl gT kT bT' .nil pass0 (pa_cons (pv 0) (pa_cons pe_int pa_nil))) pe_int)))))), ?_⟩
    refine ⟨_, rfl, t, V0, d, 8, rfl, hD, by show t < 1099511627776; omega, by decide, by decide, fun a H1 a0 a1 D1 => ?_⟩
    refine ⟨_, rfl, rfl, _, rfl, ?_⟩
    refine ite2 (fun c => ?_) (fun c => ?_)
    · exact ⟨_, rfl, t + 1, V0, d, _, rfl, D1, by show t + 1 < 1099511627776; omega, by decide, by decide, fun b H2 b0 b1 D2 => ⟨_, _, rfl, rfl, k _ _ (by omega) D2⟩⟩
    · refine ⟨_, rfl, _, _, rfl, rfl, _, rfl, ?_⟩
      refine ite2 (fun c => ?_) (fun c => ?_)
      · exact ⟨_, rfl, t + 1, V0, d, _, rfl, D1, by show t + 1 < 1099511627776; omega, by decide, by decide, fun b H2 b0 b1 D2 => k _ _ (by omega) D2⟩
      · exact ⟨_, rfl, t + 1, V0, d, _, rfl, D1, by show t + 1 < 1099511627776; omega, by decide, by decide, fun b H2 b0 b1 D2 => ⟨_, _, rfl, rfl, k _ _ (by omega) D2⟩⟩
theorem sc_digits : FnScope ["_law_number", "_law_many", "_law_found", "_law_left", "_law_k"] ["_law_number", "_law_many"] (defScope s_law_digits) := ⟨rfl, rfl, rfl, by decide +kernel, rfl, by decide +kernel, by decide +kernel⟩
theorem ok_digits {CX : CXT} {f : Addr} {fd : FuncData} (F : FnP K "_law_digits" s_law_digits f fd) (G : NkF K mg) (rng : mg "range" = none) : FnOk P w K mg base CX 1 f fd ["_law_number", "_law_many"] spDigs := by
  refine F.ok sc_digits (fun vs H Q E h => ?_) (fun cdv A outer s H vs Q E hr h => ?_)
  · obtain ⟨n, m, rfl, _⟩ := h
    rfl
  · obtain ⟨n, m, rfl, hm, q⟩ := h
    have nd := sc_digits.nd
    refine ⟨_, PSs.nox (pss_cons (ps_par (i := 2) (j := 3) rfl nd rfl rfl (by decide) rfl rfl (pa_cons pe_str (pa_cons (pv 0) pa_nil)) (by rfl))
      (pss_cons (ps_for PassesOwn.never rfl (pi_range1 (by rfl) rng (pa_cons (pv 1) pa_nil)) (pg_name (i := 4) nd rfl (Or.inl rfl))
        (pss_cons (ps_set (i := 2) nd rfl (.inl rfl) (pe_op op_add_str (pe_callTy call_str_int (by rfl) G.str (by decide +kernel) (pa_cons (pe_op op_modN (pe_callTy call_int1 (by rfl) G.int (by decide +kernel) (pa_cons (pv 3) pa_nil)) pe_int) pa_nil)) (pv 2)))
        (pss_one (ps_set (i := 3) nd rfl (.inl rfl) (pe_op op_fdivN (pv 3) pe_int)))))
      (pss_one (ps_ret (pv 2))))), ?_⟩
    refine ⟨_, rfl, _, _, rfl, _, rfl, _, rfl, by omega, by omega, ?_⟩
    refine for_range (lo := 0) (n := m) (fun j σ H' => H' = H ∧ ∃ v4, σ = [some (.int (n : Int)), some (.int (m : Int)), some (.str (sT (bT (digs n j)))), some (.int ((n / 2 ^ j : Nat) : Int)), v4]) ⟨rfl, none, by rw [Nat.pow_zero, Nat.div_one]; rfl⟩ ?_ ?_
    · rintro j σ H' hj ⟨rfl, v4, rfl⟩
      refine ⟨_, rfl, .inl ⟨_, rfl, _, _, rfl, rfl, (show (2 : Int) ≠ 0 by decide), _, rfl, ?_, _, rfl, _, _, rfl, rfl, ?_, _, rfl, _, _, rfl, rfl, ⟨by decide, by decide⟩, rfl, some (.int (0 + (j : Int))), ?_⟩⟩
      · rw [Int.fmod_eq_emod_of_nonneg _ (by decide)]
        rcases Nat.mod_two_eq_zero_or_one (n / 2 ^ j) with h | h
        · rw [show ((n / 2 ^ j : Nat) : Int) % 2 = 0 by omega]; decide
        · rw [show ((n / 2 ^ j : Nat) : Int) % 2 = 1 by omega]; decide
      · rw [str_bit, sT_len, sT_len, bT_len, digs_len]
        exact sl_of (by simp; omega)
      · show [some (V.int (n : Int)), some (V.int (m : Int)), some (V.str ((toString (((n / 2 ^ j : Nat) : Int).fmod 2) : Str) ++ sT (bT (digs n j)))), some (V.int (((n / 2 ^ j : Nat) : Int).fdiv 2)), some (V.int (0 + (j : Int)))] = _
        rw [str_bit, sT_ap, digs_cons, Int.fdiv_eq_ediv_of_nonneg _ (by decide), show ((n / 2 ^ j : Nat) : Int) / 2 = ((n / 2 ^ (j + 1) : Nat) : Int) by rw [Nat.pow_succ, ← Nat.div_div_eq_div_mul]; omega]
        rfl
    · rintro σ H' ⟨rfl, v4, rfl⟩
      exact ⟨_, rfl, q⟩
theorem sc_lcount : FnScope ["_law_number", "_law_many", "_law_left"] ["_law_number"] (defScope s_law_count) := ⟨rfl, rfl, rfl, by decide +kernel, rfl, by decide +kernel, by decide +kernel⟩
theorem ok_lcount {CX : CXT} {f fD : Addr} {fd fdD : FuncData} (F : FnP K "_law_count" s_law_count f fd) (FD : FnP K "_law_digits" s_law_digits fD fdD) (gD : mg "_law_digits" = some (.ref fD)) (G : NkF K mg) (rng : mg "range" = none) : FnOk P w K mg base CX 2 f fd ["_law_number"] spLCnt := by
  have GD : FnOk P w K mg base CX0 1 fD fdD ["_law_number", "_law_many"] spDigs := ok_digits FD G rng
  have bD : Binds K fdD ["_law_number", "_law_many"] [] := FD.bindsN fun _ _ _ _ _ _ us hl => match us, hl with | [_, _], _ => rfl
  refine F.ok sc_lcount (fun vs H Q E h => ?_) (fun cdv A outer s H vs Q E hr h => ?_)
  · obtain ⟨n, rfl, _⟩ := h
    rfl
  · obtain ⟨n, rfl, hn, q⟩ := h
    have nd := sc_lcount.nd
    refine ⟨_, PSs.nox (pss_cons (ps_par (i := 1) (j := 2) rfl nd rfl rfl (by decide) rfl rfl (pa_cons pe_int (pa_cons (pe_op op_add (pv 0) pe_int) pa_nil)) (by rfl))
      (pss_cons (ps_while PassesOwn.never (pt_cmpR op_gt (pv 2) pe_int (nomark _)) (pss_one (ps_par (i := 1) (j := 2) rfl nd rfl rfl (by decide) rfl rfl (pa_cons (pe_op op_add (pv 1) pe_int) (pa_cons (pe_op op_fdivN (pv 2) pe_int) pa_nil)) (by rfl))))
      (pss_one (ps_ret (pe_op op_add_str (pe_op op_repc pe_str (pv 1)) (pe_call GD hr rfl gD FD.kp bD .nil pass0 (pa_cons (pe_op op_add (pv 0) pe_int) (pa_cons (pe_op op_add (pv 1) pe_int) pa_nil)))))))), ?_⟩
    obtain ⟨l1, l2⟩ := gam_small hn
    refine ⟨_, rfl, _, _, rfl, rfl, _, _, rfl, ?_⟩
    refine ⟨fun x σ H' => H' = H ∧ ∃ j left : Nat, x = left ∧ 1 ≤ left ∧ j + lg left = lg (n + 1) ∧ σ = [some (.int (n : Int)), some (.int (j : Int)), some (.int (left : Int))], ⟨n + 1, rfl, 0, n + 1, rfl, by omega, by omega, rfl⟩, ?_⟩
    rintro left σ H' ⟨rfl, j, lf, rfl, h1, h2, rfl⟩
    refine ⟨_, rfl, _, _, rfl, rfl, _, rfl, ?_⟩
    refine ite2 (fun c => ?_) (fun c => ?_)
    · have c : 1 < left := by have := of_decide_eq_true c; omega
      refine ⟨fun σ' H2 => H2 = H' ∧ ∃ j left2 : Nat, left2 < left ∧ 1 ≤ left2 ∧ j + lg left2 = lg (n + 1) ∧ σ' = [some (.int (n : Int)), some (.int (j : Int)), some (.int (left2 : Int))], fun _ _ h => ?_, ?_⟩
      · obtain ⟨e, j2, l2, a1, a2, a3, a4⟩ := h
        exact ⟨l2, a1, e, j2, l2, rfl, a2, a3, a4⟩
      · refine ⟨_, rfl, _, _, rfl, rfl, _, rfl, _, _, rfl, rfl, ⟨by decide, by decide⟩, _, _, rfl, rfl, j + 1, left / 2, by omega, by omega, ?_, ?_⟩
        · rw [lg_ge (show ¬ left < 2 by omega)] at h2
          omega
        · show [some (V.int (n : Int)), some (V.int ((j : Int) + 1)), some (V.int ((left : Int).fdiv 2))] = _
          rw [Int.fdiv_eq_ediv_of_nonneg _ (by decide)]
          rfl
    · have c : left = 1 := by
        have : ¬ (1 : Int) < (left : Int) := fun z => c (decide_eq_true z)
        omega
      subst c
      rw [lg_lt (by decide)] at h2
      have h2 : j = lg (n + 1) := by omega
      subst h2
      refine ⟨_, rfl, 48, lg (n + 1), congrArg V.str zero_eq, rfl, by omega, _, rfl, _, _, rfl, rfl, _, rfl, _, _, rfl, rfl, n + 1, lg (n + 1) + 1, rfl, by omega, _, _, rfl, rfl, ?_, ?_⟩
      · rw [sT_len, sT_len, List.length_replicate, bT_len, digs_len]
        exact sl_of (by omega)
      · rw [sT_ap, digs_bin]
        have e : List.replicate (lg (n + 1)) 48 ++ bT (binB (n + 1)) = bT (gam n) := by
          unfold gam
          rw [bT_app]
          congr 1
          unfold bT
          rw [List.map_replicate]
          rfl
        rw [e]
        exact q
theorem sc_lsigned : FnScope ["_law_number"] ["_law_number"] (defScope s_law_signed) := ⟨rfl, rfl, rfl, by decide +kernel, rfl, by decide +kernel, by decide +kernel⟩
theorem ok_lsigned {CX : CXT} {f fC : Addr} {fd fdC : FuncData} (F : FnP K "_law_signed" s_law_signed f fd) (kC : PySem.W.keepIn K (.ref fC) = true) (gC : mg "_law_count" = some (.ref fC)) (bC : Binds K fdC ["_law_number"] []) (GC : FnOk P w K mg base CX0 2 fC fdC ["_law_number"] spLCnt) :
    FnOk P w K mg base CX 3 f fd ["_law_number"] spWrit := by
  refine F.ok sc_lsigned (fun vs H Q E h => ?_) (fun cdv A outer s H vs Q E hr h => ?_)
  · obtain ⟨x, rfl, _⟩ := h
    rfl
  · obtain ⟨z, rfl, hz, q⟩ := h
    refine ⟨_, PSs.nox (pss_one (ps_ret (pe_call GC hr rfl gC kC bC .nil pass0 (pa_cons (pe_ifExp (pt_cmpR op_ge (pv 0) pe_int (nomark _)) (pe_op op_mul pe_int (pv 0)) (pe_op op_sub (pe_op op_mul (pe_un un_neg pe_int) (pv 0)) pe_int)) pa_nil)))), ?_⟩
    refine ⟨_, rfl, _, _, rfl, rfl, _, rfl, ?_⟩
    refine ite2 (fun c => ?_) (fun c => ?_)
    · have c : 0 ≤ z := by have := of_decide_eq_true c; omega
      have e : ((sgn z : Nat) : Int) = 2 * z := by unfold sgn; rw [if_pos c]; omega
      exact ⟨_, rfl, _, _, rfl, rfl, .inl ⟨by decide, by decide⟩, sgn z, by rw [e]; rfl, by omega, q⟩
    · have c : ¬ 0 ≤ z := fun y => c (decide_eq_true (by omega))
      have e : ((sgn z : Nat) : Int) = -2 * z - 1 := by unfold sgn; rw [if_neg c]; omega
      exact ⟨_, rfl, _, rfl, _, _, rfl, rfl, .inl ⟨by decide, by decide⟩, _, _, rfl, rfl, sgn z, by rw [e]; rfl, by omega, q⟩
theorem sc_value : FnScope ["_law_bits_here", "_law_found", "_law_sign"] ["_law_bits_here"] (defScope s_law_value) := ⟨rfl, rfl, rfl, by decide +kernel, rfl, by decide +kernel, by decide +kernel⟩
theorem take_snoc {α : Type} {l : List α} {j : Nat} {b : α} (h : l[j]? = some b) : l.take (j + 1) = l.take j ++ [b] := by
  rw [List.take_succ, h]
  rfl
theorem int_bit (b : Bool) : PySem.intText? (sT [bit b]) = some ((bv b : Nat) : Int) := by cases b <;> decide +kernel
theorem ok_value {CX : CXT} {f : Addr} {fd : FuncData} (F : FnP K "_law_value" s_law_value f fd) (G : NkF K mg) : FnOk P w K mg base CX 1 f fd ["_law_bits_here"] spVal := by
  refine F.ok sc_value (fun vs H Q E h => ?_) (fun cdv A outer s H vs Q E hr h => ?_)
  · obtain ⟨l, rfl, _⟩ := h
    rfl
  · obtain ⟨l, rfl, hl, q⟩ := h
    have nd := sc_value.nd
    refine ⟨_, PSs.nox (pss_cons (ps_set (i := 1) nd rfl (.inl rfl) pe_int)
      (pss_cons (ps_for PassesOwn.never rfl (pi_str (pv 0)) (pg_name (i := 2) nd rfl (Or.inl rfl)) (pss_one (ps_set (i := 1) nd rfl (.inl rfl) (pe_op op_add (pe_op op_mul pe_int (pv 1)) (pe_callTy call_int_str (by rfl) G.int (by decide +kernel) (pa_cons (pv 2) pa_nil))))))
      (pss_one (ps_ret (pv 1))))), ?_⟩
    refine ⟨_, rfl, _, rfl, ?_⟩
    refine for_it walk_str (fun j σ H' => H' = H ∧ ∃ v2, σ = [some (.str (sT (bT l))), some (.int ((valB (l.take j) : Nat) : Int)), v2]) ⟨rfl, none, rfl⟩ (fun _ _ _ _ _ => trivial) ?_ ?_
    · rintro j x σ H' H2 hj ⟨rfl, v2, rfl⟩ ⟨rfl, c, hc, rfl⟩
      obtain ⟨b, hb, rfl⟩ : ∃ b, l[j]? = some b ∧ c = bit b := by
        have hc : ((bT l).toArray)[j]? = some c := hc
        rw [List.getElem?_toArray] at hc
        unfold bT at hc
        rw [List.getElem?_map] at hc
        cases e : l[j]? with
        | none => rw [e] at hc; cases hc
        | some b => rw [e] at hc; exact ⟨b, rfl, (Option.some.inj hc).symm⟩
      refine ⟨_, rfl, _, _, rfl, rfl, .inl ⟨by decide, by decide⟩, _, rfl, _, _, rfl, int_bit b, (show 1 ≤ 640 by decide), _, _, rfl, rfl, rfl, some (.str (sT [bit b])), ?_⟩
      show [some (V.str (sT (bT l))), some (V.int ((2 : Int) * ((valB (l.take j) : Nat) : Int) + ((bv b : Nat) : Int))), some (V.str (sT [bit b]))] = _
      rw [take_snoc hb, valB_app, show (2 : Int) * ((valB (l.take j) : Nat) : Int) + ((bv b : Nat) : Int) = ((valB (l.take j) * 2 + bv b : Nat) : Int) by omega]
    · rintro σ H' ⟨rfl, v2, rfl⟩
      refine ⟨_, rfl, ?_⟩
      have e : (sT (bT l)).cps.size = l.length := by rw [← bT_len l]; exact sT_len _
      rw [e, List.take_length]
      exact q
end
/-! ## the visible heap grows -/
theorem Dw.mk {t : Nat} {V0 H : Hp} {d p : Addr} {o : HO} (h : Dw t V0 H d) (hp : H p = none) : ∃ V', Dw t V' (upd H p o) d ∧ Same V0 V' ∧ V' p = some o :=
  ⟨upd V0 p o, h.new hp, same_new (h.same.free hp), upd_same⟩
theorem Dw.grow {t : Nat} {V0 H H1 : Hp} {d : Addr} (h : Dw t V0 H d) (e : Same H H1) : ∃ V', Dw t V' H1 d ∧ Same V0 V' ∧ ∀ b o, H b = none → H1 b = some o → V' b = some o := by
  obtain ⟨s, w, c, ws, cs, rest, turn, h1, h2, h3, ht, D⟩ := h
  have D1 := D.same e
  have hid : ∀ b, H b = none → ¬ (b = d ∨ b = w ∨ b = c) := fun b q => by
    rintro (z | z | z) <;> subst z
    · rw [D.hd] at q; cases q
    · rw [D.hw] at q; cases q
    · rw [D.hc] at q; cases q
  have sm : Same V0 (fun b => if b = d ∨ b = w ∨ b = c then none else H1 b) := fun b o q => by
    have hb : ¬ (b = d ∨ b = w ∨ b = c) := by
      rintro (z | z | z) <;> subst z
      · rw [h1] at q; cases q
      · rw [h2] at q; cases q
      · rw [h3] at q; cases q
    simp only [if_neg hb]
    exact e _ _ (s _ _ q)
  refine ⟨fun b => if b = d ∨ b = w ∨ b = c then none else H1 b, ⟨fun b o q => ?_, w, c, ws, cs, rest, turn, if_pos (.inl rfl), if_pos (.inr (.inl rfl)), if_pos (.inr (.inr rfl)), ht, D1⟩, sm, fun b o q n => ?_⟩
  · by_cases hb : b = d ∨ b = w ∨ b = c
    · simp only [if_pos hb] at q
      cases q
    · simp only [if_neg hb] at q
      exact q
  · simp only [if_neg (hid b q)]
    exact n
theorem cat_sT (a : List Nat) (z : Str) : sT a ++ z = sT (a ++ z.cps.toList) := by
  have h : z = sT z.cps.toList := (sT_of z).symm
  rw [h, sT_cps]
  show (⟨a.toArray ++ z.cps.toList.toArray⟩ : Str) = ⟨(a ++ z.cps.toList).toArray⟩
  simp
theorem cps_nil : ("" : Str).cps.toList = [] := by decide +kernel
theorem join_sT : ∀ ys : List (List Nat), Txt.join "" (ys.map sT) = sT ys.flatten := fun ys => (TL.join_eq _ _).trans (go ys)
where
  go : ∀ ys : List (List Nat), Str.join "" (ys.map sT) = sT ys.flatten
  | [] => rfl
  | [x] => by simp [Str.join]
  | x :: y :: r => by
    show (sT x ++ "") ++ Str.join "" ((y :: r).map sT) = sT ((x :: y :: r).flatten)
    rw [go (y :: r), cat_sT, cat_sT, cps_nil, sT_cps, List.append_nil]
    simp
/-! ## the law's bits, readings and numbers -/
theorem flat_bits (l : List Bool) : (l.map fun b => [bit b]).flatten = bT l := by
  induction l with
  | nil => rfl
  | cons b l ih =>
    rw [List.map_cons, List.flatten_cons, ih]
    rfl
theorem join_bits (l : List Bool) : Txt.join "" (l.map fun b => sT [bit b]) = sT (bT l) := by
  rw [← flat_bits, ← join_sT, List.map_map]
  rfl
theorem sum_bits (l : List Bool) : ((l.map fun b => sT [bit b]).map (·.length)).sum = l.length := by
  induction l with
  | nil => rfl
  | cons b l ih =>
    rw [List.map_cons, List.map_cons, List.sum_cons, ih, sT_len, List.length_cons]
    exact Nat.add_comm 1 _
def spEdge : Sp := fun vs H Q _ => ∃ (t : Nat) (V0 : Hp) (d : Addr), vs = [.ref d] ∧ Dw t V0 H d ∧ t + 20 < T40 ∧ ∀ (z : Int) (H' : Hp), z.natAbs < 2 ^ 42 → Dw (t + 8) V0 H' d → Q (.int z) H'
section
variable {P : Program} {w : World} {K : PySem.W.Frag} {mg : Str → Option Value} {base : Heap}
theorem sc_lbits : FnScope ["_law_draw", "_law_most", "_law_many", "_law_slow", "_law_k"] ["_law_draw", "_law_most"] (defScope s_law_bits) := ⟨rfl, rfl, rfl, by decide +kernel, rfl, by decide +kernel, by decide +kernel⟩
theorem ok_lbits {f : Addr} {fd : FuncData} (F : FnP K "_law_bits" s_law_bits f fd) (D : DrF P w K mg base) : FnOk P w K mg base CX0 4 f fd ["_law_draw", "_law_most"] spBits := by
  obtain ⟨fT, fdT, gT, kT, bT', GT⟩ := D.take
  obtain ⟨fP, fdP, gP, kP, bP, GP⟩ := D.pick
  refine F.ok sc_lbits (fun vs H Q E h => ?_) (fun cdv A outer s H vs Q E hr h => ?_)
  · obtain ⟨t, V0, d, m, rfl, _⟩ := h
    rfl
  · obtain ⟨t, V0, d, m, rfl, hD, ht, hm, k⟩ := h
    have ht : t + 200 < 1099511627776 := ht
    have nd := sc_lbits.nd
    have hr2 := hr.mono (show 2 ≤ 3 by decide)
    refine ⟨_, PSs.nox (pss_cons (ps_asg (pe_tup (pa_cons (pe_call GT hr2 rfl gT kT bT' .nil pass0 (pa_cons (pv 0) (pa_cons (pe_op op_add (pv 1) pe_int) pa_nil))) (pa_cons (pe_call GP hr rfl gP kP bP .nil pass0 (pa_cons (pv 0) (pa_cons (pe_lst (pa_cons pe_int (pa_cons pe_int (pa_cons pe_int pa_nil)))) pa_nil))) pa_nil))) (pg_tup rfl (pgs_cons (pg_name (i := 2) nd rfl (Or.inl rfl)) (pgs_cons (pg_name (i := 3) nd rfl (Or.inr rfl)) pgs_nil))))
      (pss_one (ps_ret (pe_join pe_str (pe_lc (own := [("_law_k", 4)]) (g := gName 4) rfl nd (pi_range1 (by rfl) D.rng (pa_cons (pv 2) pa_nil)) (blkOk_by (own := [("_law_k", 4)]) (N := ["_law_draw", "_law_most", "_law_many", "_law_slow", "_law_k"]) (sc := defScope s_law_bits) (by decide +kernel))
        (fun _ _ _ _ _ => pg_name (i := 4) nd rfl (Or.inl rfl)) (fun _ _ _ _ _ => pts_nil) (fun _ _ _ _ _ => pe_ifExp (pt_cmpR op_eq (pe_call GT hr2 rfl gT kT bT' .nil pass0 (pa_cons (pv 0) (pa_cons (pv 3) pa_nil))) pe_int (nomark _)) pe_str pe_str)))))), ?_⟩
    refine ⟨_, rfl, _, rfl, _, _, rfl, rfl, t, V0, d, _, rfl, hD, by show t < 1099511627776; omega, by omega, by omega, fun a H1 a0 a1 D1 => ?_⟩
    refine ⟨_, rfl, (show 3 ≤ sizeLine by decide), fun p hp => ?_⟩
    obtain ⟨V1, E1, y1, e1⟩ := D1.mk (o := .lst [V.int 2, V.int 2, V.int 7]) hp
    refine ⟨t + 1, V1, d, .ref p, _, rfl, E1, by show t + 1 < 1099511627776; omega, .lst (SqL.of e1), (show 0 < 3 by decide), (show 3 < 100000 by decide), fun v H2 hv D2 => ?_⟩
    obtain ⟨s, rfl, s0, s1⟩ : ∃ s : Int, v = .int s ∧ 0 < s ∧ s < 10 := by
      rcases List.mem_cons.mp hv with rfl | hv
      · exact ⟨2, rfl, by decide, by decide⟩
      rcases List.mem_cons.mp hv with rfl | hv
      · exact ⟨2, rfl, by decide, by decide⟩
      rw [List.mem_singleton] at hv
      exact ⟨7, hv, by decide, by decide⟩
    refine ⟨(show 2 ≤ sizeLine by decide), fun q hq => ?_⟩
    obtain ⟨V2, E2, y2, e2⟩ := D2.mk (o := .tup [V.int a, V.int s]) hq
    refine ⟨q, _, rfl, SqT.of upd_same, rfl, _, _, rfl, _, _, rfl, rfl, ?_⟩
    refine ⟨⟨_, rfl⟩, _, rfl, a, rfl, by omega, by omega, fun Dl hDl => ?_⟩
    obtain ⟨V3, D3, y3, e3⟩ := E2.mk (o := .lst []) hDl
    have y12 := y1.trans y2
    have y13 := y12.trans y3
    have nDl : V0 Dl = none := y12.free (E2.same.free hDl)
    refine lc_range (lo := 0) (n := a.toNat) (fun j H' => ∃ (V' : Hp) (acc : List Bool), Dw (t + 2 + j) V' H' d ∧ Same V0 V' ∧ V' Dl = some (.lst ((acc.map fun b => sT [bit b]).map V.str)) ∧ acc.length = j)
      ⟨V3, [], D3, y13, e3, rfl⟩ ?_ ?_
    · rintro j H' hj ⟨V', acc, c1, c2, c3, c4⟩
      refine ⟨rfl, yesIf ?_⟩
      refine ⟨_, rfl, _, rfl, t + 2 + j, V', d, s, rfl, c1, by show t + 2 + j < 1099511627776; omega, s0, by omega, fun z H3 z0 z1 D4 => ?_⟩
      have more : ∀ b : Bool, ∃ acc', H3 Dl = some (.lst acc') ∧ acc'.length < sizeLine ∧ ∃ (V' : Hp) (acc2 : List Bool), Dw (t + 2 + (j + 1)) V' (upd H3 Dl (.lst (acc' ++ [V.str (sT [bit b])]))) d ∧ Same V0 V' ∧ V' Dl = some (.lst ((acc2.map fun b => sT [bit b]).map V.str)) ∧ acc2.length = j + 1 := by
        intro b
        refine ⟨_, D4.same _ _ c3, ?_, upd V' Dl (.lst ((acc.map fun b => sT [bit b]).map V.str ++ [V.str (sT [bit b])])), acc ++ [b], D4.set c3, same_sub c2 ?_, ?_, ?_⟩
        · rw [List.length_map, List.length_map, c4]
          exact Nat.lt_of_lt_of_le (show j < 1000 by omega) (by decide)
        · exact nDl
        · rw [upd_same, List.map_append, List.map_append]
          rfl
        · rw [List.length_append, c4]
          rfl
      refine ⟨rfl, _, rfl, ?_⟩
      refine ite2 (fun c => ?_) (fun c => ?_)
      · rw [one_eq]
        exact more true
      · rw [zero_eq]
        exact more false
    · rintro H6 ⟨V6, acc, D6, y6, e6, hlen⟩
      have hl : acc.length ≤ m := by omega
      refine ⟨"", Dl, acc.map fun b => sT [bit b], rfl, rfl, .inl (SqL.of (D6.same _ _ e6)), ?_, ?_⟩
      · rw [sum_bits, show ("" : Str).length = 0 from rfl, Nat.mul_zero, Nat.add_zero]
        omega
      rw [join_bits]
      exact k _ _ hl ((D6.mono (by omega)).less y6)
theorem sc_edge : FnScope ["_law_draw", "_law_power", "_law_k", "_law_number"] ["_law_draw"] (defScope s_law_edge) := ⟨rfl, rfl, rfl, by decide +kernel, rfl, by decide +kernel, by decide +kernel⟩
theorem ok_edge {f fF : Addr} {fd fdF : FuncData} (F : FnP K "_law_edge" s_law_edge f fd) (FF : FnP K "_law_figure" s_law_figure fF fdF) (gF : mg "_law_figure" = some (.ref fF)) (D : DrF P w K mg base) (abs : mg "abs" = none) : FnOk P w K mg base CX0 4 f fd ["_law_draw"] spEdge := by
  obtain ⟨fT, fdT, gT, kT, bT', GT⟩ := D.take
  have GF : FnOk P w K mg base CX0 3 fF fdF ["_law_draw"] spFig := ok_figure FF D
  have bF : Binds K fdF ["_law_draw"] [] := FF.bindsN fun _ _ _ _ _ _ us hl => match us, hl with | [_], _ => rfl
  refine F.ok sc_edge (fun vs H Q E h => ?_) (fun cdv A outer s H vs Q E hr h => ?_)
  · obtain ⟨t, V0, d, rfl, _⟩ := h
    rfl
  · obtain ⟨t, V0, d, rfl, hD, ht, k⟩ := h
    have ht : t + 20 < 1099511627776 := ht
    have nd := sc_edge.nd
    have hr2 := hr.mono (show 2 ≤ 3 by decide)
    refine ⟨_, PSs.nox (pss_cons (ps_set (i := 1) nd rfl (.inl rfl) pe_int)
      (pss_cons (ps_for PassesOwn.never rfl (pi_range1 (by rfl) D.rng (pa_cons (pe_call GT hr2 rfl gT kT bT' .nil pass0 (pa_cons (pv 0) (pa_cons pe_int pa_nil))) pa_nil)) (pg_name (i := 2) nd rfl (Or.inl rfl)) (pss_one (ps_set (i := 1) nd rfl (.inl rfl) (pe_op op_mul pe_int (pv 1)))))
      (C8.pss_cut (ps_set (i := 3) nd rfl (.inl rfl) (pe_ifExp (pt_cmpR op_eq (pe_call GT hr2 rfl gT kT bT' .nil pass0 (pa_cons (pv 0) (pa_cons pe_int pa_nil))) pe_int (nomark _)) (pe_op op_add (pe_op op_sub (pv 1) pe_int) (pe_call GT hr2 rfl gT kT bT' .nil pass0 (pa_cons (pv 0) (pa_cons pe_int pa_nil))))
          (pe_callB call_abs (by rfl) abs (by decide +kernel) (pa_cons (pe_call GF hr rfl gF FF.kp bF .nil pass0 (pa_cons (pv 0) pa_nil)) pa_nil))))
      (pss_one (ps_ret (pe_ifExp (pt_cmpR op_eq (pe_call GT hr2 rfl gT kT bT' .nil pass0 (pa_cons (pv 0) (pa_cons pe_int pa_nil))) pe_int (nomark _)) (pv 3) (pe_un un_neg (pv 3)))))))), ?_⟩
    refine ⟨_, rfl, t, V0, d, 39, rfl, hD, by show t < 1099511627776; omega, by decide, by decide, fun a H1 a0 a1 D1 => ?_⟩
    refine ⟨a, rfl, by omega, by omega, ?_⟩
    refine for_range (lo := 0) (n := a.toNat) (fun j σ H' => H' = H1 ∧ ∃ v2 v3, σ = [some (.ref d), some (.int ((2 ^ j : Nat) : Int)), v2, v3]) ⟨rfl, none, none, rfl⟩ ?_ ?_
    · rintro j σ H' hj ⟨rfl, v2, v3, rfl⟩
      refine ⟨_, rfl, _, _, rfl, rfl, .inl ⟨by decide, by decide⟩, rfl, some (.int (0 + (j : Int))), v3, ?_⟩
      show [some (V.ref d), some (V.int ((2 : Int) * ((2 ^ j : Nat) : Int))), some (V.int (0 + (j : Int))), v3] = _
      rw [Nat.pow_succ, show (2 : Int) * ((2 ^ j : Nat) : Int) = ((2 ^ j * 2 : Nat) : Int) by omega]
    · rintro σ H' ⟨rfl, v2, v3, rfl⟩
      have hp : 2 ^ a.toNat ≤ 2 ^ 38 := Nat.pow_le_pow_right (by decide) (by omega)
      have hp1 : 1 ≤ 2 ^ a.toNat := Nat.one_le_two_pow
      refine ⟨fun σ H' => ∃ z : Int, 0 ≤ z ∧ z < 2 ^ 41 ∧ Dw (t + 5) V0 H' d ∧ σ = [some (.ref d), some (.int ((2 ^ a.toNat : Nat) : Int)), v2, some (.int z)], ?_, ?_⟩
      · refine ⟨_, rfl, t + 1, V0, d, 2, rfl, D1, by show t + 1 < 1099511627776; omega, by decide, by decide, fun b H2 b0 b1 D2 => ⟨rfl, _, rfl, ?_⟩⟩
        refine ite2 (fun c => ?_) (fun c => ?_)
        · refine ⟨_, rfl, _, _, rfl, rfl, _, rfl, t + 2, V0, d, 3, rfl, D2, by show t + 2 < 1099511627776; omega, by decide, by decide, fun e H3 e0 e1 D3 => ⟨_, _, rfl, rfl, _, ?_, ?_, D3.mono (by omega), rfl⟩⟩
          · omega
          · omega
        · refine ⟨_, rfl, t + 2, V0, d, rfl, D2, by show t + 2 + 10 < 1099511627776; omega, fun z H3 hz D3 => ⟨_, rfl, _, ?_, ?_, D3.mono (by omega), rfl⟩⟩
          · split <;> omega
          · split <;> omega
      · rintro σ H2 ⟨z, z0, z1, D2, rfl⟩
        refine ⟨_, rfl, t + 5, V0, d, 2, rfl, D2, by show t + 5 < 1099511627776; omega, by decide, by decide, fun b H3 b0 b1 D3 => ⟨rfl, _, rfl, ?_⟩⟩
        refine ite2 (fun c => ?_) (fun c => ?_)
        · exact ⟨_, rfl, k _ _ (by omega) (D3.mono (by omega))⟩
        · exact ⟨_, rfl, _, rfl, k _ _ (by omega) (D3.mono (by omega))⟩
theorem sc_lread : FnScope ["_law_bits_here", "_law_at", "_law_first", "_law_behind"] ["_law_bits_here", "_law_at"] (defScope s_law_read) := ⟨rfl, rfl, rfl, by decide +kernel, rfl, by decide +kernel, by decide +kernel⟩
theorem ok_lread {f fV : Addr} {fd fdV : FuncData} (F : FnP K "_law_read" s_law_read f fd) (FV : FnP K "_law_value" s_law_value fV fdV) (gV : mg "_law_value" = some (.ref fV)) (G : NkF K mg) : FnOk P w K mg base CX0 2 f fd ["_law_bits_here", "_law_at"] (spLRead rdI) := by
  have GV : FnOk P w K mg base CX0 1 fV fdV ["_law_bits_here"] spVal := ok_value FV G
  have bV : Binds K fdV ["_law_bits_here"] [] := FV.bindsN fun _ _ _ _ _ _ us hl => match us, hl with | [_], _ => rfl
  refine F.ok sc_lread (fun vs H Q E h => ?_) (fun cdv A outer s H vs Q E hr h => ?_)
  · obtain ⟨l, i, rfl, _⟩ := h
    rfl
  · obtain ⟨l, i, rfl, hl, hi, k⟩ := h
    have nd := sc_lread.nd
    refine ⟨_, PSs.nox (pss_cons (ps_set (i := 2) nd rfl (.inl rfl) (pv 1))
      (C8.pss_cut (ps_while PassesOwn.never (PW.pt (pw_and (pt_cmpR op_lt (pv 2) (pe_callB call_len (by rfl) G.len PySem.boot_len (pa_cons (pv 0) pa_nil)) (nomark _)) (pw_and1 (pt_cmpR op_eq (pe_ix ix_seq (pv 0) (pv 2) (fun _ _ => rfl)) pe_str (nomark _))))) (pss_one (ps_set (i := 2) nd rfl (.inl rfl) (pe_op op_add (pv 2) pe_int))))
      (pss_cons (ps_set (i := 3) nd rfl (.inl rfl) (pe_op op_add (pe_op op_sub (pe_op op_mul pe_int (pv 2)) (pv 1)) pe_int))
      (pss_cons (ps_if (pt_cmpR op_gt (pv 3) (pe_callB call_len (by rfl) G.len PySem.boot_len (pa_cons (pv 0) pa_nil)) (nomark _)) (pss_one (ps_ret pe_non)) pss_nil)
      (pss_one (ps_ret (pe_tup (pa_cons (pe_op op_sub (pe_call GV hr rfl gV FV.kp bV .nil pass0 (pa_cons (pe_slice sl_str (pv 0) (po_some (pv 2)) (po_some (pv 3))) pa_nil)) pe_int) (pa_cons (pv 3) pa_nil))))))))), ?_⟩
    have sl : (sT (bT l)).length ≤ sizeLine := sl_of (by rw [sT_len, bT_len]; omega)
    have zl := zer_le (l.drop i)
    rw [List.length_drop] at zl
    obtain ⟨z, ez⟩ : ∃ z, z = zer (l.drop i) := ⟨_, rfl⟩
    have er : rdI l i = if l.length < i + 2 * z + 1 then none else some (((valB ((l.drop (i + z)).take (z + 1)) - 1 : Nat) : Int), i + 2 * z + 1) := by
      unfold rdI rd
      rw [← ez]
      split <;> rfl
    refine ⟨_, rfl, fun σ H' => H' = H ∧ σ = [some (.str (sT (bT l))), some (.int (i : Int)), some (.int ((i + z : Nat) : Int)), none], ?_, ?_⟩
    · refine ⟨fun x σ H' => H' = H ∧ ∃ j : Nat, x + j = z ∧ σ = [some (.str (sT (bT l))), some (.int (i : Int)), some (.int ((i + j : Nat) : Int)), none], ⟨z, rfl, 0, by omega, rfl⟩, ?_⟩
      rintro x σ H' ⟨rfl, j, hj, rfl⟩
      refine ⟨_, rfl, _, rfl, _, _, rfl, ⟨sl, rfl⟩, _, _, rfl, rfl, _, rfl, ?_⟩
      rw [sT_len, bT_len]
      by_cases c : i + j < l.length
      · rw [decide_eq_true (show ((i + j : Nat) : Int) < (l.length : Int) by omega)]
        have at_ : ∀ b, l[i + j]? = some b → atI (sT (bT l)).cps.toList ((i + j : Nat) : Int) = some (bit b) := fun b e => by
          apply atI_nat
          rw [sT_cps]
          unfold bT
          rw [List.getElem?_map, e]
          rfl
        by_cases c2 : j < z
        · have e : l[i + j]? = some false := by
            have := zer_in (l := l.drop i) (j := j) (by omega)
            rw [List.getElem?_drop] at this
            exact this
          refine iteT ⟨_, rfl, _, rfl, .inr (.inr ⟨_, _, _, rfl, rfl, sl, at_ _ e, ?_⟩)⟩
          refine ⟨rfl, _, rfl, ?_⟩
          rw [decide_eq_true (show V.str ⟨#[bit false]⟩ = V.str "0" from congrArg V.str zero_eq.symm)]
          refine iteT ⟨fun σ' H2 => H2 = H' ∧ σ' = [some (.str (sT (bT l))), some (.int (i : Int)), some (.int ((i + (j + 1) : Nat) : Int)), none], fun _ _ h => ?_, ?_⟩
          · exact ⟨x - 1, by omega, h.1, j + 1, by omega, h.2⟩
          · exact ⟨_, rfl, _, _, rfl, rfl, rfl, rfl⟩
        · have e : l[i + j]? = some true := by
            have hjz : j = z := by omega
            have := zer_at (l := l.drop i) (by rw [List.length_drop]; omega)
            rw [← ez, List.getElem?_drop, ← hjz] at this
            exact this
          refine iteT ⟨_, rfl, _, rfl, .inr (.inr ⟨_, _, _, rfl, rfl, sl, at_ _ e, ?_⟩)⟩
          refine ⟨rfl, _, rfl, ?_⟩
          rw [decide_eq_false (show ¬ V.str ⟨#[bit true]⟩ = V.str "0" from fun z => by rw [zero_eq] at z; injection z with z; injection z with z; exact absurd z (by decide))]
          have hjz : j = z := by omega
          subst hjz
          exact iteF ⟨rfl, rfl⟩
      · rw [decide_eq_false (show ¬ ((i + j : Nat) : Int) < (l.length : Int) by omega)]
        have hjz : j = z := by omega
        subst hjz
        exact iteF ⟨rfl, rfl⟩
    · rintro σ H' ⟨rfl, rfl⟩
      refine ⟨_, rfl, _, _, rfl, rfl, .inl ⟨by decide, by decide⟩, _, rfl, _, _, rfl, rfl, _, _, rfl, rfl, ?_⟩
      have eb : (2 : Int) * ((i + z : Nat) : Int) - (i : Int) + 1 = ((i + 2 * z + 1 : Nat) : Int) := by omega
      refine ⟨_, rfl, _, rfl, _, _, rfl, ⟨sl, rfl⟩, _, _, rfl, rfl, _, rfl, ?_⟩
      rw [sT_len, bT_len, eb]
      by_cases c2 : l.length < i + 2 * z + 1
      · rw [if_pos c2] at er
        rw [decide_eq_true (show (l.length : Int) < ((i + 2 * z + 1 : Nat) : Int) by omega)]
        exact iteT (k _ _ (Same.refl _) (by rw [er]; rfl))
      · rw [if_neg c2] at er
        rw [decide_eq_false (show ¬ (l.length : Int) < ((i + 2 * z + 1 : Nat) : Int) by omega)]
        refine iteF ⟨_, rfl, _, rfl, _, rfl, _, rfl, _, rfl, _, rfl, sl, (l.drop (i + z)).take (z + 1), ?_, by rw [List.length_take]; omega, _, _, rfl, rfl, _, rfl, (show 2 ≤ sizeLine by decide), fun p hp => ?_⟩
        · show [V.str (cutS (sT (bT l)) (some ((i + z : Nat) : Int)) (some ((2 : Int) * ((i + z : Nat) : Int) - (i : Int) + 1)))] = _
          rw [eb, cut_nat, show i + 2 * z + 1 - (i + z) = z + 1 by omega]
          unfold bT
          rw [List.map_take, List.map_drop]
        · refine k _ _ (same_new hp) ?_
          rw [er]
          refine ⟨p, rfl, ?_⟩
          rw [upd_same]
          have h1 : 1 ≤ valB ((l.drop (i + z)).take (z + 1)) := by
            have c : i + z < l.length := by omega
            have ha := zer_at (l := l.drop i) (by rw [List.length_drop]; omega)
            rw [← ez, List.getElem?_drop] at ha
            have e2 : l.drop (i + z) = true :: l.drop (i + z + 1) := by
              rw [List.drop_eq_getElem_cons c]
              congr 1
              rw [List.getElem?_eq_getElem c] at ha
              exact Option.some.inj ha
            rw [e2, List.take_succ_cons]
            exact valB_pos _
          rw [show ((valB ((l.drop (i + z)).take (z + 1)) - 1 : Nat) : Int) = ((valB ((l.drop (i + z)).take (z + 1)) : Nat) : Int) - 1 by omega]
          exact congrArg (fun u : Int => some (HO.tup [V.int (((valB ((l.drop (i + z)).take (z + 1)) : Nat) : Int) - 1), V.int u])) eb
theorem sc_lsat : FnScope ["_law_bits_here", "_law_at", "_law_told"] ["_law_bits_here", "_law_at"] (defScope s_law_signed_at) := ⟨rfl, rfl, rfl, by decide +kernel, rfl, by decide +kernel, by decide +kernel⟩
theorem ok_lsat {f fR : Addr} {fd fdR : FuncData} (F : FnP K "_law_signed_at" s_law_signed_at f fd) (kR : PySem.W.keepIn K (.ref fR) = true) (gR : mg "_law_read" = some (.ref fR)) (bR : Binds K fdR ["_law_bits_here", "_law_at"] []) (GR : FnOk P w K mg base CX0 2 fR fdR ["_law_bits_here", "_law_at"] (spLRead rdI)) (G : NkF K mg) : FnOk P w K mg base CX0 3 f fd ["_law_bits_here", "_law_at"] (spLRead rdS) := by
  refine F.ok sc_lsat (fun vs H Q E h => ?_) (fun cdv A outer s H vs Q E hr h => ?_)
  · obtain ⟨l, i, rfl, _⟩ := h
    rfl
  · obtain ⟨l, i, rfl, hl, hi, k⟩ := h
    have nd := sc_lsat.nd
    refine ⟨_, PSs.nox (pss_cons (ps_set (i := 2) nd rfl (.inl rfl) (pe_call GR hr rfl gR kR bR .nil pass0 (pa_cons (pv 0) (pa_cons (pv 1) pa_nil))))
      (pss_cons (ps_if (pt_cmpR op_isN (pv 2) pe_non (nomark _)) (pss_one (ps_ret pe_non)) pss_nil)
      (pss_one (ps_ret (pe_tup (pa_cons (pe_ifExp (pt_cmpR op_eq (pe_op op_modN (pe_callTy call_int1 (by rfl) G.int (by decide +kernel) (pa_cons (pe_ix ix_seq (pv 2) pe_int (fun _ _ => rfl)) pa_nil)) pe_int) pe_int (nomark _)) (pe_op op_fdivN (pe_ix ix_seq (pv 2) pe_int (fun _ _ => rfl)) pe_int) (pe_op op_fdivN (pe_un un_neg (pe_op op_add (pe_ix ix_seq (pv 2) pe_int (fun _ _ => rfl)) pe_int)) pe_int)) (pa_cons (pe_ix ix_seq (pv 2) pe_int (fun _ _ => rfl)) pa_nil))))))), ?_⟩
    refine ⟨_, rfl, _, rfl, l, i, rfl, hl, hi, fun v H1 s1 hv => ?_⟩
    unfold rdI at hv
    unfold rdS at k
    cases e : rd l i with
    | none =>
      rw [e] at hv k
      have hv : v = .non := hv
      subst hv
      refine ⟨_, rfl, rfl, _, rfl, ?_⟩
      rw [decide_eq_true rfl]
      exact iteT (k _ _ s1 rfl)
    | some x =>
      obtain ⟨n, b⟩ := x
      rw [e] at hv k
      obtain ⟨p, rfl, hp⟩ := hv
      refine ⟨_, rfl, rfl, _, rfl, ?_⟩
      rw [decide_eq_false (fun z => by cases z)]
      have q0 : SqT K H1 p [V.int ((n : Nat) : Int), V.int ((b : Nat) : Int)] := SqT.of hp
      refine iteF ⟨_, rfl, .inr (.inl ⟨_, _, _, _, rfl, rfl, q0, rfl, ?_⟩)⟩
      refine .inl ⟨_, rfl, _, _, rfl, rfl, (show (2 : Int) ≠ 0 by decide), rfl, _, rfl, ?_⟩
      have hm : decide (V.int ((n : Int).fmod 2) = V.int 0) = decide (n % 2 = 0) := by
        rw [Int.fmod_eq_emod_of_nonneg _ (by decide)]
        apply decide_eq_decide.mpr
        constructor
        · intro z
          injection z with z
          omega
        · intro z
          congr 1
          omega
      show (if decide (V.int ((n : Int).fmod 2) = V.int 0) = true then _ else _)
      rw [hm]
      have fin : ∀ z : Int, z = uns n → ∀ q, H1 q = none → Q (.ref q) (upd H1 q (.tup [.int z, .int (b : Int)])) := by
        rintro z rfl q hq
        exact k _ _ (s1.trans (same_new hq)) ⟨q, rfl, upd_same⟩
      refine ite2 (fun c => ?_) (fun c => ?_)
      · have c := of_decide_eq_true c
        refine ⟨_, rfl, .inr (.inl ⟨_, _, _, _, rfl, rfl, q0, rfl, _, _, rfl, rfl, ⟨by decide, by decide⟩, _, rfl, .inr (.inl ⟨_, _, _, _, rfl, rfl, q0, rfl, (show 2 ≤ sizeLine by decide), fin _ ?_⟩)⟩)⟩
        unfold uns
        rw [if_pos c, Int.fdiv_eq_ediv_of_nonneg _ (by decide)]
        omega
      · have c : ¬ n % 2 = 0 := fun z => c (decide_eq_true z)
        refine ⟨_, rfl, .inr (.inl ⟨_, _, _, _, rfl, rfl, q0, rfl, _, _, rfl, rfl, _, rfl, _, _, rfl, rfl, ⟨by decide, by decide⟩, _, rfl, .inr (.inl ⟨_, _, _, _, rfl, rfl, q0, rfl, (show 2 ≤ sizeLine by decide), fin _ ?_⟩)⟩)⟩
        unfold uns
        rw [if_neg c]
        show (-((n : Int) + 1)).fdiv 2 = _
        rw [Int.fdiv_eq_ediv_of_nonneg _ (by decide)]
        omega
end
/-! ## a call of a local name, what is raised wished for at the caller's slots -/
def tCallLS (i : Nat) (f : Addr) (sp : Sp) (E : L2.St → XK) (t : TA) : TE := fun σ H Q => σ[i]? = some (some (.ref f)) ∧ t σ H fun vs H1 => sp vs H1 Q (E σ)
theorem pe_callLS {X : Cx} {CX : CXT} {k i : Nat} {f : Addr} {fd : FuncData} {ps : List Str} {sp : Sp} {E : L2.St → XK} {x : Str} {p pos : Pos} {e : Expr} {es : List Expr} {t : TA}
    (F : FnOk X.prog X.w X.K X.mg X.base CX k f fd ps sp) (hr : Room k X.A) (hN : X.N[i]? = some x) (hv : Vis X.env.scope x) (hk : PySem.W.keepIn X.K (.ref f) = true) (hb : Binds X.K fd ps []) (hx : ∀ σ, PassesAt CX X σ (E σ)) (ha : PA X (e :: es) t)
    (hdb : (x == ("__debug__" : Str)) = false := by decide) (hcd : (x == ("__classdict__" : Str)) = false := by decide)
    (he : starEach (e :: es) X.env = (false, eval e X.env) :: starEach es X.env := by rfl) (hpl : (backTo pos (starEach es X.env)).any (·.1) = false := by rfl) : PE X (.Call (.Name x p) (e :: es) [] pos) (tCallLS i f sp E t) := by
  refine ⟨fun pins s σ H Q I h => ?_⟩
  obtain ⟨hs, ht⟩ := h
  refine wpAny_Call_Name_kw (thn ((pe_var (pos := p) hN hv hdb hcd).run pins s σ H (fun v H1 => v = .ref f ∧ H1 = H) I ⟨.ref f, hs, rfl, rfl⟩) fun u s1 ⟨v, H1, I1, r1, q1⟩ => ?_)
  obtain ⟨rfl, rfl⟩ := q1
  cases r1
  refine PySem.W.callWith_K (h₀ := X.base) I.ok.mod.kin hk (thn (ha.run pos pins s1 σ _ _ I1 ht) fun us s2 ⟨vs, H2, I2, r, q⟩ => ⟨I2.kIn, ?_⟩) he hpl
  exact run_fnS F hr hb (hx σ) I2 r q
theorem takes_lenN {X : Cx} {W : WX} (n : Nat) (t : Takes X W) (hn : X.N.length = n) : Takes X (fun cls d σ H => σ.length = n → W cls d σ H) := fun u s' ⟨a, B, sI, pins, σ, H, cls, d, e, I, nb, up, sky, na, os, ag, w⟩ =>
  t u s' ⟨a, B, sI, pins, σ, H, cls, d, e, I, nb, up, sky, na, os, ag, w (I.len.trans hn)⟩
/-! ## what a refused call comes to -/
structure OuF (K : PySem.W.Frag) (mg : Str → Option Value) (CS CB CN : Addr) : Prop where
  gS : mg "StopError" = some (.ref CS)
  gB : mg "BadBits" = some (.ref CB)
  gN : mg "BadNumber" = some (.ref CN)
  xB : PySem.W.exmOne K (.ref CB) (.ref CS) = some true
  xN : PySem.W.exmOne K (.ref CN) (.ref CS) = some true
  rB : ExcR K CB
  rN : ExcR K CN
  iBB : PySem.W.kitOne K (.ref CB) (.ref CB) = some true
  iBV : PySem.W.kitOne K (.ref CB) (.type "ValueError") = some true
  iBN : PySem.W.kitOne K (.ref CB) (.ref CN) = some false
  iNB : PySem.W.kitOne K (.ref CN) (.ref CB) = some false
  iNN : PySem.W.kitOne K (.ref CN) (.ref CN) = some true
  nA : PySem.W.findIn K (.ref CB) "at" = some none
  ve : mg "ValueError" = none
structure Wk (P : Program) (w : World) (K : PySem.W.Frag) (mg : Str → Option Value) (base : Heap) (f : Addr) (sp : Sp) : Prop where
  ex : ∃ (k : Nat) (fd : FuncData) (ps : List Str), k ≤ 4 ∧ FnOk P w K mg base (L2.CX P w) k f fd ps sp ∧ PySem.W.keepIn K (.ref f) = true ∧ Binds K fd ps []
def Good (CB CN : Addr) (Q : VK) : XK := fun cls d H' => (cls = .ref CN ∧ d = none ∧ ∀ H2 q, Same H' H2 → H' q = none → H2 q = some (.tup [.str "BadNumber"]) → Q (.ref q) H2) ∨
  (∃ dx, cls = .ref CB ∧ d = some dx ∧ H' dx = some (.xd [("at", .non)]) ∧ ∀ H2 q, Same H' H2 → H' q = none → H2 q = some (.tup [.str "BadBits", .non]) → Q (.ref q) H2)
def spOut (P : Program) (w : World) (K : PySem.W.Frag) (mg : Str → Option Value) (base : Heap) (CB CN : Addr) : Sp := fun vs H Q _ => ∃ (f p : Addr) (x : V) (xs : List V) (sp : Sp), vs = [.ref f, .ref p] ∧ SqL K H p (x :: xs) ∧ xs.length ≤ 1 ∧ Wk P w K mg base f sp ∧
  ∀ H1 Q' E', Same H H1 → (∀ cls d H', Good CB CN Q cls d H' → E' cls d H') → sp (x :: xs) H1 Q' E'
def tWork (K : PySem.W.Frag) (g : Addr) (sp : Sp) (W : WX) : TS := tAsg (tIf (tTest (tOp rEq (tCB (fun xs H Q => ∃ x n, xs = [x] ∧ LenV K x H n ∧ Q (.int n) H) (tCons (tVar 1) tNil)) (tC (.int 1)))) (tCallLS 0 g sp (WE fun cls d σ H => σ.length = 5 → W cls d σ H) (tCons (tOp (rIx K) (tVar 1) (tC (.int 0))) tNil))
  (tCallLS 0 g sp (WE fun cls d σ H => σ.length = 5 → W cls d σ H) (tCons (tOp (rIx K) (tVar 1) (tC (.int 0))) (tCons (tOp (rIx K) (tVar 1) (tC (.int 1))) tNil)))) (gName 3)
theorem one_of {α : Type} {xs : List α} (hl : xs.length ≤ 1) (c : ¬ xs = []) : ∃ y, xs = [y] := by
  match xs, hl, c with
  | [], _, c => exact absurd rfl c
  | [y], _, _ => exact ⟨y, rfl⟩
theorem len5 {σ : L2.St} (h : σ.length = 5) : ∃ a b c d e, σ = [a, b, c, d, e] := by
  match σ, h with
  | [a, b, c, d, e], _ => exact ⟨a, b, c, d, e, rfl⟩
section
variable {P : Program} {w : World} {K : PySem.W.Frag} {mg : Str → Option Value} {base : Heap}
theorem sc_out : FnScope ["_law_work", "_law_things", "_law_error", "_law_told", "e"] ["_law_work", "_law_things"] (defScope s_law_outcome) := ⟨rfl, rfl, rfl, by decide +kernel, rfl, by decide +kernel, by decide +kernel⟩
theorem ok_out {f CS CB CN : Addr} {fd : FuncData} (F : FnP K "_law_outcome" s_law_outcome f fd) (G : NkF K mg) (X : OuF K mg CS CB CN) : FnOk P w K mg base CX0 5 f fd ["_law_work", "_law_things"] (spOut P w K mg base CB CN) := by
  refine F.ok sc_out (fun vs H Q E h => ?_) (fun cdv A outer s H vs Q E hr h => ?_)
  · obtain ⟨g, p, x, xs, sp, rfl, _⟩ := h
    rfl
  · obtain ⟨g, p, x, xs, sp, rfl, hS, hl, ⟨kk, gd, ps, hk4, GF, kp, bG⟩, hx⟩ := h
    have nd := sc_out.nd
    have hrk : Room kk _ := hr.mono hk4
    apply Exists.intro
    apply And.intro
    case left =>
     apply PSs.nox
     apply pss_cons
     · exact ps_asg (pe_tup (pa_cons pe_non (pa_cons pe_non pa_nil))) (pg_tup rfl (pgs_cons (pg_name (i := 2) nd rfl (Or.inl rfl)) (pgs_cons (pg_name (i := 3) nd rfl (Or.inl rfl)) pgs_nil)))
     apply C8.pss_cut
     · refine ps_try_held (X := (cxOf CX0 P w K mg base ["_law_work", "_law_things", "_law_error", "_law_told", "e"] "_law_outcome" (defScope s_law_outcome) f cdv A outer s H E).nox) (c := .ref CS) (i := 4)
         (tb := tWork K g sp) (ts := fun a cls d => tAsg (tVar 4) (gName 2)) (Wout := fun _ _ _ _ => False)
         rfl rfl rfl nd rfl rfl ⟨rfl, by decide, .inl X.gS⟩ LamX.takes0 (fun W pn xe tk _ => ?_) (fun a oe cls d pn _ _ => pss_one (ps_set (i := 2) nd rfl (.inl rfl) (pv 4)))
       exact pss_one (ps_set (i := 3) nd rfl (.inl rfl) (pe_ifExp (pt_cmpR op_eq (pe_callB call_len (by rfl) G.len PySem.boot_len (pa_cons (pv 1) pa_nil)) pe_int (nomark _)) (pe_callLS GF hrk rfl (Or.inl rfl) kp bG (fun σ => passAt (takes_lenN 5 tk rfl) σ) (pa_cons (pe_ix ix_seq (pv 1) pe_int (fun _ _ => rfl)) pa_nil))
         (pe_callLS GF hrk rfl (Or.inl rfl) kp bG (fun σ => passAt (takes_lenN 5 tk rfl) σ) (pa_cons (pe_ix ix_seq (pv 1) pe_int (fun _ _ => rfl)) (pa_cons (pe_ix ix_seq (pv 1) pe_int (fun _ _ => rfl)) pa_nil)))))
     apply pss_cons
     · exact ps_if (pt_cmpR op_isN (pv 2) pe_non (nomark _)) (pss_one (ps_ret (pe_tup (pa_cons pe_str (pa_cons (pv 3) pa_nil))))) pss_nil
     apply pss_cons
     · exact ps_if (pt_val (pe_callB call_isiX (by rfl) G.isi (by decide +kernel) (pa_cons (pv 2) (pa_cons (pe_glob (v := .ref CB) (by rfl) X.gB rfl) pa_nil))))
         (pss_one (ps_ret (pe_ifExp (PW.pt (pw_and (pt_val (pe_callB call_isiX (by rfl) G.isi (by decide +kernel) (pa_cons (pv 2) (pa_cons (pe_bltn (v := .ty "ValueError") (by rfl) X.ve (by decide +kernel) rfl) pa_nil))))
           (pw_and1 (pt_not (pt_val (pe_callB call_isiX (by rfl) G.isi (by decide +kernel) (pa_cons (pv 2) (pa_cons (pe_glob (v := .ref CN) (by rfl) X.gN rfl) pa_nil)))))))) (pe_tup (pa_cons pe_str (pa_cons (pe_exF (pv 2)) pa_nil))) (pe_tup (pa_cons pe_str pa_nil))))) pss_nil
     apply pss_one
     exact ps_ret (pe_ifExp (pt_val (pe_callB call_isiX (by rfl) G.isi (by decide +kernel) (pa_cons (pv 2) (pa_cons (pe_glob (v := .ref CN) (by rfl) X.gN rfl) pa_nil)))) (pe_tup (pa_cons pe_str pa_nil)) (pe_tup (pa_cons pe_str pa_nil)))
    case right =>
      refine ⟨(show 2 ≤ sizeLine by decide), fun q hq => ⟨q, _, rfl, SqT.of upd_same, rfl, _, _, rfl, _, _, rfl, rfl, ?_⟩⟩
      have s1 : Same H (upd H q (.tup [.non, .non])) := same_new hq
      generalize upd H q (.tup [.non, .non]) = H1 at s1
      have hS1 := s1.seq hS
      refine ⟨fun σ H' => ∃ a cls d H2, Good CB CN Q cls d H2 ∧ H2 a = none ∧ H' = upd H2 a (ExH cls a d) ∧ σ = [some (.ref g), some (.ref p), some (.ref a), some .non, none], ?_, ?_⟩
      · have take : ∀ cls d H', Good CB CN Q cls d H' → wHeld K (.ref CS) 4 (fun a cls d => tAsg (tVar 4) (gName 2)) (fun _ _ _ _ => False) { nx := fun σ H' => ∃ a cls d H2, Good CB CN Q cls d H2 ∧ H2 a = none ∧ H' = upd H2 a (ExH cls a d) ∧ σ = [some (.ref g), some (.ref p), some (.ref a), some .non, none], rt := Q } cls d [some (.ref g), some (.ref p), some .non, some .non, none] H' := by
          intro cls d H' hg
          have e : PySem.W.exmOne K cls (.ref CS) = some true := by
            rcases id hg with ⟨rfl, _⟩ | ⟨_, rfl, _⟩
            · exact X.xN
            · exact X.xB
          exact ⟨true, e, fun _ a ha => ⟨_, rfl, a, cls, d, H', hg, ha, rfl, rfl⟩, fun z => nomatch z⟩
        refine ⟨_, rfl, _, _, rfl, .inl ⟨_, hS1, rfl⟩, rfl, _, rfl, ?_⟩
        by_cases c : xs = []
        · subst c
          rw [decide_eq_true (show V.int ((([x] : List V).length : Nat) : Int) = V.int 1 from rfl)]
          exact iteT ⟨rfl, _, rfl, .inl ⟨_, _, _, _, rfl, rfl, hS1, rfl, hx _ _ _ s1 fun cls d H' hg _ => take cls d H' hg⟩⟩
        · obtain ⟨y, rfl⟩ : ∃ y, xs = [y] := one_of hl c
          rw [decide_eq_false (show ¬ V.int ((([x, y] : List V).length : Nat) : Int) = V.int 1 from fun z => by cases z)]
          exact iteF ⟨rfl, _, rfl, .inl ⟨_, _, _, _, rfl, rfl, hS1, rfl, _, rfl, .inl ⟨_, _, _, _, rfl, rfl, hS1, rfl, hx _ _ _ s1 fun cls d H' hg _ => take cls d H' hg⟩⟩⟩
      · rintro σ H' ⟨a, cls, d, H2, hg, ha, rfl, rfl⟩
        refine ⟨_, rfl, rfl, _, rfl, ?_⟩
        rw [decide_eq_false (fun z => by cases z)]
        refine iteF ?_
        rcases hg with ⟨rfl, rfl, k⟩ | ⟨dx, rfl, rfl, ed, k⟩
        · have ex : ExAt (upd H2 a (ExH (.ref CN) a none)) a CN := .inr (.inr ⟨none, upd_same, fun dx e => nomatch e⟩)
          refine ⟨_, rfl, a, CN, .ref CB, .ref CB, false, rfl, .own CB, X.rN, ex, X.iNB, _, rfl, iteF ?_⟩
          refine ⟨_, rfl, a, CN, .ref CN, .ref CN, true, rfl, .own CN, X.rN, ex, X.iNN, _, rfl, iteT ?_⟩
          refine ⟨(show 1 ≤ sizeLine by decide), fun t ht => k _ t ((same_new ha).trans (same_new ht)) ?_ upd_same⟩
          exact (same_new ha).free ht
        · have ed' : (upd H2 a (ExH (.ref CB) a (some dx))) dx = some (.xd [("at", .non)]) := (same_new ha) _ _ ed
          have ex : ExAt (upd H2 a (ExH (.ref CB) a (some dx))) a CB := .inr (.inr ⟨some dx, upd_same, fun dx' e => by cases e; exact ⟨_, ed'⟩⟩)
          refine ⟨_, rfl, a, CB, .ref CB, .ref CB, true, rfl, .own CB, X.rB, ex, X.iBB, _, rfl, iteT ?_⟩
          refine ⟨_, rfl, a, CB, .ty "ValueError", .type "ValueError", true, rfl, .ty _, X.rB, ex, X.iBV, _, rfl, iteT ?_⟩
          refine ⟨_, rfl, a, CB, .ref CN, .ref CN, false, rfl, .own CN, X.rB, ex, X.iBN, _, rfl, iteT ?_⟩
          refine ⟨_, rfl, a, CB, dx, _, .non, rfl, X.rB, X.nA, .inr ⟨upd_same, ed'⟩, rfl, ?_⟩
          refine ⟨(show 2 ≤ sizeLine by decide), fun t ht => k _ t ((same_new ha).trans (same_new ht)) ?_ upd_same⟩
          exact (same_new ha).free ht
end
/-! ## calls by keyword -/
section
variable {X : Cx} {CX : CXT} {k : Nat} {f : Addr} {fd : FuncData} {ps ks : List Str} {sp : Sp} {E : XK} {x : Str} {p pos : Pos} {kws : List Keyword} {tk : TA} {g : List Value → List Value → List Value} {gV : List V → List V → List V}
/-- f(k = v, ..) -/
theorem pe_callN0 (F : FnOk X.prog X.w X.K X.mg X.base CX k f fd ps sp) (hr : Room k X.A) (hg : Gl X x) (hm : X.mg x = some (.ref f)) (hk : PySem.W.keepIn X.K (.ref f) = true) (hb : KBn X.K fd ps 0 ks g gV) (hx : Passes CX X E)
    (hkw : PK X kws tk) (hall : (backToKw pos (keywordEach kws X.env)).all (·.1.isSome) = true := by rfl) (hks : (backToKw pos (keywordEach kws X.env)).filterMap (·.1) = ks := by rfl)
    (hdb : (x == ("__debug__" : Str)) = false := by decide)
    (hpl : ((backTo pos (starEach [] X.env)).any (·.1) || (backToKw pos (keywordEach kws X.env)).any (·.1.isNone)) = false := by rfl) :
    PE X (.Call (.Name x p) [] kws pos) (tCallN 0 ks.length sp gV E tNil tk) := by
  refine ⟨fun pins s σ H Q I h => ?_⟩
  refine wpAny_Call_Name_kw (ld_glob I hg hm ?_ hdb)
  refine PySem.W.callWith_KW0 (h₀ := X.base) I.ok.mod.kin hk hall ?_ hpl
  refine thn (hkw.run pos pins s σ H _ I h) fun ws s2 ⟨zs, H2, I2, rz, l1, l2, q2⟩ => ⟨I2.kIn, ?_⟩
  rw [hks]
  exact run_fnN (us := []) (vs := []) F hr hb hx I2 .nil rz rfl l2 q2
end
section
variable {K : PySem.W.Frag} {x qual : Str} {params : Arguments} {body : List Stmt} {scope : Scope} {kws : List (Str × V)} {f : Addr} {fd : FuncData} {ps : List Str}
/-- every parameter by its name, in the order of the parameters -/
theorem FunD.kbindsA (F : FunD K x qual params body scope [] kws f fd)
    (h : ∀ (kV doc pm : Value) (an : Option Addr) (cdv ct : Value) (ws : List Value), ws.length = ps.length → bindArgs (PySem.W.fnOf x qual params body scope .none kV doc pm an cdv ct) ⟨[], ps.zip ws⟩ = pure (ps.zip ws)) : KBn K fd ps 0 ps (fun _ ws => ws) (fun _ zs => zs) := by
  obtain ⟨oc, od, dV, kV, doc, pm, an, cdv, ct, osl, rfl, lk, hcd, hD, hK⟩ := F.ex
  rcases hD with ⟨_, rfl⟩ | ⟨e, _⟩
  · refine ⟨fun s us ws X l1 l2 => ?_, fun _ r2 => r2⟩
    cases us with
    | nil => exact .of_eq (h kV doc pm an cdv ct ws l2)
    | cons a b => cases l1
  · exact absurd rfl e
end
/-! ## the answers as data -/
def RpOk (d : PyData) : Prop := d.showable = true ∧ d.depth ≤ 100 ∧ d.shown.length ≤ sizeLine
def resD : Option (Int × Nat) → PyData
  | none => .none
  | some (a, b) => .tuple [.int a, .int (b : Int)]
theorem rp_str {l : List Bool} (h : l.length ≤ 600) : RpOk (.str (sT (bT l))) := by
  refine ⟨by simp only [PyData.showable], by simp only [PyData.depth]; decide, ?_⟩
  rw [PyData.shown_str]
  have := PySem.StrLaws.reprText_len (sT (bT l)) (by
    intro c hc
    rw [sT_cps] at hc
    obtain ⟨b, _, rfl⟩ := List.mem_map.mp hc
    cases b <;> decide)
  rw [sT_len, bT_len] at this
  exact sl_of (by omega)
theorem rp_pair {a b : Int} (ha : a.natAbs < 2 ^ 700) (hb : b.natAbs < 2 ^ 700) : RpOk (.tuple [.int a, .int b]) := by
  have k : ∀ x : Int, x.natAbs < 2 ^ 700 → x.natAbs.log2 < 701 := fun x h => by
    by_cases h0 : x.natAbs = 0
    · rw [h0]; decide
    · exact Nat.lt_of_lt_of_le ((Nat.log2_lt h0).2 h) (by decide)
  have sz : ∀ x : Int, x.natAbs < 2 ^ 700 → (Str.ofString (toString x)).length ≤ 702 := fun x h => by
    rw [ofString_length]
    exact int_text_length_le (by decide) (k x h)
  have j : ∀ x y : Str, (Str.join ", " [x, y]).length = x.length + 2 + y.length := fun x y => by
    show ((x ++ ", ") ++ y).length = _
    rw [Str.length_append, Str.length_append]
    rfl
  refine ⟨?_, ?_, ?_⟩
  · simp only [PyData.showable, PyData.showableAll, Bool.and_eq_true, decide_eq_true_eq]
    exact ⟨Nat.lt_of_lt_of_le (k a ha) (by decide), Nat.lt_of_lt_of_le (k b hb) (by decide), trivial⟩
  · simp only [PyData.depth, PyData.depthAll]
    decide
  · rw [PyData.shown_tuple, PyData.shownAll_cons, PyData.shownAll_cons, PyData.shownAll_nil, PyData.shown_int, PyData.shown_int, Str.length_append, Str.length_append, j]
    have h1 := sz a ha
    have h2 := sz b hb
    have h3 : ("(" : Str).length = 1 := by decide +kernel
    have h4 : ((if [PyData.int a, PyData.int b].length == 1 then ",)" else ")" : String) : Str).length = 1 := by
      show (")" : Str).length = 1
      decide +kernel
    rw [h3, h4]
    exact sl_of (by omega)
theorem rp_none : RpOk .none := ⟨by simp only [PyData.showable], by simp only [PyData.depth]; decide, by rw [PyData.shown_none]; decide +kernel⟩
theorem rp_bits : RpOk (.tuple [.str "BadBits", .none]) := ⟨by decide +kernel, by decide +kernel, by decide +kernel⟩
theorem valB_lt : ∀ (l : List Bool) (a k : Nat), a < 2 ^ k → l.foldl (fun a b => a * 2 + bv b) a < 2 ^ (k + l.length)
  | [], a, k, h => h
  | b :: l, a, k, h => by
    have := valB_lt l (a * 2 + bv b) (k + 1) (by
      have : bv b ≤ 1 := by cases b <;> decide
      rw [Nat.pow_succ]
      omega)
    rw [List.length_cons, show k + (l.length + 1) = k + 1 + l.length by omega]
    exact this
theorem rd_lt {l : List Bool} {i n b : Nat} (hl : l.length ≤ 600) (h : rd l i = some (n, b)) : n < 2 ^ 600 ∧ b ≤ 600 := by
  unfold rd at h
  split at h
  · cases h
  · rename_i c
    injection h with h
    injection h with h1 h2
    subst h1
    subst h2
    refine ⟨?_, by omega⟩
    have e := valB_lt ((l.drop (i + zer (l.drop i))).take (zer (l.drop i) + 1)) 0 0 (by decide)
    rw [Nat.zero_add] at e
    refine Nat.lt_of_le_of_lt (Nat.sub_le _ 1) (Nat.lt_of_lt_of_le e (Nat.pow_le_pow_right (by decide) ?_))
    rw [List.length_take]
    have := zer_le (l.drop i)
    rw [List.length_drop] at this
    omega
theorem rp_rdI {l : List Bool} {i : Nat} (hl : l.length ≤ 600) : RpOk (resD (rdI l i)) := by
  unfold rdI
  cases e : rd l i with
  | none => exact rp_none
  | some x =>
    obtain ⟨n, b⟩ := x
    obtain ⟨h1, h2⟩ := rd_lt hl e
    have h3 : 2 ^ 600 ≤ 2 ^ 700 := Nat.pow_le_pow_right (by decide) (by decide)
    have h4 : 600 < 2 ^ 700 := Nat.lt_of_lt_of_le (show 600 < 2 ^ 10 by decide) (Nat.pow_le_pow_right (by decide) (by decide))
    refine rp_pair ?_ ?_
    · rw [Int.natAbs_natCast]
      exact Nat.lt_of_lt_of_le h1 h3
    · rw [Int.natAbs_natCast]
      exact Nat.lt_of_le_of_lt h2 h4
theorem rp_rdS {l : List Bool} {i : Nat} (hl : l.length ≤ 600) : RpOk (resD (rdS l i)) := by
  unfold rdS
  cases e : rd l i with
  | none => exact rp_none
  | some x =>
    obtain ⟨n, b⟩ := x
    obtain ⟨h1, h2⟩ := rd_lt hl e
    have h3 : 2 ^ 600 < 2 ^ 700 := Nat.pow_lt_pow_right (by decide) (by decide)
    have h4 : 600 < 2 ^ 700 := Nat.lt_of_lt_of_le (show 600 < 2 ^ 10 by decide) (Nat.pow_le_pow_right (by decide) (by decide))
    refine rp_pair ?_ ?_
    · have h5 : (uns n).natAbs ≤ n + 1 := by
        unfold uns
        split <;> omega
      show (uns n).natAbs < 2 ^ 700
      generalize uns n = q at *
      generalize 2 ^ 600 = u at *
      generalize 2 ^ 700 = v at *
      omega
    · rw [Int.natAbs_natCast]
      exact Nat.lt_of_le_of_lt h2 h4
theorem ResV.dx {K : PySem.W.Frag} {H : Hp} {v : V} : ∀ {r : Option (Int × Nat)}, ResV H v r → Dx K H v (resD r)
  | none, h => by
    have h : v = .non := h
    subst h
    exact .non
  | some (a, b), h => by
    obtain ⟨p, rfl, hp⟩ := h
    exact .tup (SqT.of hp) (.cons (.int _) (.cons (.int _) .nil))
theorem ResV.same {H H' : Hp} {v : V} (s : Same H H') : ∀ {r : Option (Int × Nat)}, ResV H v r → ResV H' v r
  | none, h => h
  | some (a, b), h => by
    obtain ⟨p, rfl, hp⟩ := h
    exact ⟨p, rfl, s _ _ hp⟩
section
variable {K : PySem.W.Frag} {x qual : Str} {params : Arguments} {body : List Stmt} {scope : Scope} {kws : List (Str × V)} {f : Addr} {fd : FuncData}
/-- two parameters by name, the second first -/
theorem FunD.kbindsR {a b : Str} (F : FunD K x qual params body scope [] kws f fd)
    (h : ∀ (kV doc pm : Value) (an : Option Addr) (cdv ct : Value) (u v : Value), bindArgs (PySem.W.fnOf x qual params body scope .none kV doc pm an cdv ct) ⟨[], [(b, u), (a, v)]⟩ = pure [(a, v), (b, u)]) : KBn K fd [a, b] 0 [b, a] (fun _ ws => ws.reverse) (fun _ zs => zs.reverse) := by
  obtain ⟨oc, od, dV, kV, doc, pm, an, cdv, ct, osl, rfl, lk, hcd, hD, hK⟩ := F.ex
  rcases hD with ⟨_, rfl⟩ | ⟨e, _⟩
  · refine ⟨fun s us ws X l1 l2 => ?_, fun _ r2 => r2.reverse⟩
    cases us with
    | nil =>
      match ws, l2 with
      | [u, v], _ => exact .of_eq (h kV doc pm an cdv ct u v)
    | cons a b => cases l1
  · exact absurd rfl e
end
/-! ## what is written reads -/
theorem Room.u101 {k : Nat} {A : Around} (r : Room k A) : A.units + 101 < cLine := by have := r.un; omega
theorem Dw.keep {t : Nat} {V0 H H1 : Hp} {d : Addr} (h : Dw t V0 H d) (e : Same H H1) : Dw t V0 H1 d := by
  obtain ⟨s, w, c, ws, cs, rest, turn, h1, h2, h3, ht, D⟩ := h
  exact ⟨s.trans e, w, c, ws, cs, rest, turn, h1, h2, h3, ht, D.same e⟩
theorem rdI_gam (pre suf : List Bool) (n : Nat) : rdI (pre ++ (gam n ++ suf)) pre.length = some ((n : Int), pre.length + (gam n).length) := by
  unfold rdI
  rw [rd_gam]
  rfl
theorem rdI_cut (pre : List Bool) (n c : Nat) (h : c < (gam n).length) : rdI (pre ++ (gam n).take c) pre.length = none := by
  unfold rdI
  rw [rd_cut _ _ _ h]
  rfl
theorem sgn_lt {z : Int} (h : z.natAbs < 2 ^ 60) : sgn z < 2 ^ 62 := by
  unfold sgn
  split <;> omega
theorem bS (a b : List Bool) : sT (bT a) ++ sT (bT b) = sT (bT (a ++ b)) := by rw [sT_ap, ← bT_app]
theorem bl_len (l : List Bool) : (sT (bT l)).length = l.length := by rw [sT_len, bT_len]
theorem nat_lt700 {n : Nat} (h : n < 2 ^ 70) : ((n : Nat) : Int).natAbs < 2 ^ 700 := by
  rw [Int.natAbs_natCast]
  exact Nat.lt_of_lt_of_le h (Nat.pow_le_pow_right (by decide) (by decide))
theorem iteNe {a b : V} {A B : Prop} (e : a = b) (h : B) : if (!decide (a = b)) = true then A else B := by
  rw [decide_eq_true e]
  exact h
structure WrF (P : Program) (w : World) (K : PySem.W.Frag) (mg : Str → Option Value) (base : Heap) (CB CN : Addr) : Prop where
  G : NkF K mg
  S : SmD K
  D : DrF P w K mg base
  m_repr : mg "repr" = none
  m_abs : mg "abs" = none
  signed : ∃ (f : Addr) (fd : FuncData), mg "_law_signed" = some (.ref f) ∧ PySem.W.keepIn K (.ref f) = true ∧ Binds K fd ["_law_number"] [] ∧ FnOk P w K mg base CX0 3 f fd ["_law_number"] spWrit
  lbits : ∃ (f : Addr) (fd : FuncData), mg "_law_bits" = some (.ref f) ∧ PySem.W.keepIn K (.ref f) = true ∧ Binds K fd ["_law_draw", "_law_most"] [] ∧ FnOk P w K mg base CX0 4 f fd ["_law_draw", "_law_most"] spBits
  lcnt : ∃ (f : Addr) (fd : FuncData), mg "_law_count" = some (.ref f) ∧ PySem.W.keepIn K (.ref f) = true ∧ Binds K fd ["_law_number"] [] ∧ FnOk P w K mg base CX0 2 f fd ["_law_number"] spLCnt
  lread : ∃ (f : Addr) (fd : FuncData), mg "_law_read" = some (.ref f) ∧ PySem.W.keepIn K (.ref f) = true ∧ Binds K fd ["_law_bits_here", "_law_at"] [] ∧ FnOk P w K mg base CX0 2 f fd ["_law_bits_here", "_law_at"] (spLRead rdI)
  lsat : ∃ (f : Addr) (fd : FuncData), mg "_law_signed_at" = some (.ref f) ∧ PySem.W.keepIn K (.ref f) = true ∧ Binds K fd ["_law_bits_here", "_law_at"] [] ∧ FnOk P w K mg base CX0 3 f fd ["_law_bits_here", "_law_at"] (spLRead rdS)
  nb : ∃ (f : Addr) (fd : FuncData), mg "number_bits" = some (.ref f) ∧ PySem.W.keepIn K (.ref f) = true ∧ Binds K fd ["number"] [] ∧ KBn K fd ["number"] 0 ["number"] (fun _ ws => ws) (fun _ zs => zs) ∧ FnOk P w K mg base (L2.CX P w) 3 f fd ["number"] (spNB CN)
  cb : ∃ (f : Addr) (fd : FuncData), mg "count_bits" = some (.ref f) ∧ PySem.W.keepIn K (.ref f) = true ∧ Binds K fd ["number"] [] ∧ KBn K fd ["number"] 0 ["number"] (fun _ ws => ws) (fun _ zs => zs) ∧ FnOk P w K mg base (L2.CX P w) 2 f fd ["number"] (spCB CN)
  rn : ∃ (f : Addr) (fd : FuncData), mg "read_number" = some (.ref f) ∧ PySem.W.keepIn K (.ref f) = true ∧ Binds K fd ["bits", "at"] [] ∧ KBn K fd ["bits", "at"] 0 ["at", "bits"] (fun _ ws => ws.reverse) (fun _ zs => zs.reverse) ∧ FnOk P w K mg base (L2.CX P w) 4 f fd ["bits", "at"] (spRead CB CN rdS)
  rc : ∃ (f : Addr) (fd : FuncData), mg "read_count" = some (.ref f) ∧ PySem.W.keepIn K (.ref f) = true ∧ Binds K fd ["bits", "at"] [] ∧ KBn K fd ["bits", "at"] 0 ["at", "bits"] (fun _ ws => ws.reverse) (fun _ zs => zs.reverse) ∧ FnOk P w K mg base (L2.CX P w) 4 f fd ["bits", "at"] (spRead CB CN rdI)
def spRight : Sp := fun vs H Q _ => ∃ (t : Nat) (V0 : Hp) (d : Addr) (z : Int), vs = [.ref d, .int z] ∧ Dw t V0 H d ∧ t + 300 < T40 ∧ z.natAbs < 2 ^ 42 ∧ ∀ H', Dw (t + 300) V0 H' d → Q (.bl true) H'
section
variable {P : Program} {w : World} {K : PySem.W.Frag} {mg : Str → Option Value} {base : Heap}
theorem sc_right : FnScope ["_law_draw", "_law_number", "_law_due", "_law_front", "_law_back", "_law_many", "_law_at", "_law_whole", "_law_cut", "_law_spot"] ["_law_draw", "_law_number"] (defScope s_law_written_right) := ⟨rfl, rfl, rfl, by decide +kernel, rfl, by decide +kernel, by decide +kernel⟩
theorem ok_right {f CB CN : Addr} {fd : FuncData} (F : FnP K "_law_written_right" s_law_written_right f fd) (R : WrF P w K mg base CB CN) : FnG P w K mg base 5 f fd ["_law_draw", "_law_number"] spRight := by
  obtain ⟨fT, fdT, gT, kT, bT', GT⟩ := R.D.take
  obtain ⟨fS, fdS, gS, kS, bS', GS⟩ := R.signed
  obtain ⟨fB, fdB, gB, kB, bB, GB⟩ := R.lbits
  obtain ⟨fC, fdC, gC, kC, bC, GC⟩ := R.lcnt
  obtain ⟨fR, fdR, gR, kR, bR, GR⟩ := R.lread
  obtain ⟨fA, fdA, gA, kA, bA, GA⟩ := R.lsat
  obtain ⟨f1, fd1, g1, k1, b1, kb1, G1⟩ := R.nb
  obtain ⟨f2, fd2, g2, k2, b2, kb2, G2⟩ := R.cb
  obtain ⟨f3, fd3, g3, k3, b3, kb3, G3⟩ := R.rn
  obtain ⟨f4, fd4, g4, k4, b4, kb4, G4⟩ := R.rc
  have G := R.G
  refine FunD.okG F sc_right (fun vs H Q E h => ?_) (fun cdv A outer s H vs Q E hgd hr h => ?_)
  · obtain ⟨t, V0, d, z, rfl, _⟩ := h
    rfl
  · obtain ⟨t, V0, d, z, rfl, hD, ht, hz, k⟩ := h
    have ht : t + 300 < 1099511627776 := ht
    have nd := sc_right.nd
    have hr2 := hr.mono (show 2 ≤ 4 by decide)
    have hr3 := hr.mono (show 3 ≤ 4 by decide)
    apply Exists.intro
    apply And.intro
    case left =>
     apply PSs.nox
     apply pss_cons
     · exact ps_par3 (X := (cxOf CX0 P w K mg base ["_law_draw", "_law_number", "_law_due", "_law_front", "_law_back", "_law_many", "_law_at", "_law_whole", "_law_cut", "_law_spot"] "_law_written_right" (defScope s_law_written_right) f cdv A outer s H E).nox) (i := 2) (j := 3) (l := 4) rfl nd rfl rfl rfl (by decide) (by decide) (by decide) rfl rfl rfl (pa_cons (pe_call GS hr3 rfl gS kS bS' .nil pass0 (pa_cons (pv 1) pa_nil)) (pa_cons (pe_call GB hr rfl gB kB bB .nil pass0 (pa_cons (pv 0) (pa_cons pe_int pa_nil))) (pa_cons (pe_call GB hr rfl gB kB bB .nil pass0 (pa_cons (pv 0) (pa_cons pe_int pa_nil))) pa_nil))) (by rfl)
     apply pss_cons
     · exact ps_if (PW.pt (pw_or (pt_cmpR op_ne (pe_callB (call_reprA hgd (Room.u101 hr) R.S) (by rfl) R.m_repr (by decide +kernel) (pa_cons (pe_call G1 hr3 rfl g1 k1 b1 .nil (passes_call LamX.takes0 (fun _ _ _ _ h => h)) (pa_cons (pv 1) pa_nil)) pa_nil)) (pe_callB (call_reprA hgd (Room.u101 hr) R.S) (by rfl) R.m_repr (by decide +kernel) (pa_cons (pv 2) pa_nil)) (nomark _))
         (pw_or1 (pt_cmpR op_ne (pe_callB (call_reprA hgd (Room.u101 hr) R.S) (by rfl) R.m_repr (by decide +kernel) (pa_cons (pe_callN0 G1 hr3 rfl g1 k1 kb1 (passes_call LamX.takes0 (fun _ _ _ _ h => h)) (pk_cons (pv 1) pk_nil)) pa_nil)) (pe_callB (call_reprA hgd (Room.u101 hr) R.S) (by rfl) R.m_repr (by decide +kernel) (pa_cons (pv 2) pa_nil)) (nomark _))))) (pss_one (ps_ret pe_bl)) pss_nil
     apply C8.pss_cut
     · exact ps_set (i := 5) nd rfl (.inl rfl) (pe_callB call_abs (by rfl) R.m_abs (by decide +kernel) (pa_cons (pv 1) pa_nil))
     apply pss_cons
     · exact ps_if (PW.pt (pw_or (pt_cmpR op_ne (pe_callB (call_reprA hgd (Room.u101 hr) R.S) (by rfl) R.m_repr (by decide +kernel) (pa_cons (pe_call G2 hr2 rfl g2 k2 b2 .nil (passes_call LamX.takes0 (fun _ _ _ _ h => h)) (pa_cons (pv 5) pa_nil)) pa_nil)) (pe_callB (call_reprA hgd (Room.u101 hr) R.S) (by rfl) R.m_repr (by decide +kernel) (pa_cons (pe_call GC hr2 rfl gC kC bC .nil pass0 (pa_cons (pv 5) pa_nil)) pa_nil)) (nomark _))
         (pw_or1 (pt_cmpR op_ne (pe_callB (call_reprA hgd (Room.u101 hr) R.S) (by rfl) R.m_repr (by decide +kernel) (pa_cons (pe_callN0 G2 hr2 rfl g2 k2 kb2 (passes_call LamX.takes0 (fun _ _ _ _ h => h)) (pk_cons (pv 5) pk_nil)) pa_nil)) (pe_callB (call_reprA hgd (Room.u101 hr) R.S) (by rfl) R.m_repr (by decide +kernel) (pa_cons (pe_call GC hr2 rfl gC kC bC .nil pass0 (pa_cons (pv 5) pa_nil)) pa_nil)) (nomark _))))) (pss_one (ps_ret pe_bl)) pss_nil
     apply C8.pss_cut
     · exact ps_par (i := 6) (j := 7) rfl nd rfl rfl (by decide) rfl rfl (pa_cons (pe_callB call_len_str (by rfl) G.len PySem.boot_len (pa_cons (pv 3) pa_nil)) (pa_cons (pe_op op_add_str (pe_op op_add_str (pv 3) (pv 2)) (pv 4)) pa_nil)) (by rfl)
     apply pss_cons
     · exact ps_if (pt_cmpR op_ne (pe_callB (call_reprA hgd (Room.u101 hr) R.S) (by rfl) R.m_repr (by decide +kernel) (pa_cons (pe_call G3 hr rfl g3 k3 b3 .nil (passes_call LamX.takes0 (fun _ _ _ _ h => h)) (pa_cons (pv 7) (pa_cons (pv 6) pa_nil))) pa_nil)) (pe_callB (call_reprA hgd (Room.u101 hr) R.S) (by rfl) R.m_repr (by decide +kernel) (pa_cons (pe_tup (pa_cons (pv 1) (pa_cons (pe_op op_add (pv 6) (pe_callB call_len_str (by rfl) G.len PySem.boot_len (pa_cons (pv 2) pa_nil))) pa_nil))) pa_nil)) (nomark _)) (pss_one (ps_ret pe_bl)) pss_nil
     apply pss_cons
     · exact ps_if (pt_cmpR op_ne (pe_callB (call_reprA hgd (Room.u101 hr) R.S) (by rfl) R.m_repr (by decide +kernel) (pa_cons (pe_call G4 hr rfl g4 k4 b4 .nil (passes_call LamX.takes0 (fun _ _ _ _ h => h)) (pa_cons (pe_op op_add_str (pe_op op_add_str (pv 3) (pe_call GC hr2 rfl gC kC bC .nil pass0 (pa_cons (pv 5) pa_nil))) (pv 4)) (pa_cons (pv 6) pa_nil))) pa_nil))
          (pe_callB (call_reprA hgd (Room.u101 hr) R.S) (by rfl) R.m_repr (by decide +kernel) (pa_cons (pe_tup (pa_cons (pv 5) (pa_cons (pe_op op_add (pv 6) (pe_callB call_len_str (by rfl) G.len PySem.boot_len (pa_cons (pe_call GC hr2 rfl gC kC bC .nil pass0 (pa_cons (pv 5) pa_nil)) pa_nil))) pa_nil))) pa_nil)) (nomark _)) (pss_one (ps_ret pe_bl)) pss_nil
     apply pss_cons
     · apply ps_for PassesOwn.never rfl
       · exact pi_list (pe_lst (pa_cons pe_int (pa_cons (pe_call GT hr2 rfl gT kT bT' .nil pass0 (pa_cons (pv 0) (pa_cons (pe_callB call_len_str (by rfl) G.len PySem.boot_len (pa_cons (pv 2) pa_nil)) pa_nil))) (pa_cons (pe_op op_sub (pe_callB call_len_str (by rfl) G.len PySem.boot_len (pa_cons (pv 2) pa_nil)) pe_int) pa_nil))))
       · exact pg_name (i := 8) nd rfl (Or.inl rfl)
       · apply pss_one
         exact ps_if (PW.pt (pw_or (pt_cmpR op_notN (pe_call G3 hr rfl g3 k3 b3 .nil (passes_call LamX.takes0 (fun _ _ _ _ h => h)) (pa_cons (pe_op op_add_str (pv 3) (pe_slice sl_str (pv 2) po_none (po_some (pv 8)))) (pa_cons (pv 6) pa_nil))) pe_non (nomark _))
         (pw_or1 (pt_cmpR op_notN (pe_call G4 hr rfl g4 k4 b4 .nil (passes_call LamX.takes0 (fun _ _ _ _ h => h)) (pa_cons (pe_op op_add_str (pv 3) (pe_slice sl_str (pv 2) po_none (po_some (pv 8)))) (pa_cons (pv 6) pa_nil))) pe_non (nomark _))))) (pss_one (ps_ret pe_bl)) pss_nil
     apply pss_cons
     · exact ps_set (i := 9) nd rfl (.inl rfl) (pe_call GT hr2 rfl gT kT bT' .nil pass0 (pa_cons (pv 0) (pa_cons (pe_op op_add (pe_callB call_len_str (by rfl) G.len PySem.boot_len (pa_cons (pv 7) pa_nil)) pe_int) pa_nil)))
     apply pss_cons
     · exact ps_if (pt_cmpR op_ne (pe_callB (call_reprA hgd (Room.u101 hr) R.S) (by rfl) R.m_repr (by decide +kernel) (pa_cons (pe_callN0 G4 hr rfl g4 k4 kb4 (passes_call LamX.takes0 (fun _ _ _ _ h => h)) (pk_cons (pv 9) (pk_cons (pv 7) pk_nil))) pa_nil)) (pe_callB (call_reprA hgd (Room.u101 hr) R.S) (by rfl) R.m_repr (by decide +kernel) (pa_cons (pe_call GR hr2 rfl gR kR bR .nil pass0 (pa_cons (pv 7) (pa_cons (pv 9) pa_nil))) pa_nil)) (nomark _)) (pss_one (ps_ret pe_bl)) pss_nil
     apply pss_one
     exact ps_ret (pe_cmpR op_eq (pe_callB (call_reprA hgd (Room.u101 hr) R.S) (by rfl) R.m_repr (by decide +kernel) (pa_cons (pe_callN0 G3 hr rfl g3 k3 kb3 (passes_call LamX.takes0 (fun _ _ _ _ h => h)) (pk_cons (pv 9) (pk_cons (pv 7) pk_nil))) pa_nil)) (pe_callB (call_reprA hgd (Room.u101 hr) R.S) (by rfl) R.m_repr (by decide +kernel) (pa_cons (pe_call GA hr3 rfl gA kA bA .nil pass0 (pa_cons (pv 7) (pa_cons (pv 9) pa_nil))) pa_nil)) (nomark _))
    case right =>
      have hz2 : sgn z < 2 ^ 62 := sgn_lt (by omega)
      obtain ⟨hlg, hgl⟩ := gam_small hz2
      have hn : z.natAbs < 2 ^ 62 := by omega
      obtain ⟨hlg', hgl'⟩ := gam_small hn
      refine ⟨_, rfl, z, rfl, by omega, ?_⟩
      refine ⟨_, rfl, t, V0, d, 12, rfl, hD, by show t + 200 < 1099511627776; omega, by decide, fun l1 H1 hl1 D1 => ?_⟩
      refine ⟨_, rfl, t + 12 + 2, V0, d, 40, rfl, D1, by show t + 12 + 2 + 200 < 1099511627776; omega, by decide, fun l2 H2 hl2 D2 => ?_⟩
      refine ⟨_, _, _, rfl, ?_⟩
      clear D1 hD
      have rd0 : RpOk (.str (sT (bT (gam (sgn z))))) := rp_str (by omega)
      have rd1 : RpOk (.str (sT (bT (gam z.natAbs)))) := rp_str (by omega)
      -- number_bits
      refine ⟨_, rfl, _, rfl, .inl ⟨z, rfl, by omega, _, _, rfl, .str _, rd0.1, rd0.2.1, rd0.2.2, _, rfl, _, _, rfl, .str _, rd0.1, rd0.2.1, rd0.2.2, rfl, _, rfl, ?_⟩⟩
      rw [decide_eq_true rfl]
      refine iteF ⟨_, rfl, rfl, rfl, _, rfl, .inl ⟨z, rfl, by omega, _, _, rfl, .str _, rd0.1, rd0.2.1, rd0.2.2, _, rfl, _, _, rfl, .str _, rd0.1, rd0.2.1, rd0.2.2, rfl, _, rfl, ?_⟩⟩
      rw [decide_eq_true rfl]
      refine iteF ?_
      refine ⟨fun σ H' => H' = H2 ∧ σ = [some (.ref d), some (.int z), some (.str (sT (bT (gam (sgn z))))), some (.str (sT (bT l1))), some (.str (sT (bT l2))), some (.int ((z.natAbs : Nat) : Int)), none, none, none, none], ?_, ?_⟩
      · refine ⟨_, rfl, _, rfl, rfl, ?_⟩
        show [some (V.ref d), some (V.int z), some (V.str (sT (bT (gam (sgn z))))), some (V.str (sT (bT l1))), some (V.str (sT (bT l2))), some (V.int (if z < 0 then -z else z)), none, none, none, none] = _
        rw [show (if z < 0 then -z else z) = ((z.natAbs : Nat) : Int) by split <;> omega]
      rintro σ H' ⟨rfl, rfl⟩
      -- count_bits
      refine ⟨_, rfl, _, rfl, .inl ⟨z.natAbs, rfl, hn, _, _, rfl, .str _, rd1.1, rd1.2.1, rd1.2.2, _, rfl, z.natAbs, rfl, hn, _, _, rfl, .str _, rd1.1, rd1.2.1, rd1.2.2, rfl, _, rfl, ?_⟩⟩
      rw [decide_eq_true rfl]
      refine iteF ⟨_, rfl, rfl, rfl, _, rfl, .inl ⟨z.natAbs, rfl, hn, _, _, rfl, .str _, rd1.1, rd1.2.1, rd1.2.2, _, rfl, z.natAbs, rfl, hn, _, _, rfl, .str _, rd1.1, rd1.2.1, rd1.2.2, rfl, _, rfl, ?_⟩⟩
      rw [decide_eq_true rfl]
      refine iteF ?_
      have sl1 : (sT (bT l1)).length ≤ sizeLine := sl_of (by rw [bl_len]; omega)
      have slg : (sT (bT (gam (sgn z)))).length ≤ sizeLine := sl_of (by rw [bl_len]; omega)
      have slg' : (sT (bT (gam z.natAbs))).length ≤ sizeLine := sl_of (by rw [bl_len]; omega)
      have lw : (l1 ++ (gam (sgn z) ++ l2)).length ≤ 179 := by rw [List.length_append, List.length_append]; omega
      have lw' : (l1 ++ (gam z.natAbs ++ l2)).length ≤ 179 := by rw [List.length_append, List.length_append]; omega
      have slw : (sT (bT (l1 ++ (gam (sgn z) ++ l2)))).length ≤ sizeLine := sl_of (by rw [bl_len]; omega)
      refine ⟨fun σ H2 => H2 = H' ∧ σ = [some (.ref d), some (.int z), some (.str (sT (bT (gam (sgn z))))), some (.str (sT (bT l1))), some (.str (sT (bT l2))), some (.int ((z.natAbs : Nat) : Int)), some (.int (l1.length : Int)), some (.str (sT (bT (l1 ++ (gam (sgn z) ++ l2))))), none, none], ?_, ?_⟩
      · refine ⟨_, rfl, _, rfl, sl1, _, rfl, _, rfl, _, _, rfl, rfl, ?_, _, rfl, _, _, rfl, rfl, ?_, _, _, rfl, rfl, ?_⟩
        · rw [bl_len, bl_len]
          exact sl_of (by omega)
        · rw [bS, bl_len, bl_len, List.length_append]
          exact sl_of (by omega)
        · show [some (V.ref d), some (V.int z), some (V.str (sT (bT (gam (sgn z))))), some (V.str (sT (bT l1))), some (V.str (sT (bT l2))), some (V.int ((z.natAbs : Nat) : Int)), some (V.int ((sT (bT l1)).length : Int)), some (V.str (sT (bT l1) ++ sT (bT (gam (sgn z))) ++ sT (bT l2))), none, none] = _
          rw [bS, bS, bl_len, List.append_assoc]
      rintro σ H3 ⟨rfl, rfl⟩
      have rp1 : RpOk (resD (rdS (l1 ++ (gam (sgn z) ++ l2)) l1.length)) := rp_rdS (by omega)
      have rp2 : RpOk (resD (rdI (l1 ++ (gam z.natAbs ++ l2)) l1.length)) := rp_rdI (by omega)
      -- read_number
      refine ⟨_, rfl, _, rfl, _, _, rfl, .inl ⟨l1 ++ (gam (sgn z) ++ l2), l1.length, rfl, rfl, by omega, by rw [List.length_append]; omega, fun v H4 s4 hv => ?_⟩⟩
      have D4 := D2.keep s4
      rw [rdS_gam] at hv rp1
      refine ⟨_, _, rfl, hv.dx, rp1.1, rp1.2.1, rp1.2.2, ?_⟩
      refine ⟨_, rfl, _, rfl, _, rfl, _, rfl, slg, _, _, rfl, rfl, (show 2 ≤ sizeLine by decide), fun p hp => ?_⟩
      refine ⟨_, PyData.tuple [.int z, .int ((l1.length + (gam (sgn z)).length : Nat) : Int)], rfl, .tup (SqT.of upd_same) (.cons (.int _) (.cons ?_ .nil)), rp1.1, rp1.2.1, rp1.2.2, rfl, _, rfl, ?_⟩
      · rw [bl_len]
        exact .int _
      refine iteNe rfl ?_
      have D5 := D4.keep (same_new (o := .tup [V.int z, V.int ((l1.length : Int) + ((sT (bT (gam (sgn z)))).length : Int))]) hp)
      clear D4 s4 hv
      generalize upd H4 p (.tup [V.int z, V.int ((l1.length : Int) + ((sT (bT (gam (sgn z)))).length : Int))]) = H5 at D5 ⊢
      -- read_count
      rw [rdI_gam] at rp2
      refine ⟨_, rfl, _, rfl, z.natAbs, rfl, hn, _, _, rfl, rfl, ?_, _, rfl, _, _, rfl, rfl, ?_, _, rfl, _, _, rfl, .inl ⟨l1 ++ (gam z.natAbs ++ l2), l1.length, ?_, rfl, by omega, by rw [List.length_append]; omega, fun v H6 s6 hv => ?_⟩⟩
      · rw [bl_len, bl_len]
        exact sl_of (by omega)
      · rw [bS, bl_len, bl_len, List.length_append]
        exact sl_of (by omega)
      · rw [bS, bS, List.append_assoc]
      have D6 := D5.keep s6
      rw [rdI_gam] at hv
      refine ⟨_, _, rfl, hv.dx, rp2.1, rp2.2.1, rp2.2.2, ?_⟩
      refine ⟨_, rfl, _, rfl, _, rfl, z.natAbs, rfl, hn, _, rfl, slg', _, _, rfl, rfl, (show 2 ≤ sizeLine by decide), fun p hp => ?_⟩
      refine ⟨_, PyData.tuple [.int ((z.natAbs : Nat) : Int), .int ((l1.length + (gam z.natAbs).length : Nat) : Int)], rfl, .tup (SqT.of upd_same) (.cons (.int _) (.cons ?_ .nil)), rp2.1, rp2.2.1, rp2.2.2, rfl, _, rfl, ?_⟩
      · rw [bl_len]
        exact .int _
      refine iteNe rfl ?_
      have D7 := D6.keep (same_new (o := .tup [V.int ((z.natAbs : Nat) : Int), V.int ((l1.length : Int) + ((sT (bT (gam z.natAbs))).length : Int))]) hp)
      clear D6 s6 hv D5
      generalize upd H6 p (.tup [V.int ((z.natAbs : Nat) : Int), V.int ((l1.length : Int) + ((sT (bT (gam z.natAbs))).length : Int))]) = H7 at D7 ⊢
      -- what is cut
      have lg1 : 1 ≤ (gam (sgn z)).length := by rw [gam_len]; omega
      refine ⟨_, rfl, _, rfl, _, rfl, slg, t + 12 + 2 + 40 + 2, V0, d, _, rfl, D7, by show t + 12 + 2 + 40 + 2 < 1099511627776; omega, by rw [bl_len]; omega, by rw [bl_len]; omega, fun c H8 c0 c1 D8 => ?_⟩
      rw [bl_len] at c1
      refine ⟨_, rfl, _, rfl, slg, _, _, rfl, rfl, (show 3 ≤ sizeLine by decide), fun p hp => ⟨p, rfl, ⟨_, SqL.of upd_same⟩, ?_⟩⟩
      have D9 := D8.keep (same_new (o := .lst [V.int 0, V.int c, V.int (((sT (bT (gam (sgn z)))).length : Int) - 1)]) hp)
      have e9 : (upd H8 p (.lst [V.int 0, V.int c, V.int (((sT (bT (gam (sgn z)))).length : Int) - 1)])) p = some (.lst [V.int 0, V.int c, V.int (((sT (bT (gam (sgn z)))).length : Int) - 1)]) := upd_same
      have cuts : ∀ x ∈ [V.int 0, V.int c, V.int (((sT (bT (gam (sgn z)))).length : Int) - 1)], ∃ m : Nat, x = .int (m : Int) ∧ m < (gam (sgn z)).length := by
        intro x hx
        rcases List.mem_cons.mp hx with rfl | hx
        · exact ⟨0, rfl, by omega⟩
        rcases List.mem_cons.mp hx with rfl | hx
        · exact ⟨c.toNat, by congr 1; omega, by omega⟩
        rw [List.mem_singleton] at hx
        subst hx
        exact ⟨(gam (sgn z)).length - 1, by rw [bl_len]; congr 1; omega, by omega⟩
      generalize [V.int 0, V.int c, V.int (((sT (bT (gam (sgn z)))).length : Int) - 1)] = xs at D9 e9 cuts ⊢
      generalize upd H8 p (.lst xs) = H9 at D9 e9 ⊢
      clear D8 hp
      refine for_list (K := K) (a := p) (xs := xs) (fun j σ H' => Same H9 H' ∧ ∃ v8, σ = [some (.ref d), some (.int z), some (.str (sT (bT (gam (sgn z))))), some (.str (sT (bT l1))), some (.str (sT (bT l2))), some (.int ((z.natAbs : Nat) : Int)), some (.int (l1.length : Int)), some (.str (sT (bT (l1 ++ (gam (sgn z) ++ l2))))), v8, none])
        ⟨Same.refl _, none, rfl⟩ (fun j σ H' _ h => SqL.of (h.1 _ _ e9)) ?_ ?_
      · rintro j x σ H' hj ⟨sj, v8, rfl⟩
        obtain ⟨m, rfl, hm⟩ := cuts x (List.mem_of_getElem? hj)
        have hcut : cutS (sT (bT (gam (sgn z)))) none (some (m : Int)) = sT (bT ((gam (sgn z)).take m)) := by
          rw [cut_to]
          unfold bT
          rw [List.map_take]
        have lm : ((gam (sgn z)).take m).length ≤ 127 := by rw [List.length_take]; omega
        have lt : (l1 ++ (gam (sgn z)).take m).length ≤ 139 := by rw [List.length_append]; omega
        refine ⟨_, rfl, _, rfl, _, rfl, _, rfl, _, rfl, slg, ?_⟩
        rw [hcut]
        refine ⟨_, _, rfl, rfl, sl_of (by rw [bl_len, bl_len]; omega), _, rfl, _, _, rfl, .inl ⟨l1 ++ (gam (sgn z)).take m, l1.length, by rw [bS], rfl, by omega, by rw [List.length_append]; omega, fun v Ha sa hv => ?_⟩⟩
        rw [rdS_cut _ _ _ hm] at hv
        have hv : v = .non := hv
        subst hv
        refine ⟨rfl, _, rfl, iteNe rfl ?_⟩
        refine ⟨_, rfl, _, rfl, _, rfl, _, rfl, _, rfl, slg, ?_⟩
        rw [hcut]
        refine ⟨_, _, rfl, rfl, sl_of (by rw [bl_len, bl_len]; omega), _, rfl, _, _, rfl, .inl ⟨l1 ++ (gam (sgn z)).take m, l1.length, by rw [bS], rfl, by omega, by rw [List.length_append]; omega, fun v Hb sb hv => ?_⟩⟩
        rw [rdI_cut _ _ _ hm] at hv
        have hv : v = .non := hv
        subst hv
        exact ⟨rfl, _, rfl, iteNe rfl ⟨sj.trans (sa.trans sb), _, rfl⟩⟩
      · rintro σ H' ⟨sj, v8, rfl⟩
        have Da := D9.keep sj
        -- a spot
        refine ⟨_, rfl, _, rfl, _, rfl, slw, _, _, rfl, rfl, t + 12 + 2 + 40 + 2 + 1, V0, d, _, rfl, Da, by show t + 12 + 2 + 40 + 2 + 1 < 1099511627776; omega, by omega, by rw [bl_len]; omega, fun i Hb i0 i1 Db => ?_⟩
        rw [bl_len] at i1
        obtain ⟨i, rfl⟩ : ∃ n : Nat, i = (n : Int) := ⟨i.toNat, by omega⟩
        have hi : i ≤ (l1 ++ (gam (sgn z) ++ l2)).length := by omega
        generalize l1 ++ (gam (sgn z) ++ l2) = L at *
        have rpI : RpOk (resD (rdI L i)) := rp_rdI (by omega)
        have rpS : RpOk (resD (rdS L i)) := rp_rdS (by omega)
        refine ⟨_, rfl, _, rfl, rfl, rfl, _, _, rfl, .inl ⟨L, i, rfl, rfl, by omega, hi, fun v Hc sc hv => ?_⟩⟩
        refine ⟨_, _, rfl, hv.dx, rpI.1, rpI.2.1, rpI.2.2, ?_⟩
        refine ⟨_, rfl, _, rfl, L, i, rfl, by omega, hi, fun u Hd sd hu => ?_⟩
        refine ⟨_, _, rfl, hu.dx, rpI.1, rpI.2.1, rpI.2.2, rfl, _, rfl, iteNe rfl ?_⟩
        refine ⟨_, rfl, _, rfl, rfl, rfl, _, _, rfl, .inl ⟨L, i, rfl, rfl, by omega, hi, fun v' He se hv' => ?_⟩⟩
        refine ⟨_, _, rfl, hv'.dx, rpS.1, rpS.2.1, rpS.2.2, ?_⟩
        refine ⟨_, rfl, _, rfl, L, i, rfl, by omega, hi, fun u' Hf sf hu' => ?_⟩
        refine ⟨_, _, rfl, hu'.dx, rpS.1, rpS.2.1, rpS.2.2, rfl, ?_⟩
        rw [decide_eq_true rfl]
        exact k _ ((Db.keep (sc.trans (sd.trans (se.trans sf)))).mono (by omega))
end
/-! ## what is refused -/
theorem bn_eq : PyData.eqv (.tuple [.str "BadNumber"]) (.tuple [.str "BadNumber"]) = true := by decide +kernel
theorem bn_sh : SeqAt.shaped (.tuple [.str "BadNumber"]) = true := by decide +kernel
theorem iteNeB {b : Bool} {A B : Prop} (e : b = true) (h : B) : if (!b) = true then A else B := by
  rw [e]
  exact h
theorem isB_app (a b : List Nat) : isB (a ++ b) = (isB a && isB b) := by
  unfold isB
  rw [List.all_append]
def badZ (z : Str) : Bool := decide (z.cps.toList.length ≤ 100) && !isB z.cps.toList
theorem NbV.of {H : Hp} {z : Str} (h : badZ z = true) : NbV H (.str z) := by
  unfold badZ at h
  simp only [Bool.and_eq_true, decide_eq_true_eq, Bool.not_eq_true'] at h
  exact .inl ⟨z.cps.toList, by rw [sT_of], by omega, h.2⟩
theorem NbV.app {H : Hp} {l : List Bool} {z : Str} (hl : l.length ≤ 600) (h : badZ z = true) : NbV H (.str (sT (bT l) ++ z)) := by
  unfold badZ at h
  simp only [Bool.and_eq_true, decide_eq_true_eq, Bool.not_eq_true'] at h
  refine .inl ⟨_, by rw [cat_sT], by rw [List.length_append, bT_len]; omega, ?_⟩
  rw [isB_app, h.2, Bool.and_false]
theorem NbV.pre {H : Hp} {l : List Bool} {z : Str} (hl : l.length ≤ 600) (h : badZ z = true) : NbV H (.str (z ++ sT (bT l))) := by
  unfold badZ at h
  simp only [Bool.and_eq_true, decide_eq_true_eq, Bool.not_eq_true'] at h
  refine .inl ⟨z.cps.toList ++ bT l, by rw [← sT_ap, sT_of], by rw [List.length_append, bT_len]; omega, ?_⟩
  rw [isB_app, h.2, Bool.false_and]
theorem NbV.same {H H' : Hp} {v : V} (s : Same H H') (h : NbV H v) : NbV H' v := h.imp (fun x => x) (NtV.same s)
theorem BadIx.same {H H' : Hp} {n : Nat} {v : V} (s : Same H H') (h : BadIx H n v) : BadIx H' n v := h.imp (fun x => x) (OtV.same s)
structure RfF (P : Program) (w : World) (K : PySem.W.Frag) (mg : Str → Option Value) (base : Heap) (CB CN : Addr) : Prop where
  W : WrF P w K mg base CB CN
  out : ∃ (f : Addr) (fd : FuncData), mg "_law_outcome" = some (.ref f) ∧ PySem.W.keepIn K (.ref f) = true ∧ Binds K fd ["_law_work", "_law_things"] [] ∧ FnOk P w K mg base CX0 5 f fd ["_law_work", "_law_things"] (spOut P w K mg base CB CN)
def spRef : Sp := fun vs H Q _ => ∃ (t : Nat) (V0 : Hp) (d : Addr), vs = [.ref d] ∧ Dw t V0 H d ∧ t + 300 < T40 ∧ ∀ H', Q (.bl true) H'
section
variable {P : Program} {w : World} {K : PySem.W.Frag} {mg : Str → Option Value} {base : Heap}
theorem sc_refd : FnScope ["_law_draw", "_law_bad", "_law_bits_here", "_law_strange", "_law_at", "_law_work"] ["_law_draw"] (defScope s_law_refused) := ⟨rfl, rfl, rfl, by decide +kernel, rfl, by decide +kernel, by decide +kernel⟩
theorem ok_refd {f CB CN : Addr} {fd : FuncData} (F : FnP K "_law_refused" s_law_refused f fd) (R : RfF P w K mg base CB CN) : FnG P w K mg base 6 f fd ["_law_draw"] spRef := by
  obtain ⟨fT, fdT, gT, kT, bT', GT⟩ := R.W.D.take
  obtain ⟨fP, fdP, gP, kP, bP, GP⟩ := R.W.D.pick
  obtain ⟨fB, fdB, gB, kB, bB, GB⟩ := R.W.lbits
  obtain ⟨fO, fdO, gO, kO, bO, GO⟩ := R.out
  obtain ⟨f1, fd1, g1, k1, b1, kb1, G1⟩ := R.W.nb
  obtain ⟨f2, fd2, g2, k2, b2, kb2, G2⟩ := R.W.cb
  obtain ⟨f3, fd3, g3, k3, b3, kb3, G3⟩ := R.W.rn
  obtain ⟨f4, fd4, g4, k4, b4, kb4, G4⟩ := R.W.rc
  have w1 : Wk P w K mg base f1 (spNB CN) := ⟨3, fd1, _, by decide, G1, k1, b1⟩
  have w2 : Wk P w K mg base f2 (spCB CN) := ⟨2, fd2, _, by decide, G2, k2, b2⟩
  have w3 : Wk P w K mg base f3 (spRead CB CN rdS) := ⟨4, fd3, _, by decide, G3, k3, b3⟩
  have w4 : Wk P w K mg base f4 (spRead CB CN rdI) := ⟨4, fd4, _, by decide, G4, k4, b4⟩
  have G := R.W.G
  refine FunD.okG F sc_refd (fun vs H Q E h => ?_) (fun cdv A outer s H vs Q E hgd hr h => ?_)
  · obtain ⟨t, V0, d, rfl, _⟩ := h
    rfl
  · obtain ⟨t, V0, d, rfl, hD, ht, k⟩ := h
    have ht : t + 300 < 1099511627776 := ht
    have nd := sc_refd.nd
    have hr2 := hr.mono (show 2 ≤ 5 by decide)
    have hr3 := hr.mono (show 3 ≤ 5 by decide)
    have hr4 := hr.mono (show 4 ≤ 5 by decide)
    apply Exists.intro
    apply And.intro
    case left =>
     apply PSs.nox
     apply pss_cons
     · exact ps_par (X := (cxOf CX0 P w K mg base ["_law_draw", "_law_bad", "_law_bits_here", "_law_strange", "_law_at", "_law_work"] "_law_refused" (defScope s_law_refused) f cdv A outer s H E).nox) (i := 1) (j := 2) rfl nd rfl rfl (by decide) rfl rfl (pa_cons (pe_call GP hr3 rfl gP kP bP .nil pass0 (pa_cons (pv 0) (pa_cons (pe_lst (pa_cons pe_non (pa_cons pe_bl (pa_cons pe_bl (pa_cons pe_str (pa_cons pe_str (pa_cons (pe_tup (pa_cons pe_int pa_nil)) (pa_cons (pe_lst (pa_cons pe_int pa_nil)) (pa_cons pe_dnewK pa_nil))))))))) pa_nil))) (pa_cons (pe_call GB hr4 rfl gB kB bB .nil pass0 (pa_cons (pv 0) (pa_cons pe_int pa_nil))) pa_nil)) (by rfl)
     apply pss_cons
     · exact ps_if (PW.pt (pw_or (pt_cmpR (op_neD hr.units) (pe_call GO hr rfl gO kO bO .nil pass0 (pa_cons (pe_glob (v := .ref f1) (by rfl) g1 rfl) (pa_cons (pe_lst (pa_cons (pv 1) pa_nil)) pa_nil))) (pe_tup (pa_cons pe_str pa_nil)) (nomark _))
         (pw_or1 (pt_cmpR (op_neD hr.units) (pe_call GO hr rfl gO kO bO .nil pass0 (pa_cons (pe_glob (v := .ref f2) (by rfl) g2 rfl) (pa_cons (pe_lst (pa_cons (pv 1) pa_nil)) pa_nil))) (pe_tup (pa_cons pe_str pa_nil)) (nomark _))))) (pss_one (ps_ret pe_bl)) pss_nil
     apply pss_cons
     · exact ps_if (pt_cmpR (op_neD hr.units) (pe_call GO hr rfl gO kO bO .nil pass0 (pa_cons (pe_glob (v := .ref f2) (by rfl) g2 rfl) (pa_cons (pe_lst (pa_cons (pe_op op_sub (pe_un un_neg pe_int) (pe_call GT hr2 rfl gT kT bT' .nil pass0 (pa_cons (pv 0) (pa_cons pe_int pa_nil)))) pa_nil)) pa_nil))) (pe_tup (pa_cons pe_str pa_nil)) (nomark _)) (pss_one (ps_ret pe_bl)) pss_nil
     apply pss_cons
     · exact ps_set (i := 3) nd rfl (.inl rfl) (pe_call GP hr3 rfl gP kP bP .nil pass0 (pa_cons (pv 0) (pa_cons (pe_lst (pa_cons pe_non (pa_cons pe_int (pa_cons pe_bl (pa_cons (pe_lst (pa_cons pe_str (pa_cons pe_str pa_nil))) (pa_cons (pe_tup (pa_cons pe_str pa_nil)) (pa_cons (pe_op op_add_str (pv 2) pe_str) (pa_cons (pe_op op_add_str pe_str (pv 2)) (pa_cons (pe_op op_add_str (pv 2) pe_str) (pa_cons pe_str (pa_cons pe_dnewK pa_nil))))))))))) pa_nil)))
     apply pss_cons
     · apply ps_for PassesOwn.never rfl
       · exact pi_list (pe_lst (pa_cons pe_int (pa_cons pe_non (pa_cons (pe_call GT hr2 rfl gT kT bT' .nil pass0 (pa_cons (pv 0) (pa_cons pe_int pa_nil))) pa_nil))))
       · exact pg_name (i := 4) nd rfl (Or.inl rfl)
       · apply pss_one
         apply ps_for PassesOwn.never rfl
         · exact pi_list (pe_lst (pa_cons (pe_glob (v := .ref f3) (by rfl) g3 rfl) (pa_cons (pe_glob (v := .ref f4) (by rfl) g4 rfl) pa_nil)))
         · exact pg_name (i := 5) nd rfl (Or.inl rfl)
         · apply pss_one
           exact ps_if (pt_cmpR op_ne (pe_callB (call_reprA hgd (Room.u101 hr) R.W.S) (by rfl) R.W.m_repr (by decide +kernel) (pa_cons (pe_call GO hr rfl gO kO bO .nil pass0 (pa_cons (pv 5) (pa_cons (pe_lst (pa_cons (pv 3) (pa_cons (pv 4) pa_nil))) pa_nil))) pa_nil)) (pe_callB (call_reprA hgd (Room.u101 hr) R.W.S) (by rfl) R.W.m_repr (by decide +kernel) (pa_cons (pe_tup (pa_cons pe_str (pa_cons pe_non pa_nil))) pa_nil)) (nomark _)) (pss_one (ps_ret pe_bl)) pss_nil
     apply pss_cons
     · apply ps_for PassesOwn.never rfl
       · exact pi_list (pe_lst (pa_cons pe_non (pa_cons pe_bl (pa_cons (pe_un un_neg pe_int) (pa_cons (pe_op op_add (pe_callB call_len_str (by rfl) G.len PySem.boot_len (pa_cons (pv 2) pa_nil)) pe_int) (pa_cons pe_str (pa_cons (pe_tup (pa_cons pe_int pa_nil)) (pa_cons (pe_lst (pa_cons pe_int pa_nil)) (pa_cons pe_dnewK pa_nil)))))))))
       · exact pg_name (i := 4) nd rfl (Or.inl rfl)
       · apply pss_one
         apply ps_for PassesOwn.never rfl
         · exact pi_list (pe_lst (pa_cons (pe_glob (v := .ref f3) (by rfl) g3 rfl) (pa_cons (pe_glob (v := .ref f4) (by rfl) g4 rfl) pa_nil)))
         · exact pg_name (i := 5) nd rfl (Or.inl rfl)
         · apply pss_one
           exact ps_if (pt_cmpR (op_neD hr.units) (pe_call GO hr rfl gO kO bO .nil pass0 (pa_cons (pv 5) (pa_cons (pe_lst (pa_cons (pv 2) (pa_cons (pv 4) pa_nil))) pa_nil))) (pe_tup (pa_cons pe_str pa_nil)) (nomark _)) (pss_one (ps_ret pe_bl)) pss_nil
     apply pss_one
     exact ps_ret pe_bl
    case right =>
      refine ⟨_, rfl, (show 1 ≤ sizeLine by decide), fun q1 hq1 => ?_⟩
      obtain ⟨V1, D1, y1, e1⟩ := hD.mk (o := .tup [V.int 1]) hq1
      refine ⟨(show 1 ≤ sizeLine by decide), fun q2 hq2 => ?_⟩
      obtain ⟨V2, D2, y2, e2⟩ := D1.mk (o := .lst [V.int 0]) hq2
      refine fun q3 hq3 => ?_
      obtain ⟨V3, D3, y3, e3⟩ := D2.mk (o := .dK []) hq3
      refine ⟨(show 8 ≤ sizeLine by decide), fun q4 hq4 => ?_⟩
      obtain ⟨V4, D4, y4, e4⟩ := D3.mk (o := .lst [.non, .bl true, .bl false, .str "5", .str "", .ref q1, .ref q2, .ref q3]) hq4
      refine ⟨t, V4, d, .ref q4, _, rfl, D4, by show t < 1099511627776; omega, .lst (SqL.of e4), (show 0 < 8 by decide), (show 8 < 100000 by decide), fun v H5 hv D5 => ?_⟩
      have ho : OtV V4 v := by
        simp only [List.mem_cons, List.not_mem_nil, or_false] at hv
        rcases hv with rfl | rfl | rfl | rfl | rfl | rfl | rfl | rfl
        · exact .non
        · exact .bl true
        · exact .bl false
        · exact .str _
        · exact .str _
        · exact .tup (y4 _ _ (y3 _ _ (y2 _ _ e1)))
        · exact .lst (y4 _ _ (y3 _ _ e2))
        · exact .dic (y4 _ _ e3)
      clear hv e4 e3 e2 e1 D1 D2 D3 D4 hD
      refine ⟨_, rfl, t + 1, V4, d, 9, rfl, D5, by show t + 1 + 200 < 1099511627776; omega, by decide, fun l H6 hl D6 => ?_⟩
      refine ⟨_, _, rfl, ?_⟩
      -- number_bits
      refine ⟨_, rfl, (show 1 ≤ sizeLine by decide), fun p hp => ⟨f1, p, v, [], spNB CN, rfl, SqL.of upd_same, Nat.zero_le _, w1, fun Ha Q' E' sa hE => ⟨_, rfl, .inr ⟨((ho.same D6.same).same (same_new hp)).same sa, hE _ _ _ (.inl ⟨rfl, rfl, fun H7 q s7 n7 e7 => ?_⟩)⟩⟩⟩⟩
      refine ⟨(show 1 ≤ sizeLine by decide), fun r1 hr1 => ⟨_, _, .tup (SqT.of ((same_new hr1) _ _ e7)) (.cons (.str _) .nil), .tup (SqT.of upd_same) (.cons (.str _) .nil), bn_sh, bn_sh, _, rfl, iteNeB bn_eq ?_⟩⟩
      have D7 := D6.keep ((same_new hp).trans (sa.trans (s7.trans (same_new (o := .tup [V.str "BadNumber"]) hr1))))
      generalize upd H7 r1 (.tup [V.str "BadNumber"]) = H8 at D7 ⊢
      clear e7 n7 s7 hE sa hp hr1 D6
      -- count_bits
      refine ⟨_, rfl, (show 1 ≤ sizeLine by decide), fun p hp => ⟨f2, p, v, [], spCB CN, rfl, SqL.of upd_same, Nat.zero_le _, w2, fun Ha Q' E' sa hE => ⟨_, rfl, .inr ⟨.inr (((ho.same D7.same).same (same_new hp)).same sa), hE _ _ _ (.inl ⟨rfl, rfl, fun H7 q s7 n7 e7 => ?_⟩)⟩⟩⟩⟩
      refine ⟨(show 1 ≤ sizeLine by decide), fun r2 hr2 => ⟨_, _, .tup (SqT.of ((same_new hr2) _ _ e7)) (.cons (.str _) .nil), .tup (SqT.of upd_same) (.cons (.str _) .nil), bn_sh, bn_sh, _, rfl, iteNeB bn_eq ?_⟩⟩
      have D9 := D7.keep ((same_new hp).trans (sa.trans (s7.trans (same_new (o := .tup [V.str "BadNumber"]) hr2))))
      generalize upd H7 r2 (.tup [V.str "BadNumber"]) = H10 at D9 ⊢
      clear e7 n7 s7 hE sa hp hr2 D7 ho
      -- a negative count
      refine ⟨_, rfl, _, rfl, t + 1 + 9 + 2, V4, d, 99, rfl, D9, by show t + 1 + 9 + 2 < 1099511627776; omega, by decide, by decide, fun a H11 a0 a1 D11 => ⟨_, _, rfl, rfl, ?_⟩⟩
      refine ⟨(show 1 ≤ sizeLine by decide), fun p hp => ⟨f2, p, .int (-1 - a), [], spCB CN, rfl, SqL.of upd_same, Nat.zero_le _, w2, fun Ha Q' E' sa hE => ⟨_, rfl, .inr ⟨.inl ⟨_, rfl, by omega⟩, hE _ _ _ (.inl ⟨rfl, rfl, fun H7 q s7 n7 e7 => ?_⟩)⟩⟩⟩⟩
      refine ⟨(show 1 ≤ sizeLine by decide), fun r3 hr3 => ⟨_, _, .tup (SqT.of ((same_new hr3) _ _ e7)) (.cons (.str _) .nil), .tup (SqT.of upd_same) (.cons (.str _) .nil), bn_sh, bn_sh, _, rfl, iteNeB bn_eq ?_⟩⟩
      have D12 := D11.keep ((same_new hp).trans (sa.trans (s7.trans (same_new (o := .tup [V.str "BadNumber"]) hr3))))
      generalize upd H7 r3 (.tup [V.str "BadNumber"]) = H12 at D12 ⊢
      clear e7 n7 s7 hE sa hp hr3 D11 D9
      -- what is strange
      have sl1 : ∀ z : Str, z.length = 1 → (sT (bT l)).length + z.length ≤ sizeLine := fun z e => sl_of (by rw [bl_len, e]; omega)
      have sl2 : ∀ z : Str, z.length = 1 → z.length + (sT (bT l)).length ≤ sizeLine := fun z e => sl_of (by rw [bl_len, e]; omega)
      refine ⟨_, rfl, (show 2 ≤ sizeLine by decide), fun u1 hu1 => ?_⟩
      obtain ⟨V5, D13, x1, a1⟩ := D12.mk (o := .lst [V.str "0", V.str "1"]) hu1
      refine ⟨(show 1 ≤ sizeLine by decide), fun u2 hu2 => ?_⟩
      obtain ⟨V6, D14, x2, a2⟩ := D13.mk (o := .tup [V.str "1"]) hu2
      refine ⟨_, rfl, _, _, rfl, rfl, sl1 "2" (by decide +kernel), _, rfl, _, _, rfl, rfl, sl2 " " (by decide +kernel), _, rfl, _, _, rfl, rfl, sl1 "o" (by decide +kernel), fun u3 hu3 => ?_⟩
      obtain ⟨V7, D15, x3, a3⟩ := D14.mk (o := .dK []) hu3
      refine ⟨(show 10 ≤ sizeLine by decide), fun u4 hu4 => ?_⟩
      obtain ⟨V8, D16, x4, a4⟩ := D15.mk (o := .lst [.non, .int 1, .bl true, .ref u1, .ref u2, .str (sT (bT l) ++ "2"), .str (" " ++ sT (bT l)), .str (sT (bT l) ++ "o"), .str "-1", .ref u3]) hu4
      refine ⟨t + 1 + 9 + 2 + 1, V8, d, .ref u4, _, rfl, D16, by show t + 1 + 9 + 2 + 1 < 1099511627776; omega, .lst (SqL.of a4), (show 0 < 10 by decide), (show 10 < 100000 by decide), fun y H17 hy D17 => ?_⟩
      have hl' : l.length ≤ 600 := by omega
      have hn : NbV V8 y := by
        simp only [List.mem_cons, List.not_mem_nil, or_false] at hy
        rcases hy with rfl | rfl | rfl | rfl | rfl | rfl | rfl | rfl | rfl | rfl
        · exact .inr .non
        · exact .inr (.int 1)
        · exact .inr (.bl true)
        · exact .inr (.lst (x4 _ _ (x3 _ _ (x2 _ _ a1))))
        · exact .inr (.tup (x4 _ _ (x3 _ _ a2)))
        · exact .app hl' (by decide +kernel)
        · exact .pre hl' (by decide +kernel)
        · exact .app hl' (by decide +kernel)
        · exact .of (by decide +kernel)
        · exact .inr (.dic (x4 _ _ a3))
      clear hy a1 a2 a3 a4 x1 x2 x3 x4 D12 D13 D14 D15 D16
      -- strange bits
      refine ⟨_, rfl, t + 1 + 9 + 2 + 1 + 1, V8, d, 9, rfl, D17, by show t + 1 + 9 + 2 + 1 + 1 < 1099511627776; omega, by decide, by decide, fun b H18 b0 b1 D18 => ?_⟩
      refine ⟨(show 3 ≤ sizeLine by decide), fun p hp => ⟨p, rfl, ⟨_, SqL.of upd_same⟩, ?_⟩⟩
      have hn18 := (hn.same D18.same).same (same_new (o := .lst [V.int 0, V.non, V.int b]) hp)
      have e18 : (upd H18 p (.lst [V.int 0, V.non, V.int b])) p = some (.lst [V.int 0, V.non, V.int b]) := upd_same
      generalize upd H18 p (.lst [V.int 0, V.non, V.int b]) = H19 at hn18 e18 ⊢
      have len2 : sizeLine ≥ 2 := by decide
      refine for_list (K := K) (a := p) (xs := [V.int 0, V.non, V.int b]) (fun j σ H' => Same H19 H' ∧ ∃ v4 v5, σ = [some (.ref d), some v, some (.str (sT (bT l))), some y, v4, v5]) ⟨Same.refl _, none, none, rfl⟩ (fun j σ H' _ h => SqL.of (h.1 _ _ e18)) ?_ ?_
      · rintro j x σ H' hj ⟨sj, v4, v5, rfl⟩
        refine ⟨(show 2 ≤ sizeLine by decide), fun r hr => ⟨r, rfl, ⟨_, SqL.of upd_same⟩, ?_⟩⟩
        have hn20 := (hn18.same sj).same (same_new (o := .lst [V.ref f3, V.ref f4]) hr)
        have sr := sj.trans (same_new (o := .lst [V.ref f3, V.ref f4]) hr)
        have er : (upd H' r (.lst [V.ref f3, V.ref f4])) r = some (.lst [V.ref f3, V.ref f4]) := upd_same
        generalize upd H' r (.lst [V.ref f3, V.ref f4]) = H20 at hn20 er sr ⊢
        refine for_list (K := K) (a := r) (xs := [V.ref f3, V.ref f4]) (fun j σ H' => Same H20 H' ∧ ∃ v5, σ = [some (.ref d), some v, some (.str (sT (bT l))), some y, some x, v5]) ⟨Same.refl _, v5, rfl⟩ (fun j σ H' _ h => SqL.of (h.1 _ _ er)) ?_ ?_
        · rintro i u σ H21 hi ⟨si, v6, rfl⟩
          obtain ⟨g, sp, rfl, wg, hsp⟩ : ∃ g sp, u = .ref g ∧ Wk P w K mg base g sp ∧ ∀ H Q E, NbV H y → (∀ H' d, Same H H' → H' d = some (.xd [("at", .non)]) → H d = none → E (.ref CB) (some d) H') → sp [y, x] H Q E := by
            have hu := List.mem_of_getElem? hi
            rcases List.mem_cons.mp hu with rfl | hu
            · exact ⟨f3, _, rfl, w3, fun H Q E h1 h2 => ⟨_, _, rfl, .inr (.inr ⟨h1, h2⟩)⟩⟩
            · rw [List.mem_singleton] at hu
              exact ⟨f4, _, hu, w4, fun H Q E h1 h2 => ⟨_, _, rfl, .inr (.inr ⟨h1, h2⟩)⟩⟩
          refine ⟨_, rfl, _, rfl, _, rfl, (show 2 ≤ sizeLine by decide), fun c hc => ⟨g, c, y, [x], sp, rfl, SqL.of upd_same, Nat.le_refl _, wg, fun Ha Q' E' sa hE => hsp _ _ _ (((hn20.same si).same (same_new hc)).same sa) fun Hb dx sb eb nb => hE _ _ _ (.inr ⟨dx, rfl, rfl, eb, fun H7 q s7 n7 e7 => ?_⟩)⟩⟩
          refine ⟨_, PyData.tuple [.str "BadBits", .none], rfl, .tup (SqT.of e7) (.cons (.str _) (.cons .non .nil)), rp_bits.1, rp_bits.2.1, rp_bits.2.2, ?_⟩
          refine ⟨(show 2 ≤ sizeLine by decide), fun m hm => ⟨_, PyData.tuple [.str "BadBits", .none], rfl, .tup (SqT.of upd_same) (.cons (.str _) (.cons .non .nil)), rp_bits.1, rp_bits.2.1, rp_bits.2.2, rfl, _, rfl, iteNe rfl ?_⟩⟩
          exact ⟨si.trans ((same_new hc).trans (sa.trans (sb.trans (s7.trans (same_new hm))))), _, rfl⟩
        · rintro σ H21 ⟨si, v6, rfl⟩
          exact ⟨sr.trans si, _, _, rfl⟩
      · rintro σ H21 ⟨sj, v4, v5, rfl⟩
        -- bad indices
        have slb : (sT (bT l)).length ≤ sizeLine := sl_of (by rw [bl_len]; omega)
        refine ⟨_, rfl, _, rfl, _, rfl, slb, _, _, rfl, rfl, ?_⟩
        refine ⟨(show 1 ≤ sizeLine by decide), fun q1 hq1 => ⟨(show 1 ≤ sizeLine by decide), fun q2 hq2 => fun q3 hq3 => ⟨(show 8 ≤ sizeLine by decide), fun q4 hq4 => ⟨q4, rfl, ⟨_, SqL.of upd_same⟩, ?_⟩⟩⟩⟩
        have o1 : OtV (upd H21 q1 (.tup [V.int 0])) (.ref q1) := .tup upd_same
        have z2 := same_new (o := .lst [V.int 0]) hq2
        have o2 : OtV (upd (upd H21 q1 (.tup [V.int 0])) q2 (.lst [V.int 0])) (.ref q2) := .lst upd_same
        have z3 := same_new (o := .dK []) hq3
        have o3 : OtV (upd (upd (upd H21 q1 (.tup [V.int 0])) q2 (.lst [V.int 0])) q3 (.dK [])) (.ref q3) := .dic upd_same
        have z4 := same_new (o := .lst [.non, .bl true, .int (-1), .int (((sT (bT l)).length : Int) + 1), .str "0", .ref q1, .ref q2, .ref q3]) hq4
        have e4 : (upd (upd (upd (upd H21 q1 (.tup [V.int 0])) q2 (.lst [V.int 0])) q3 (.dK [])) q4 (.lst [.non, .bl true, .int (-1), .int (((sT (bT l)).length : Int) + 1), .str "0", .ref q1, .ref q2, .ref q3])) q4 = some (.lst [.non, .bl true, .int (-1), .int (((sT (bT l)).length : Int) + 1), .str "0", .ref q1, .ref q2, .ref q3]) := upd_same
        have bad : ∀ x ∈ [V.non, .bl true, .int (-1), .int (((sT (bT l)).length : Int) + 1), .str "0", .ref q1, .ref q2, .ref q3], BadIx (upd (upd (upd (upd H21 q1 (.tup [V.int 0])) q2 (.lst [V.int 0])) q3 (.dK [])) q4 (.lst [.non, .bl true, .int (-1), .int (((sT (bT l)).length : Int) + 1), .str "0", .ref q1, .ref q2, .ref q3])) l.length x := by
          intro x hx
          simp only [List.mem_cons, List.not_mem_nil, or_false] at hx
          rcases hx with rfl | rfl | rfl | rfl | rfl | rfl | rfl | rfl
          · exact .inr .non
          · exact .inr (.bl true)
          · exact .inl ⟨_, rfl, .inl (by decide)⟩
          · exact .inl ⟨_, rfl, .inr (by rw [bl_len]; omega)⟩
          · exact .inr (.str _)
          · exact .inr (((o1.same z2).same z3).same z4)
          · exact .inr ((o2.same z3).same z4)
          · exact .inr (o3.same z4)
        clear o1 o2 o3 z2 z3 z4
        generalize upd (upd (upd (upd H21 q1 (.tup [V.int 0])) q2 (.lst [V.int 0])) q3 (.dK [])) q4 (.lst [.non, .bl true, .int (-1), .int (((sT (bT l)).length : Int) + 1), .str "0", .ref q1, .ref q2, .ref q3]) = H22 at e4 bad ⊢
        generalize [V.non, .bl true, .int (-1), .int (((sT (bT l)).length : Int) + 1), .str "0", .ref q1, .ref q2, .ref q3] = xs at e4 bad ⊢
        refine for_list (K := K) (a := q4) (xs := xs) (fun j σ H' => Same H22 H' ∧ ∃ v4 v5, σ = [some (.ref d), some v, some (.str (sT (bT l))), some y, v4, v5]) ⟨Same.refl _, v4, v5, rfl⟩ (fun j σ H' _ h => SqL.of (h.1 _ _ e4)) ?_ ?_
        · rintro j x σ H' hj ⟨sj, v4, v5, rfl⟩
          have hx := bad x (List.mem_of_getElem? hj)
          refine ⟨(show 2 ≤ sizeLine by decide), fun r hr => ⟨r, rfl, ⟨_, SqL.of upd_same⟩, ?_⟩⟩
          have hx20 := (hx.same sj).same (same_new (o := .lst [V.ref f3, V.ref f4]) hr)
          have sr := sj.trans (same_new (o := .lst [V.ref f3, V.ref f4]) hr)
          have er : (upd H' r (.lst [V.ref f3, V.ref f4])) r = some (.lst [V.ref f3, V.ref f4]) := upd_same
          generalize upd H' r (.lst [V.ref f3, V.ref f4]) = H20 at hx20 er sr ⊢
          refine for_list (K := K) (a := r) (xs := [V.ref f3, V.ref f4]) (fun j σ H' => Same H20 H' ∧ ∃ v5, σ = [some (.ref d), some v, some (.str (sT (bT l))), some y, some x, v5]) ⟨Same.refl _, v5, rfl⟩ (fun j σ H' _ h => SqL.of (h.1 _ _ er)) ?_ ?_
          · rintro i u σ H21 hi ⟨si, v6, rfl⟩
            obtain ⟨g, sp, rfl, wg, hsp⟩ : ∃ g sp, u = .ref g ∧ Wk P w K mg base g sp ∧ ∀ (H : Hp) (Q : VK) (E : XK), BadIx H l.length x → E (.ref CN) none H → sp [.str (sT (bT l)), x] H Q E := by
              have hu := List.mem_of_getElem? hi
              rcases List.mem_cons.mp hu with rfl | hu
              · exact ⟨f3, _, rfl, w3, fun H Q E h1 h2 => ⟨_, _, rfl, .inr (.inl ⟨l, rfl, hl', h1, h2⟩)⟩⟩
              · rw [List.mem_singleton] at hu
                exact ⟨f4, _, hu, w4, fun H Q E h1 h2 => ⟨_, _, rfl, .inr (.inl ⟨l, rfl, hl', h1, h2⟩)⟩⟩
            refine ⟨_, rfl, _, rfl, _, rfl, (show 2 ≤ sizeLine by decide), fun c hc => ⟨g, c, .str (sT (bT l)), [x], sp, rfl, SqL.of upd_same, Nat.le_refl _, wg, fun Ha Q' E' sa hE => hsp _ _ _ (((hx20.same si).same (same_new hc)).same sa) (hE _ _ _ (.inl ⟨rfl, rfl, fun H7 q s7 n7 e7 => ?_⟩))⟩⟩
            refine ⟨(show 1 ≤ sizeLine by decide), fun m hm => ⟨_, _, .tup (SqT.of ((same_new hm) _ _ e7)) (.cons (.str _) .nil), .tup (SqT.of upd_same) (.cons (.str _) .nil), bn_sh, bn_sh, _, rfl, iteNeB bn_eq ?_⟩⟩
            exact ⟨si.trans ((same_new hc).trans (sa.trans (s7.trans (same_new hm)))), _, rfl⟩
          · rintro σ H21 ⟨si, v6, rfl⟩
            exact ⟨sr.trans si, _, _, rfl⟩
        · rintro σ H21 ⟨sj, v4, v5, rfl⟩
          exact k _
end
/-! ## the law -/
structure LawF (P : Program) (w : World) (K : PySem.W.Frag) (mg : Str → Option Value) (base : Heap) (CB CN : Addr) : Prop where
  W : WrF P w K mg base CB CN
  begun : ∃ (f : Addr) (fd : FuncData), mg "_law_begun" = some (.ref f) ∧ PySem.W.keepIn K (.ref f) = true ∧ Binds K fd ["_law_script"] [] ∧ FnOk P w K mg base CX0 1 f fd ["_law_script"] (spBegun K)
  edge : ∃ (f : Addr) (fd : FuncData), mg "_law_edge" = some (.ref f) ∧ PySem.W.keepIn K (.ref f) = true ∧ Binds K fd ["_law_draw"] [] ∧ FnOk P w K mg base CX0 4 f fd ["_law_draw"] spEdge
  right : ∃ (f : Addr) (fd : FuncData), mg "_law_written_right" = some (.ref f) ∧ PySem.W.keepIn K (.ref f) = true ∧ Binds K fd ["_law_draw", "_law_number"] [] ∧ FnG P w K mg base 5 f fd ["_law_draw", "_law_number"] spRight
  refd : ∃ (f : Addr) (fd : FuncData), mg "_law_refused" = some (.ref f) ∧ PySem.W.keepIn K (.ref f) = true ∧ Binds K fd ["_law_draw"] [] ∧ FnG P w K mg base 6 f fd ["_law_draw"] spRef
def spLaw (K : PySem.W.Frag) : Sp := fun vs H Q _ => ∃ (a : Addr) (ns : List Int), vs = [.ref a] ∧ SqL K H a (ns.map V.int) ∧ ns.length ≤ 63 ∧ ∀ H', Q (.bl true) H'
section
variable {P : Program} {w : World} {K : PySem.W.Frag} {mg : Str → Option Value} {base : Heap}
theorem sc_law : FnScope ["_law_script", "_law_draw", "_law_turn", "_law_bits_here", "_law_spot"] ["_law_script"] (defScope s_law) := ⟨rfl, rfl, rfl, by decide +kernel, rfl, by decide +kernel, by decide +kernel⟩
theorem ok_law {f CB CN : Addr} {fd : FuncData} (F : FnP K "law" s_law f fd) (R : LawF P w K mg base CB CN) : FnG P w K mg base 7 f fd ["_law_script"] (spLaw K) := by
  obtain ⟨fI, fdI, gI, kI, bI, GI⟩ := R.begun
  obtain ⟨fE, fdE, gE, kE, bE, GE⟩ := R.edge
  obtain ⟨fW, fdW, gW, kW, bW, GW⟩ := R.right
  obtain ⟨fX, fdX, gX, kX, bX, GX⟩ := R.refd
  obtain ⟨fT, fdT, gT, kT, bT', GT⟩ := R.W.D.take
  obtain ⟨fP, fdP, gP, kP, bP, GP⟩ := R.W.D.pick
  obtain ⟨fB, fdB, gB, kB, bB, GB⟩ := R.W.lbits
  obtain ⟨fR, fdR, gR, kR, bR, GR⟩ := R.W.lread
  obtain ⟨fA, fdA, gA, kA, bA, GA⟩ := R.W.lsat
  obtain ⟨f3, fd3, g3, k3, b3, kb3, G3⟩ := R.W.rn
  obtain ⟨f4, fd4, g4, k4, b4, kb4, G4⟩ := R.W.rc
  have G := R.W.G
  have S := R.W.S
  have mr := R.W.m_repr
  refine FunD.okG F sc_law (fun vs H Q E h => ?_) (fun cdv A outer s H vs Q E hgd hr h => ?_)
  · obtain ⟨a, ns, rfl, _⟩ := h
    rfl
  · obtain ⟨a, ns, rfl, hS, hl, k⟩ := h
    have nd := sc_law.nd
    have hr1 := hr.mono (show 1 ≤ 6 by decide)
    have hr2 := hr.mono (show 2 ≤ 6 by decide)
    have hr3 := hr.mono (show 3 ≤ 6 by decide)
    have hr4 := hr.mono (show 4 ≤ 6 by decide)
    have hr5 := hr.mono (show 5 ≤ 6 by decide)
    apply Exists.intro
    apply And.intro
    case left =>
     apply PSs.nox
     apply pss_cons
     · exact ps_set (i := 1) nd rfl (.inl rfl) (pe_call GI hr1 rfl gI kI bI .nil pass0 (pa_cons (pv 0) pa_nil))
     apply pss_cons
     · apply ps_for PassesOwn.never rfl
       · exact pi_range1 (by rfl) R.W.D.rng (pa_cons pe_int pa_nil)
       · exact pg_name (i := 2) nd rfl (Or.inl rfl)
       · apply pss_one
         exact ps_if (pt_not (pt_val (pe_callG (E := C8.E0) GW hgd hr5 rfl gW kW bW .nil (pa_cons (pv 1) (pa_cons (pe_ifExp (pt_cmpR op_gt (pv 2) pe_int (nomark _)) (pe_call GE hr4 rfl gE kE bE .nil pass0 (pa_cons (pv 1) pa_nil)) (pe_call GP hr3 rfl gP kP bP .nil pass0 (pa_cons (pv 1) (pa_cons (pe_lst (pa_cons pe_int (pa_cons pe_int (pa_cons (pe_un un_neg pe_int) pa_nil)))) pa_nil)))) pa_nil))))) (pss_one (ps_ret pe_bl)) pss_nil
     apply pss_cons
     · apply ps_for PassesOwn.never rfl
       · exact pi_range1 (by rfl) R.W.D.rng (pa_cons pe_int pa_nil)
       · exact pg_name (i := 2) nd rfl (Or.inl rfl)
       · apply pss_cons
         · exact ps_set (i := 3) nd rfl (.inl rfl) (pe_call GB hr4 rfl gB kB bB .nil pass0 (pa_cons (pv 1) (pa_cons pe_int pa_nil)))
         apply pss_one
         apply ps_for PassesOwn.never rfl
         · exact pi_list (pe_lst (pa_cons pe_int (pa_cons (pe_callB call_len_str (by rfl) G.len PySem.boot_len (pa_cons (pv 3) pa_nil)) (pa_cons (pe_call GT hr2 rfl gT kT bT' .nil pass0 (pa_cons (pv 1) (pa_cons (pe_op op_add (pe_callB call_len_str (by rfl) G.len PySem.boot_len (pa_cons (pv 3) pa_nil)) pe_int) pa_nil))) pa_nil))))
         · exact pg_name (i := 4) nd rfl (Or.inl rfl)
         · apply pss_cons
           · exact ps_if (pt_cmpR op_ne (pe_callB (call_reprA hgd (Room.u101 hr) S) (by rfl) mr (by decide +kernel) (pa_cons (pe_call G4 hr4 rfl g4 k4 b4 .nil (passes_call LamX.takes0 (fun _ _ _ _ h => h)) (pa_cons (pv 3) (pa_cons (pv 4) pa_nil))) pa_nil)) (pe_callB (call_reprA hgd (Room.u101 hr) S) (by rfl) mr (by decide +kernel) (pa_cons (pe_call GR hr2 rfl gR kR bR .nil pass0 (pa_cons (pv 3) (pa_cons (pv 4) pa_nil))) pa_nil)) (nomark _)) (pss_one (ps_ret pe_bl)) pss_nil
           apply pss_one
           exact ps_if (pt_cmpR op_ne (pe_callB (call_reprA hgd (Room.u101 hr) S) (by rfl) mr (by decide +kernel) (pa_cons (pe_call G3 hr4 rfl g3 k3 b3 .nil (passes_call LamX.takes0 (fun _ _ _ _ h => h)) (pa_cons (pv 3) (pa_cons (pv 4) pa_nil))) pa_nil)) (pe_callB (call_reprA hgd (Room.u101 hr) S) (by rfl) mr (by decide +kernel) (pa_cons (pe_call GA hr3 rfl gA kA bA .nil pass0 (pa_cons (pv 3) (pa_cons (pv 4) pa_nil))) pa_nil)) (nomark _)) (pss_one (ps_ret pe_bl)) pss_nil
     apply pss_one
     exact ps_ret (pe_callG (E := C8.E0) GX hgd hr rfl gX kX bX .nil (pa_cons (pv 1) pa_nil))
    case right =>
      refine ⟨_, rfl, a, ns, rfl, hS, hl, fun H1 d D1 _ => ?_⟩
      refine ⟨5, rfl, by decide, by decide, ?_⟩
      refine for_range (lo := 0) (n := 5) (fun i σ H' => ∃ v2, σ = [some (.ref a), some (.ref d), v2, none, none] ∧ Dw (i * 400) H H' d) ⟨none, rfl, D1⟩ ?_ ?_
      · rintro i σ H' hi ⟨v2, rfl, Di⟩
        refine ⟨_, rfl, _, rfl, _, _, rfl, rfl, _, rfl, ?_⟩
        refine ite2 (fun c => ?_) (fun c => ?_)
        · refine ⟨_, rfl, i * 400, H, d, rfl, Di, by show i * 400 + 20 < 1099511627776; omega, fun z H2 hz D2 => ?_⟩
          exact ⟨i * 400 + 8, H, d, z, rfl, D2, by show i * 400 + 8 + 300 < 1099511627776; omega, hz, fun H3 D3 => ⟨_, rfl, iteF ⟨_, rfl, D3.mono (by omega)⟩⟩⟩
        · refine ⟨_, rfl, _, rfl, (show 3 ≤ sizeLine by decide), fun p hp => ?_⟩
          obtain ⟨V1, E1, y1, e1⟩ := Di.mk (o := .lst [V.int 0, V.int 1, V.int (-1)]) hp
          refine ⟨i * 400, V1, d, .ref p, _, rfl, E1, by show i * 400 < 1099511627776; omega, .lst (SqL.of e1), (show 0 < 3 by decide), (show 3 < 100000 by decide), fun v H2 hv D2 => ?_⟩
          obtain ⟨z, rfl, hz⟩ : ∃ z : Int, v = .int z ∧ z.natAbs < 2 ^ 42 := by
            simp only [List.mem_cons, List.not_mem_nil, or_false] at hv
            rcases hv with rfl | rfl | rfl
            · exact ⟨_, rfl, by decide⟩
            · exact ⟨_, rfl, by decide⟩
            · exact ⟨_, rfl, by decide⟩
          exact ⟨i * 400 + 1, H, d, z, rfl, D2.less y1, by show i * 400 + 1 + 300 < 1099511627776; omega, hz, fun H3 D3 => ⟨_, rfl, iteF ⟨_, rfl, D3.mono (by omega)⟩⟩⟩
      · rintro σ H2 ⟨v2, rfl, D2⟩
        refine ⟨4, rfl, by decide, by decide, ?_⟩
        refine for_range (lo := 0) (n := 4) (fun i σ H' => ∃ v2 v3 v4, σ = [some (.ref a), some (.ref d), v2, v3, v4] ∧ Dw (2000 + i * 100) H H' d) ⟨v2, none, none, rfl, D2⟩ ?_ ?_
        · rintro i σ H' hi ⟨v2, v3, v4, rfl, Di⟩
          refine ⟨_, rfl, 2000 + i * 100, H, d, 40, rfl, Di, by show 2000 + i * 100 + 200 < 1099511627776; omega, by decide, fun l H3 hl3 D3 => ?_⟩
          have sl : (sT (bT l)).length ≤ sizeLine := sl_of (by rw [bl_len]; omega)
          refine ⟨_, rfl, _, rfl, sl, _, rfl, _, rfl, _, rfl, sl, _, _, rfl, rfl, 2000 + i * 100 + 40 + 2, H, d, _, rfl, D3, by show 2000 + i * 100 + 40 + 2 < 1099511627776; omega, by omega, by rw [bl_len]; omega, fun c H4 c0 c1 D4 => ?_⟩
          rw [bl_len] at c1
          refine ⟨(show 3 ≤ sizeLine by decide), fun p hp => ⟨p, rfl, ⟨_, SqL.of upd_same⟩, ?_⟩⟩
          have D5 := D4.keep (same_new (o := .lst [V.int 0, V.int ((sT (bT l)).length : Int), V.int c]) hp)
          have e5 : (upd H4 p (.lst [V.int 0, V.int ((sT (bT l)).length : Int), V.int c])) p = some (.lst [V.int 0, V.int ((sT (bT l)).length : Int), V.int c]) := upd_same
          have spots : ∀ x ∈ [V.int 0, V.int ((sT (bT l)).length : Int), V.int c], ∃ m : Nat, x = .int (m : Int) ∧ m ≤ l.length := by
            intro x hx
            rcases List.mem_cons.mp hx with rfl | hx
            · exact ⟨0, rfl, Nat.zero_le _⟩
            rcases List.mem_cons.mp hx with rfl | hx
            · exact ⟨l.length, by rw [bl_len], Nat.le_refl _⟩
            rw [List.mem_singleton] at hx
            subst hx
            exact ⟨c.toNat, by congr 1; omega, by omega⟩
          generalize [V.int 0, V.int ((sT (bT l)).length : Int), V.int c] = xs at D5 e5 spots ⊢
          generalize upd H4 p (.lst xs) = H5 at D5 e5 ⊢
          refine for_list (K := K) (a := p) (xs := xs) (fun j σ H' => Same H5 H' ∧ ∃ v2 v4, σ = [some (.ref a), some (.ref d), v2, some (.str (sT (bT l))), v4]) ⟨Same.refl _, _, v4, rfl⟩ (fun j σ H' _ h => SqL.of (h.1 _ _ e5)) ?_ ?_
          · rintro j x σ H' hj ⟨sj, v2, v4, rfl⟩
            obtain ⟨m, rfl, hm⟩ := spots x (List.mem_of_getElem? hj)
            have rpI : RpOk (resD (rdI l m)) := rp_rdI (by omega)
            have rpS : RpOk (resD (rdS l m)) := rp_rdS (by omega)
            refine ⟨_, rfl, _, rfl, _, _, rfl, .inl ⟨l, m, rfl, rfl, by omega, hm, fun v Hc sc hv => ?_⟩⟩
            refine ⟨_, _, rfl, hv.dx, rpI.1, rpI.2.1, rpI.2.2, ?_⟩
            refine ⟨_, rfl, _, rfl, l, m, rfl, by omega, hm, fun u Hd sd hu => ?_⟩
            refine ⟨_, _, rfl, hu.dx, rpI.1, rpI.2.1, rpI.2.2, rfl, _, rfl, iteNe rfl ?_⟩
            refine ⟨_, rfl, _, rfl, _, _, rfl, .inl ⟨l, m, rfl, rfl, by omega, hm, fun v' He se hv' => ?_⟩⟩
            refine ⟨_, _, rfl, hv'.dx, rpS.1, rpS.2.1, rpS.2.2, ?_⟩
            refine ⟨_, rfl, _, rfl, l, m, rfl, by omega, hm, fun u' Hf sf hu' => ?_⟩
            refine ⟨_, _, rfl, hu'.dx, rpS.1, rpS.2.1, rpS.2.2, rfl, _, rfl, iteNe rfl ?_⟩
            exact ⟨sj.trans (sc.trans (sd.trans (se.trans sf))), _, _, rfl⟩
          · rintro σ H' ⟨sj, v2, v4, rfl⟩
            exact ⟨_, _, _, rfl, (D5.keep sj).mono (by omega)⟩
        · rintro σ H3 ⟨v2, v3, v4, rfl, D3⟩
          exact ⟨_, rfl, 2000 + 4 * 100, H, d, rfl, D3, by decide, fun H' => k H'⟩
end
/-! ## the head's facts, by tables of tests on the written part -/
open PySem.W in
def oexB (K : Frag) (C : Addr) : Bool := (match K.lookup C with
  | some ⟨.type "type", _, .cls cd, sl⟩ => (match cd.mro, sl.toList with
    | .ref C' :: bm, [_, _, _, _, some (.builtin n), _] => C' == C && (n == "ValueError.__new__" && (!cd.hasDel && (cd.hasDict && PySem.HandSPX.refsVE bm)))
    | _, _ => false)
  | _ => false) && (He.eqO (findIn K (.ref C) "__setattr__") (some (some (.builtin "object.__setattr__"))) && (decide (subIn K (.ref C) (.type "BaseException") = some true) && (decide (typeIn K (.ref C) = some (.type "type")) && keepIn K (.ref C))))
theorem oexB_ok {K : PySem.W.Frag} {C : Addr} (h : oexB K C = true) : OexC K C := by
  obtain ⟨h1, h2⟩ := He.ba h
  obtain ⟨h3, h4⟩ := He.ba h2
  obtain ⟨h5, h6⟩ := He.ba h4
  obtain ⟨h7, h8⟩ := He.ba h6
  refine ⟨?_, He.eqO_ok h3, of_decide_eq_true h5, of_decide_eq_true h7, h8⟩
  split at h1
  · rename_i dd cd sl ho
    split at h1
    · rename_i C' bm k0 k1 k2 k3 n k5 hm hs
      obtain ⟨e1, h1⟩ := He.ba h1
      obtain ⟨e2, h1⟩ := He.ba h1
      obtain ⟨e3, h1⟩ := He.ba h1
      obtain ⟨e4, e5⟩ := He.ba h1
      obtain ⟨nm, bs, mro, ns, qn, hd, sn, sub, ab, col, del⟩ := cd
      dsimp only at hm e3 e4
      have e1 : C' = C := eq_of_beq e1
      have e2 : n = "ValueError.__new__" := eq_of_beq e2
      have e3 : del = false := by simpa using e3
      subst hm e1 e2 e3 e4
      have hsl : sl = #[k0, k1, k2, k3, some (.builtin "ValueError.__new__"), k5] := by
        obtain ⟨l⟩ := sl
        simp only at hs
        rw [hs]
      subst hsl
      exact ⟨_, _, _, _, _, _, _, _, _, _, _, _, _, _, _, ho, e5⟩
    · cases h1
  · cases h1
open PySem.W in
def excRB (K : Frag) (D : Addr) : Bool := He.eqO (findIn K (.ref D) "__getattribute__") (some (some (.builtin "BaseException.__getattribute__"))) && (He.eqO (findIn K (.ref D) "__getattr__") (some none) && (decide (subIn K (.ref D) (.type "BaseException") = some true) &&
  (hasDictIn K D && (He.eqO (findIn K (.ref D) "__class__") (some (some (.builtin "object.__class__"))) && (He.eqO (specialIn K (.builtin "object.__class__") "__get__") (some (some (.builtin "getset_descriptor.__get__"))) &&
  (decide (takesIn K (.builtin "object.__class__") = some true) && decide (mroIn K D (.type "object") = some true)))))))
theorem excRB_ok {K : PySem.W.Frag} {D : Addr} (h : excRB K D = true) : ExcR K D := by
  obtain ⟨h1, h⟩ := He.ba h
  obtain ⟨h2, h⟩ := He.ba h
  obtain ⟨h3, h⟩ := He.ba h
  obtain ⟨h4, h⟩ := He.ba h
  obtain ⟨h5, h⟩ := He.ba h
  obtain ⟨h6, h⟩ := He.ba h
  obtain ⟨h7, h8⟩ := He.ba h
  exact ⟨He.eqO_ok h1, He.eqO_ok h2, of_decide_eq_true h3, h4, He.eqO_ok h5, He.eqO_ok h6, of_decide_eq_true h7, of_decide_eq_true h8⟩
/-- an __init__ of an own exception that begins with super() -/
structure DefS where
  cls : Str
  qual : Str
  params : Arguments
  body : List Stmt
  scope : Scope
abbrev FnSW : Type := Option (Str × Str × Arguments × FuncBody × Scope × Addr × List Str × Addr)
abbrev initAd (K : PySem.W.Frag) (C : Str) : Addr := He.ma K (He.ga K C) "__init__"
def fnSW (K : PySem.W.Frag) (C : Str) : FnSW := match K.lookup (initAd K C) with
  | some ⟨_, _, .func fd, _⟩ => some (fd.name, fd.qualname, fd.params, fd.body, fd.scope, fd.globals, fd.closure.map (·.1), fd.builtins)
  | _ => none
def DefS.val (d : DefS) : FnSW := some ("__init__", d.qual, d.params, .stmts d.body, d.scope, mainGlobals, ["__class__"], builtinsNs)
open PySem.W in
/-- what such an __init__ of the class C wants of the written part, the module's file given -/
def supB (file : Str) (K : Frag) (C : Str) (qual : Str) : Bool :=
  He.eqO (findIn K (.ref (He.ga K C)) "__init__") (some (some (.ref (initAd K C)))) && (decide (typeIn K (.ref (initAd K C)) = some (.type "function")) &&
  ((match K.lookup (initAd K C) with
    | some ⟨_, _, .func fd, _⟩ => (match fd.closure, fd.code with
      | [(_, cc)], .ref cda => (match K.lookup cc with
          | some ⟨_, _, .cell (some (.ref D)), _⟩ => D == He.ga K C
          | _ => false) && (codeIn K (.ref cda) qual && (match K.lookup cda with
          | some ⟨_, _, .fields vs, _⟩ => (match vs[2]? with
            | some (Value.str f _) => file == f
            | _ => false)
          | _ => false))
      | _, _ => false)
    | _ => false) && (decide (mroIn K (He.ga K C) (.ref (He.ga K C)) = some true) && (He.eqO (nsIn K cStatics "thirdparty.any") (some none) && (decide (subIn K (.ref (He.ga K C)) (.type "ValueError") = some true) &&
    (match clsIn K (He.ga K C) with
    | some cd => He.eqO (alongIn K "__init__" ((cd.mro.dropWhile (· != .ref (He.ga K C))).drop 1)) (some (some (.builtin "ValueError.__init__")))
    | none => false))))))
theorem supB_ok {P : Program} {K : PySem.W.Frag} {mg : Str → Option Value} {d : DefS} (hw : fnSW K d.cls = d.val) (h : supB P.main.file K d.cls d.qual = true) (top : (P.main.scope.names.lookup ("super" : Str)).isSome = false) (su : mg "super" = none) :
    PySem.W.findIn K (.ref (He.ga K d.cls)) "__init__" = some (some (.ref (initAd K d.cls))) ∧ PySem.W.typeIn K (.ref (initAd K d.cls)) = some (.type "function") ∧
    ∃ (cc cda : Addr) (fd : FuncData), SupF P K mg (He.ga K d.cls) (initAd K d.cls) cc cda d.qual d.params d.body d.scope fd := by
  obtain ⟨h1, h⟩ := He.ba h
  obtain ⟨h2, h⟩ := He.ba h
  obtain ⟨h3, h⟩ := He.ba h
  obtain ⟨h4, h⟩ := He.ba h
  obtain ⟨h5, h⟩ := He.ba h
  obtain ⟨h6, h7⟩ := He.ba h
  refine ⟨He.eqO_ok h1, of_decide_eq_true h2, ?_⟩
  unfold fnSW at hw
  split at h3
  · rename_i oc od fd osl lk
    rw [lk] at hw
    split at h3
    · rename_i nm cc cda hclo hcod
      obtain ⟨h8, h3⟩ := He.ba h3
      obtain ⟨h9, h10⟩ := He.ba h3
      have e2 : (some (fd.name, fd.qualname, fd.params, fd.body, fd.scope, fd.globals, fd.closure.map (·.1), fd.builtins) : FnSW) = d.val := hw
      unfold DefS.val at e2
      simp only [Option.some.injEq, Prod.mk.injEq] at e2
      obtain ⟨g1, g2, g3, g4, g5, g6, g7, g8⟩ := e2
      rw [hclo] at g7
      have g7 : nm = "__class__" := by simpa using g7
      refine ⟨cc, cda, fd, ?_⟩
      have hcell : ∃ oc : Obj, K.lookup cc = some oc ∧ oc.data = .cell (some (.ref (He.ga K d.cls))) := by
        split at h8
        · rename_i a b D c hl
          have e : D = He.ga K d.cls := eq_of_beq h8
          exact ⟨_, hl, by rw [← e]⟩
        · cases h8
      have hco : ∃ (oc : Obj) (vs : Array Value) (file : Str) (tf : Tok), K.lookup cda = some oc ∧ oc.data = .fields vs ∧ vs[2]? = some (.str file tf) ∧ ((P.main.file : Str) == file) = true := by
        split at h10
        · rename_i a b vs c hl
          split at h10
          · rename_i f t hv
            exact ⟨_, vs, f, t, hl, rfl, hv, h10⟩
          · cases h10
        · cases h10
      have hal : ∃ cd, PySem.W.clsIn K (He.ga K d.cls) = some cd ∧ PySem.W.alongIn K "__init__" ((cd.mro.dropWhile (· != .ref (He.ga K d.cls))).drop 1) = some (some (.builtin "ValueError.__init__")) := by
        split at h7
        · rename_i cd hc
          exact ⟨cd, hc, He.eqO_ok h7⟩
        · cases h7
      obtain ⟨n1, n2, n3, n4, n5, n6, n7, n8, n9, n10, n11, n12, n13, n14, n15⟩ := fd
      dsimp only at g1 g2 g3 g4 g5 g6 g8 hclo hcod
      subst g1 g2 g3 g4 g5 g6 g8 hclo hcod g7
      exact ⟨⟨oc, od, n8, n9, n10, n11, n14, n12, osl, rfl, lk⟩, h9, hco, hcell, top, of_decide_eq_true h4, He.eqO_ok h5, hal, of_decide_eq_true h6, su⟩
    · cases h3
  · cases h3
/-! ### the Hook -/
abbrev AlZ : Type := Bool × List He.FnW × List FnSW
def obsZ (fb : List (PySem.W.Frag → Bool)) (fn : List He.DefD) (cs : List DefS) (K : PySem.W.Frag) : AlZ := ((fb.all fun f => f K) && fn.all fun d => d.ok K, fn.map fun d => He.fnW K d.at_, cs.map fun d => fnSW K d.cls)
def valZ (fn : List He.DefD) (cs : List DefS) : AlZ := (true, fn.map He.DefD.val, cs.map DefS.val)
def SaysZ (fb : List (PySem.W.Frag → Bool)) (fn : List He.DefD) (cs : List DefS) (K : PySem.W.Frag) : Prop := obsZ fb fn cs K = valZ fn cs
/-- a def whose lambdas are made: its code object, the table in it -/
def tabB (g : Addr → Option Obj) (K : PySem.W.Frag) (p : He.Defn) : Bool := (match g (He.cT K p).2 with
  | some o => He.emptyTab o
  | none => false) && (match K.lookup (He.cT K p).1 with
  | some ⟨.type c, _, .fields vs, _⟩ => decide (c = "code") && (decide (vs[11]? = some (.ref (He.cT K p).2)) && ((match vs.getD 18 .none, vs.getD 7 .none, vs.getD 9 .none, vs.getD 10 .none with
      | .str _ _, .int _ _, .bool _, .int _ _ => true
      | _, _, _, _ => false) && decide ((He.cT K p).1 ≠ (He.cT K p).2)))
  | _ => false)
theorem tabB_ok {h : Heap} {K : PySem.W.Frag} (X : K.In h) {p : He.Defn} (e : tabB h.get? K p = true) : h.get? (He.cT K p).2 = some { cls := .none, data := .fields #[] } ∧ PySem.W.CodeHd h (He.cT K p).1 (He.cT K p).2 := by
  obtain ⟨h1, h2⟩ := He.ba e
  refine ⟨?_, ?_⟩
  · split at h1
    · rename_i o ho
      rw [ho, He.emptyTab_eq h1]
    · cases h1
  · split at h2
    · rename_i c dd vs sl lk
      obtain ⟨q1, h2⟩ := He.ba h2
      obtain ⟨q2, h2⟩ := He.ba h2
      obtain ⟨q3, q4⟩ := He.ba h2
      have e2 := of_decide_eq_true q2
      have e3 : vs.getD 11 .none = .ref (He.cT K p).2 := by
        rw [Array.getD_eq_getD_getElem?, e2] <;> rfl
      split at q3
      · rename_i f tf fl tg b i tt z1 z2 z3 z4
        exact ⟨_, vs, f, tf, fl, tg, b, i, tt, X _ _ lk, congrArg Value.type (of_decide_eq_true q1), rfl, e2, e3, z1, z2, z3, z4, of_decide_eq_true q4⟩
      · cases q3
    · cases h2
def obsZG (n : Nat) (fb : List (PySem.W.Frag → Bool)) (fn : List He.DefD) (cs : List DefS) (ts : List He.Defn) (g : Addr → Option Obj) : Bool × AlZ := (ts.all fun p => tabB g (He.frT g (He.asD g n ++ [cStatics, sysModules])) p, obsZ fb fn cs (He.frT g (He.asD g n ++ [cStatics, sysModules])))
def TabsZ (ts : List He.Defn) (K : PySem.W.Frag) (h : Heap) : Prop := ∀ p ∈ ts, h.get? (He.cT K p).2 = some { cls := .none, data := .fields #[] } ∧ K.lookup (He.cT K p).2 = none ∧ PySem.W.CodeHd h (He.cT K p).1 (He.cT K p).2
def hookZ (n : Nat) (fb : List (PySem.W.Frag → Bool)) (fn : List He.DefD) (cs : List DefS) (ts : List He.Defn) : PySem.W.Hook where
  α := Bool × AlZ
  obs := fun s => obsZG n fb fn cs ts s.heap.get?
  val := fun _ => (true, valZ fn cs)
  says := fun _ h => ∃ K : PySem.W.Frag, K.In h ∧ SaysZ fb fn cs K ∧ TabsZ ts K h
  of := fun _ s e => by
    refine ⟨_, He.frT_in, congrArg Prod.snd e, fun p hp => ?_⟩
    have q := List.all_eq_true.mp (show (ts.all fun p => tabB s.heap.get? (He.frT s.heap.get? (He.asD s.heap.get? n ++ [cStatics, sysModules])) p) = true from congrArg Prod.fst e) p hp
    obtain ⟨h1, h2⟩ := tabB_ok He.frT_in q
    exact ⟨h1, He.frT_none h1 rfl, h2⟩
  keeps := fun _ _ _ ⟨K, hK, c, t⟩ k => ⟨K, PySem.W.Frag.In.keeps hK k, c, fun p hp => ⟨k _ _ (t p hp).1, (t p hp).2.1, (t p hp).2.2.keeps k⟩⟩
theorem obsZG_eq {n : Nat} {fb : List (PySem.W.Frag → Bool)} {fn : List He.DefD} {cs : List DefS} {ts : List He.Defn} {g : Addr → Option Obj} {s : Shared} (h : ∀ a, g a = s.heap.get? a) : obsZG n fb fn cs ts g = (hookZ n fb fn cs ts).obs s := by
  have e : g = s.heap.get? := funext h
  rw [e] <;> rfl
section
variable {fb : List (PySem.W.Frag → Bool)} {fn : List He.DefD} {cs : List DefS} {K : PySem.W.Frag}
theorem SaysZ.all (c : SaysZ fb fn cs K) : ∀ f ∈ fb, f K = true :=
  List.all_eq_true.mp (He.ba (show ((fb.all fun f => f K) && fn.all fun d => d.ok K) = true from congrArg (fun z : AlZ => z.1) c)).1
theorem SaysZ.fact (c : SaysZ fb fn cs K) (i : Nat) {f : PySem.W.Frag → Bool} (h : fb[i]? = some f := by rfl) : f K = true := c.all f (List.mem_of_getElem? h)
theorem SaysZ.def_ (c : SaysZ fb fn cs K) (i : Nat) {d : He.DefD} (h : fn[i]? = some d := by rfl) : ∃ fd, FunD K d.name d.qual d.params d.body d.scope (d.dvs K) (d.kws K) (He.fAd K d.at_) fd := by
  have c2 := (He.ba (show ((fb.all fun f => f K) && fn.all fun d => d.ok K) = true from congrArg (fun z : AlZ => z.1) c)).2
  have e : fn.map (fun d => He.fnW K d.at_) = fn.map He.DefD.val := congrArg (fun z : AlZ => z.2.1) c
  have e2 : (fn.map fun d => He.fnW K d.at_)[i]? = (fn.map He.DefD.val)[i]? := by rw [e]
  rw [List.getElem?_map, List.getElem?_map, h] at e2
  exact He.DefD.funD (Option.some.inj e2) (List.all_eq_true.mp c2 d (List.mem_of_getElem? h))
theorem SaysZ.ini (c : SaysZ fb fn cs K) {d : DefS} (h : d ∈ cs) : fnSW K d.cls = d.val := by
  have e : cs.map (fun d => fnSW K d.cls) = cs.map DefS.val := congrArg (fun z : AlZ => z.2.2) c
  obtain ⟨i, hi⟩ := List.mem_iff_getElem?.mp h
  have e2 : (cs.map fun d => fnSW K d.cls)[i]? = (cs.map DefS.val)[i]? := by rw [e]
  rw [List.getElem?_map, List.getElem?_map, hi] at e2
  exact Option.some.inj e2
end
/-! ## the law's end: no repr runs at its call; tables of code objects for the lambdas -/
theorem law_callZ {P : Program} {w : World} {K : PySem.W.Frag} {mg mb : Str → Option Value} {k : Nat} {fa a : Addr} {cs : List (Addr × Addr)} {fd : FuncData} {x : Str} {sp : Sp} {s : Shared} {vs : List Value} {ns : List Int}
    (KX : K.In s.heap) (hns : s.heap.Ns mainGlobals mg) (hb : s.heap.Ns builtinsNs mb) (hbb : ∀ x : Str, x ≠ "__name__" → mb x = bootBuiltins x) (hlim : s.heap.NoLimit) (hg : s.gens = #[])
    (hT : ∀ p ∈ cs, s.heap.get? p.2 = some { cls := .none, data := .fields #[] }) (nT : ∀ p ∈ cs, K.lookup p.2 = none) (C : ∀ p ∈ cs, PySem.W.CodeHd s.heap p.1 p.2)
    (hbm : ∃ (bm : Addr) (ob : Obj), mg "__builtins__" = some (.ref bm) ∧ bm ≠ builtinsNs ∧ s.heap.get? bm = some ob ∧ ob.cls = .type "module" ∧ ob.dict = some builtinsNs ∧ ob.data = .plain)
    (ha : s.heap.get? a = some { cls := .type "list", data := .seq vs.toArray }) (hi : PyProof.Rows.IntsAre vs ns) (hl : ns.length ≤ sizeLine) (hr : Room k callerA)
    (F : ∀ base : Heap, K.In base → base.Ns mainGlobals mg → (∀ p ∈ cs, LamX.TabB base mg p.1 p.2) → FnG P w K mg base k fa fd [x] sp) (hbind : ∀ (s : Shared) (u : Value), BindsTo s fd ⟨[u], []⟩ [(x, u)])
    (hsp : ∀ H : Hp, (∀ p ∈ cs, H p.2 = some (.tbl #[])) → SqL K H a (ns.map V.int) → sp [.ref a] H (fun v _ => v = .bl true) fun _ _ _ => False) :
    codeAny (model P w) callerA (.call (.ref fa) ⟨[.ref a], []⟩) (fun r s' => r = .ok (.ret (.bool true)) ∧ PySem.OldK s.heap s'.heap ∧ s'.os = s.os ∧ PyProof.Rows.AllBare s'.gens) s := by
  have rv := vals_ints hi
  have lenV := hi.length
  let tabs : List Addr := cs.map (·.2)
  have inTab : ∀ p ∈ cs, p.2 ∈ tabs := fun p hp => List.mem_map.mpr ⟨p, hp, rfl⟩
  have isTab : ∀ b ∈ tabs, ∃ p ∈ cs, p.2 = b := fun b hb => List.mem_map.mp hb
  have tabO : ∀ b ∈ tabs, s.heap.get? b = some { cls := .none, data := .fields #[] } := fun b hb => by
    obtain ⟨p, hp, e⟩ := isTab b hb
    exact e ▸ hT p hp
  have aN : a ∉ tabs := fun z => by
    have q := tabO a z
    rw [ha] at q
    cases q
  -- what is tracked at the start: the tables, and the script where it is none of the module's own
  let H : Hp := fun b => if b ∈ tabs then some (.tbl #[]) else if b = a ∧ K.lookup a = none then some (.frz { cls := .type "list", data := .seq vs.toArray } (.lst (ns.map V.int))) else none
  have Htab : ∀ b ∈ tabs, H b = some (.tbl #[]) := fun b hb => if_pos hb
  have Hscr : K.lookup a = none → H a = some (.frz { cls := .type "list", data := .seq vs.toArray } (.lst (ns.map V.int))) := fun q => (if_neg aN).trans (if_pos ⟨rfl, q⟩)
  have Hcases : ∀ b, H b = none ∨ b ∈ tabs ∨ (b = a ∧ K.lookup a = none) := fun b => by
    by_cases h1 : b ∈ tabs
    · exact .inr (.inl h1)
    · by_cases h2 : b = a ∧ K.lookup a = none
      · exact .inr (.inr h2)
      · exact .inl ((if_neg h1).trans (if_neg h2))
  have hok : HOk P w H s.heap := fun b u e => by
    rcases Hcases b with z | z | ⟨z, q⟩
    · rw [z] at e
      cases e
    · rw [Htab b z] at e
      cases e
      exact tabO b z
    · subst z
      rw [Hscr q] at e
      cases e
      exact ⟨ha, by rw [List.length_map]; exact hl, vs, _, rv, ha⟩
  have seq : SqL K H a (ns.map V.int) := by
    cases hk : K.lookup a with
    | none => exact .inl (.inr ⟨_, Hscr hk⟩)
    | some o =>
      have e := KX a o hk
      rw [ha] at e
      cases e
      exact .inr ⟨_, vs.toArray, _, hk, rfl, rfl, rfl, by rw [List.size_toArray, lenV]; exact hl, by simpa using rv⟩
  -- the ground
  have gr : ∀ {b : Addr} {o : Obj}, s.heap.get? b = some o → H b = none → (hidT s.heap H).get? b = some o := fun e n => hidT_get e n
  have untr : ∀ {b : Addr} {o : Obj}, s.heap.get? b = some o → (∀ us n, o.data ≠ .seq us n) → o.data ≠ .fields #[] → H b = none := fun {b o} e h1 h2 => by
    rcases Hcases b with z | z | ⟨z, _⟩
    · exact z
    · rw [tabO b z] at e
      cases e
      exact absurd rfl h2
    · rw [z, ha] at e
      cases e
      exact absurd rfl (h1 _ _)
  have dictU : ∀ {b : Addr} {o : Obj} {es : Array DictEntry} {ep : Nat}, s.heap.get? b = some o → o.data = .dict es ep → H b = none := fun e d => untr e (fun _ _ z => by rw [d] at z; cases z) (fun z => by rw [d] at z; cases z)
  have nsU : ∀ {b : Addr} {m : Str → Option Value}, s.heap.Ns b m → (hidT s.heap H).Ns b m := fun ⟨o, es, ep, e, d, r⟩ => ⟨o, es, ep, gr e (dictU e d), d, r⟩
  have kin : K.In (hidT s.heap H) := fun b o e => gr (KX b o e) (by
    rcases Hcases b with z | z | ⟨z, q⟩
    · exact z
    · obtain ⟨p, hp, ep⟩ := isTab b z
      rw [← ep, nT p hp] at e
      cases e
    · rw [z, q] at e
      cases e)
  have mod : L2.Mod K mg (hidT s.heap H) := ⟨kin, nsU hns, ⟨mb, nsU hb, hbb⟩, let ⟨mc, h1, h2⟩ := hlim; ⟨mc, nsU h1, h2⟩⟩
  have TB : ∀ p ∈ cs, LamX.TabB (hidT s.heap H) mg p.1 p.2 := fun p hp => by
    have tp := hT p hp
    refine ⟨?_, ?_, fun z => ?_⟩
    · obtain ⟨o, us, file, tf, flags, tg, inF, text, tt, e1, r1, r2, r3, rr⟩ := C p hp
      refine ⟨o, us, file, tf, flags, tg, inF, text, tt, gr e1 (untr e1 (fun _ _ z => by rw [r2] at z; cases z) fun z => ?_), r1, r2, r3, rr⟩
      rw [r2] at z
      cases z
      simp at r3
    · obtain ⟨bm, ob, b1, b2, b3, b4, b5, b6⟩ := hbm
      refine ⟨bm, ob, b1, b2, fun q => ?_, fun q => ?_, gr b3 (untr b3 (fun _ _ z => by rw [b6] at z; cases z) (fun z => by rw [b6] at z; cases z)), b4, b5, b6⟩
      · obtain ⟨o, es, ep, e, hd, _⟩ := hns
        rw [q, e] at b3
        cases b3
        rw [hd] at b6
        cases b6
      · rw [q, tp] at b3
        cases b3
        cases b6
    · obtain ⟨o, es, ep, e, hd, _⟩ := hns
      rw [z, tp] at e
      cases e
      cases hd
  have e0 : Env0 P w K mg (hidT s.heap H) callerA [] s H := ⟨rfl, mod, fun b o e => of_hidT e, Nat.le_of_eq (hidT_size _ _), trivial, fun b hb => absurd (show b ∈ ([] : List Addr) from hb) (by simp), hok, .of_eq hg⟩
  refine codeAny_mono ((F _ kin (nsU hns) TB).run callerA [] s H ⟨[.ref a], []⟩ [.ref a] [.ref a] _ _ rfl hr e0 (hbind s (.ref a)) (.cons rfl .nil) (hsp H (fun p hp => Htab _ (inTab p hp)) seq)) fun r s' h => ?_
  cases r with
  | error e => exact False.elim h
  | ok fl =>
    cases fl with
    | next => exact False.elim h
    | brk => exact False.elim h
    | cont => exact False.elim h
    | ret u =>
      obtain ⟨v, H', os, bare, un, hok', r', q⟩ := h
      have q' : v = .bl true := q
      subst q'
      obtain rfl : u = Value.bool true := r'
      have kept : ∀ b o, b ∉ tabs → s.heap.get? b = some o → s'.heap.get? b = some o := fun b o nb e => by
        rcases Hcases b with z | z | ⟨z, q⟩
        · exact un.keep b o e z (by intro z; exact absurd (show b ∈ ([] : List Addr) from z) (by simp)) (by simp)
        · exact absurd z nb
        · subst z
          have z2 := un.frzs _ _ _ (Hscr q)
          obtain ⟨e2, _⟩ := hok' _ _ z2
          rw [ha] at e
          cases e
          exact e2
      have more : ∀ p ∈ cs, ∃ more : Array Value, s'.heap.get? p.2 = some { cls := .none, data := .fields more } := fun p hp => by
        obtain ⟨mr, z⟩ := un.tbls p.2 #[] (Htab _ (inTab p hp))
        exact ⟨_, hok' p.2 _ z⟩
      refine ⟨rfl, ⟨fun b o e => ?_, fun b o e => ?_⟩, os, bare⟩
      · by_cases hbt : b ∈ tabs
        · obtain ⟨p, hp, ep⟩ := isTab b hbt
          obtain ⟨mr, hm⟩ := more p hp
          rw [← ep] at e ⊢
          rw [hT p hp] at e
          cases e
          exact .inr (.inl ⟨((C p hp).tab (hT p hp)).isCodeTable, rfl, #[], mr, rfl, by rw [Array.empty_append]; exact hm⟩)
        · exact .inl (kept b o hbt e)
      · by_cases hbt : b ∈ tabs
        · obtain ⟨p, hp, ep⟩ := isTab b hbt
          obtain ⟨mr, hm⟩ := more p hp
          exact ⟨_, ep ▸ hm⟩
        · exact ⟨o, kept b o hbt e⟩
/-- what is known of the law's promise at the head's heap -/
def LawAtZ (l : PySem.W.OpenLaw) (w : World) (k n : Nat) (x : Str) (mg : Str → Option Value) (fa : Addr) (h : Heap) : Prop :=
  ∃ (K : PySem.W.Frag) (fd : FuncData) (cs : List (Addr × Addr)) (sp : Sp), K.In h ∧ (∀ p ∈ cs, h.get? p.2 = some { cls := .none, data := .fields #[] }) ∧ (∀ p ∈ cs, K.lookup p.2 = none) ∧ (∀ p ∈ cs, PySem.W.CodeHd h p.1 p.2) ∧ (∀ (s : Shared) (u : Value), BindsTo s fd ⟨[u], []⟩ [(x, u)]) ∧
    (∀ (H : Hp) (a : Addr) (ns : List Int), ns.length ≤ n → (∀ p ∈ cs, H p.2 = some (.tbl #[])) → SqL K H a (ns.map V.int) → sp [.ref a] H (fun v _ => v = .bl true) fun _ _ _ => False) ∧
    ∀ base : Heap, K.In base → base.Ns mainGlobals mg → (∀ p ∈ cs, LamX.TabB base mg p.1 p.2) → FnG l.prog w K mg base k fa fd [x] sp
theorem walk_ofZ {l : PySem.W.OpenLaw} {n k : Nat} {q : Program} {loose : List Str} {XP : (Str → Option Value) → Heap → Prop} {YP : World → Heap → Prop} {d : DefRec} {x : Str}
    (hn : l.most = some n) (hn2 : n ≤ sizeLine) (hdf : d.params.defaults = []) (hr : Room k callerA)
    (F : ∀ (w : World) (mg : Str → Option Value) (fa : Addr) (h : Heap), YP w h → h.Ns mainGlobals mg → mg d.name = some (.ref fa) → LawAtZ l w k n x mg fa h) :
    PySem.W.WalkO q loose XP YP l.row.toRowW d [] (fun f vs => PySem.call f vs) :=
  Att.attach_call hn hdf fun w s0 s1 mg mb fa o pm cd doc a vs ns G Y ho hd hcd hmg hobj hints hlen hg => by
    obtain ⟨K, fd, cs, sp, KX, hT, nT, C, hb, hsp, hF⟩ := F w mg fa _ Y G.T.g hmg
    exact law_callZ KX G.T.g G.T.b G.T.builtins G.T.nolimit hg hT nT C G.T.bmain hobj hints (Nat.le_trans hlen hn2) hr hF hb (fun H hH hS => hsp H a ns hlen hH hS)
abbrev Rw : PySem.W.OpenRow := PySem.W.OpenLaw.row PySem.Challenge.rw_stopanywhere_k82_numbers_in_bits
def d_is_number : He.DefD := ⟨("is_number", none), "is_number", "is_number", defArgs s_is_number, defBody s_is_number, defScope s_is_number, [], []⟩
def d_count_of : He.DefD := ⟨("count_of", none), "count_of", "count_of", defArgs s_count_of, defBody s_count_of, defScope s_count_of, [], []⟩
def d_count_bits : He.DefD := ⟨("count_bits", none), "count_bits", "count_bits", defArgs s_count_bits, defBody s_count_bits, defScope s_count_bits, [], []⟩
def d_number_written : He.DefD := ⟨("number_written", none), "number_written", "number_written", defArgs s_number_written, defBody s_number_written, defScope s_number_written, [], []⟩
def d_number_bits : He.DefD := ⟨("number_bits", none), "number_bits", "number_bits", defArgs s_number_bits, defBody s_number_bits, defScope s_number_bits, [], []⟩
def d_is_bits : He.DefD := ⟨("is_bits", none), "is_bits", "is_bits", defArgs s_is_bits, defBody s_is_bits, defScope s_is_bits, [], []⟩
def d_need_bits : He.DefD := ⟨("need_bits", none), "need_bits", "need_bits", defArgs s_need_bits, defBody s_need_bits, defScope s_need_bits, [], []⟩
def d_need_index : He.DefD := ⟨("need_index", none), "need_index", "need_index", defArgs s_need_index, defBody s_need_index, defScope s_need_index, [], []⟩
def d_count_at : He.DefD := ⟨("count_at", none), "count_at", "count_at", defArgs s_count_at, defBody s_count_at, defScope s_count_at, [], []⟩
def d_number_at : He.DefD := ⟨("number_at", none), "number_at", "number_at", defArgs s_number_at, defBody s_number_at, defScope s_number_at, [], []⟩
def d_read_count : He.DefD := ⟨("read_count", none), "read_count", "read_count", defArgs s_read_count, defBody s_read_count, defScope s_read_count, [], []⟩
def d_read_number : He.DefD := ⟨("read_number", none), "read_number", "read_number", defArgs s_read_number, defBody s_read_number, defScope s_read_number, [], []⟩
def d__law_begun : He.DefD := ⟨("_law_begun", none), "_law_begun", "_law_begun", defArgs s_law_begun, defBody s_law_begun, defScope s_law_begun, [], []⟩
def d__law_mixed : He.DefD := ⟨("_law_mixed", none), "_law_mixed", "_law_mixed", defArgs s_law_mixed, defBody s_law_mixed, defScope s_law_mixed, [], []⟩
def d__law_take : He.DefD := ⟨("_law_take", none), "_law_take", "_law_take", defArgs s_law_take, defBody s_law_take, defScope s_law_take, [], []⟩
def d__law_pick : He.DefD := ⟨("_law_pick", none), "_law_pick", "_law_pick", defArgs s_law_pick, defBody s_law_pick, defScope s_law_pick, [], []⟩
def d__law_figure : He.DefD := ⟨("_law_figure", none), "_law_figure", "_law_figure", defArgs s_law_figure, defBody s_law_figure, defScope s_law_figure, [], []⟩
def d__law_digits : He.DefD := ⟨("_law_digits", none), "_law_digits", "_law_digits", defArgs s_law_digits, defBody s_law_digits, defScope s_law_digits, [], []⟩
def d__law_count : He.DefD := ⟨("_law_count", none), "_law_count", "_law_count", defArgs s_law_count, defBody s_law_count, defScope s_law_count, [], []⟩
def d__law_signed : He.DefD := ⟨("_law_signed", none), "_law_signed", "_law_signed", defArgs s_law_signed, defBody s_law_signed, defScope s_law_signed, [], []⟩
def d__law_bits : He.DefD := ⟨("_law_bits", none), "_law_bits", "_law_bits", defArgs s_law_bits, defBody s_law_bits, defScope s_law_bits, [], []⟩
def d__law_read : He.DefD := ⟨("_law_read", none), "_law_read", "_law_read", defArgs s_law_read, defBody s_law_read, defScope s_law_read, [], []⟩
def d__law_value : He.DefD := ⟨("_law_value", none), "_law_value", "_law_value", defArgs s_law_value, defBody s_law_value, defScope s_law_value, [], []⟩
def d__law_outcome : He.DefD := ⟨("_law_outcome", none), "_law_outcome", "_law_outcome", defArgs s_law_outcome, defBody s_law_outcome, defScope s_law_outcome, [], []⟩
def d__law_edge : He.DefD := ⟨("_law_edge", none), "_law_edge", "_law_edge", defArgs s_law_edge, defBody s_law_edge, defScope s_law_edge, [], []⟩
def d__law_signed_at : He.DefD := ⟨("_law_signed_at", none), "_law_signed_at", "_law_signed_at", defArgs s_law_signed_at, defBody s_law_signed_at, defScope s_law_signed_at, [], []⟩
def d__law_written_right : He.DefD := ⟨("_law_written_right", none), "_law_written_right", "_law_written_right", defArgs s_law_written_right, defBody s_law_written_right, defScope s_law_written_right, [], []⟩
def d__law_refused : He.DefD := ⟨("_law_refused", none), "_law_refused", "_law_refused", defArgs s_law_refused, defBody s_law_refused, defScope s_law_refused, [], []⟩
def d_law : He.DefD := ⟨("law", none), "law", "law", defArgs s_law, defBody s_law, defScope s_law, [], []⟩
def i_BadBits : DefS := ⟨"BadBits", "BadBits.__init__", defArgs s_BadBits___init__, defBody s_BadBits___init__, defScope s_BadBits___init__⟩
def fnL : List He.DefD := [d_is_number, d_count_of, d_count_bits, d_number_written, d_number_bits, d_is_bits, d_need_bits, d_need_index, d_count_at, d_number_at, d_read_count, d_read_number, d__law_begun, d__law_mixed, d__law_take, d__law_pick, d__law_figure, d__law_digits, d__law_count, d__law_signed, d__law_bits, d__law_read, d__law_value, d__law_outcome, d__law_edge, d__law_signed_at, d__law_written_right, d__law_refused, d_law]
def csL : List DefS := [i_BadBits]
abbrev gloB (x : Str) (K : PySem.W.Frag) : Bool := (He.Fa.glo x).ok K
abbrev freeB (x : Str) (K : PySem.W.Frag) : Bool := (He.Fa.free x).ok K
abbrev strB (x z : Str) (K : PySem.W.Frag) : Bool := (He.Fa.str x z).ok K
abbrev exmB (x y : Str) (K : PySem.W.Frag) : Bool := (He.Fa.exm x y true).ok K
abbrev noatB (x f : Str) (K : PySem.W.Frag) : Bool := (He.Fa.noat x f).ok K
abbrev kitB (x y : Str) (K : PySem.W.Frag) : Bool := decide (PySem.W.kitOne K (.ref (He.ga K x)) (.ref (He.ga K y)) = some true)
abbrev kitF (x y : Str) (K : PySem.W.Frag) : Bool := decide (PySem.W.kitOne K (.ref (He.ga K x)) (.ref (He.ga K y)) = some false)
abbrev kitT (x : Str) (n : String) (K : PySem.W.Frag) : Bool := decide (PySem.W.kitOne K (.ref (He.ga K x)) (.type n) = some true)
def mainFile : Str := PySem.Challenge.pw_stopanywhere_k82_numbers_in_bits.main.file
def smdB (K : PySem.W.Frag) : Bool := match K.lookup sysModules with | some ⟨.type n, _, _, _⟩ => decide (n = "dict") | _ => false
theorem smdB_ok {K : PySem.W.Frag} (h : smdB K = true) : SmD K := by
  unfold smdB at h
  split at h
  · rename_i n a b c e
    exact ⟨_, e, congrArg Value.type (of_decide_eq_true h)⟩
  · cases h
abbrev excN (x : Str) (K : PySem.W.Frag) : Bool := PySem.W.excIn K (He.ga K x) He.veBase "ValueError.__new__"
abbrev oexN (x : Str) (K : PySem.W.Frag) : Bool := oexB K (He.ga K x)
abbrev excR (x : Str) (K : PySem.W.Frag) : Bool := excRB K (He.ga K x)
abbrev supN (d : DefS) (K : PySem.W.Frag) : Bool := supB mainFile K d.cls d.qual
def dflB (x : Str) (K : PySem.W.Frag) : Bool := match K.lookup (initAd K x) with | some ⟨_, _, .func fd, _⟩ => (match fd.defaults with | .none => true | _ => false) | _ => false
theorem dflB_ok {K : PySem.W.Frag} {x : Str} (h : dflB x K = true) {oc : Value} {od : Option Addr} {fd : FuncData} {osl : Array (Option Value)} (lk : K.lookup (initAd K x) = some ⟨oc, od, .func fd, osl⟩) : fd.defaults = .none := by
  unfold dflB at h
  rw [lk] at h
  dsimp only at h
  split at h
  · assumption
  · cases h
theorem SupF.binds {P : Program} {K : PySem.W.Frag} {mg : Str → Option Value} {C cc cda : Addr} {x qual : Str} {params : Arguments} {body : List Stmt} {scope : Scope} {fd : FuncData} {ps : List Str} (F : SupF P K mg C (initAd K x) cc cda qual params body scope fd) (hd : dflB x K = true)
    (h : ∀ (kV doc pm ct : Value) (an : Option Addr) (us : List Value), us.length = ps.length → bindArgs (PySem.W.ksFn "__init__" qual params body scope .none kV doc pm an (.ref cda) ct cc) ⟨us, []⟩ = pure (ps.zip us)) : Binds K fd ps [] := by
  obtain ⟨oc, od, dV, kV, doc, pm, ct, an, osl, rfl, lk⟩ := F.ex
  have e : dV = .none := dflB_ok hd lk
  subst e
  exact .all (h kV doc pm ct an)
def strOf : Value → Option Str
  | .str z _ => some z
  | _ => none
def tupB (x : Str) (ss : List Str) (K : PySem.W.Frag) : Bool := match K.lookup (He.ga K x) with | some ⟨.type c, _, .seq its _, _⟩ => decide (c = "tuple") && (decide (its.size ≤ sizeLine) && decide (its.toList.map strOf = ss.map some)) | _ => false
theorem strOf_vals : ∀ {us : List Value} {ss : List Str}, us.map strOf = ss.map some → Vals (ss.map V.str) us
  | [], [], _ => .nil
  | [], _ :: _, h => by cases h
  | _ :: _, [], h => by cases h
  | u :: us, z :: ss, h => by
    simp only [List.map_cons, List.cons.injEq] at h
    refine .cons ?_ (strOf_vals h.2)
    cases u with
    | str y t =>
      have e : y = z := by injection h.1
      subst e
      exact ⟨t, rfl⟩
    | _ => cases h.1
theorem tupB_ok {x : Str} {ss : List Str} {K : PySem.W.Frag} (h : tupB x ss K = true) (H : Hp) : SqT K H (He.ga K x) (ss.map V.str) := by
  unfold tupB at h
  split at h
  · rename_i c d its n sl lk
    obtain ⟨h1, h⟩ := He.ba h
    obtain ⟨h2, h3⟩ := He.ba h
    exact .inr ⟨_, its, n, lk, congrArg Value.type (of_decide_eq_true h1), rfl, of_decide_eq_true h2, strOf_vals (of_decide_eq_true h3)⟩
  · cases h
def fbL : List (PySem.W.Frag → Bool) := [smdB, gloB "is_number", gloB "count_of", gloB "count_bits", gloB "number_written", gloB "number_bits", gloB "is_bits", gloB "need_bits", gloB "need_index", gloB "count_at", gloB "number_at", gloB "read_count", gloB "read_number", gloB "_law_begun", gloB "_law_mixed", gloB "_law_take", gloB "_law_pick", gloB "_law_figure", gloB "_law_digits", gloB "_law_count", gloB "_law_signed", gloB "_law_bits", gloB "_law_read", gloB "_law_value", gloB "_law_outcome", gloB "_law_edge", gloB "_law_signed_at", gloB "_law_written_right", gloB "_law_refused", gloB "law", gloB "StopError", gloB "BadNumber", gloB "BadBits", freeB "ValueError", freeB "abs", freeB "bool", freeB "int", freeB "isinstance", freeB "len", freeB "range", freeB "repr", freeB "str", freeB "super", oexN "StopError", oexN "BadNumber", oexN "BadBits", supN i_BadBits, dflB "BadBits", excR "BadBits", excR "BadNumber", excN "BadNumber", exmB "BadBits" "StopError", exmB "BadNumber" "StopError", kitB "BadBits" "BadBits", kitB "BadNumber" "BadNumber", kitF "BadBits" "BadNumber", kitF "BadNumber" "BadBits", kitT "BadBits" "ValueError", noatB "BadBits" "at"]
def tsL : List He.Defn := []
abbrev hk : PySem.W.Hook := hookZ 4 fbL fnL csL tsL
def ob (s : PySem.W.SharedT) : Bool × AlZ := obsZG 4 fbL fnL csL tsL (HandSHeadRun.getT s)
theorem ob_eq (s : PySem.W.SharedT) : ob s = hk.obs s.abs := obsZG_eq (HandSHeadRun.getT_eq s)
def looseL : List PySem.Str := (["StopError", "BadNumber", "BadBits", "is_number", "count_of", "count_bits", "number_written", "number_bits", "is_bits", "need_bits", "need_index", "count_at", "number_at", "read_count", "read_number", "_law_begun", "_law_mixed", "_law_take", "_law_pick", "_law_figure", "_law_digits", "_law_count", "_law_signed", "_law_bits", "_law_read", "_law_value", "_law_outcome", "_law_edge", "_law_signed_at", "_law_written_right"] : List PySem.Str) ++ (["_law_refused"] : List PySem.Str)
set_option maxHeartbeats 0 in
theorem run (w : World) : HandSHeadRun.RunEq Rw (PySem.W.view Rw.prog [35]) hk ob 60000 looseL w := by
  intro os
  kernel_rfl
section
variable {K : PySem.W.Frag}
theorem fact_smd (c : SaysZ fbL fnL csL K) : (smdB) K = true := c.fact 0
theorem fact_g_is_number (c : SaysZ fbL fnL csL K) : (gloB "is_number") K = true := c.fact 1
theorem fact_g_count_of (c : SaysZ fbL fnL csL K) : (gloB "count_of") K = true := c.fact 2
theorem fact_g_count_bits (c : SaysZ fbL fnL csL K) : (gloB "count_bits") K = true := c.fact 3
theorem fact_g_number_written (c : SaysZ fbL fnL csL K) : (gloB "number_written") K = true := c.fact 4
theorem fact_g_number_bits (c : SaysZ fbL fnL csL K) : (gloB "number_bits") K = true := c.fact 5
theorem fact_g_is_bits (c : SaysZ fbL fnL csL K) : (gloB "is_bits") K = true := c.fact 6
theorem fact_g_need_bits (c : SaysZ fbL fnL csL K) : (gloB "need_bits") K = true := c.fact 7
theorem fact_g_need_index (c : SaysZ fbL fnL csL K) : (gloB "need_index") K = true := c.fact 8
theorem fact_g_count_at (c : SaysZ fbL fnL csL K) : (gloB "count_at") K = true := c.fact 9
theorem fact_g_number_at (c : SaysZ fbL fnL csL K) : (gloB "number_at") K = true := c.fact 10
theorem fact_g_read_count (c : SaysZ fbL fnL csL K) : (gloB "read_count") K = true := c.fact 11
theorem fact_g_read_number (c : SaysZ fbL fnL csL K) : (gloB "read_number") K = true := c.fact 12
theorem fact_g__law_begun (c : SaysZ fbL fnL csL K) : (gloB "_law_begun") K = true := c.fact 13
theorem fact_g__law_mixed (c : SaysZ fbL fnL csL K) : (gloB "_law_mixed") K = true := c.fact 14
theorem fact_g__law_take (c : SaysZ fbL fnL csL K) : (gloB "_law_take") K = true := c.fact 15
theorem fact_g__law_pick (c : SaysZ fbL fnL csL K) : (gloB "_law_pick") K = true := c.fact 16
theorem fact_g__law_figure (c : SaysZ fbL fnL csL K) : (gloB "_law_figure") K = true := c.fact 17
theorem fact_g__law_digits (c : SaysZ fbL fnL csL K) : (gloB "_law_digits") K = true := c.fact 18
theorem fact_g__law_count (c : SaysZ fbL fnL csL K) : (gloB "_law_count") K = true := c.fact 19
theorem fact_g__law_signed (c : SaysZ fbL fnL csL K) : (gloB "_law_signed") K = true := c.fact 20
theorem fact_g__law_bits (c : SaysZ fbL fnL csL K) : (gloB "_law_bits") K = true := c.fact 21
theorem fact_g__law_read (c : SaysZ fbL fnL csL K) : (gloB "_law_read") K = true := c.fact 22
theorem fact_g__law_value (c : SaysZ fbL fnL csL K) : (gloB "_law_value") K = true := c.fact 23
theorem fact_g__law_outcome (c : SaysZ fbL fnL csL K) : (gloB "_law_outcome") K = true := c.fact 24
theorem fact_g__law_edge (c : SaysZ fbL fnL csL K) : (gloB "_law_edge") K = true := c.fact 25
theorem fact_g__law_signed_at (c : SaysZ fbL fnL csL K) : (gloB "_law_signed_at") K = true := c.fact 26
theorem fact_g__law_written_right (c : SaysZ fbL fnL csL K) : (gloB "_law_written_right") K = true := c.fact 27
theorem fact_g__law_refused (c : SaysZ fbL fnL csL K) : (gloB "_law_refused") K = true := c.fact 28
theorem fact_g_law (c : SaysZ fbL fnL csL K) : (gloB "law") K = true := c.fact 29
theorem fact_g_StopError (c : SaysZ fbL fnL csL K) : (gloB "StopError") K = true := c.fact 30
theorem fact_g_BadNumber (c : SaysZ fbL fnL csL K) : (gloB "BadNumber") K = true := c.fact 31
theorem fact_g_BadBits (c : SaysZ fbL fnL csL K) : (gloB "BadBits") K = true := c.fact 32
theorem fact_f_ValueError (c : SaysZ fbL fnL csL K) : (freeB "ValueError") K = true := c.fact 33
theorem fact_f_abs (c : SaysZ fbL fnL csL K) : (freeB "abs") K = true := c.fact 34
theorem fact_f_bool (c : SaysZ fbL fnL csL K) : (freeB "bool") K = true := c.fact 35
theorem fact_f_int (c : SaysZ fbL fnL csL K) : (freeB "int") K = true := c.fact 36
theorem fact_f_isinstance (c : SaysZ fbL fnL csL K) : (freeB "isinstance") K = true := c.fact 37
theorem fact_f_len (c : SaysZ fbL fnL csL K) : (freeB "len") K = true := c.fact 38
theorem fact_f_range (c : SaysZ fbL fnL csL K) : (freeB "range") K = true := c.fact 39
theorem fact_f_repr (c : SaysZ fbL fnL csL K) : (freeB "repr") K = true := c.fact 40
theorem fact_f_str (c : SaysZ fbL fnL csL K) : (freeB "str") K = true := c.fact 41
theorem fact_f_super (c : SaysZ fbL fnL csL K) : (freeB "super") K = true := c.fact 42
theorem fact_o_StopError (c : SaysZ fbL fnL csL K) : (oexN "StopError") K = true := c.fact 43
theorem fact_o_BadNumber (c : SaysZ fbL fnL csL K) : (oexN "BadNumber") K = true := c.fact 44
theorem fact_o_BadBits (c : SaysZ fbL fnL csL K) : (oexN "BadBits") K = true := c.fact 45
theorem fact_sup_BadBits (c : SaysZ fbL fnL csL K) : (supN i_BadBits) K = true := c.fact 46
theorem fact_dfl_BadBits (c : SaysZ fbL fnL csL K) : (dflB "BadBits") K = true := c.fact 47
theorem fact_r_BadBits (c : SaysZ fbL fnL csL K) : (excR "BadBits") K = true := c.fact 48
theorem fact_r_BadNumber (c : SaysZ fbL fnL csL K) : (excR "BadNumber") K = true := c.fact 49
theorem fact_n_BadNumber (c : SaysZ fbL fnL csL K) : (excN "BadNumber") K = true := c.fact 50
theorem fact_x_BadBits (c : SaysZ fbL fnL csL K) : (exmB "BadBits" "StopError") K = true := c.fact 51
theorem fact_x_BadNumber (c : SaysZ fbL fnL csL K) : (exmB "BadNumber" "StopError") K = true := c.fact 52
theorem fact_k_BB (c : SaysZ fbL fnL csL K) : (kitB "BadBits" "BadBits") K = true := c.fact 53
theorem fact_k_NN (c : SaysZ fbL fnL csL K) : (kitB "BadNumber" "BadNumber") K = true := c.fact 54
theorem fact_k_BN (c : SaysZ fbL fnL csL K) : (kitF "BadBits" "BadNumber") K = true := c.fact 55
theorem fact_k_NB (c : SaysZ fbL fnL csL K) : (kitF "BadNumber" "BadBits") K = true := c.fact 56
theorem fact_k_BV (c : SaysZ fbL fnL csL K) : (kitT "BadBits" "ValueError") K = true := c.fact 57
theorem fact_a_at (c : SaysZ fbL fnL csL K) : (noatB "BadBits" "at") K = true := c.fact 58
theorem def_is_number (c : SaysZ fbL fnL csL K) : ∃ fd, FunD K "is_number" "is_number" (defArgs s_is_number) (defBody s_is_number) (defScope s_is_number) [] [] (He.ga K "is_number") fd := c.def_ 0 (d := d_is_number) rfl
theorem def_count_of (c : SaysZ fbL fnL csL K) : ∃ fd, FunD K "count_of" "count_of" (defArgs s_count_of) (defBody s_count_of) (defScope s_count_of) [] [] (He.ga K "count_of") fd := c.def_ 1 (d := d_count_of) rfl
theorem def_count_bits (c : SaysZ fbL fnL csL K) : ∃ fd, FunD K "count_bits" "count_bits" (defArgs s_count_bits) (defBody s_count_bits) (defScope s_count_bits) [] [] (He.ga K "count_bits") fd := c.def_ 2 (d := d_count_bits) rfl
theorem def_number_written (c : SaysZ fbL fnL csL K) : ∃ fd, FunD K "number_written" "number_written" (defArgs s_number_written) (defBody s_number_written) (defScope s_number_written) [] [] (He.ga K "number_written") fd := c.def_ 3 (d := d_number_written) rfl
theorem def_number_bits (c : SaysZ fbL fnL csL K) : ∃ fd, FunD K "number_bits" "number_bits" (defArgs s_number_bits) (defBody s_number_bits) (defScope s_number_bits) [] [] (He.ga K "number_bits") fd := c.def_ 4 (d := d_number_bits) rfl
theorem def_is_bits (c : SaysZ fbL fnL csL K) : ∃ fd, FunD K "is_bits" "is_bits" (defArgs s_is_bits) (defBody s_is_bits) (defScope s_is_bits) [] [] (He.ga K "is_bits") fd := c.def_ 5 (d := d_is_bits) rfl
theorem def_need_bits (c : SaysZ fbL fnL csL K) : ∃ fd, FunD K "need_bits" "need_bits" (defArgs s_need_bits) (defBody s_need_bits) (defScope s_need_bits) [] [] (He.ga K "need_bits") fd := c.def_ 6 (d := d_need_bits) rfl
theorem def_need_index (c : SaysZ fbL fnL csL K) : ∃ fd, FunD K "need_index" "need_index" (defArgs s_need_index) (defBody s_need_index) (defScope s_need_index) [] [] (He.ga K "need_index") fd := c.def_ 7 (d := d_need_index) rfl
theorem def_count_at (c : SaysZ fbL fnL csL K) : ∃ fd, FunD K "count_at" "count_at" (defArgs s_count_at) (defBody s_count_at) (defScope s_count_at) [] [] (He.ga K "count_at") fd := c.def_ 8 (d := d_count_at) rfl
theorem def_number_at (c : SaysZ fbL fnL csL K) : ∃ fd, FunD K "number_at" "number_at" (defArgs s_number_at) (defBody s_number_at) (defScope s_number_at) [] [] (He.ga K "number_at") fd := c.def_ 9 (d := d_number_at) rfl
theorem def_read_count (c : SaysZ fbL fnL csL K) : ∃ fd, FunD K "read_count" "read_count" (defArgs s_read_count) (defBody s_read_count) (defScope s_read_count) [] [] (He.ga K "read_count") fd := c.def_ 10 (d := d_read_count) rfl
theorem def_read_number (c : SaysZ fbL fnL csL K) : ∃ fd, FunD K "read_number" "read_number" (defArgs s_read_number) (defBody s_read_number) (defScope s_read_number) [] [] (He.ga K "read_number") fd := c.def_ 11 (d := d_read_number) rfl
theorem def__law_begun (c : SaysZ fbL fnL csL K) : ∃ fd, FunD K "_law_begun" "_law_begun" (defArgs s_law_begun) (defBody s_law_begun) (defScope s_law_begun) [] [] (He.ga K "_law_begun") fd := c.def_ 12 (d := d__law_begun) rfl
theorem def__law_mixed (c : SaysZ fbL fnL csL K) : ∃ fd, FunD K "_law_mixed" "_law_mixed" (defArgs s_law_mixed) (defBody s_law_mixed) (defScope s_law_mixed) [] [] (He.ga K "_law_mixed") fd := c.def_ 13 (d := d__law_mixed) rfl
theorem def__law_take (c : SaysZ fbL fnL csL K) : ∃ fd, FunD K "_law_take" "_law_take" (defArgs s_law_take) (defBody s_law_take) (defScope s_law_take) [] [] (He.ga K "_law_take") fd := c.def_ 14 (d := d__law_take) rfl
theorem def__law_pick (c : SaysZ fbL fnL csL K) : ∃ fd, FunD K "_law_pick" "_law_pick" (defArgs s_law_pick) (defBody s_law_pick) (defScope s_law_pick) [] [] (He.ga K "_law_pick") fd := c.def_ 15 (d := d__law_pick) rfl
theorem def__law_figure (c : SaysZ fbL fnL csL K) : ∃ fd, FunD K "_law_figure" "_law_figure" (defArgs s_law_figure) (defBody s_law_figure) (defScope s_law_figure) [] [] (He.ga K "_law_figure") fd := c.def_ 16 (d := d__law_figure) rfl
theorem def__law_digits (c : SaysZ fbL fnL csL K) : ∃ fd, FunD K "_law_digits" "_law_digits" (defArgs s_law_digits) (defBody s_law_digits) (defScope s_law_digits) [] [] (He.ga K "_law_digits") fd := c.def_ 17 (d := d__law_digits) rfl
theorem def__law_count (c : SaysZ fbL fnL csL K) : ∃ fd, FunD K "_law_count" "_law_count" (defArgs s_law_count) (defBody s_law_count) (defScope s_law_count) [] [] (He.ga K "_law_count") fd := c.def_ 18 (d := d__law_count) rfl
theorem def__law_signed (c : SaysZ fbL fnL csL K) : ∃ fd, FunD K "_law_signed" "_law_signed" (defArgs s_law_signed) (defBody s_law_signed) (defScope s_law_signed) [] [] (He.ga K "_law_signed") fd := c.def_ 19 (d := d__law_signed) rfl
theorem def__law_bits (c : SaysZ fbL fnL csL K) : ∃ fd, FunD K "_law_bits" "_law_bits" (defArgs s_law_bits) (defBody s_law_bits) (defScope s_law_bits) [] [] (He.ga K "_law_bits") fd := c.def_ 20 (d := d__law_bits) rfl
theorem def__law_read (c : SaysZ fbL fnL csL K) : ∃ fd, FunD K "_law_read" "_law_read" (defArgs s_law_read) (defBody s_law_read) (defScope s_law_read) [] [] (He.ga K "_law_read") fd := c.def_ 21 (d := d__law_read) rfl
theorem def__law_value (c : SaysZ fbL fnL csL K) : ∃ fd, FunD K "_law_value" "_law_value" (defArgs s_law_value) (defBody s_law_value) (defScope s_law_value) [] [] (He.ga K "_law_value") fd := c.def_ 22 (d := d__law_value) rfl
theorem def__law_outcome (c : SaysZ fbL fnL csL K) : ∃ fd, FunD K "_law_outcome" "_law_outcome" (defArgs s_law_outcome) (defBody s_law_outcome) (defScope s_law_outcome) [] [] (He.ga K "_law_outcome") fd := c.def_ 23 (d := d__law_outcome) rfl
theorem def__law_edge (c : SaysZ fbL fnL csL K) : ∃ fd, FunD K "_law_edge" "_law_edge" (defArgs s_law_edge) (defBody s_law_edge) (defScope s_law_edge) [] [] (He.ga K "_law_edge") fd := c.def_ 24 (d := d__law_edge) rfl
theorem def__law_signed_at (c : SaysZ fbL fnL csL K) : ∃ fd, FunD K "_law_signed_at" "_law_signed_at" (defArgs s_law_signed_at) (defBody s_law_signed_at) (defScope s_law_signed_at) [] [] (He.ga K "_law_signed_at") fd := c.def_ 25 (d := d__law_signed_at) rfl
theorem def__law_written_right (c : SaysZ fbL fnL csL K) : ∃ fd, FunD K "_law_written_right" "_law_written_right" (defArgs s_law_written_right) (defBody s_law_written_right) (defScope s_law_written_right) [] [] (He.ga K "_law_written_right") fd := c.def_ 26 (d := d__law_written_right) rfl
theorem def__law_refused (c : SaysZ fbL fnL csL K) : ∃ fd, FunD K "_law_refused" "_law_refused" (defArgs s_law_refused) (defBody s_law_refused) (defScope s_law_refused) [] [] (He.ga K "_law_refused") fd := c.def_ 27 (d := d__law_refused) rfl
theorem def_law (c : SaysZ fbL fnL csL K) : ∃ fd, FunD K "law" "law" (defArgs s_law) (defBody s_law) (defScope s_law) [] [] (He.ga K "law") fd := c.def_ 28 (d := d_law) rfl
theorem ini_BadBits (c : SaysZ fbL fnL csL K) : fnSW K "BadBits" = (i_BadBits).val := c.ini (d := i_BadBits) (List.mem_of_getElem? (i := 0) rfl)
end
section
abbrev LW : PySem.W.OpenLaw := PySem.Challenge.rw_stopanywhere_k82_numbers_in_bits
theorem nkF {K : PySem.W.Frag} {h : Heap} {mg : Str → Option Value} (X : K.In h) (G : h.Ns mainGlobals mg) (c : SaysZ fbL fnL csL K) : NkF K mg where
  isi := He.free_ok X G (fact_f_isinstance c)
  int := He.free_ok X G (fact_f_int c)
  str := He.free_ok X G (fact_f_str c)
  len := He.free_ok X G (fact_f_len c)
  bool := He.free_ok X G (fact_f_bool c)
theorem ouF {K : PySem.W.Frag} {h : Heap} {mg : Str → Option Value} (X : K.In h) (G : h.Ns mainGlobals mg) (c : SaysZ fbL fnL csL K) : OuF K mg (He.ga K "StopError") (He.ga K "BadBits") (He.ga K "BadNumber") where
  gS := He.glo_ok X G (fact_g_StopError c)
  gB := He.glo_ok X G (fact_g_BadBits c)
  gN := He.glo_ok X G (fact_g_BadNumber c)
  xB := He.exm_ok (fact_x_BadBits c)
  xN := He.exm_ok (fact_x_BadNumber c)
  rB := excRB_ok (fact_r_BadBits c)
  rN := excRB_ok (fact_r_BadNumber c)
  iBB := of_decide_eq_true (fact_k_BB c)
  iBV := of_decide_eq_true (fact_k_BV c)
  iBN := of_decide_eq_true (fact_k_BN c)
  iNB := of_decide_eq_true (fact_k_NB c)
  iNN := of_decide_eq_true (fact_k_NN c)
  nA := He.eqO_ok (fact_a_at c)
  ve := He.free_ok X G (fact_f_ValueError c)
theorem one_binds {K : PySem.W.Frag} {x qual a : Str} {params : Arguments} {body : List Stmt} {scope : Scope} {f : Addr} {fd : FuncData} (F : FunD K x qual params body scope [] [] f fd)
    (h : ∀ (kV doc pm : Value) (an : Option Addr) (cdv ct : Value) (u : Value), bindArgs (PySem.W.fnOf x qual params body scope .none kV doc pm an cdv ct) ⟨[u], []⟩ = pure [(a, u)]) : Binds K fd [a] [] :=
  F.bindsN fun kV doc pm an cdv ct us hl => match us, hl with | [u], _ => h kV doc pm an cdv ct u
theorem two_binds {K : PySem.W.Frag} {x qual a b : Str} {params : Arguments} {body : List Stmt} {scope : Scope} {f : Addr} {fd : FuncData} (F : FunD K x qual params body scope [] [] f fd)
    (h : ∀ (kV doc pm : Value) (an : Option Addr) (cdv ct : Value) (u v : Value), bindArgs (PySem.W.fnOf x qual params body scope .none kV doc pm an cdv ct) ⟨[u, v], []⟩ = pure [(a, u), (b, v)]) : Binds K fd [a, b] [] :=
  F.bindsN fun kV doc pm an cdv ct us hl => match us, hl with | [u, v], _ => h kV doc pm an cdv ct u v
theorem law_at {w : World} {K : PySem.W.Frag} {h : Heap} {mg : Str → Option Value} {fa : Addr} (X : K.In h) (G : h.Ns mainGlobals mg) (c : SaysZ fbL fnL csL K) (T : TabsZ tsL K h) (hfa : mg "law" = some (.ref fa)) : LawAtZ LW w 7 63 "_law_script" mg fa h := by
  have e := hfa.symm.trans (He.glo_ok X G (fact_g_law c))
  cases e
  obtain ⟨fd, F⟩ := def_law c
  refine ⟨K, fd, [], spLaw K, X, ?_, ?_, ?_, fun s u => F.bindsA (ps := ["_law_script"]) (fun _ _ _ _ _ _ us hl => match us, hl with | [_], _ => rfl) s [u] rfl, fun H a ns hl hH hS => ⟨a, ns, rfl, hS, hl, fun _ => rfl⟩, fun base KX GX hB => ?_⟩
  · exact fun p hp => nomatch hp
  · exact fun p hp => nomatch hp
  · exact fun p hp => nomatch hp
  · have g := nkF X G c
    have ou := ouF X G c
    obtain ⟨f1, F1⟩ := def_is_number c
    obtain ⟨f2, F2⟩ := def_count_of c
    obtain ⟨f3, F3⟩ := def_count_bits c
    obtain ⟨f4, F4⟩ := def_number_written c
    obtain ⟨f5, F5⟩ := def_number_bits c
    obtain ⟨f6, F6⟩ := def_is_bits c
    obtain ⟨f7, F7⟩ := def_need_bits c
    obtain ⟨f8, F8⟩ := def_need_index c
    obtain ⟨f9, F9⟩ := def_count_at c
    obtain ⟨f10, F10⟩ := def_number_at c
    obtain ⟨f11, F11⟩ := def_read_count c
    obtain ⟨f12, F12⟩ := def_read_number c
    obtain ⟨g1, G1⟩ := def__law_begun c
    obtain ⟨g2, G2⟩ := def__law_mixed c
    obtain ⟨g3, G3⟩ := def__law_take c
    obtain ⟨g4, G4⟩ := def__law_pick c
    obtain ⟨g5, G5⟩ := def__law_figure c
    obtain ⟨g6, G6⟩ := def__law_digits c
    obtain ⟨g7, G7⟩ := def__law_count c
    obtain ⟨g8, G8⟩ := def__law_signed c
    obtain ⟨g9, G9⟩ := def__law_bits c
    obtain ⟨g10, G10⟩ := def__law_read c
    obtain ⟨g11, G11⟩ := def__law_value c
    obtain ⟨g12, G12⟩ := def__law_outcome c
    obtain ⟨g13, G13⟩ := def__law_edge c
    obtain ⟨g14, G14⟩ := def__law_signed_at c
    obtain ⟨g15, G15⟩ := def__law_written_right c
    obtain ⟨g16, G16⟩ := def__law_refused c
    have su := He.free_ok X G (fact_f_super c)
    have mi := He.free_ok X G (fact_f_int c)
    have ma := He.free_ok X G (fact_f_abs c)
    have ml := He.free_ok X G (fact_f_len c)
    obtain ⟨iC, tI, cc, cda, fi, FI⟩ := supB_ok (P := LW.prog) (mg := mg) (d := i_BadBits) (ini_BadBits c) (fact_sup_BadBits c) (by decide +kernel) su
    have OI := ok_bb (P := LW.prog) (w := w) (base := base) FI (oexB_ok (fact_o_BadBits c)) (He.eqO_ok (fact_a_at c))
    have bI : Binds K fi ["self", "at"] [] := FI.binds (fact_dfl_BadBits c) fun _ _ _ _ _ us hl => match us, hl with | [_, _], _ => rfl
    have bbx : Ix1 LW.prog w K mg base "BadBits" (He.ga K "BadBits") "at" := ⟨ou.gB, oexB_ok (fact_o_BadBits c), _, fi, iC, tI, OI, bI⟩
    have bnx : PlnX K mg "BadNumber" (He.ga K "BadNumber") := ⟨ou.gN, fact_n_BadNumber c, oexB_ok (fact_o_BadNumber c)⟩
    -- the program's defs
    have o4 : FnOk LW.prog w K mg base CX0 2 _ f4 ["number"] spWrit := ok_written F4 F2 (He.glo_ok X G (fact_g_count_of c)) g
    have b4 : Binds K f4 ["number"] [] := one_binds F4 fun _ _ _ _ _ _ _ => rfl
    have o3 := ok_count_bits (P := LW.prog) (w := w) (base := base) F3 F1 (He.glo_ok X G (fact_g_is_number c)) F2 (He.glo_ok X G (fact_g_count_of c)) g bnx
    have b3 : Binds K f3 ["number"] [] := one_binds F3 fun _ _ _ _ _ _ _ => rfl
    have k3 := FunD.kbindsA F3 (ps := ["number"]) fun _ _ _ _ _ _ us hl => match us, hl with | [_], _ => rfl
    have o5 := ok_number_bits (P := LW.prog) (w := w) (base := base) F5 F1 (He.glo_ok X G (fact_g_is_number c)) F4.kp (He.glo_ok X G (fact_g_number_written c)) b4 o4 g bnx
    have b5 : Binds K f5 ["number"] [] := one_binds F5 fun _ _ _ _ _ _ _ => rfl
    have k5 := FunD.kbindsA F5 (ps := ["number"]) fun _ _ _ _ _ _ us hl => match us, hl with | [_], _ => rfl
    have o7 := ok_need_bits (P := LW.prog) (w := w) (base := base) F7 F6 (He.glo_ok X G (fact_g_is_bits c)) g bbx
    have b7 : Binds K f7 ["bits"] [] := one_binds F7 fun _ _ _ _ _ _ _ => rfl
    have o8 := ok_need_index (P := LW.prog) (w := w) (base := base) F8 F1 (He.glo_ok X G (fact_g_is_number c)) g bnx
    have b8 : Binds K f8 ["bits", "at"] [] := two_binds F8 fun _ _ _ _ _ _ _ _ => rfl
    have rdf : RdF LW.prog w K mg base (He.ga K "BadBits") (He.ga K "BadNumber") := ⟨⟨_, f7, He.glo_ok X G (fact_g_need_bits c), F7.kp, b7, o7⟩, ⟨_, f8, He.glo_ok X G (fact_g_need_index c), F8.kp, b8, o8⟩⟩
    have o9 : FnOk LW.prog w K mg base CX0 1 _ f9 ["registers", "bits", "at"] (spAt rdI) := ok_count_at F9 g
    have b9 : Binds K f9 ["registers", "bits", "at"] [] := F9.bindsN fun _ _ _ _ _ _ us hl => match us, hl with | [_, _, _], _ => rfl
    have o10 : FnOk LW.prog w K mg base CX0 2 _ f10 ["registers", "bits", "at"] (spAt rdS) := ok_number_at F10 F9 (He.glo_ok X G (fact_g_count_at c)) g
    have b10 : Binds K f10 ["registers", "bits", "at"] [] := F10.bindsN fun _ _ _ _ _ _ us hl => match us, hl with | [_, _, _], _ => rfl
    have o11 := ok_read_count F11 rdf F9.kp (He.glo_ok X G (fact_g_count_at c)) b9 o9
    have b11 : Binds K f11 ["bits", "at"] [] := two_binds F11 fun _ _ _ _ _ _ _ _ => rfl
    have k11 := FunD.kbindsR F11 (a := "bits") (b := "at") fun _ _ _ _ _ _ _ _ => rfl
    have o12 := ok_read_number F12 rdf F10.kp (He.glo_ok X G (fact_g_number_at c)) b10 o10
    have b12 : Binds K f12 ["bits", "at"] [] := two_binds F12 fun _ _ _ _ _ _ _ _ => rfl
    have k12 := FunD.kbindsR F12 (a := "bits") (b := "at") fun _ _ _ _ _ _ _ _ => rfl
    -- the law's defs
    have w3 : FnOk LW.prog w K mg base CX0 2 _ g3 ["_law_draw", "_law_many"] spTake := ok_take G3 G2 (He.glo_ok X G (fact_g__law_mixed c)) mi
    have c3 : Binds K g3 ["_law_draw", "_law_many"] [] := two_binds G3 fun _ _ _ _ _ _ _ _ => rfl
    have w4 : FnOk LW.prog w K mg base CX0 3 _ g4 ["_law_draw", "_law_some"] (spPick K) := ok_pick G4 (He.glo_ok X G (fact_g__law_take c)) G3.kp c3 w3 ml
    have c4 : Binds K g4 ["_law_draw", "_law_some"] [] := two_binds G4 fun _ _ _ _ _ _ _ _ => rfl
    have dr : DrF LW.prog w K mg base := ⟨⟨_, g3, He.glo_ok X G (fact_g__law_take c), G3.kp, c3, w3⟩, ⟨_, g4, He.glo_ok X G (fact_g__law_pick c), G4.kp, c4, w4⟩, He.free_ok X G (fact_f_range c)⟩
    have w1 : FnOk LW.prog w K mg base CX0 1 _ g1 ["_law_script"] (spBegun K) := ok_begun G1 mi ma
    have w7 : FnOk LW.prog w K mg base CX0 2 _ g7 ["_law_number"] spLCnt := ok_lcount G7 G6 (He.glo_ok X G (fact_g__law_digits c)) g (He.free_ok X G (fact_f_range c))
    have c7 : Binds K g7 ["_law_number"] [] := one_binds G7 fun _ _ _ _ _ _ _ => rfl
    have w8 : FnOk LW.prog w K mg base CX0 3 _ g8 ["_law_number"] spWrit := ok_lsigned G8 G7.kp (He.glo_ok X G (fact_g__law_count c)) c7 w7
    have w9 := ok_lbits G9 dr
    have w10 := ok_lread (P := LW.prog) (w := w) (base := base) G10 G11 (He.glo_ok X G (fact_g__law_value c)) g
    have c10 : Binds K g10 ["_law_bits_here", "_law_at"] [] := two_binds G10 fun _ _ _ _ _ _ _ _ => rfl
    have w14 := ok_lsat (P := LW.prog) (w := w) (base := base) G14 G10.kp (He.glo_ok X G (fact_g__law_read c)) c10 w10 g
    have w12 := ok_out (P := LW.prog) (w := w) (base := base) G12 g ou
    have w13 := ok_edge G13 G5 (He.glo_ok X G (fact_g__law_figure c)) dr ma
    have wr : WrF LW.prog w K mg base (He.ga K "BadBits") (He.ga K "BadNumber") := ⟨g, smdB_ok (fact_smd c), dr, He.free_ok X G (fact_f_repr c), ma, ⟨_, g8, He.glo_ok X G (fact_g__law_signed c), G8.kp, one_binds G8 fun _ _ _ _ _ _ _ => rfl, w8⟩, ⟨_, g9, He.glo_ok X G (fact_g__law_bits c), G9.kp, two_binds G9 fun _ _ _ _ _ _ _ _ => rfl, w9⟩,
      ⟨_, g7, He.glo_ok X G (fact_g__law_count c), G7.kp, c7, w7⟩, ⟨_, g10, He.glo_ok X G (fact_g__law_read c), G10.kp, c10, w10⟩, ⟨_, g14, He.glo_ok X G (fact_g__law_signed_at c), G14.kp, two_binds G14 fun _ _ _ _ _ _ _ _ => rfl, w14⟩,
      ⟨_, f5, He.glo_ok X G (fact_g_number_bits c), F5.kp, b5, k5, o5⟩, ⟨_, f3, He.glo_ok X G (fact_g_count_bits c), F3.kp, b3, k3, o3⟩, ⟨_, f12, He.glo_ok X G (fact_g_read_number c), F12.kp, b12, k12, o12⟩, ⟨_, f11, He.glo_ok X G (fact_g_read_count c), F11.kp, b11, k11, o11⟩⟩
    have w15 := ok_right G15 wr
    have w16 := ok_refd G16 ⟨wr, ⟨_, g12, He.glo_ok X G (fact_g__law_outcome c), G12.kp, two_binds G12 fun _ _ _ _ _ _ _ _ => rfl, w12⟩⟩
    exact ok_law F ⟨wr, ⟨_, g1, He.glo_ok X G (fact_g__law_begun c), G1.kp, one_binds G1 fun _ _ _ _ _ _ _ => rfl, w1⟩, ⟨_, g13, He.glo_ok X G (fact_g__law_edge c), G13.kp, one_binds G13 fun _ _ _ _ _ _ _ => rfl, w13⟩, ⟨_, g15, He.glo_ok X G (fact_g__law_written_right c), G15.kp, two_binds G15 fun _ _ _ _ _ _ _ _ => rfl, w15⟩, ⟨_, g16, He.glo_ok X G (fact_g__law_refused c), G16.kp, one_binds G16 fun _ _ _ _ _ _ _ => rfl, w16⟩⟩
end
end My
open PySem PySem.W PySem.Calls PyProof.Rows
set_option maxHeartbeats 0 in
theorem PySem.Challenge.cw_stopanywhere_k82_numbers_in_bits_holds : PySem.Challenge.rw_stopanywhere_k82_numbers_in_bits.Holds := by
  w_on; o_law
  refine HandSHeadRun.head_any (r := OpenLaw.row PySem.Challenge.rw_stopanywhere_k82_numbers_in_bits) (q := view (OpenLaw.row PySem.Challenge.rw_stopanywhere_k82_numbers_in_bits).prog [35]) (H := My.hk) (ob := My.ob) (M := 60000) (loose := My.looseL) (d := HandSHeadRun.topDef (OpenLaw.row PySem.Challenge.rw_stopanywhere_k82_numbers_in_bits).prog 35) (kwd := []) My.ob_eq
    (by kernel_rfl) (fun s => by kernel_rfl) My.run (by kernel_rfl) (by kernel_rfl) (by kernel_rfl) (by rfl) (by first | assumption | decide +kernel) (by decide +kernel) ⟨rfl, rfl, rfl, rfl, rfl, by decide +kernel⟩ ?hw ?hc
  case hw => w_witness2
  case hc =>
    refine My.walk_ofZ (l := PySem.Challenge.rw_stopanywhere_k82_numbers_in_bits) (n := 63) (k := 7) (x := "_law_script") rfl (by decide) (by kernel_rfl) ⟨rfl, by decide, by decide⟩ ?F
    intro w mg fa h Y G hmg0
    obtain ⟨K, KX, c, T⟩ := Y
    have hmg : mg ("law" : PySem.Str) = some (.ref fa) := by
      have e : (HandSHeadRun.topDef (OpenLaw.row PySem.Challenge.rw_stopanywhere_k82_numbers_in_bits).prog 35).name = ("law" : PySem.Str) := by kernel_rfl
      rw [← e]
      exact hmg0
    exact My.law_at KX G c T hmg
