import PyProof.Rows.All
import Wide.All
import OpenK.AllK
import Wide.FinOn
import KE.KStateDown
import KE.KExcSuper
import Lean
import HandS.ForMost
import HandS.More
import HandS.WordsExc
import HandS.Defaults
import HandS.Head0
import HandS.Head1
import HandS.Head2
import HandS.HeadEnd
import HandS.HeadHook1
import HandS.HeadHook2
import HandS.HeadHook4
import HandS.IsInst
import HandS.ExcIs
import HandS.ExcInit
import HandS.ExcValue
import HandS.Strs
import HandS.Lambda
import HandS.Walk
import HandS.Flow
import HandS.Deep
import HandS.Style
import HandS.MakeKwOnly
import PySem.Challenge.RW_stopanywhere_k01_words_of_texts
set_option Elab.async false
set_option linter.all false
set_option maxRecDepth 100000
set_option maxHeartbeats 4000000
namespace My
open PySem L2
def top (i : Nat) : Stmt := PySem.Challenge.pw_stopanywhere_k01_words_of_texts.main.body.getD i (.Pass ⟨0, 0, 0, 0⟩)
abbrev s_BadText___init__ : Stmt := inClass (top 3) 0
abbrev s_is_name : Stmt := top 10
abbrev s_is_number_word : Stmt := top 11
abbrev s_is_text : Stmt := top 12
abbrev s_word_size : Stmt := top 13
abbrev s_cut : Stmt := top 14
abbrev s_sort_told : Stmt := top 15
abbrev s_sort_of : Stmt := top 16
abbrev s_words_of : Stmt := top 18
abbrev s_law_begun : Stmt := top 20
abbrev s_law_mixed : Stmt := top 21
abbrev s_law_take : Stmt := top 22
abbrev s_law_pick : Stmt := top 23
abbrev s_law_kept : Stmt := top 24
abbrev s_law_is_small : Stmt := top 25
abbrev s_law_is_name : Stmt := top 26
abbrev s_law_sort : Stmt := top 27
abbrev s_law_caught : Stmt := top 28
abbrev s_law_inner : Stmt := top 29
abbrev s_law_word_at : Stmt := top 30
abbrev s_law_cut : Stmt := top 31
abbrev s_law_refused_right : Stmt := top 32
abbrev s_law : Stmt := top 33

/-! ## the visible heap -/
/-- from the visible H0 (of H) to the visible H0' (of H') -/
structure Vs (H0 H H0' H' : Hp) : Prop where
  grow : Same H0 H0'
  sub : Same H0' H'
  old : ∀ b o, H0' b = some o → H0 b = some o ∨ H b = none
theorem Vs.refl {H0 H : Hp} (s : Same H0 H) : Vs H0 H H0 H := ⟨Same.refl _, s, fun _ _ e => .inl e⟩
theorem free_mono {H0 H : Hp} (s : Same H0 H) {p : Addr} (h : H p = none) : H0 p = none := s.free h
theorem same_upd {H0 H : Hp} (s : Same H0 H) (p : Addr) (o : HO) : Same (upd H0 p o) (upd H p o) := fun b u e => by
  by_cases hb : b = p
  · rw [hb, upd_same] at e ⊢; exact e
  · rw [upd_ne hb] at e ⊢; exact s b u e
theorem same_new {H : Hp} {p : Addr} {o : HO} (h : H p = none) : Same H (upd H p o) := fun b u e => by
  rw [upd_ne (ne_of_none e h)]; exact e
theorem same_sub {H0 H : Hp} (s : Same H0 H) {p : Addr} {o : HO} (h : H0 p = none) : Same H0 (upd H p o) := fun b u e => by
  rw [upd_ne (ne_of_none e h)]; exact s b u e

/-! ## draws -/
def kWide : Key := Sum.inr "wide"
def kCells : Key := Sum.inr "cells"
def kRest : Key := Sum.inr "rest"
def kTurn : Key := Sum.inr "turn"
def drK (w c : Addr) (rest turn : Int) : List (Key × V) := [(kWide, .ref w), (kCells, .ref c), (kRest, .int rest), (kTurn, .int turn)]
theorem ne_cw : ¬ kCells = kWide := by unfold kCells kWide; decide +kernel
theorem ne_rw : ¬ kRest = kWide := by unfold kRest kWide; decide +kernel
theorem ne_tw : ¬ kTurn = kWide := by unfold kTurn kWide; decide +kernel
theorem ne_rc : ¬ kRest = kCells := by unfold kRest kCells; decide +kernel
theorem ne_tc : ¬ kTurn = kCells := by unfold kTurn kCells; decide +kernel
theorem ne_tr : ¬ kTurn = kRest := by unfold kTurn kRest; decide +kernel
theorem dr_wide (w c : Addr) (r t : Int) : valV (drK w c r t) kWide = some (.ref w) := valV_pos rfl
theorem dr_cells (w c : Addr) (r t : Int) : valV (drK w c r t) kCells = some (.ref c) := by
  unfold drK; rw [valV_neg (Ne.symm ne_cw)]; exact valV_pos rfl
theorem dr_rest (w c : Addr) (r t : Int) : valV (drK w c r t) kRest = some (.int r) := by
  unfold drK; rw [valV_neg (Ne.symm ne_rw), valV_neg (Ne.symm ne_rc)]; exact valV_pos rfl
theorem dr_turn (w c : Addr) (r t : Int) : valV (drK w c r t) kTurn = some (.int t) := by
  unfold drK; rw [valV_neg (Ne.symm ne_tw), valV_neg (Ne.symm ne_tc), valV_neg (Ne.symm ne_tr)]; exact valV_pos rfl
theorem dr_putRest (w c : Addr) (r t x : Int) : putK (drK w c r t) kRest (.int x) = drK w c x t := by
  have e1 : ((drK w c r t).any fun kv => decide (kv.1 = kRest)) = true := by rw [valV_any, dr_rest]; rfl
  unfold putK
  rw [if_pos e1]
  unfold drK
  simp only [List.map_cons, List.map_nil]
  rw [if_neg (Ne.symm ne_rw), if_neg (Ne.symm ne_rc), if_pos True.intro, if_neg ne_tr]
theorem dr_putTurn (w c : Addr) (r t x : Int) : putK (drK w c r t) kTurn (.int x) = drK w c r x := by
  have e1 : ((drK w c r t).any fun kv => decide (kv.1 = kTurn)) = true := by rw [valV_any, dr_turn]; rfl
  unfold putK
  rw [if_pos e1]
  unfold drK
  simp only [List.map_cons, List.map_nil]
  rw [if_neg (Ne.symm ne_tw), if_neg (Ne.symm ne_tc), if_neg (Ne.symm ne_tr), if_pos True.intro]
theorem dr_made (w c : Addr) (r t : Int) : mergeK [] (drK w c r t) = drK w c r t := by
  have a1 : putK [] kWide (.ref w) = [(kWide, .ref w)] := putK_new _ valV_nil
  have a2 : putK [(kWide, .ref w)] kCells (.ref c) = [(kWide, .ref w), (kCells, .ref c)] := putK_new _ (by rw [valV_neg (Ne.symm ne_cw)]; exact valV_nil)
  have a3 : putK [(kWide, .ref w), (kCells, .ref c)] kRest (.int r) = [(kWide, .ref w), (kCells, .ref c), (kRest, .int r)] := putK_new _ (by rw [valV_neg (Ne.symm ne_rw), valV_neg (Ne.symm ne_rc)]; exact valV_nil)
  have a4 : putK [(kWide, .ref w), (kCells, .ref c), (kRest, .int r)] kTurn (.int t) = drK w c r t := putK_new _ (by rw [valV_neg (Ne.symm ne_tw), valV_neg (Ne.symm ne_tc), valV_neg (Ne.symm ne_tr)]; exact valV_nil)
  show putK (putK (putK (putK [] kWide (.ref w)) kCells (.ref c)) kRest (.int r)) kTurn (.int t) = drK w c r t
  rw [a1, a2, a3, a4]
/-- what the drawing dict at d holds, with its lists at w and c -/
structure DrD (H : Hp) (d w c : Addr) (ws cs : List Int) (rest turn : Int) : Prop where
  hd : H d = some (.dK (drK w c rest turn))
  hw : H w = some (.lst (ws.map V.int))
  hc : H c = some (.lst (cs.map V.int))
  wc : w ≠ c
  wl : ws.length ≤ 63
  wn : ∀ x ∈ ws, 0 ≤ x
  cl : cs.length ≤ 63
  rn : 0 ≤ rest
  tn : 0 ≤ turn
/-- H0 is seen of H, the drawing dict at d is not -/
def Dw (t : Nat) (H0 H : Hp) (d : Addr) : Prop := Same H0 H ∧ ∃ (w c : Addr) (ws cs : List Int) (rest turn : Int), H0 d = none ∧ H0 w = none ∧ H0 c = none ∧ turn ≤ t ∧ DrD H d w c ws cs rest turn
theorem Dw.same {t : Nat} {H0 H : Hp} {d : Addr} (h : Dw t H0 H d) : Same H0 H := h.1
theorem Dw.mono {t t' : Nat} {H0 H : Hp} {d : Addr} (h : Dw t H0 H d) (l : t ≤ t') : Dw t' H0 H d := by
  obtain ⟨s, w, c, ws, cs, rest, turn, h1, h2, h3, ht, D⟩ := h
  exact ⟨s, w, c, ws, cs, rest, turn, h1, h2, h3, by omega, D⟩
theorem DrD.updo {H : Hp} {d w c p : Addr} {o : HO} {ws cs : List Int} {rest turn : Int} (h : DrD H d w c ws cs rest turn) (n1 : p ≠ d) (n2 : p ≠ w) (n3 : p ≠ c) : DrD (upd H p o) d w c ws cs rest turn :=
  ⟨by rw [upd_ne (Ne.symm n1)]; exact h.hd, by rw [upd_ne (Ne.symm n2)]; exact h.hw, by rw [upd_ne (Ne.symm n3)]; exact h.hc, h.wc, h.wl, h.wn, h.cl, h.rn, h.tn⟩
theorem DrD.same {H H' : Hp} {d w c : Addr} {ws cs : List Int} {rest turn : Int} (h : DrD H d w c ws cs rest turn) (s : Same H H') : DrD H' d w c ws cs rest turn :=
  ⟨s _ _ h.hd, s _ _ h.hw, s _ _ h.hc, h.wc, h.wl, h.wn, h.cl, h.rn, h.tn⟩
/-- a new object -/
theorem Dw.new {t : Nat} {H0 H : Hp} {d p : Addr} {o : HO} (h : Dw t H0 H d) (hp : H p = none) : Dw t (upd H0 p o) (upd H p o) d := by
  obtain ⟨s, w, c, ws, cs, rest, turn, h1, h2, h3, ht, D⟩ := h
  have n1 : d ≠ p := ne_of_none D.hd hp
  have n2 : w ≠ p := ne_of_none D.hw hp
  have n3 : c ≠ p := ne_of_none D.hc hp
  exact ⟨same_upd s p o, w, c, ws, cs, rest, turn, by rw [upd_ne n1]; exact h1, by rw [upd_ne n2]; exact h2, by rw [upd_ne n3]; exact h3, ht, D.updo n1.symm n2.symm n3.symm⟩
/-- an object that is seen is changed -/
theorem Dw.set {t : Nat} {H0 H : Hp} {d p : Addr} {o o' : HO} (h : Dw t H0 H d) (hp : H0 p = some o) : Dw t (upd H0 p o') (upd H p o') d := by
  obtain ⟨s, w, c, ws, cs, rest, turn, h1, h2, h3, ht, D⟩ := h
  have n1 : p ≠ d := ne_of_none hp h1
  have n2 : p ≠ w := ne_of_none hp h2
  have n3 : p ≠ c := ne_of_none hp h3
  exact ⟨same_upd s p o', w, c, ws, cs, rest, turn, by rw [upd_ne n1.symm]; exact h1, by rw [upd_ne n2.symm]; exact h2, by rw [upd_ne n3.symm]; exact h3, ht, D.updo n1 n2 n3⟩
/-- behind what only adds -/
theorem Dw.go {t : Nat} {H0 H H0' H' : Hp} {d : Addr} (h : Dw t H0 H d) (v : Vs H0 H H0' H') (s : Same H H') : Dw t H0' H' d := by
  obtain ⟨_, w, c, ws, cs, rest, turn, h1, h2, h3, ht, D⟩ := h
  have f : ∀ {b : Addr} {o : HO}, H0 b = none → H b = some o → H0' b = none := fun {b o} e e2 => by
    cases q : H0' b with
    | none => rfl
    | some u =>
      rcases v.old b u q with z | z
      · rw [e] at z; cases z
      · rw [e2] at z; cases z
  exact ⟨v.sub, w, c, ws, cs, rest, turn, f h1 D.hd, f h2 D.hw, f h3 D.hc, ht, D.same s⟩
/-- less is seen -/
theorem Dw.less {t : Nat} {H0 H1 H : Hp} {d : Addr} (h : Dw t H0 H d) (s : Same H1 H0) : Dw t H1 H d := by
  obtain ⟨s0, w, c, ws, cs, rest, turn, h1, h2, h3, ht, D⟩ := h
  exact ⟨s.trans s0, w, c, ws, cs, rest, turn, s.free h1, s.free h2, s.free h3, ht, D⟩

/-- how many draws at most -/
abbrev T40 : Nat := 1099511627776
theorem dget_wide {H : Hp} {d w c : Addr} {r t : Int} (h : H d = some (.dK (drK w c r t))) : DGet H d (.str "wide") (some (.ref w)) := by
  have := DGet.k (k := kWide) h
  rw [dr_wide] at this
  exact this
theorem dget_cells {H : Hp} {d w c : Addr} {r t : Int} (h : H d = some (.dK (drK w c r t))) : DGet H d (.str "cells") (some (.ref c)) := by
  have := DGet.k (k := kCells) h
  rw [dr_cells] at this
  exact this
theorem dget_rest {H : Hp} {d w c : Addr} {r t : Int} (h : H d = some (.dK (drK w c r t))) : DGet H d (.str "rest") (some (.int r)) := by
  have := DGet.k (k := kRest) h
  rw [dr_rest] at this
  exact this
theorem dget_turn {H : Hp} {d w c : Addr} {r t : Int} (h : H d = some (.dK (drK w c r t))) : DGet H d (.str "turn") (some (.int t)) := by
  have := DGet.k (k := kTurn) h
  rw [dr_turn] at this
  exact this
theorem dput_rest {H : Hp} {d w c : Addr} {r t : Int} (x : Int) (h : H d = some (.dK (drK w c r t))) : DPut H d (.str "rest") (.int x) (upd H d (.dK (drK w c x t))) := by
  have := DPut.k (k := kRest) (v := .int x) h (by rw [sizeLine_eq]; exact (by decide : 4 < 16777216))
  rw [dr_putRest] at this
  exact this
theorem dput_turn {H : Hp} {d w c : Addr} {r t : Int} (x : Int) (h : H d = some (.dK (drK w c r t))) : DPut H d (.str "turn") (.int x) (upd H d (.dK (drK w c r x))) := by
  have := DPut.k (k := kTurn) (v := .int x) h (by rw [sizeLine_eq]; exact (by decide : 4 < 16777216))
  rw [dr_putTurn] at this
  exact this
theorem DrD.ne_dw {H : Hp} {d w c : Addr} {ws cs : List Int} {rest turn : Int} (h : DrD H d w c ws cs rest turn) : d ≠ w := ne_of h.hd h.hw (by intro z; cases z)
theorem DrD.ne_dc {H : Hp} {d w c : Addr} {ws cs : List Int} {rest turn : Int} (h : DrD H d w c ws cs rest turn) : d ≠ c := ne_of h.hd h.hc (by intro z; cases z)
theorem DrD.setD {H : Hp} {d w c : Addr} {ws cs : List Int} {rest turn r2 t2 : Int} (h : DrD H d w c ws cs rest turn) (h1 : 0 ≤ r2) (h2 : 0 ≤ t2) : DrD (upd H d (.dK (drK w c r2 t2))) d w c ws cs r2 t2 :=
  ⟨upd_same, by rw [upd_ne h.ne_dw.symm]; exact h.hw, by rw [upd_ne h.ne_dc.symm]; exact h.hc, h.wc, h.wl, h.wn, h.cl, h1, h2⟩
def spBegun (K : PySem.W.Frag) : Sp := fun vs H Q _ => ∃ (a : Addr) (ns : List Int), vs = [.ref a] ∧ SqL K H a (ns.map V.int) ∧ ns.length ≤ 63 ∧ ∀ (H' : Hp) (d : Addr), Dw 0 H H' d → H d = none → Q (.ref d) H'
def spMixed : Sp := fun vs H Q _ => ∃ (d w c : Addr) (ws cs : List Int) (rest turn : Int), vs = [.ref d] ∧ turn < T40 ∧ DrD H d w c ws cs rest turn ∧
  ∀ (n : Int) (H' : Hp), 0 ≤ n → DrD H' d w c ws cs rest (turn + 1) → (∀ b o, H b = some o → b ≠ d → H' b = some o) → Q (.int n) H'
def spTake : Sp := fun vs H Q _ => ∃ (t : Nat) (H0 : Hp) (d : Addr) (n : Int), vs = [.ref d, .int n] ∧ Dw t H0 H d ∧ t < T40 ∧ 0 < n ∧ n < 1073741824 ∧
  ∀ (k : Int) (H' : Hp), 0 ≤ k → k < n → Dw (t + 1) H0 H' d → Q (.int k) H'
/-- what _law_pick picks from -/
inductive SomeV (K : PySem.W.Frag) (H : Hp) : V → List V → Prop where
  | lst {a : Addr} {xs : List V} (h : SqL K H a xs) : SomeV K H (.ref a) xs
  | tup {a : Addr} {xs : List V} (h : SqT K H a xs) : SomeV K H (.ref a) xs
  | str {z : Str} (h : z.length ≤ 100000) : SomeV K H (.str z) (z.cps.toList.map fun c => V.str ⟨#[c]⟩)
def spPick (K : PySem.W.Frag) : Sp := fun vs H Q _ => ∃ (t : Nat) (H0 : Hp) (d : Addr) (x : V) (xs : List V), vs = [.ref d, x] ∧ Dw t H0 H d ∧ t < T40 ∧ SomeV K H0 x xs ∧ 0 < xs.length ∧ xs.length < 100000 ∧
  ∀ (v : V) (H' : Hp), v ∈ xs → Dw (t + 1) H0 H' d → Q v H'
/-! ## own exceptions whose __init__ begins with super().__init__(text) -/
theorem lookup_app {α : Type} {x : Str} : ∀ {l m : List (Str × α)}, (l ++ m).lookup x = match l.lookup x with | some v => some v | none => m.lookup x
  | [], m => rfl
  | (y, v) :: l, m => by
    show (match x == y with | true => some v | false => (l ++ m).lookup x) = match (match x == y with | true => some v | false => l.lookup x) with | some v => some v | none => m.lookup x
    cases (x == y) with
    | true => rfl
    | false => exact lookup_app
theorem lookup_out {α : Type} {x : Str} : ∀ {l : List (Str × α)}, (∀ v, (x, v) ∉ l) → l.lookup x = none
  | [], _ => rfl
  | (y, v) :: l, h => by
    have e : (x == y) = false := by
      apply Bool.eq_false_iff.mpr
      intro q
      exact h v (by rw [eq_of_beq q]; exact List.mem_cons_self ..)
    show (match x == y with | true => some v | false => l.lookup x) = none
    rw [e]
    exact lookup_out fun w hw => h w (List.mem_cons_of_mem _ hw)
theorem rev_lookup {x : Str} {u : Value} : ∀ {ps : List Str} {us : List Value} {i : Nat}, ps.Nodup → ps[i]? = some x → us[i]? = some u → (ps.zip us).reverse.lookup x = some u
  | [], _, _, _, h, _ => by simp at h
  | _ :: _, [], _, _, _, h => by simp at h
  | p :: ps, v :: us, 0, nd, h1, h2 => by
    simp at h1 h2
    subst h1 h2
    show ((p, v) :: ps.zip us).reverse.lookup p = some v
    rw [List.reverse_cons, lookup_app, lookup_out]
    · show (match p == p with | true => some v | false => _) = some v
      rw [beq_self_eq_true]
    · intro w hw
      exact (List.nodup_cons.mp nd).1 (List.of_mem_zip (List.mem_reverse.mp hw)).1
  | p :: ps, v :: us, i + 1, nd, h1, h2 => by
    show ((p, v) :: ps.zip us).reverse.lookup x = some u
    rw [List.reverse_cons, lookup_app, rev_lookup (i := i) (List.nodup_cons.mp nd).2 (by simpa using h1) (by simpa using h2)]

/-- the context of such an __init__ behind its first statement -/
abbrev supEnv (qual : Str) (scope : Scope) (L f : Addr) (cd : Value) (cc : Addr) : Env := PySem.W.ksEnv qual scope L f cd cc
def cxS (CX : CXT) (P : Program) (w : World) (K : PySem.W.Frag) (mg : Str → Option Value) (base : Heap) (N : List Str) (qual : Str) (scope : Scope) (f : Addr) (cd : Value) (cc : Addr) (A : Around) (outer : List Env) (s : Shared) (H : Hp) (E : XK) : Cx where
  prog := P
  w := w
  K := K
  mg := mg
  base := base
  A := A.deeper (supEnv qual scope s.heap.objs.size f cd cc)
  N := N
  s_0 := s
  H_0 := H
  env := supEnv qual scope s.heap.objs.size f cd cc
  outer := outer
  stack := supEnv qual scope s.heap.objs.size f cd cc :: outer
  ex := []
  calm := true
  fn := fun _ => false
  pn := []
  xe := fun e s' => wpAny (model P w) (A.deeper (supEnv qual scope s.heap.objs.size f cd cc)) (leaving (supEnv qual scope s.heap.objs.size f cd cc) e) (fun _ s'' => CX outer H s E e s'') (fun e' s'' => CX outer H s E e' s'') s'
structure ScopeS (N : List Str) (sc : Scope) : Prop where
  kind : sc.kind = .function
  co : sc.isCoroutine = false
  gen : sc.isGenerator = false
  nd : N.Nodup
  par : ∀ x ∈ N, sc.names.lookup x = some .local
  free : ∀ y ∈ sc.names, y.2 ≠ .cell ∧ (y.2 = .free → y.1 = "__class__")
  cls : sc.names.lookup ("__class__" : Str) = some .free
  sup : sc.names.lookup ("super" : Str) = some .globalImplicit
section
variable {P : Program} {w : World} {K : PySem.W.Frag} {mg : Str → Option Value} {base : Heap}
theorem invS_start {CX : CXT} {N : List Str} {qual : Str} {scope : Scope} {f cc : Addr} {cd : Value} {A : Around} {outer : List Env} {s : Shared} {H : Hp} {E : XK} {us : List Value} {vs : List V} {h0 : Heap} {tk : Nat} {oc : Obj} {cv : Option Value}
    (S : ScopeS N scope) (hd : A.handled = none) (e0 : Env0 P w K mg base A outer s H) (hl : vs.length = N.length) (r : Vals vs us) (hcc : base.get? cc = some oc) (hcd : oc.data = .cell cv)
    (hns : h0.Ns s.heap.objs.size fun x => (N.zip us).reverse.lookup x) (hk : ∀ b o, s.heap.get? b = some o → h0.get? b = some o) :
    Inv (cxS CX P w K mg base N qual scope f cd cc A outer s H E) [] (vs.map some) H { s with heap := h0, toks := tk } := by
  have noA : ∀ b : Addr, b ∉ (cxS CX P w K mg base N qual scope f cd cc A outer s H E).ex := fun b z => absurd (show b ∈ ([] : List Addr) from z) (by simp)
  have one : ∀ {y : Str} {c : Addr}, List.lookup y [(("__class__" : Str), cc)] = some c → y = "__class__" ∧ c = cc := fun {y c} h => by
    have h2 : (match y == ("__class__" : Str) with | true => some cc | false => none) = some c := h
    cases q : (y == ("__class__" : Str)) with
    | true =>
      rw [q] at h2
      exact ⟨eq_of_beq q, (Option.some.inj h2).symm⟩
    | false =>
      rw [q] at h2
      cases h2
  have has : List.lookup ("__class__" : Str) [(("__class__" : Str), cc)] = some cc := by
    show (match ("__class__" : Str) == ("__class__" : Str) with | true => some cc | false => none) = some cc
    rw [beq_self_eq_true]
  refine ⟨⟨e0.mod, S.kind, rfl, rfl, Nat.le_refl _, fun y z c h1 h2 => ?_, fun y hy => ?_, fun y c z _ => ?_, fun _ => hd, Around.frames_deeper e0.frames, .inr ⟨rfl, rfl⟩, fun b z => absurd z (noA b), e0.bs, e0.bsz, fun b _ _ => noA b, fun b z => absurd z (noA b), e0.funs, e0.frf⟩,
    rfl, e0.bare, Un.kept hk, ⟨_, hns, fun i y v h1 h2 h3 => ?_⟩, fun y c h => ?_, e0.hok.fresh (Nat.le_refl _), fun y c h => ?_, fun p hp => absurd (show p ∈ ([] : List (Addr × Obj)) from hp) (by simp), e0.hok.kept hk, ?_⟩
  · rw [(one h1).1, (one h2).1]
  · have hy : scope.names.lookup y = some .cell ∨ scope.names.lookup y = some .free := hy
    rcases hy with hy | hy
    · exact absurd rfl (S.free _ (PySem.mem_of_lookup hy)).1
    · have e : y = "__class__" := (S.free _ (PySem.mem_of_lookup hy)).2 rfl
      exact ⟨cc, by rw [e]; exact has⟩
  · have z : false = true := z
    cases z
  · have h1 : N[i]? = some y := h1
    rw [List.getElem?_map] at h2
    cases e : vs[i]? with
    | none => rw [e] at h2; cases h2
    | some a =>
      rw [e] at h2
      cases h2
      obtain ⟨u, hu, rv⟩ := r.get e
      exact ⟨u, rv, .inl ⟨S.par y (List.mem_of_getElem? h1), rev_lookup S.nd h1 hu⟩⟩
  · rw [(one h).2]
    exact ⟨cv, oc, hk _ _ (e0.bs _ _ hcc).1, hcd⟩
  · rw [(one h).2]
    exact (e0.bs _ _ hcc).2
  · show (vs.map some).length = N.length
    rw [List.length_map, hl]

/-- the written part about such a class and its __init__ -/
structure SupF (P : Program) (K : PySem.W.Frag) (mg : Str → Option Value) (C f cc cda : Addr) (qual : Str) (params : Arguments) (body : List Stmt) (scope : Scope) (fd : FuncData) : Prop where
  ex : ∃ (oc : Value) (od : Option Addr) (dV kV doc pm ct : Value) (an : Option Addr) (osl : Array (Option Value)),
    fd = PySem.W.ksFn "__init__" qual params body scope dV kV doc pm an (.ref cda) ct cc ∧ K.lookup f = some ⟨oc, od, .func fd, osl⟩
  cd : PySem.W.codeIn K (.ref cda) qual = true
  co : ∃ (oc : Obj) (vs : Array Value) (file : Str) (tf : Tok), K.lookup cda = some oc ∧ oc.data = .fields vs ∧ vs[2]? = some (.str file tf) ∧ ((P.main.file : Str) == file) = true
  cell : ∃ oc : Obj, K.lookup cc = some oc ∧ oc.data = .cell (some (.ref C))
  top : (P.main.scope.names.lookup ("super" : Str)).isSome = false
  sub : PySem.W.mroIn K C (.ref C) = some true
  opq : PySem.W.nsIn K cStatics "thirdparty.any" = some none
  al : ∃ cd, PySem.W.clsIn K C = some cd ∧ PySem.W.alongIn K "__init__" ((cd.mro.dropWhile (· != .ref C)).drop 1) = some (some (.builtin "ValueError.__init__"))
  ve : PySem.W.subIn K (.ref C) (.type "ValueError") = some true
  su : mg "super" = none
/-- the first statement -/
abbrev supCall (p0 p1 p2 p3 p4 : Pos) (txt : Str) (kd : Nat) : Expr := .Call (.Attribute (.Call (.Name "super" p0) [] [] p1) "__init__" p2) [.Constant (.str txt) kd p3] [] p4
/-- what the evaluator's own text says there, by rfl at a written scope -/
structure SupE (qual : Str) (scope : Scope) (p0 p1 p2 p3 p4 p5 : Pos) (txt : Str) (kd : Nat) : Prop where
  hi : ∀ L f cd cc, interactive (supEnv qual scope L f cd cc) = false
  hs : ∀ L f cd cc, swapsWith (supCall p0 p1 p2 p3 p4 txt kd) none p5.line (supEnv qual scope L f cd cc) = pure false
  he : ∃ pl : Sem Bool, ∀ L f cd cc, eval (supCall p0 p1 p2 p3 p4 txt kd) (supEnv qual scope L f cd cc) = (do
      let ov ← attributeBase (.Call (.Name "super" p0) [] [] p1) "__init__" (supEnv qual scope L f cd cc) (eval (.Call (.Name "super" p0) [] [] p1) (supEnv qual scope L f cd cc))
      standAt p2.atName
      let (g, first) ← holding [ov] (getMethod ov "__init__" pl)
      callWith p4 g first (backTo p4 (starEach [.Constant (.str txt) kd p3] (supEnv qual scope L f cd cc))) [])
theorem super_init {CX : CXT} {N : List Str} {qual : Str} {params : Arguments} {body : List Stmt} {scope : Scope} {C f cc cda e : Addr} {fd : FuncData} {A : Around} {outer : List Env} {s : Shared} {H : Hp} {E : XK} {s0 : Shared} {H0 : Hp} {σ : St} {p0 p1 p2 p3 p4 p5 : Pos} {txt : Str} {kd : Nat} {ar : Arg}
    (F : SupF P K mg C f cc cda qual params body scope fd) (T : OexC K C) (S : ScopeS N scope) (SE : SupE qual scope p0 p1 p2 p3 p4 p5 txt kd) (hhd : (params.posonlyargs ++ params.args).head? = some ar) (hN : N[0]? = some ar.arg)
    (I : Inv (cxS CX P w K mg base N qual scope f (.ref cda) cc A outer s0 H0 E) [] σ H s) (hσ : σ[0]? = some (some (.ref e))) (he : H e = some (exo e C none)) {Q : Flow → Shared → Prop} {EE : Value → Shared → Prop}
    (h : ∀ s', Inv (cxS CX P w K mg base N qual scope f (.ref cda) cc A outer s0 H0 E) [] σ H s' → Q .next s') :
    PySem.wpAt (model P w) (A.deeper (supEnv qual scope s0.heap.objs.size f (.ref cda) cc)) (.func body (supEnv qual scope s0.heap.objs.size f (.ref cda) cc))
      (exec (.Expr (supCall p0 p1 p2 p3 p4 txt kd) p5) (supEnv qual scope s0.heap.objs.size f (.ref cda) cc)) Q EE s := by
  obtain ⟨oc, od, dV, kV, doc, pm, ct, an, osl, rfl, lk⟩ := F.ex
  obtain ⟨co, vs, file, tf, lco, dco, vs2, hfile⟩ := F.co
  obtain ⟨cel, lcel, dcel⟩ := F.cell
  obtain ⟨cdC, hcl, hal⟩ := F.al
  have X := I.kIn
  obtain ⟨t1, ho⟩ := exo_at I.hok he
  obtain ⟨oD, hD1, hD2⟩ : ∃ oD, s.heap.get? C = some oD ∧ oD.data = .cls cdC := by
    unfold PySem.W.clsIn at hcl
    split at hcl
    · rename_i c d cd' sl hoo
      cases hcl
      exact ⟨_, X _ _ hoo, rfl⟩
    · cases hcl
  have eC : e ≠ C := fun z => by
    rw [z] at ho
    rw [ho] at hD1
    cases hD1
    cases hD2
  obtain ⟨m, hns, hloc⟩ := I.loc
  have harl : scope.names.lookup ar.arg = some .local := S.par _ (List.mem_of_getElem? hN)
  obtain ⟨u, ru, lu⟩ := hloc 0 ar.arg (.ref e) hN hσ (.inl harl)
  cases (show u = Value.ref e from ru)
  have hm : m ar.arg = some (.ref e) := by
    rcases lu with ⟨_, z⟩ | ⟨z, _⟩
    · exact z
    · have z : scope.names.lookup ar.arg = some .cell ∨ scope.names.lookup ar.arg = some .free := z
      rw [harl] at z
      rcases z with z | z <;> cases z
  have J : PySem.W.InstAt s.heap e ({ cls := .ref C, dict := none, data := .fields #[.ref t1, .none, .none, .none, .bool false, .none] } : Obj) C none := ⟨ho, rfl, rfl, trivial⟩
  obtain ⟨pl, hev⟩ := SE.he
  refine PySem.ks_wpAt_Expr_any ?_ (SE.hi _ _ _ _) (SE.hs _ _ _ _)
  refine PySem.ks_wpAt_MethodCall (pl := pl) ?_ (hev _ _ _ _)
  refine PySem.ks_wpAt_super_base (env := supEnv qual scope s0.heap.objs.size f (.ref cda) cc) S.sup S.cls (by decide +kernel) rfl (X _ _ lk) rfl hhd rfl (X _ _ lco) dco vs2 hfile F.top ?_
  obtain ⟨mb, mb1, mb2⟩ := I.mod.blt
  refine PySem.W.ks_loadName_global S.kind S.sup (Calls.loadGlobal_builtin (env := supEnv qual scope s0.heap.objs.size f (.ref cda) cc) (I.mod.glob.keeps I.bk) F.su (mb1.keeps I.bk) ((mb2 _ (by decide)).trans (show bootBuiltins "super" = some (.type "super") by decide +kernel)) ⟨rfl, ?_⟩)
  refine wpAny_loadName_free S.kind S.cls rfl ⟨_, X _ _ lcel, dcel⟩ ?_
  refine wpAny_loadName_local S.kind harl hns hm ?_
  refine ks_wpAny_isType_cls hD1 hD2 ⟨rfl, ?_⟩
  obtain ⟨hp, g, d, t, os⟩ := s
  refine ks_wpAny_call_super hD1 hD2 ho rfl (fun c z => by cases z) (PySem.W.looks_mroIn X F.sub) (fun h' es k => ?_)
  have I1 : Inv (cxS CX P w K mg base N qual scope f (.ref cda) cc A outer s0 H0 E) [] σ H ⟨h', g, d, t, os⟩ := I.kept (t' := t) k
  have X1 := I1.kIn
  refine PySem.W.kxs_getMethod PySem.W.kxs_ValueError es (PySem.W.looks_opaque X1 F.opq) (l₀ := cdC.mro) (fun A Q E s k q => wpAny_bind ((PySem.W.looks_clsIn X1 hcl) A _ E s k (wpAny_pure q))) rfl X1 hal ((show PySem.W.InstAt h' e _ C none from ⟨k _ _ ho, rfl, rfl, trivial⟩).type.andThen (PySem.W.looks_subIn X1 F.ve)) eC (by decide +kernel) ?_
  have es2 : (h'.push (PySem.W.kxs_mw "ValueError.__init__" e)).get? h'.objs.size = some (PySem.W.kxs_mw "ValueError.__init__" e) := Heap.get?_push_at rfl rfl
  generalize h'.objs.size = u at es2
  have k2 : ∀ b o, h'.get? b = some o → (h'.push (PySem.W.kxs_mw "ValueError.__init__" e)).get? b = some o := fun b o q => Heap.get?_push_of_some _ q
  generalize h'.push (PySem.W.kxs_mw "ValueError.__init__" e) = h2 at es2 k2
  have I2 : Inv (cxS CX P w K mg base N qual scope f (.ref cda) cc A outer s0 H0 E) [] σ H ⟨h2, g, d, t + 1, os⟩ := I1.kept (t' := t + 1) k2
  have hee : ∀ env : Env, starEach [.Constant (.str txt) kd p3] env = (false, eval (.Constant (.str txt) kd p3) env) :: starEach [] env := fun env => rfl
  refine PySem.W.kxs_callWith (i := "ValueError.__init__") (x := e) (by rw [hee]; rfl) ?_
  rw [hee]
  refine Calls.evalArgs_plain (Calls.spliced_cons (Calls.Constant_str (pos := p3) (k := kd) (Calls.spliced_nil ?_)))
  refine ⟨es2, ?_⟩
  have he2 := k2 _ _ (k _ _ ho)
  obtain ⟨nm, q, N', bs, bm, sn, sub, ab, col, dd, k0, k1, k2', k3, k5, hC, hbm⟩ := T.cls
  have hC2 := I2.kIn _ _ hC
  refine wpAny_call (codeAny_of_tree ?_)
  show wpAny _ (A.deeper (supEnv qual scope s0.heap.objs.size f (.ref cda) cc)).in1 (callAny (.ref u) ⟨[.str txt _], []⟩) _ _ _
  simp only [callAny]
  refine wpAny_bind (wpAny_load es2 ?_)
  simp only [PySem.W.kxs_mw, show (Value.type "method-wrapper" == Value.type "method" || Value.type "method-wrapper" == Value.type "builtin_function_or_method" || Value.type "method-wrapper" == Value.type "method-wrapper") = true by decide, if_true]
  refine PySem.W.KFB.if_so (by decide) ?_
  refine wpAny_bind (PySem.W.check_bound_init PySem.F.excBase_ValueError.toExcCallFacts hC2 he2 rfl ?_)
  refine wpAny_bind (wpAny_pure (wpAny_pure ?_))
  refine ⟨plainId_quiet PySem.F.excBase_ValueError.init.plain _, codeAny_builtin PySem.F.excBase_ValueError.initEntry ?_⟩
  refine PySem.W.exc_init_tree (cls := .ref C) (t0 := t1) (dv := none) (c2 := .none) (c3 := .none) (b4 := .bool false) he2 (by rw [sizeLine_eq]; exact (by decide : 1 ≤ 16777216)) fun h3 k3 hx _ => ?_
  have I3 : Inv (cxS CX P w K mg base N qual scope f (.ref cda) cc A outer s0 H0 E) [] σ (upd H e (exo e C none)) ⟨h3, g, d, t + 1 + 1, os⟩ := I2.write (t' := t + 1 + 1) (x := e) (e := e) (o := exo e C none) (by rw [he]; exact True.intro) (.inl rfl) k3 ⟨_, hx⟩ (exo_ok hx)
  have eu : upd H e (exo e C none) = H := by
    funext b
    by_cases hb : b = e
    · rw [hb, upd_same, he]
    · rw [upd_ne hb]
  rw [eu] at I3
  exact h _ I3
end
section
variable {P : Program} {w : World} {K : PySem.W.Frag} {mg : Str → Option Value} {base : Heap}
/-- THE RULE for such an __init__: behind its first statement, by the rest of its body -/
theorem fn_super {CX : CXT} {k : Nat} {sp : Sp} {N : List Str} {qual : Str} {params : Arguments} {rest : List Stmt} {scope : Scope} {C f cc cda : Addr} {fd : FuncData} {p0 p1 p2 p3 p4 p5 : Pos} {txt : Str} {kd : Nat} {ar : Arg}
    (F : SupF P K mg C f cc cda qual params (.Expr (supCall p0 p1 p2 p3 p4 txt kd) p5 :: rest) scope fd) (T : OexC K C) (S : ScopeS N scope) (SE : SupE qual scope p0 p1 p2 p3 p4 p5 txt kd) (hhd : (params.posonlyargs ++ params.args).head? = some ar) (hN : N[0]? = some ar.arg)
    (len : ∀ vs H Q E, sp vs H Q E → vs.length = N.length) (first : ∀ vs H Q E, sp vs H Q E → ∃ e r, vs = .ref e :: r ∧ H e = some (exo e C none))
    (hbody : ∀ (A : Around) (outer : List Env) (s : Shared) (H : Hp) (vs : List V) (Q : VK) (E : XK), sp vs H Q E →
      ∃ t, PSs (cxS CX P w K mg base N qual scope f (.ref cda) cc A outer s H E) rest t ∧ t { nx := fun _ H' => Q .non H', rt := Q } (vs.map some) H) : FnOk P w K mg base CX (k + 1) f fd N sp := by
  refine ⟨len, fun A outer s H args us vs Q E hr e0 hb r hsp => ?_⟩
  have hl := len _ _ _ _ hsp
  obtain ⟨e, rv, rfl, he⟩ := first _ _ _ _ hsp
  have F' := F
  obtain ⟨oc, od, dV, kV, doc, pm, ct, an, osl, rfl, lk⟩ := F.ex
  obtain ⟨oc', lcel, dcel⟩ := F.cell
  have KX : K.In s.heap := e0.mod.kin.keeps fun b o e => (e0.bs b o e).1
  have lim : s.heap.NoLimit := e0.mod.nolimit.keeps fun b o e => (e0.bs b o e).1
  have hloc : ∀ x ∈ N.zip us, scope.names.lookup x.1 = some .local := fun ⟨n, v⟩ hy => S.par n (List.of_mem_zip hy).1
  refine PySem.ks_codeAny_call_defAt (binds := N.zip us) hr.depth (KX _ _ lk) rfl lim (PySem.W.codeRec_of KX F.cd) rfl hb (fun x hx => (S.free x hx).1) hloc (fun h0 hns hk => ?_) S.co S.gen S.kind
  have I := invS_start (CX := CX) (P := P) (w := w) (E := E) (f := f) (cd := .ref cda) (tk := s.toks + (N.zip us).length) (qual := qual) S hr.hd e0 hl r (e0.mod.kin _ _ lcel) dcel hns hk
  obtain ⟨t, ht, hq⟩ := hbody A outer s H _ Q E hsp
  refine PySem.ks_wpAt_execs_cons (super_init F' T S SE hhd hN I rfl he fun s' I' => wpAt_of_wpAny ?_)
  refine wpAny_mono (ht.run [] s' _ H _ I' hq) (fun fl s' hs => ?_) fun e s' hs => hs
  have fin : ∀ {σ' : St} {H' : Hp} {v : V} {u : Value}, Inv (cxS CX P w K mg base N qual scope f (.ref cda) cc A outer s H E) [] σ' H' s' → RelV v u → Q v H' → CE outer P w H s Q u s' :=
    fun {σ' H' v u} J rv q => ⟨v, H', J.os, J.bare, J.base, J.hok, rv, q⟩
  cases fl with
  | ret u =>
    obtain ⟨v, σ', H', J, rv, q⟩ := hs
    exact fin J rv q
  | next =>
    obtain ⟨σ', H', J, q⟩ := hs
    exact fin (v := V.non) (u := Value.none) J rfl q
  | brk =>
    obtain ⟨_, _, _, q⟩ := hs
    exact False.elim q
  | cont =>
    obtain ⟨_, _, _, q⟩ := hs
    exact False.elim q
end
/-- C(e, ..) as a value, C an own exception whose __init__ keeps sp -/
def tMkV (C : Addr) (sp : Sp) (E : XK) (ta : TA) : TE := fun σ H Q => ta σ H fun vs H1 => vs.length ≤ 1000 ∧ ∀ a, H1 a = none → sp (.ref a :: vs) (upd H1 a (exo a C none)) (fun v H2 => v = .non ∧ Q (.ref a) H2) E
theorem pe_mkS {X : Cx} {e : Expr} {es : List Expr} {ta : TA} {p pos : Pos} {CX : CXT} {x : Str} {C fI : Addr} {k : Nat} {fd : FuncData} {ps : List Str} {sp : Sp} {E : XK} (T : OexC X.K C) (iC : PySem.W.findIn X.K (.ref C) "__init__" = some (some (.ref fI))) (tI : PySem.W.typeIn X.K (.ref fI) = some (.type "function"))
    (F1 : FnOk X.prog X.w X.K X.mg X.base CX k fI fd ps sp) (hr : Room (k + 1) X.A) (hb : Binds X.K fd ps []) (hx : Passes CX X E) (hg : Gl X x) (hm : X.mg x = some (.ref C)) (ha : PA X (e :: es) ta)
    (hdb : (x == ("__debug__" : Str)) = false := by decide) (he : starEach (e :: es) X.env = (false, eval e X.env) :: starEach es X.env := by rfl) (hpl : (backTo pos (starEach es X.env)).any (·.1) = false := by rfl) :
    PE X (.Call (.Name x p) (e :: es) [] pos) (tMkV C sp E ta) := by
  refine ⟨fun pins s σ H Q I h => ?_⟩
  obtain ⟨nm, q, N, bs, bm, sn, sub, ab, col, dd, k0, k1, k2, k3, k5, hC, hbm⟩ := T.cls
  refine wpAny_Call_Name_kw (ld_glob I hg hm ?_ hdb)
  refine PySem.W.callWith_K (h₀ := X.base) I.ok.mod.kin T.kC (thn (ha.run pos pins s σ H _ I h) fun us s1 ⟨vs, H1, I1, r1, hz, q1⟩ => ⟨I1.kIn, ?_⟩) he hpl
  show wpAny _ _ (call (.ref C) us) _ _ _
  obtain ⟨hp, g, dr, tk, os⟩ := s1
  have hsz : hp.objs.size ≤ hp.objs.size + 1 := Nat.le_succ _
  have hn : H1 (hp.objs.size + 1) = none := I1.hok.fresh hsz
  have hq := q1 (hp.objs.size + 1) hn
  have kk : ∀ b o, hp.get? b = some o → ((hp.push (PySem.W.kdv_tup us)).push (PySem.HandSPX.excO C hp.objs.size)).get? b = some o := fun b o e => Heap.get?_push_of_some _ (Heap.get?_push_of_some _ e)
  have hget : ((hp.push (PySem.W.kdv_tup us)).push (PySem.HandSPX.excO C hp.objs.size)).get? (hp.objs.size + 1) = some (PySem.HandSPX.excO C hp.objs.size) := by heap_get
  have I2 : Inv X pins σ (upd H1 (hp.objs.size + 1) (exo (hp.objs.size + 1) C none)) ⟨(hp.push (PySem.W.kdv_tup us)).push (PySem.HandSPX.excO C hp.objs.size), g, dr, tk, os⟩ :=
    I1.laid (t' := tk) (a := hp.objs.size + 1) (o := exo (hp.objs.size + 1) C none) (h' := (hp.push (PySem.W.kdv_tup us)).push (PySem.HandSPX.excO C hp.objs.size)) kk hsz (exo_ok hget)
  have r2 : Vals (V.ref (hp.objs.size + 1) :: vs) (Value.ref (hp.objs.size + 1) :: us) := .cons rfl r1
  have hl : (Value.ref (hp.objs.size + 1) :: us).length = ps.length := by
    have e := r2.length
    rw [F1.len _ _ _ _ hq] at e
    exact e.symm
  have hus : us.length ≤ sizeLine := by
    rw [← Paired.length r1, sizeLine_eq]
    omega
  have hb' := hb ⟨(hp.push (PySem.W.kdv_tup us)).push (PySem.HandSPX.excO C hp.objs.size), g, dr, tk, os⟩ (Value.ref (hp.objs.size + 1) :: us) I2.kIn (by rw [List.append_nil]; exact hl)
  rw [List.append_nil] at hb'
  refine wpAny_call (PySem.HandSPX.call_own PySem.F.excBase_ValueError (fun Y => PySem.HandSPX.refsVE_contains Y bm hbm) (I1.kIn _ _ hC) (PySem.W.looks_findIn I1.kIn iC) (fun self => PySem.W.bind_fn I1.kIn self tI) hus
    (codeAny_mono (F1.run _ X.stack _ _ ⟨Value.ref (hp.objs.size + 1) :: us, []⟩ (Value.ref (hp.objs.size + 1) :: us) _ _ E (hr.make C us []) (I2.env0.make C us []) hb' r2 hq) fun r s' hq' => ?_))
  cases r with
  | error er => exact hx pins σ _ _ er s' I2 hq'
  | ok fl =>
    cases fl with
    | ret u =>
      obtain ⟨v, H', I3, rv, ev, q3⟩ := I2.after hq'
      subst ev
      exact ⟨rv, V.ref (hp.objs.size + 1), H', I3, rfl, q3⟩
    | next => exact False.elim hq'
    | brk => exact False.elim hq'
    | cont => exact False.elim hq'
abbrev FnP (K : PySem.W.Frag) (x : Str) (st : Stmt) (f : Addr) (fd : FuncData) : Prop := FunD K x x (defArgs st) (defBody st) (defScope st) [] [] f fd
section
variable {P : Program} {w : World} {K : PySem.W.Frag} {mg : Str → Option Value} {base : Heap}
theorem getI {ns : List Int} {i : Nat} {y : V} (h : (ns.map V.int)[i]? = some y) : ∃ z, ns[i]? = some z ∧ y = .int z := by
  rw [List.getElem?_map] at h
  cases e : ns[i]? with
  | none => rw [e] at h; cases h
  | some z => rw [e] at h; exact ⟨z, rfl, (Option.some.inj h).symm⟩
theorem sl_of {n : Nat} (h : n ≤ 100000) : n ≤ sizeLine := Nat.le_trans h (by decide)
theorem sc_mixed : FnScope ["_law_draw", "_law_turn", "_law_found", "_law_prime", "_law_blend", "_law_cell"] ["_law_draw"] (defScope s_law_mixed) := ⟨rfl, rfl, rfl, by decide +kernel, rfl, by decide +kernel, by decide +kernel⟩
theorem primes_ok {i : Nat} {y : V} (h : ([V.int 2147483629, V.int 2147483587, V.int 2147483579, V.int 2147483563] : List V)[i]? = some y) : ∃ z : Int, y = .int z ∧ 2147483563 ≤ z ∧ z ≤ 2147483629 := by
  match i, h with
  | 0, h => cases h; exact ⟨_, rfl, by decide, by decide⟩
  | 1, h => cases h; exact ⟨_, rfl, by decide, by decide⟩
  | 2, h => cases h; exact ⟨_, rfl, by decide, by decide⟩
  | 3, h => cases h; exact ⟨_, rfl, by decide, by decide⟩
  | n + 4, h => cases h
theorem ok_mixed {f : Addr} {fd : FuncData} (F : FnP K "_law_mixed" s_law_mixed f fd) (gI : mg "int" = none) : FnOk P w K mg base CX0 1 f fd ["_law_draw"] spMixed := by
  refine F.ok sc_mixed (fun vs H Q E h => ?_) (fun cdv A outer s H vs Q E hr h => ?_)
  · obtain ⟨d, w, c, ws, cs, rest, turn, rfl, _⟩ := h
    rfl
  · obtain ⟨d, w, c, ws, cs, rest, turn, rfl, hT, D, k⟩ := h
    have hu := hu_of hr
    have nd := sc_mixed.nd
    refine ⟨_, PSs.nox (pss_cons (ps_par (i := 1) (j := 2) rfl nd rfl rfl (by decide) rfl rfl (pa_cons (pe_op op_add (pe_dget hu (pv 0) pe_str (fun _ _ => rfl)) pe_int) (pa_cons pe_int pa_nil)) (by rfl))
      (pss_cons (ps_dput hu (pv 0) pe_str (pv 1) rfl)
      (pss_cons (ps_for PassesOwn.never rfl (pi_list (pe_lst (pa_cons pe_int (pa_cons pe_int (pa_cons pe_int (pa_cons pe_int pa_nil)))))) (pg_name (i := 3) nd rfl (Or.inl rfl))
        (pss_cons (ps_set (i := 4) nd rfl (Or.inl rfl) (pe_op op_add (pe_op op_mul pe_int (pv 1)) (pe_op op_fdivN (pv 3) pe_int)))
        (pss_cons (ps_for PassesOwn.never rfl (pi_list (pe_dget hu (pv 0) pe_str (fun _ _ => rfl))) (pg_name (i := 5) nd rfl (Or.inl rfl))
          (pss_one (ps_set (i := 4) nd rfl (Or.inl rfl) (pe_op op_modN (pe_callTy call_int1 (by rfl) gI (by decide +kernel) (pa_cons (pe_op op_add (pe_op op_add (pe_op op_mul (pv 4) pe_int) (pv 5)) (pv 1)) pa_nil)) (pv 3)))))
        (pss_one (ps_set (i := 2) nd rfl (Or.inl rfl) (pe_op op_add (pe_op op_mul (pv 2) pe_int) (pe_op op_modN (pe_callTy call_int1 (by rfl) gI (by decide +kernel) (pa_cons (pe_op op_pow (pv 4) pe_int) pa_nil)) (pv 3))))))))
      (pss_one (ps_ret (pv 2)))))), ?_⟩
    have T0 := D.tn
    refine ⟨_, rfl, d, _, rfl, dget_turn D.hd, _, _, rfl, rfl, _, _, rfl, ?_⟩
    refine ⟨_, rfl, _, rfl, d, _, rfl, dput_turn _ D.hd, ?_⟩
    have D1 := D.setD (t2 := turn + 1) D.rn (by omega)
    have K1 : ∀ b o, H b = some o → b ≠ d → (upd H d (.dK (drK w c rest (turn + 1)))) b = some o := fun b o e n => by rw [upd_ne n]; exact e
    generalize upd H d (.dK (drK w c rest (turn + 1))) = H1 at D1 K1
    refine ⟨sl_of (by decide), fun p hp => ⟨p, rfl, ⟨_, SqL.of upd_same⟩, ?_⟩⟩
    have ndp : d ≠ p := ne_of_none D1.hd hp
    have nwp : w ≠ p := ne_of_none D1.hw hp
    have ncp : c ≠ p := ne_of_none D1.hc hp
    refine for_list (K := K) (a := p) (xs := [V.int 2147483629, V.int 2147483587, V.int 2147483579, V.int 2147483563]) (fun i σ H' => ∃ (fnd : Int) (v3 v4 v5 : Option V), σ = [some (.ref d), some (.int (turn + 1)), some (.int fnd), v3, v4, v5] ∧ 0 ≤ fnd ∧ H' = upd H1 p (.lst [V.int 2147483629, V.int 2147483587, V.int 2147483579, V.int 2147483563]))
      ⟨0, none, none, none, rfl, by decide, rfl⟩ (fun i σ H' _ ⟨_, _, _, _, _, _, e⟩ => by rw [e]; exact SqL.of upd_same) ?_ ?_
    · rintro i y σ H' hi ⟨fnd, v3, v4, v5, rfl, hf, rfl⟩
      obtain ⟨z, rfl, z1, z2⟩ := primes_ok hi
      have z0 : z ≠ 0 := by omega
      have D2 := D1.updo (o := .lst [V.int 2147483629, V.int 2147483587, V.int 2147483579, V.int 2147483563]) ndp.symm nwp.symm ncp.symm
      refine ⟨_, rfl, _, _, rfl, rfl, .inl ⟨by decide, by decide⟩, _, rfl, _, _, rfl, rfl, ⟨by decide, by decide⟩, _, _, rfl, rfl, ?_⟩
      refine ⟨_, rfl, d, _, rfl, dget_cells D2.hd, c, rfl, ⟨_, SqL.of D2.hc⟩, ?_⟩
      have b0 : 0 ≤ 61441 * (turn + 1) + z.fdiv 19 := by
        rw [Int.fdiv_eq_ediv_of_nonneg _ (by decide)]
        omega
      have b1 : 61441 * (turn + 1) + z.fdiv 19 < 2 ^ 63 := by
        rw [Int.fdiv_eq_ediv_of_nonneg _ (by decide)]
        have : turn < 1099511627776 := hT
        omega
      refine for_list (K := K) (a := c) (xs := cs.map V.int) (fun j σ H' => ∃ (bl : Int) (v5 : Option V), σ = [some (.ref d), some (.int (turn + 1)), some (.int fnd), some (.int z), some (.int bl), v5] ∧ 0 ≤ bl ∧ bl < 2 ^ 63 ∧ H' = upd H1 p (.lst [V.int 2147483629, V.int 2147483587, V.int 2147483579, V.int 2147483563]))
        ⟨_, v5, rfl, b0, b1, rfl⟩ (fun j σ H' _ ⟨_, _, _, _, _, e⟩ => by rw [e]; exact SqL.of D2.hc) ?_ ?_
      · rintro j y σ H' hj ⟨bl, v6, rfl, h0, h1, rfl⟩
        obtain ⟨q, _, rfl⟩ := getI hj
        refine ⟨_, rfl, _, _, rfl, rfl, .inr ⟨by decide, by decide⟩, _, rfl, _, _, rfl, rfl, _, rfl, _, _, rfl, rfl, .inl ⟨_, rfl, ?_⟩⟩
        refine ⟨_, rfl, _, _, rfl, rfl, z0, ?_⟩
        have m0 := Int.fmod_nonneg_of_pos (bl * 48271 + q + (turn + 1)) (b := z) (by omega)
        have m1 := Int.fmod_lt_of_pos (bl * 48271 + q + (turn + 1)) (b := z) (by omega)
        exact ⟨_, _, rfl, m0, by omega, rfl⟩
      · rintro σ H' ⟨bl, v6, rfl, h0, h1, rfl⟩
        refine ⟨_, rfl, _, _, rfl, rfl, .inr ⟨by decide, by decide⟩, _, rfl, _, _, rfl, rfl, ⟨by decide, by decide, by omega⟩, .inl ⟨_, rfl, ?_⟩⟩
        refine ⟨_, rfl, _, _, rfl, rfl, z0, _, _, rfl, rfl, ?_⟩
        have m0 := Int.fmod_nonneg_of_pos (bl ^ Int.toNat 5) (b := z) (by omega)
        exact ⟨_, _, _, _, rfl, by omega, rfl⟩
    · rintro σ H' ⟨fnd, v3, v4, v5, rfl, hf, rfl⟩
      refine ⟨_, rfl, ?_⟩
      refine k _ _ hf (D1.updo ndp.symm nwp.symm ncp.symm) fun b o e n => ?_
      have e1 := K1 b o e n
      rw [upd_ne (ne_of_none e1 hp)]
      exact e1
end
section
variable {P : Program} {w : World} {K : PySem.W.Frag} {mg : Str → Option Value} {base : Heap}
theorem sc_take : FnScope ["_law_draw", "_law_many", "_law_found"] ["_law_draw", "_law_many"] (defScope s_law_take) := ⟨rfl, rfl, rfl, by decide +kernel, rfl, by decide +kernel, by decide +kernel⟩
theorem dpAll_ints {K : PySem.W.Frag} {H : Hp} : ∀ ns : List Int, DpAll K H (ns.map V.int) (ns.map PyData.int)
  | [] => .nil
  | n :: ns => .cons (.int n) (dpAll_ints ns)
theorem shaped_lst (ns : List Int) : SeqAt.shaped (.list (ns.map PyData.int)) = true := PySem.W.ke_shaped_ints ns
theorem eqv_nil (ns : List Int) : PyData.eqv (.list (ns.map PyData.int)) (.list []) = ns.isEmpty := by
  cases ns <;> simp [PyData.eqv, PyData.eqvAll]
theorem ok_take {f fM : Addr} {fd fdM : FuncData} (F : FnP K "_law_take" s_law_take f fd) (FM : FnP K "_law_mixed" s_law_mixed fM fdM) (gM : mg "_law_mixed" = some (.ref fM)) (gI : mg "int" = none) : FnOk P w K mg base CX0 2 f fd ["_law_draw", "_law_many"] spTake := by
  have GM : FnOk P w K mg base CX0 1 fM fdM ["_law_draw"] spMixed := ok_mixed FM gI
  have bM : Binds K fdM ["_law_draw"] [] := FM.bindsN fun _ _ _ _ _ _ us hl => match us, hl with | [_], _ => rfl
  refine F.ok sc_take (fun vs H Q E h => ?_) (fun cdv A outer s H vs Q E hr h => ?_)
  · obtain ⟨t, H0, d, n, rfl, _⟩ := h
    rfl
  · obtain ⟨t, H0, d, n, rfl, hD, ht, n0, n1, k⟩ := h
    have hu := hu_of hr
    have nd := sc_take.nd
    obtain ⟨sm, w, c, ws, cs, rest, turn, h1, h2, h3, htu, D⟩ := hD
    refine ⟨_, PSs.nox (pss_cons (ps_if (pt_cmpR op_eq (pe_dget hu (pv 0) pe_str (fun _ _ => rfl)) pe_int (nomark _))
       (pss_one (ps_dput hu (pv 0) pe_str (pe_ifExp (pt_cmpR (op_neD hr.units) (pe_dget hu (pv 0) pe_str (fun _ _ => rfl)) (pe_lst pa_nil) (nomark _))
          (pe_bm PySem.F.plainAttrs_list PySem.F.slot_list_pop PySem.F.type_list_pop mt_popAt (pe_dget hu (pv 0) pe_str (fun _ _ => rfl)) (pa_cons pe_int pa_nil))
          (pe_call GM hr rfl gM FM.kp bM .nil pass0 (pa_cons (pv 0) pa_nil))) rfl)) pss_nil)
      (pss_cons (ps_set (i := 2) nd rfl (.inl rfl) (pe_op op_modN (pe_callTy call_int1 (by rfl) gI (by decide +kernel) (pa_cons (pe_dget hu (pv 0) pe_str (fun _ _ => rfl)) pa_nil)) (pv 1)))
      (pss_cons (ps_dput hu (pv 0) pe_str (pe_op op_fdivN (pe_dget hu (pv 0) pe_str (fun _ _ => rfl)) (pv 1)) rfl)
      (pss_one (ps_ret (pv 2)))))), ?_⟩
    -- what follows the if
    have fin : ∀ (ws : List Int) (rest turn : Int) (H1 : Hp), turn ≤ (t + 1 : Nat) → Same H0 H1 → DrD H1 d w c ws cs rest turn →
        tSeq (tAsg (tOp (rI (fun _ j => j ≠ 0) fun i j => .int (i.fmod j)) (tCB (fun xs H Q => (∃ i, xs = [.int i] ∧ Q (.int i) H) ∨ ∃ k, xs = [.bl k] ∧ Q (.int (if k then 1 else 0)) H) (tCons (tDGet (tVar 0) (tC (.str "rest"))) tNil)) (tVar 1)) (gName 2))
          (tSeq (sDPut (tVar 0) (tC (.str "rest")) (tOp (rI CDivN fun i j => .int (i.fdiv j)) (tDGet (tVar 0) (tC (.str "rest"))) (tVar 1))) (tRet (tVar 2))) { nx := fun _ H' => Q .non H', rt := Q } [some (.ref d), some (.int n), none] H1 := by
      intro ws rest turn H1 hle sm1 D1
      refine ⟨_, rfl, d, _, rfl, dget_rest D1.hd, .inl ⟨_, rfl, _, rfl, _, _, rfl, rfl, by omega, ?_⟩⟩
      have r0 := D1.rn
      have q0 : 0 ≤ rest.fdiv n := by
        rw [Int.fdiv_eq_ediv_of_nonneg _ (by omega)]
        exact Int.ediv_nonneg r0 (by omega)
      refine ⟨_, rfl, d, _, rfl, dget_rest D1.hd, _, rfl, _, _, rfl, rfl, ⟨by omega, by omega⟩, _, rfl, d, _, rfl, dput_rest _ D1.hd, _, rfl, ?_⟩
      refine k _ _ (Int.fmod_nonneg_of_pos _ n0) (Int.fmod_lt_of_pos _ n0) ⟨same_sub sm1 h1, w, c, ws, cs, _, turn, h1, h2, h3, hle, D1.setD q0 D1.tn⟩
    refine ⟨_, rfl, d, _, rfl, dget_rest D.hd, rfl, _, rfl, ?_⟩
    by_cases e : rest = 0
    · subst e
      refine iteT ?_
      refine ⟨_, rfl, d, _, rfl, dget_wide D.hd, Nat.zero_le _, fun p hp => ?_⟩
      have ndp : d ≠ p := ne_of_none D.hd hp
      have nwp : w ≠ p := ne_of_none D.hw hp
      have ncp : c ≠ p := ne_of_none D.hc hp
      have D2 := D.updo (o := .lst []) ndp.symm nwp.symm ncp.symm
      refine ⟨_, _, .lst (SqL.of D2.hw) (dpAll_ints ws), .lst (SqL.of upd_same) .nil, shaped_lst ws, shaped_lst [], _, rfl, ?_⟩
      rw [eqv_nil]
      have sm2 : Same H0 (upd H p (.lst [])) := same_sub sm (sm.free hp)
      generalize upd H p (.lst []) = H2 at D2 sm2
      cases ws with
      | nil =>
        refine iteF ?_
        refine ⟨_, rfl, ?_⟩
        refine ⟨d, w, c, [], cs, 0, turn, rfl, by have : t < 1099511627776 := ht; show turn < 1099511627776; omega, D2, fun m H3 m0 D3 k3 => ?_⟩
        refine ⟨_, rfl, d, _, rfl, dput_rest _ D3.hd, ?_⟩
        have sm3 : Same H0 H3 := fun b o e => k3 b o (sm2 b o e) (ne_of_none e h1)
        exact fin _ _ _ _ (by omega) (same_sub sm3 h1) (D3.setD m0 D3.tn)
      | cons m ws =>
        refine iteT ?_
        refine ⟨_, rfl, d, _, rfl, dget_wide D2.hd, .inl ⟨rfl, _, SqL.of D2.hw⟩, w, _, 0, 0, .int m, rfl, rfl, D2.hw, by decide, by decide, ?_, rfl, ?_⟩
        · simp [seqIndex?]
        · have nwd := D2.ne_dw
          refine ⟨_, rfl, d, _, rfl, dput_rest _ (by rw [upd_ne nwd]; exact D2.hd), ?_⟩
          have m0 := D2.wn m (List.mem_cons_self ..)
          have l0 := D2.wl
          rw [List.length_cons] at l0
          have D3 : DrD (upd H2 w (.lst (ws.map V.int))) d w c ws cs 0 turn := ⟨by rw [upd_ne nwd]; exact D2.hd, upd_same, by rw [upd_ne D2.wc.symm]; exact D2.hc, D2.wc, by omega, fun x hx => D2.wn x (List.mem_cons_of_mem _ hx), D2.cl, by decide, D2.tn⟩
          exact fin _ _ _ _ (by omega) (same_sub (same_sub sm2 h2) h1) (D3.setD m0 D3.tn)
    · have e2 : decide (V.int rest = V.int 0) = false := decide_eq_false fun z => e (by injection z)
      rw [e2]
      refine iteF ?_
      exact fin _ _ _ _ (by omega) sm D
end
theorem Same.seqT {K : PySem.W.Frag} {H H' : Hp} {a : Addr} {xs : List V} (e : Same H H') (h : SqT K H a xs) : SqT K H' a xs := by
  rcases h with (h | ⟨o, h⟩) | h
  · exact .inl (.inl (e _ _ h))
  · exact .inl (.inr ⟨o, e _ _ h⟩)
  · exact .inr h
theorem yesIf {σ : L2.St} {H : Hp} {A B : Hp → Prop} (h : A H) : tYes σ H (fun b H3 => if b = true then A H3 else B H3) := by
  show if true = true then A H else B H
  exact iteT h
section
variable {P : Program} {w : World} {K : PySem.W.Frag} {mg : Str → Option Value} {base : Heap}
theorem sc_pick : FnScope ["_law_draw", "_law_some"] ["_law_draw", "_law_some"] (defScope s_law_pick) := ⟨rfl, rfl, rfl, by decide +kernel, rfl, by decide +kernel, by decide +kernel⟩
theorem toNat_get {xs : List V} {k : Int} (h0 : 0 ≤ k) (h1 : k < (xs.length : Int)) : ∃ v, v ∈ xs ∧ xs[k.toNat]? = some v := by
  have h : k.toNat < xs.length := by omega
  exact ⟨xs[k.toNat], List.getElem_mem h, List.getElem?_eq_getElem h⟩
theorem atI_int {α : Type} {xs : List α} {k : Int} {v : α} (h0 : 0 ≤ k) (h : xs[k.toNat]? = some v) : atI xs k = some v := by
  have e : ((k.toNat : Nat) : Int) = k := by omega
  rw [← e]
  exact atI_nat h
theorem ok_pick {f fT : Addr} {fd fdT : FuncData} (F : FnP K "_law_pick" s_law_pick f fd) (gT : mg "_law_take" = some (.ref fT)) (kT : PySem.W.keepIn K (.ref fT) = true) (bT : Binds K fdT ["_law_draw", "_law_many"] []) (GT : FnOk P w K mg base CX0 2 fT fdT ["_law_draw", "_law_many"] spTake) (gL : mg "len" = none) :
    FnOk P w K mg base CX0 3 f fd ["_law_draw", "_law_some"] (spPick K) := by
  refine F.ok sc_pick (fun vs H Q E h => ?_) (fun cdv A outer s H vs Q E hr h => ?_)
  · obtain ⟨t, H0, d, x, xs, rfl, _⟩ := h
    rfl
  · obtain ⟨t, H0, d, x, xs, rfl, hD, ht, hx, l0, l1, k⟩ := h
    refine ⟨_, PSs.nox (pss_one (ps_ret (pe_ix ix_seq (pv 1) (pe_call GT hr rfl gT kT bT .nil pass0 (pa_cons (pv 0) (pa_cons (pe_callB call_len (by rfl) gL PySem.boot_len (pa_cons (pv 1) pa_nil)) pa_nil))) (fun _ _ => rfl)))), ?_⟩
    have hl : LenV K x H xs.length := by
      cases hx with
      | lst h => exact .inl ⟨_, hD.same.seq h, rfl⟩
      | tup h => exact .inr ⟨_, Same.seqT hD.same h, rfl⟩
      | str h =>
        rw [List.length_map]
        exact ⟨sl_of h, rfl⟩
    refine ⟨_, rfl, _, rfl, _, rfl, _, _, rfl, hl, ?_⟩
    refine ⟨t, H0, d, xs.length, rfl, hD, ht, by omega, by omega, fun i H' i0 i1 hD' => ?_⟩
    obtain ⟨v, hv, hg⟩ := toNat_get i0 i1
    have q := k v H' hv hD'
    cases hx with
    | lst h => exact .inl ⟨_, _, _, _, rfl, rfl, hD'.same.seq h, atI_int i0 hg, q⟩
    | tup h => exact .inr (.inl ⟨_, _, _, _, rfl, rfl, Same.seqT hD'.same h, atI_int i0 hg, q⟩)
    | @str z h =>
      rw [List.getElem?_map] at hg
      cases e : z.cps.toList[i.toNat]? with
      | none => rw [e] at hg; cases hg
      | some c =>
        rw [e] at hg
        cases (Option.some.inj hg)
        exact .inr (.inr ⟨_, _, _, rfl, rfl, sl_of h, atI_int i0 e, q⟩)
theorem sc_begun : FnScope ["_law_script", "_law_wide", "_law_cell"] ["_law_script"] (defScope s_law_begun) := ⟨rfl, rfl, rfl, by decide +kernel, rfl, by decide +kernel, by decide +kernel⟩
theorem ok_begun {f : Addr} {fd : FuncData} (F : FnP K "_law_begun" s_law_begun f fd) (gI : mg "int" = none) (gA : mg "abs" = none) : FnOk P w K mg base CX0 1 f fd ["_law_script"] (spBegun K) := by
  refine F.ok sc_begun (fun vs H Q E h => ?_) (fun cdv A outer s H vs Q E hr h => ?_)
  · obtain ⟨a, ns, rfl, _⟩ := h
    rfl
  · obtain ⟨a, ns, rfl, hS, hl, k⟩ := h
    have hu := hu_of hr
    have nd := sc_begun.nd
    refine ⟨_, PSs.nox (pss_cons (ps_setLc (i := 1) (own := [("_law_cell", 2)]) (g := gName 2) rfl nd rfl rfl (sw_true rfl rfl rfl (by decide +kernel)) (pi_list (pv 0)) (blkOk_by (own := [("_law_cell", 2)]) (N := ["_law_script", "_law_wide", "_law_cell"]) (sc := defScope s_law_begun) (by decide +kernel))
        (fun _ _ _ _ _ => pg_name (i := 2) nd rfl (Or.inl rfl))
        (fun _ _ _ _ _ => pts_one (pt_cmpR op_ge (pe_callB call_abs (by rfl) gA (by decide +kernel) (pa_cons (pv 2) pa_nil)) (pe_op op_pow pe_int pe_int) (nomark _)))
        (fun _ _ _ _ _ => pe_op op_sub (pe_callB call_abs (by rfl) gA (by decide +kernel) (pa_cons (pv 2) pa_nil)) (pe_op op_pow pe_int pe_int)))
      (pss_one (ps_ret (pe_disp (pps_cons pe_str (pv 1) (pps_cons pe_str
        (pe_lc (own := [("_law_cell", 2)]) (g := gName 2) rfl nd (pi_list (pv 0)) (blkOk_by (own := [("_law_cell", 2)]) (N := ["_law_script", "_law_wide", "_law_cell"]) (sc := defScope s_law_begun) (by decide +kernel))
          (fun _ _ _ _ _ => pg_name (i := 2) nd rfl (Or.inl rfl)) (fun _ _ _ _ _ => pts_nil)
          (fun _ _ _ _ _ => pe_op op_modN (pe_callTy call_int1 (by rfl) gI (by decide +kernel) (pa_cons (pe_callB call_abs (by rfl) gA (by decide +kernel) (pa_cons (pv 2) pa_nil)) pa_nil)) pe_int))
        (pps_cons pe_str pe_int (pps_cons pe_str pe_int pps_nil)))) (by rfl) (by rfl) (fun z => by cases z) (by decide))))), ?_⟩
    refine ⟨_, rfl, a, rfl, ⟨_, hS⟩, fun D hD => ?_⟩
    have sD : ∀ o, Same H (upd H D o) := fun o => same_new hD
    refine lc_list (K := K) (a := a) (xs := ns.map V.int) (fun i H' => ∃ acc : List Int, H' = upd H D (.lst (acc.map V.int)) ∧ acc.length ≤ i ∧ ∀ x ∈ acc, 0 ≤ x) ⟨[], rfl, Nat.le_refl _, by simp⟩ (fun i H' _ ⟨acc, e, _⟩ => by rw [e]; exact (sD _).seq hS) ?_ ?_
    · rintro i x H' hi ⟨acc, rfl, hal, ha⟩
      obtain ⟨z, hz, rfl⟩ := getI hi
      have hil : i < ns.length := (List.getElem?_eq_some_iff.mp hz).1
      refine ⟨rfl, ?_⟩
      refine ⟨_, rfl, _, rfl, _, _, rfl, rfl, ⟨by decide, by decide, by decide⟩, _, _, rfl, rfl, _, rfl, ?_⟩
      refine ite2 (fun c => ?_) (fun c => ?_)
      · have c1 := of_decide_eq_true c
        refine ⟨_, rfl, _, rfl, _, _, rfl, rfl, ⟨by decide, by decide, by decide⟩, _, _, rfl, rfl, _, upd_same, ?_, acc ++ [(if z < 0 then -z else z) - 10 ^ Int.toNat 18], ?_, ?_, ?_⟩
        · rw [List.length_map]
          exact Nat.lt_of_lt_of_le (show acc.length < 64 by omega) (by decide)
        · rw [upd_upd, List.map_append]
          rfl
        · rw [List.length_append]
          exact Nat.succ_le_succ hal
        · intro x hx
          rcases List.mem_append.mp hx with h | h
          · exact ha x h
          · rw [List.mem_singleton.mp h]
            omega
      · exact ⟨acc, rfl, by omega, ha⟩
    · rintro H' ⟨ws, rfl, hwl, hw⟩
      rw [List.length_map] at hwl
      intro p hp
      have npD : p ≠ D := fun z => by rw [z, upd_same] at hp; cases hp
      have s1 : Same H (upd (upd H D (.lst (ws.map V.int))) p (.dK [])) := (sD _).trans (same_new hp)
      refine ⟨_, rfl, ?_⟩
      refine ⟨_, rfl, a, rfl, ⟨_, s1.seq hS⟩, fun D2 hD2 => ?_⟩
      have nDD : D ≠ D2 := fun z => by rw [← z, upd_ne npD.symm, upd_same] at hD2; cases hD2
      have npD2 : p ≠ D2 := fun z => by rw [← z, upd_same] at hD2; cases hD2
      refine lc_list (K := K) (a := a) (xs := ns.map V.int) (fun i H' => ∃ acc : List Int, H' = upd (upd (upd H D (.lst (ws.map V.int))) p (.dK [])) D2 (.lst (acc.map V.int)) ∧ acc.length ≤ i) ⟨[], rfl, Nat.le_refl _⟩ (fun i H' _ ⟨acc, e, _⟩ => by rw [e]; exact (s1.trans (same_new hD2)).seq hS) ?_ ?_
      · rintro i x H' hi ⟨acc, rfl, hal⟩
        obtain ⟨z, hz, rfl⟩ := getI hi
        have hil : i < ns.length := (List.getElem?_eq_some_iff.mp hz).1
        refine ⟨rfl, yesIf ?_⟩
        refine ⟨_, rfl, _, rfl, .inl ⟨_, rfl, _, _, rfl, rfl, (show (2147483629 : Int) ≠ 0 by decide), ?_⟩⟩
        refine ⟨_, upd_same, ?_, acc ++ [(if z < 0 then -z else z).fmod 2147483629], ?_, ?_⟩
        · rw [List.length_map]
          exact Nat.lt_of_lt_of_le (show acc.length < 64 by omega) (by decide)
        · rw [upd_upd, List.map_append]
          rfl
        · rw [List.length_append]
          exact Nat.succ_le_succ hal
      · rintro H' ⟨cs, rfl, hcl⟩
        rw [List.length_map] at hcl
        refine ⟨by rw [upd_ne npD2, upd_same], drK D D2 0 0, rfl, (show 4 ≤ 15 by decide), ?_⟩
        rw [dr_made]
        have hpn : H p = none := (sD _).free hp
        have hD2n : H D2 = none := s1.free hD2
        refine k _ p ⟨fun b o e => ?_, D, D2, ws, cs, 0, 0, hpn, hD, hD2n, Int.le_refl _, ⟨upd_same, ?_, ?_, nDD, by omega, hw, by omega, Int.le_refl _, Int.le_refl _⟩⟩ hpn
        · rw [upd_ne (ne_of_none e hpn), upd_ne (ne_of_none e hD2n), upd_ne (ne_of_none e hpn), upd_ne (ne_of_none e hD)]
          exact e
        · rw [upd_ne npD.symm, upd_ne nDD, upd_ne npD.symm, upd_same]
        · rw [upd_ne npD2.symm, upd_same]
end
/-! ## an exception that a clause has caught stays held -/
/-- an exception of the class cls, its dict d, stands at a -/
def ExH (cls : Value) (a : Addr) (d : Option Addr) : HO := .ext fun h => ∃ (oe : Obj) (vs : Array Value), h.get? a = some oe ∧ Zc cls d oe ∧ oe.data = .fields vs
theorem exH_ok {P : Program} {w : World} {H : Hp} {h : Heap} {a : Addr} {cls : Value} {d : Option Addr} {oe : Obj} {vs : Array Value} (e : h.get? a = some oe) (z : Zc cls d oe) (dd : oe.data = .fields vs) : ObjOk P w H h a (ExH cls a d) :=
  ⟨⟨oe, vs, e, z, dd⟩, ⟨oe, e⟩, fun _ _ ⟨o, v, q, r⟩ k => ⟨o, v, k o q, r⟩⟩
section
variable {X : Cx} {pins : List (Addr × Obj)} {σ : L2.St} {H : Hp} {s : Shared}
theorem inv_track {a : Addr} {o : HO} {ob : Obj} (I : Inv X pins σ H s) (n0 : X.s_0.heap.get? a = none) (na : H a = none) (nL : a ≠ X.env.locals) (ha : s.heap.get? a = some ob) (nc : ∀ v, ob.data ≠ .cell v)
    (np : ∀ p ∈ X.pn ++ pins, p.1 ≠ a) (ok : ObjOk X.prog X.w (upd H a o) s.heap a o) : Inv X pins σ (upd H a o) s := by
  have old : ∀ {b : Addr} {u : Obj}, X.s_0.heap.get? b = some u → b ≠ a := fun {b u} e z => by
    rw [z, n0] at e
    cases e
  have nec : ∀ x c, X.env.cells.lookup x = some c → c ≠ a := fun x c e z => by
    obtain ⟨v, oc, hoc, hd⟩ := I.cell x c e
    rw [z, ha] at hoc
    cases hoc
    exact nc v hd
  refine ⟨I.ok, I.os, I.bare, ⟨I.base.keep, I.base.slot, fun b u e n x => ?_, I.base.there, fun b xs e => ?_, fun b u v e => ?_, fun b ps e => ?_⟩, I.loc, I.cell, ?_, fun x c e => ?_, fun p hp => ?_, fun b u e => ?_, I.len⟩
  · rw [upd_ne (old e)]
    exact I.base.free b u e n x
  · rw [upd_ne (ne_of_none (I.base.tups b xs e) na)]
    exact I.base.tups b xs e
  · rw [upd_ne (ne_of_none (I.base.frzs b u v e) na)]
    exact I.base.frzs b u v e
  · obtain ⟨m, q⟩ := I.base.tbls b ps e
    exact ⟨m, by rw [upd_ne (ne_of_none q na)]; exact q⟩
  · rw [upd_ne nL.symm]
    exact I.free
  · rw [upd_ne (nec x c e)]
    exact I.freeC x c e
  · obtain ⟨h1, h2, h3⟩ := I.pin p hp
    exact ⟨h1, by rw [upd_ne (np p hp)]; exact h2, h3⟩
  · by_cases hb : b = a
    · subst hb
      rw [upd_same] at e
      cases e
      exact ok
    · rw [upd_ne hb] at e
      exact (I.hok b u e).stay (fun c v _ q => q) (fun c q => by rw [upd_ne (ne_of_none q na)]; exact q) fun c xs q => by rw [upd_ne (ne_of_none q na)]; exact q
end
/-- what the clause 'except x as n' wishes, behind which the exception stays held -/
def wHeld (K : PySem.W.Frag) (c : Value) (i : Nat) (ts : Addr → Value → Option Addr → TS) (Wout : WX) (D : Ends) : WX := fun cls d σ H =>
  ∃ b, PySem.W.exmOne K cls c = some b ∧ (b = true → ∀ a, H a = none → ts a cls d
    { nx := fun σ' H' => D.nx (σ'.set i none) (upd H' a (ExH cls a d)), rt := fun v H' => D.rt v (upd H' a (ExH cls a d)), bk := fun σ' H' => D.bk (σ'.set i none) (upd H' a (ExH cls a d)), ct := fun σ' H' => D.ct (σ'.set i none) (upd H' a (ExH cls a d)) } (σ.set i (some (.ref a))) H) ∧
    (b = false → Wout cls d σ H)
section
variable {X : Cx} {x n : Str} {c : Value} {i : Nat} {body suite : List Stmt} {b₀ : Stmt} {np pos pos' : Pos} {tb : WX → TS} {ts : Addr → Value → Option Addr → TS} {Wout : WX}
theorem ps_try_held (hex : X.ex = []) (hs : X.stack = X.env :: X.outer) (hf : X.env.frame = some X.env.locals) (hN : X.N.Nodup) (hi : X.N[i]? = some n) (hln : X.env.kindOf n = some .local) (hc : Names X x c) (tk : Takes X Wout)
    (hb : ∀ (W : WX) (pn : List (Addr × Obj)) (xe : Value → Shared → Prop), Takes (X.tr pn xe) W → PassesOwn (model X.prog X.w) X.A X.env xe → PSs (X.tr pn xe) body (tb W))
    (hsu : ∀ (a : Addr) (oe : Obj) (cls : Value) (d : Option Addr) (pn : List (Addr × Obj)), Zc cls d oe → (∃ vs, oe.data = .fields vs) → PSs (X.suite a ((a, oe) :: pn)) (b₀ :: suite) (ts a cls d)) :
    PS X (.Try body [.ExceptHandler (some (.Name x np)) (some n) (b₀ :: suite) pos'] [] [] pos) (fun D σ H => tb (wHeld X.K c i ts Wout D) D σ H) := by
  refine ⟨fun pins s σ H D I hw => ?_⟩
  have ok := I.ok
  have frames1 : X.A.frames = some (X.env :: X.outer) := ok.frames.trans (congrArg some hs)
  refine wpAny_Try_except ?_
  refine wpAny_mono ((hb (wHeld X.K c i ts Wout D) (X.pn ++ pins) (fun e s1 => wpAny (model X.prog X.w) X.A (noteFrame e X.env) (fun _ s2 => wpAny (model X.prog X.w) X.A (setFlight e none) (fun _ s3 =>
    wpAny (model X.prog X.w) X.A (handleBy e X.env [.ExceptHandler (some (.Name x np)) (some n) (b₀ :: suite) pos']) (SP X pins D) X.xe s3) X.xe s2) X.xe s1) (fun u s' air => ?_) PassesOwn.looking).run [] s σ H D (I.toTry _) hw) (fun f s1 hsp => ?_) (fun e s1 he => he)
  · obtain ⟨a, B, sI, pins', σ', H', cls, d, rfl, J0, nb, up, sky, na, os, ag, b, hb1, hyes, hno⟩ := air
    have J : Inv X pins σ' H' sI := J0.ofTry ok
    have skyE : Sky B (X.env :: X.outer) a (Zc cls d) X.env.locals s'.heap := hs ▸ sky
    show wpAny (model X.prog X.w) X.A (noteFrame (.ref a) X.env) _ _ _
    refine Sky.land Zc.steady frames1 hf skyE fun h3 fl3 up3 => ?_
    have J3 : Inv X pins σ' H' { s' with heap := h3 } := J.landed nb fl3.1 (up.trans up3) os ag
    obtain ⟨oe3, vs3, he3, hz3, hd3⟩ := fl3.there
    have nfr : a ∉ frs (X.env :: X.outer) := fun hm => by
      obtain ⟨_, o', e', hnf⟩ := fl3.2.2.1.mem hm
      rw [he3] at e'
      cases e'
      exact hnf _ hd3
    have nL : a ≠ X.env.locals := fun z => nfr (List.mem_filterMap.mpr ⟨X.env, List.mem_cons_self, hf.trans (congrArg some z.symm)⟩)
    have nF : a ∉ X.fs := fun hm => by
      obtain ⟨e, he, q⟩ := List.mem_filterMap.mp hm
      exact nfr (List.mem_filterMap.mpr ⟨e, List.mem_cons_of_mem _ he, q⟩)
    -- the exception is not of the state ahead
    have nI : sI.heap.get? a = none := by
      cases e : sI.heap.get? a with
      | none => rfl
      | some o =>
        have z := nb a o e (by rw [hs]; exact nfr)
        rw [fl3.2.1] at z
        cases z
    have n0 : X.s_0.heap.get? a = none := by
      cases e : X.s_0.heap.get? a with
      | none => rfl
      | some o =>
        obtain ⟨o', z⟩ := J.base.there a o e (by rw [hex]; exact fun q => nomatch q)
        rw [nI] at z
        cases z
    have np' : ∀ p ∈ X.pn ++ pins, p.1 ≠ a := fun p hp z => by
      have q := (J.pin p hp).1
      rw [z, nI] at q
      cases q
    have S3 := J3.suite he3 hd3 na nL nF
    refine wpAny_handleBy_cons (codeAny_handlers_test ?_) (by intro q; cases q)
    have looksT : PySem.W.Looks (model X.prog X.w) h3 (typeOf (.ref a)) cls := fun A Q E s k q => wpAny_typeOf_ref (k _ _ he3) (by rw [hz3.1]; exact q)
    have looksM := PySem.W.exm_one (M := model X.prog X.w) J3.kIn looksT hb1
    have named : ∀ {Q : Value → Shared → Prop} {E : Value → Shared → Prop}, Q c { s' with heap := h3 } → wpAny (model X.prog X.w) (X.A.mark (some (.ref a))) (eval (.Name x np) X.env) Q E { s' with heap := h3 } := fun {Q E} q => by
      obtain ⟨hg, hdbg, hm | ⟨hm, hv, hnn⟩⟩ := hc
      · exact ld_glob (X := X.suite a ((a, oe3) :: (X.pn ++ pins))) S3 hg hm q hdbg
      · exact ld_blt (X := X.suite a ((a, oe3) :: (X.pn ++ pins))) S3 hg hm hv q hnn hdbg
    refine named (looksM.here ?_)
    cases b with
    | true =>
      refine codeAny_handlers_suite_as (HandSPX.lands_againZ fl3 fun h4 fl4 up4 => ?_)
      have J4 : Inv X pins σ' H' { s' with heap := h4 } := J.landed nb fl4.1 ((up.trans up3).trans up4) os ag
      obtain ⟨oe4, vs4, he4, hz4, hd4⟩ := fl4.there
      have S4 := J4.suite he4 hd4 na nL nF
      refine store_ok (X := X.suite a ((a, oe4) :: (X.pn ++ pins))) (v := .ref a) S4 hN hi (.inl hln) rfl (fun s5 S5 => ?_) (.inr hln)
      refine wpAny_mono ((hsu a oe4 cls d (X.pn ++ pins) hz4 ⟨_, hd4⟩).run [] s5 _ H' _ S5 (hyes rfl a na)) (fun f s6 hsp => ?_) (fun _ _ z => False.elim z)
      have leave : ∀ {σ6 : L2.St} {H6 : Hp} {Q : Shared → Prop}, Inv (X.suite a ((a, oe4) :: (X.pn ++ pins))) [] σ6 H6 s6 → (∀ s7, Inv X pins (σ6.set i none) (upd H6 a (ExH cls a d)) s7 → Q s7) →
          wpAny (model X.prog X.w) X.A (do bindName X.env n .none; unbindBehindTheSuite X.env n pos') (fun _ s7 => Q s7) X.xe s6 := fun {σ6 H6 Q} S6 hq => by
        obtain ⟨g1, g2, _, _, g5⟩ := S6.pin (a, oe4) (List.mem_append_left _ List.mem_cons_self)
        exact gone_ok (inv_track (S6.unsuite ok) n0 g2 nL g1 g5 np' (exH_ok g1 hz4 hd4)) hN hi hln hq
      cases f with
      | next =>
        obtain ⟨σ6, H6, S6, q6⟩ := hsp
        exact leave S6 fun s7 J7 => ⟨_, _, J7, q6⟩
      | brk =>
        obtain ⟨σ6, H6, S6, q6⟩ := hsp
        exact leave S6 fun s7 J7 => ⟨_, _, J7, q6⟩
      | cont =>
        obtain ⟨σ6, H6, S6, q6⟩ := hsp
        exact leave S6 fun s7 J7 => ⟨_, _, J7, q6⟩
      | ret u =>
        obtain ⟨v6, σ6, H6, S6, r6, q6⟩ := hsp
        exact leave S6 fun s7 J7 => ⟨_, _, _, J7, r6, q6⟩
    | false =>
      show wpAny _ X.A (handleBy (.ref a) X.env []) _ _ _
      refine wpAny_handleBy_nil ?_
      obtain ⟨k1, k2, k3, oe, vs, T, oT, ts', he, hz, hd, h1, hr⟩ := id fl3
      unfold PySem.passOn
      refine wpAny_bind (wpAny_field he hd h1 ?_)
      rw [if_neg (show ¬ ((Value.ref T == Value.none) = true) from by simp)]
      have thrown : wpAny (model X.prog X.w) X.A (setFlight (.ref a) X.env.frame) (fun _ s4 => wpAny (model X.prog X.w) X.A (throw (.ref a) : Sem Flow) (SP X pins D) X.xe s4) X.xe { s' with heap := h3 } := by
        rw [hf]
        refine HandSPX.setFlight_upZ fl3 fun h4 hh4 up4 => wpAny_throw (tk _ _ ?_)
        exact ⟨a, B, sI, pins, σ', H', cls, d, rfl, J, nb, (up.trans up3).trans up4, .inr (.inr (hs ▸ hh4)), na, os, ag, hno rfl⟩
      first
        | exact wpAny_bind (wpAny_pure (wpAny_bind thrown))
        | exact wpAny_bind thrown
  · cases f with
    | next =>
      obtain ⟨σ', H', J', q⟩ := hsp
      exact wpAny_execs_nil ⟨σ', H', J'.ofTry ok, q⟩
    | brk =>
      obtain ⟨σ', H', J', q⟩ := hsp
      exact ⟨σ', H', J'.ofTry ok, q⟩
    | cont =>
      obtain ⟨σ', H', J', q⟩ := hsp
      exact ⟨σ', H', J'.ofTry ok, q⟩
    | ret u =>
      obtain ⟨v, σ', H', J', r, q⟩ := hsp
      exact ⟨v, σ', H', J'.ofTry ok, r, q⟩
end
/-! ## attributes and classes of exceptions that are held -/
/-- what the class at D says, for reads of its instances -/
structure ExcR (K : PySem.W.Frag) (D : Addr) : Prop where
  ga : PySem.W.findIn K (.ref D) "__getattribute__" = some (some (.builtin "BaseException.__getattribute__"))
  gt : PySem.W.findIn K (.ref D) "__getattr__" = some none
  sb : PySem.W.subIn K (.ref D) (.type "BaseException") = some true
  hd : PySem.W.hasDictIn K D = true
  kl : PySem.W.findIn K (.ref D) "__class__" = some (some (.builtin "object.__class__"))
  sp : PySem.W.specialIn K (.builtin "object.__class__") "__get__" = some (some (.builtin "getset_descriptor.__get__"))
  tk : PySem.W.takesIn K (.builtin "object.__class__") = some true
  ob : PySem.W.mroIn K D (.type "object") = some true
/-- an exception of the class at D stands at a -/
def ExAt (H : Hp) (a D : Addr) : Prop := (∃ d, H a = some (exo a D d) ∧ ∀ dx, d = some dx → ∃ fs, H dx = some (exd dx fs)) ∨ H a = some (ExO (.ref D) a) ∨ ∃ d, H a = some (ExH (.ref D) a d) ∧ ∀ dx, d = some dx → ∃ fs, H dx = some (.xd fs)
section
variable {X : Cx} {pins : List (Addr × Obj)} {σ : L2.St} {H : Hp} {s : Shared}
theorem exAt_inst {a D : Addr} (I : Inv X pins σ H s) (h : ExAt H a D) : ∃ ob od, PySem.W.InstAt s.heap a ob D od := by
  rcases h with ⟨d, h1, h2⟩ | h | ⟨d, h1, h2⟩
  · obtain ⟨t1, ho⟩ := exo_at I.hok h1
    cases d with
    | none => exact ⟨_, none, ho, rfl, rfl, trivial⟩
    | some dx =>
      obtain ⟨fs, h3⟩ := h2 dx rfl
      obtain ⟨mA, ⟨od, es, ep, hod, r⟩, _⟩ := exd_at I.hok h3
      exact ⟨_, some od, ho, rfl, rfl, hod⟩
  · have x : ObjOk X.prog X.w H s.heap a (ExO (.ref D) a) := I.hok a _ h
    obtain ⟨⟨oe, vs, e1, e2, e3, _⟩, _⟩ := x
    obtain ⟨oc, odd, oda, osl⟩ := oe
    obtain ⟨z1, z2⟩ := e2
    dsimp only at z1 z2 e3
    subst z1 z2 e3
    exact ⟨_, none, e1, rfl, rfl, trivial⟩
  · have x : ObjOk X.prog X.w H s.heap a (ExH (.ref D) a d) := I.hok a _ h1
    obtain ⟨⟨oe, vs, e1, e2, e3⟩, _⟩ := x
    obtain ⟨oc, odd, oda, osl⟩ := oe
    obtain ⟨z1, z2⟩ := e2
    dsimp only at z1 z2 e3
    subst z1 z2 e3
    cases odd with
    | none => exact ⟨_, none, e1, rfl, rfl, trivial⟩
    | some dx =>
      obtain ⟨fs, h3⟩ := h2 dx rfl
      obtain ⟨mA, ⟨od, es, ep, hod, r⟩, _⟩ : ∃ mA, s.heap.Ns1 dx mA ∧ ∀ f, RelO (fs.lookup f) (mA f) := I.hok dx _ h3
      exact ⟨_, some od, e1, rfl, rfl, hod⟩
end
open PySem.W in
theorem exc_class {prog : Program} {w : World} {A : Around} {E : Value → Shared → Prop} {s : Shared} {K : Frag} {x D : Addr} {ox : Obj} {od : Option Obj} {Q : Option Value → Shared → Prop} (C : ExcR K D)
    (X : K.In s.heap) (I : InstAt s.heap x ox D od) (h : Q (some (.ref D)) { s with toks := s.toks + 1 }) : wpAny (model prog w) A (getAttr? (.ref x) "__class__") Q E s := by
  obtain ⟨cdD, hcD⟩ : ∃ cd, clsIn K D = some cd := by
    obtain ⟨cd, q, _⟩ := any_some C.hd
    exact ⟨cd, q⟩
  have hfo : findObj K D od "__class__" = some (.bind (.builtin "getset_descriptor.__get__") (.builtin "object.__class__")) := by
    unfold findObj
    rw [hcD, Option.bind_some, C.kl, Option.bind_some]
    simp [C.sp, C.tk]
  obtain ⟨hp, gs, dr, tk, os⟩ := s
  have lt := I.type (M := model prog w)
  have lg := looks_findIn (M := model prog w) X C.ga
  have lh := looks_findIn (M := model prog w) X C.gt
  have lf := looks_find (M := model prog w) X I hfo
  have lb : Looks (model prog w) hp (isInstance (.ref x) (.type "BaseException")) true := lt.andThen (looks_subIn X C.sb)
  have z2 : (onTheHeap (Value.ref D) && Value.builtin "BaseException.__getattribute__" == Value.builtin "object.__getattribute__") = false := by
    rw [show (Value.builtin "BaseException.__getattribute__" == Value.builtin "object.__getattribute__") = false by decide +kernel] <;> rfl
  unfold getAttr? getAttrBy? getAttrBy
  refine wpAny_bind (wpAny_mkText (wpAny_bind (wpAny_attempt (wpAny_holding (wpAny_bind (lt.at (wpAny_bind (lg.at ?_))))))))
  show wpAny _ _ (if (onTheHeap (Value.ref D) && Value.builtin "BaseException.__getattribute__" == Value.builtin "object.__getattribute__") = true then _ else _) _ _ _
  rw [z2, if_neg Bool.false_ne_true]
  unfold getAttrByItsOwn hookBefore
  refine wpAny_bind ?_
  rw [if_pos (show onTheHeap (Value.ref D) = true from rfl)]
  refine lh.at (wpAny_bind (wpAny_attempt (wpAny_holding ?_)))
  unfold callGetattribute
  rw [show (false && onTheHeap (Value.builtin "BaseException.__getattribute__")) = false from rfl, if_neg Bool.false_ne_true]
  unfold boundAndCalled
  rw [PySem.F.excAttr_ValueError.ga.bind (.ref x)]
  refine wpAny_bind (wpAny_pure ?_)
  show wpAny _ _ (call (.builtin "BaseException.__getattribute__") [.ref x, .str "__class__" tk]) _ _ _
  refine wpAny_call (codeAny_call_builtin PySem.F.excAttr_ValueError.ga.plain PySem.F.entry_bexc_ga ?_)
  refine @check_slot (model prog w) _ _ ⟨hp, gs, dr, tk + 1, os⟩ "BaseException.__getattribute__" "BaseException" "__getattribute__" (.ref x) [.str "__class__" tk] [] _ (by decide +kernel) (by decide +kernel) lb (PySem.F.args_bexc_ga (.ref x) (.str "__class__" tk)) ?_
  unfold Builtin.«object.__getattribute__»
  refine wpAny_bind (wpAny_of_eq (a := ((Value.ref x : Value), [Value.str "__class__" tk])) (by first | rfl | (simp only [slotArgs]; rfl)) ?_)
  refine wpAny_bind (wpAny_pure (wpAny_bind (lt.at (wpAny_bind (lf.at ?_)))))
  show wpAny _ _ (holding [Value.builtin "object.__class__"] (call (.builtin "getset_descriptor.__get__") [.builtin "object.__class__", .ref x, .ref D]) >>= ret) _ _ _
  refine wpAny_bind (wpAny_holding (wpAny_call (class_get (s := ⟨hp, gs, dr, tk + 1, os⟩) (ox := ox) (od := od) X I C.ob ?_)))
  refine wpAny_pure ?_
  show wpAny _ _ (handedOut (.ref D)) _ _ _
  rw [handedOut_of (v := .ref D) rfl]
  exact wpAny_pure (wpAny_pure h)
open PySem.W in
theorem kitx_held {K : Frag} {x D : Addr} (C : ExcR K D) : KitX K (.ref x) (.ref D) (fun h => ∃ ox od, InstAt h x ox D od) where
  ty := fun _ _ _ ⟨_, _, I⟩ => I.type
  it := fun _ _ X _ => by
    obtain ⟨cdD, hcD, _⟩ := any_some C.hd
    unfold clsIn at hcD
    split at hcD
    · rename_i c' d' cd' sl' ho
      intro A' Q' E' s' k q
      unfold isType loadHead
      exact wpAny_bind (wpAny_loadPart (k _ _ (X _ _ ho)) (wpAny_pure q))
    · cases hcD
  ne := fun h tp dd its n sl X htp => by
    obtain ⟨cdD, hcD, _⟩ := any_some C.hd
    refine Bool.eq_false_iff.mpr fun q => ?_
    have e : D = tp := Value.ref.inj (beq_iff_eq.mp q)
    subst e
    unfold clsIn at hcD
    split at hcD
    · rename_i c' d' cd' sl' ho
      have z := (X _ _ ho).symm.trans htp
      cases z
    · cases hcD
  ca := fun X ⟨_, _, I⟩ k => exc_class C X I k
/-- isinstance(e, c), e an exception that is held -/
def rIsiX (K : PySem.W.Frag) : List V → Hp → VK → Prop := fun xs H Q => ∃ (a D : Addr) (c : V) (u : Value) (b : Bool), xs = [.ref a, c] ∧ ClsV c u ∧ ExcR K D ∧ ExAt H a D ∧ PySem.W.kitOne K (.ref D) u = some b ∧ Q (.bl b) H
theorem call_isiX {X : Cx} : CallR X (.builtin "isinstance") (rIsiX X.K) := by
  intro pins s σ H xs us Q I r h
  obtain ⟨a, D, c, u, b, rfl, k, C, ea, e, q⟩ := h
  obtain ⟨u1, u2, rfl, r1, r2⟩ := vals2 r
  have e2 := k.eq r2
  subst e2
  cases (show u1 = Value.ref a from r1)
  obtain ⟨ob, od, J⟩ := exAt_inst I ea
  exact PySem.W.kia_one (kitx_held C) I.kIn ⟨_, _, J⟩ e (fun z => nomatch z) fun tk => ⟨.bl b, H, I.tok tk, rfl, q⟩
/-- e.f, e an exception that is held, f a field of its own dict -/
def tExF (K : PySem.W.Frag) (te : TE) (f : Str) : TE := fun σ H Q => te σ H fun x H1 => ∃ (a D dx : Addr) (fs : List (Str × V)) (v : V), x = .ref a ∧ ExcR K D ∧ PySem.W.findIn K (.ref D) f = some none ∧ ((H1 a = some (exo a D (some dx)) ∧ H1 dx = some (exd dx fs)) ∨ (H1 a = some (ExH (.ref D) a (some dx)) ∧ H1 dx = some (.xd fs))) ∧ fs.lookup f = some v ∧ Q v H1
theorem pe_exF {X : Cx} {e : Expr} {te : TE} {f : Str} {pos : Pos} (he : PE X e te) (hb : attributeBase e f X.env (eval e X.env) = eval e X.env := by rfl) : PE X (.Attribute e f pos) (tExF X.K te f) := by
  refine ⟨fun pins s σ H Q I h => ?_⟩
  refine attr_of hb (thn (he.run pins s σ H _ I h) fun u s1 hh => ?_)
  obtain ⟨x, H1, I1, rx, a, D, dx, fs, v, ex, C, no, st, l, q⟩ := hh
  subst ex
  cases (show u = Value.ref a from rx)
  have key : ∃ (ob : Obj) (mA : Str → Option Value), s1.heap.Ns1 dx mA ∧ (∀ f, RelO (fs.lookup f) (mA f)) ∧ s1.heap.get? a = some ob ∧ ob.cls = .ref D ∧ PySem.W.notCls ob = true ∧ ob.dict = some dx := by
    rcases st with ⟨ea, ed⟩ | ⟨ea, ed⟩
    · obtain ⟨t1, ho⟩ := exo_at I1.hok ea
      obtain ⟨mA, hns, hr⟩ := exd_at I1.hok ed
      exact ⟨_, mA, hns, hr, ho, rfl, rfl, rfl⟩
    · have x : ObjOk X.prog X.w H1 s1.heap a (ExH (.ref D) a (some dx)) := I1.hok a _ ea
      obtain ⟨⟨oe, vs, e1, e2, e3⟩, _⟩ := x
      obtain ⟨mA, hns, hr⟩ : ∃ mA, s1.heap.Ns1 dx mA ∧ ∀ f, RelO (fs.lookup f) (mA f) := I1.hok dx _ ed
      exact ⟨oe, mA, hns, hr, e1, e2.1, by unfold PySem.W.notCls; rw [e3] <;> rfl, e2.2⟩
  obtain ⟨ob, mA, hns, hr, ho, oc, onc, odx⟩ := key
  obtain ⟨od, hod, hlk⟩ := lookIn_ns hns
  have rl := hr f
  rw [l] at rl
  cases hm : mA f with
  | none =>
    rw [hm] at rl
    exact rl.elim
  | some y =>
    rw [hm] at rl
    have J : PySem.W.InstAt s1.heap a ob D (some od) := ⟨ho, oc, onc, by rw [odx]; exact hod⟩
    exact PySem.HandSPX.exc_get I1.kIn J C.ga C.gt C.sb (PySem.W.findObj_own C.hd no rfl (by rw [hlk, hm])) (handed_of rl) ⟨v, H1, I1.tok _, rl, q⟩
/-! ## defs that are called where no repr runs -/
structure FnG (P : Program) (w : World) (K : PySem.W.Frag) (mg : Str → Option Value) (base : Heap) (k : Nat) (f : Addr) (fd : FuncData) (ps : List Str) (sp : Sp) : Prop where
  len : ∀ vs H Q E, sp vs H Q E → vs.length = ps.length
  run : ∀ (A : Around) (outer : List Env) (s : Shared) (H : Hp) (args : Args) (us : List Value) (vs : List V) (Q : VK) (E : XK), A.guards = some [] → Room k A → Env0 P w K mg base A outer s H → BindsTo s fd args (ps.zip us) → Vals vs us → sp vs H Q E →
    codeAny (model P w) A (.call (.ref f) args) (CR CX0 outer P w H s Q E) s
section
variable {P : Program} {w : World} {K : PySem.W.Frag} {mg : Str → Option Value} {base : Heap} {x qual : Str} {params : Arguments} {body : List Stmt} {scope : Scope} {dvs : List V} {kws : List (Str × V)} {f : Addr} {fd : FuncData}
theorem FunD.okG {N ps : List Str} {k : Nat} {sp : Sp} (F : FunD K x qual params body scope dvs kws f fd) (S : FnScope N ps scope) (len : ∀ vs H Q E, sp vs H Q E → vs.length = ps.length)
    (hbody : ∀ (cdv : Value) (A : Around) (outer : List Env) (s : Shared) (H : Hp) (vs : List V) (Q : VK) (E : XK), (A.deeper (PyProof.Rows.envOfC qual scope s.heap.objs.size f cdv)).guards = some [] → Room k (A.deeper (PyProof.Rows.envOfC qual scope s.heap.objs.size f cdv)) → sp vs H Q E →
      ∃ t, PSs (cxOf CX0 P w K mg base N qual scope f cdv A outer s H E) body t ∧ t { nx := fun _ H' => Q .non H', rt := Q } (start N vs) H) : FnG P w K mg base (k + 1) f fd ps sp := by
  obtain ⟨oc, od, dV, kV, doc, pm, an, cdv, ct, osl, rfl, lk, hcd, _, _⟩ := F.ex
  refine ⟨len, fun A outer s H args us vs Q E hg hr e0 hb r hsp => ?_⟩
  have hlen := len _ _ _ _ hsp
  have kin : K.In s.heap := e0.mod.kin.keeps fun b o e => (e0.bs b o e).1
  have nol : s.heap.NoLimit := e0.mod.nolimit.keeps fun b o e => (e0.bs b o e).1
  have kinds : ∀ y ∈ ps.zip us, scope.names.lookup y.1 = some .local ∨ (scope.names.lookup y.1 = some .cell ∧ ((cellsFrom (s.heap.objs.size + 1) scope.names []).lookup y.1).isSome = true) := fun ⟨n, v⟩ hy => by
    rcases S.par n (List.of_mem_zip hy).1 with q | q
    · exact .inl q
    · exact .inr ⟨q, PySem.W.cellsFrom_some _ _ _ (.inl q)⟩
  refine codeAny_call_function hr.depth (kin _ _ lk) rfl S.co S.gen rfl (PySem.W.codeRec_of kin hcd) (hb _ _ _ _ ?_)
  refine wpAny_newFunctionEnv_cells S.kind kinds fun env he s1 ic => ?_
  subst he
  refine ⟨nol.keeps ic.toInCall.keep, codeAny_func ?_⟩
  obtain ⟨t, ht, hq⟩ := hbody cdv A outer s H vs Q E hg (hr.deeper _) hsp
  have I : Inv (cxOf CX0 P w K mg base N qual scope f cdv A outer s H E) [] (start N vs) H s1 := inv_start S hr.hd e0 hlen r ic
  refine wpAny_mono (ht.run [] s1 (start N vs) H _ I hq) (fun fl s' hs => ?_) fun e s' hs => hs
  cases fl with
  | ret u =>
    obtain ⟨v, σ', H', J, rv, q⟩ := hs
    exact ⟨v, H', J.os, J.bare, J.base, J.hok, rv, q⟩
  | next =>
    obtain ⟨σ', H', J, q⟩ := hs
    exact ⟨V.non, H', J.os, J.bare, J.base, J.hok, rfl, q⟩
  | brk =>
    obtain ⟨_, _, _, q⟩ := hs
    exact q.elim
  | cont =>
    obtain ⟨_, _, _, q⟩ := hs
    exact q.elim
end
section
variable {X : Cx} {k : Nat} {f : Addr} {fd : FuncData} {ps : List Str} {sp : Sp} {E : XK} {x : Str} {p pos : Pos} {e : Expr} {es : List Expr} {t : TA} {ds : List Value} {dvs : List V}
theorem run_fnG {pins : List (Addr × Obj)} {σ : L2.St} {H : Hp} {s : Shared} {Q : VK} {us : List Value} {vs : List V} (F : FnG X.prog X.w X.K X.mg X.base k f fd ps sp) (hg : X.A.guards = some []) (hr : Room k X.A) (hb : Binds X.K fd ps ds) (hd : Vals dvs ds)
    (I : Inv X pins σ H s) (r : Vals vs us) (h : sp (vs ++ dvs) H Q E) : wpAny (model X.prog X.w) X.A (call (.ref f) us) (EP X pins σ Q) X.xe s := by
  have rr : Vals (vs ++ dvs) (us ++ ds) := r.append hd
  have hlen : (us ++ ds).length = ps.length := by
    rw [← rr.length]
    exact F.len _ _ _ _ h
  refine wpAny_call (codeAny_mono (F.run X.A X.stack s H ⟨us, []⟩ (us ++ ds) (vs ++ dvs) Q E hg hr I.env0 (hb s us I.kIn hlen) rr h) fun r s' hq => ?_)
  cases r with
  | error e => exact False.elim hq
  | ok fl =>
    cases fl with
    | ret u => exact I.after hq
    | next => exact hq.elim
    | brk => exact hq.elim
    | cont => exact hq.elim
theorem pe_callG (F : FnG X.prog X.w X.K X.mg X.base k f fd ps sp) (hgd : X.A.guards = some []) (hr : Room k X.A) (hg : Gl X x) (hm : X.mg x = some (.ref f)) (hk : PySem.W.keepIn X.K (.ref f) = true) (hb : Binds X.K fd ps ds) (hd : Vals dvs ds)
    (ha : PA X (e :: es) t) (hdb : (x == ("__debug__" : Str)) = false := by decide) (he : starEach (e :: es) X.env = (false, eval e X.env) :: starEach es X.env := by rfl) (hpl : (backTo pos (starEach es X.env)).any (·.1) = false := by rfl) :
    PE X (.Call (.Name x p) (e :: es) [] pos) (tCall sp dvs E t) :=
  ⟨fun pins s σ H Q I h => wpAny_Call_Name_kw (ld_glob I hg hm (PySem.W.callWith_K (h₀ := X.base) I.ok.mod.kin hk (thn (ha.run pos pins s σ H _ I h) fun us s1 ⟨vs, H1, I1, r, q⟩ => ⟨I1.kIn, run_fnG F hgd hr hb hd I1 r q⟩) he hpl) hdb)⟩
end
/-! ## repr of data, where no repr runs -/
def keyD : Key → PyData
  | .inl i => .int i
  | .inr x => .str x
mutual
inductive Dx (K : PySem.W.Frag) (H : Hp) : V → PyData → Prop
  | non : Dx K H .non .none
  | bl (b : Bool) : Dx K H (.bl b) (.bool b)
  | int (i : Int) : Dx K H (.int i) (.int i)
  | str (x : Str) : Dx K H (.str x) (.str x)
  | lst {a : Addr} {xs : List V} {ds : List PyData} : SqL K H a xs → DxAll K H xs ds → Dx K H (.ref a) (.list ds)
  | tup {a : Addr} {xs : List V} {ds : List PyData} : SqT K H a xs → DxAll K H xs ds → Dx K H (.ref a) (.tuple ds)
  | dic {a : Addr} {kvs : List (Key × V)} {ds : List PyData} : H a = some (.dK kvs) → DxAll K H (kvs.map (·.2)) ds → Dx K H (.ref a) (.dict ((kvs.map fun kv => keyD kv.1).zip ds))
inductive DxAll (K : PySem.W.Frag) (H : Hp) : List V → List PyData → Prop
  | nil : DxAll K H [] []
  | cons {v : V} {vs : List V} {d : PyData} {ds : List PyData} : Dx K H v d → DxAll K H vs ds → DxAll K H (v :: vs) (d :: ds)
end
/-- the modules' table is a dict of the written part -/
def SmD (K : PySem.W.Frag) : Prop := ∃ o : Obj, K.lookup sysModules = some o ∧ o.cls = .type "dict"
theorem DxAll.length {K : PySem.W.Frag} {H : Hp} : ∀ {vs : List V} {ds : List PyData}, DxAll K H vs ds → vs.length = ds.length
  | _, _, .nil => rfl
  | _, _, .cons _ t => by rw [List.length_cons, List.length_cons, t.length]
section
variable {X : Cx} {pins : List (Addr × Obj)} {σ : L2.St} {H : Hp} {s : Shared}
theorem keys_read {P : Program} {w : World} : ∀ {es : List DictEntry} {vs : List (Key × Value)} {kvs : List (Key × V)} {h : Heap}, Pairs (mixKind P w) es vs → KV kvs vs → ∃ as, ReadsAll h (es.map (·.key)) (kvs.map fun kv => keyD kv.1) as ∧ as = []
  | _, _, _, h, .nil, .nil => ⟨[], .nil, rfl⟩
  | e :: es, kv :: vs, p :: kvs, h, .cons k1 _ t, .cons r t2 => by
    obtain ⟨as, q, rfl⟩ := keys_read (h := h) t t2
    obtain ⟨c1, e1, e2⟩ := e
    obtain ⟨kk, vv⟩ := p
    have ek : kv.1 = kk := r.1.symm
    rw [ek] at k1
    have kd : Reads h e1 (keyD kk) [] := by
      rcases keyIs_shape k1 with ⟨i, tt, rfl, z⟩ | ⟨x, tt, rfl, z⟩
      · have z : e1 = Value.int i tt := z
        subst z
        exact Reads.int i tt
      · have z : e1 = Value.str x tt := z
        subst z
        exact Reads.str x tt
    exact ⟨_, ReadsAll.cons kd q, rfl⟩
theorem vals_read {P : Program} {w : World} : ∀ {es : List DictEntry} {vs : List (Key × Value)} {kvs : List (Key × V)}, Pairs (mixKind P w) es vs → KV kvs vs → Vals (kvs.map (·.2)) (es.map (·.val))
  | _, _, _, .nil, .nil => .nil
  | e :: es, kv :: vs, p :: kvs, .cons _ e1 t, .cons r t2 => by
    refine .cons ?_ (vals_read t t2)
    show RelV p.2 e.val
    rw [e1]
    exact r.2
theorem zip_fst {α β : Type} : ∀ {l : List α} {m : List β}, l.length = m.length → (l.zip m).map (·.1) = l
  | [], _, _ => rfl
  | a :: l, b :: m, h => by
    show a :: (l.zip m).map (·.1) = a :: l
    rw [zip_fst (Nat.succ.inj h)]
theorem zip_snd {α β : Type} : ∀ {l : List α} {m : List β}, l.length = m.length → (l.zip m).map (·.2) = m
  | [], [], _ => rfl
  | a :: l, b :: m, h => by
    show b :: (l.zip m).map (·.2) = b :: m
    rw [zip_snd (Nat.succ.inj h)]
mutual
theorem Dx.reads (I : Inv X pins σ H s) (S : SmD X.K) : ∀ {d : PyData} {v : V} {u : Value}, Dx X.K H v d → RelV v u → ∃ as, Reads s.heap u d as ∧ sysModules ∉ as
  | _, _, _, .non, r => by
    cases r
    exact ⟨_, Reads.none, by simp⟩
  | _, _, _, .bl b, r => by
    cases r
    exact ⟨_, Reads.bool b, by simp⟩
  | _, _, _, .int i, r => by
    obtain ⟨t, rfl⟩ := r
    exact ⟨_, Reads.int i t, by simp⟩
  | _, _, _, .str x, r => by
    obtain ⟨t, rfl⟩ := r
    exact ⟨_, Reads.str x t, by simp⟩
  | _, _, _, .lst hs ha, r => by
    cases r
    obtain ⟨its, rv, ⟨o, n, ho, hc, _, hd⟩, _⟩ := I.list hs
    obtain ⟨as, hr, hn⟩ := DxAll.reads I S ha rv
    refine ⟨_, Reads.list ho hc hd hr, fun z => ?_⟩
    rcases List.mem_cons.mp z with z | z
    · obtain ⟨om, hm, hmc⟩ := S
      have h2 := I.kIn _ _ hm
      rw [z, ho] at h2
      cases h2
      rw [hc] at hmc
      exact absurd hmc (by decide)
    · exact hn z
  | _, _, _, .tup hs ha, r => by
    cases r
    obtain ⟨its, rv, ⟨o, ho, hc, n, hd⟩, _⟩ := I.tuple hs
    obtain ⟨as, hr, hn⟩ := DxAll.reads I S ha rv
    exact ⟨_, Reads.tuple ho hc hd hr, hn⟩
  | _, _, _, .dic (a := a) (kvs := kvs) (ds := ds) hk ha, r => by
    cases r
    obtain ⟨hz, hsm, vs, rk, o, es, ep, ho, hx, hd, _, hp, _⟩ : kvs.length ≤ sizeLine ∧ (a == sysModules) = false ∧ ∃ vs, KV kvs vs ∧ s.heap.DictOf (mixKind X.prog X.w) a vs := I.hok _ _ hk
    obtain ⟨as, h1, rfl⟩ := keys_read (h := s.heap) hp rk
    obtain ⟨bs, h2, hn⟩ := DxAll.reads I S ha (vals_read hp rk)
    have hl : (kvs.map fun kv => keyD kv.1).length = ds.length := by rw [List.length_map, ← ha.length, List.length_map]
    refine ⟨_, Reads.dict (kvs := (kvs.map fun kv => keyD kv.1).zip ds) ho hx.1 hd (by rw [zip_fst hl]; exact h1) (by rw [zip_snd hl]; exact h2), fun z => ?_⟩
    rcases List.mem_cons.mp z with z | z
    · rw [z] at hsm
      simp at hsm
    · exact hn (by simpa using z)
theorem DxAll.reads (I : Inv X pins σ H s) (S : SmD X.K) : ∀ {ds : List PyData} {vs : List V} {us : List Value}, DxAll X.K H vs ds → Vals vs us → ∃ as, ReadsAll s.heap us ds as ∧ sysModules ∉ as
  | _, _, _, .nil, r => by
    cases r
    exact ⟨_, ReadsAll.nil, by simp⟩
  | _, _, _, .cons h1 h2, r => by
    cases r with
    | cons r1 r2 =>
      obtain ⟨as, q1, n1⟩ := Dx.reads I S h1 r1
      obtain ⟨bs, q2, n2⟩ := DxAll.reads I S h2 r2
      exact ⟨_, ReadsAll.cons q1 q2, fun z => (List.mem_append.mp z).elim n1 n2⟩
end
end
/-- repr(x), x a list, tuple or dict of data -/
def rRepr (K : PySem.W.Frag) : List V → Hp → VK → Prop := fun xs H Q => ∃ (a : Addr) (d : PyData), xs = [.ref a] ∧ Dx K H (.ref a) d ∧ d.showable = true ∧ d.depth ≤ 100 ∧ d.shown.length ≤ sizeLine ∧ Q (.str d.shown) H
theorem call_reprX {X : Cx} (hg : X.A.guards = some []) (hu : X.A.units + 101 < cLine) (S : SmD X.K) : CallR X (.builtin "repr") (rRepr X.K) := by
  intro pins s σ H xs us Q I r h
  obtain ⟨a, d, rfl, hd, hs, hdp, hz, q⟩ := h
  obtain ⟨u, rfl, ru⟩ := vals1 r
  obtain ⟨as, hr, hn⟩ := hd.reads I S ru
  cases (show u = Value.ref a from ru)
  exact repr_of_reads' hr hs (fun _ => hn) hg (by omega) (fun _ _ e => e) (fun h' t tk hk => ⟨.str d.shown, H, I.kept (t' := tk) hk, ⟨_, rfl⟩, q⟩) hz
/-! ## _law_caught -/
theorem takes_len {X : Cx} {W : WX} (t : Takes X W) : Takes X (fun cls d σ H => σ.length = X.N.length → W cls d σ H) := fun u s' ⟨a, B, sI, pins, σ, H, cls, d, e, I, nb, up, sky, na, os, ag, w⟩ =>
  t u s' ⟨a, B, sI, pins, σ, H, cls, d, e, I, nb, up, sky, na, os, ag, w I.len⟩
def TCaught (K : PySem.W.Frag) (CS : Addr) : (XK → Hp → VK → Prop) → Hp → VK → Prop := fun tl H Q =>
  tl (fun cls d H' => PySem.W.exmOne K cls (.ref CS) = some true ∧ ∀ a, H' a = none → Q (.ref a) (upd H' a (ExH cls a d))) H fun _ H' => ∃ v : V, (some (some V.non) : Option (Option V)) = some (some v) ∧ Q v H'
theorem sc_caught : FnScope ["_law_work", "_law_error", "caught"] ["_law_work"] (defScope s_law_caught) := ⟨rfl, rfl, rfl, by decide +kernel, rfl, by decide +kernel, by decide +kernel⟩
theorem len3 {σ : L2.St} (h : σ.length = 3) : ∃ a b c, σ = [a, b, c] := by
  match σ, h with
  | [a, b, c], _ => exact ⟨a, b, c, rfl⟩
theorem caught_gives {X : Cx} {g CS : Addr} {cdg : Value} {q : Str} (gP : X.mg "StopError" = some (.ref CS)) :
    LamX.GivesTo X ["_law_work", "_law_error", "caught"] "_law_caught" (defScope s_law_caught) g cdg (defBody s_law_caught) "_law_work" q (TCaught X.K CS) := by
  intro f c' s H Q tl act hc h
  have nd := sc_caught.nd
  refine ⟨_, pss_cons (ps_set (i := 1) nd rfl (.inl rfl) pe_non) (pss_cons (ps_try_held (X := (cxOf C8.CX0 X.prog X.w X.K X.mg X.base ["_law_work", "_law_error", "caught"] "_law_caught" (defScope s_law_caught) g cdg X.A X.stack s H C8.E0).nox) (c := .ref CS) (i := 2)
      (tb := fun W D σ H => ∃ Ech : XK, (∀ cls d σ' H', σ'.length = 3 → Ech cls d H' → W cls d σ' H') ∧ σ[0]? = some (some (.ref f)) ∧ H c' = some (LamX.CodeO c' q) ∧ tl Ech H (fun _ H' => D.nx σ H')) (ts := fun a cls d => tAsg (tVar 2) (gName 1)) (Wout := fun _ _ _ _ => False)
      rfl rfl rfl nd rfl rfl ⟨rfl, by decide, .inl gP⟩ LamX.takes0 (fun W pn xe tk _ => ?_) (fun a oe cls d pn _ _ => pss_one (ps_set (i := 1) nd rfl (.inl rfl) (pv 2)))) (pss_one (ps_ret (pv 1)))), ?_⟩
  · refine ⟨fun pins s' σ H' D I h' => ?_⟩
    obtain ⟨Ech, hW, h1, h2, h3⟩ := h'
    exact (pss_one (ps_expr (act _ pn xe Ech _ _ (takes_len tk) (fun cls d σ' H' e hl => hW cls d σ' H' hl e)))).run pins s' σ H' D I ⟨h1, h2, h3⟩
  · refine ⟨fun cls d H' => PySem.W.exmOne X.K cls (.ref CS) = some true ∧ ∀ a, H' a = none → Q (.ref a) (upd H' a (ExH cls a d)), fun cls d σ' H' hl ⟨e1, e2⟩ => ⟨true, e1, fun _ a ha => ?_, fun z => nomatch z⟩, rfl, hc, h⟩
    obtain ⟨x, y, z, rfl⟩ := len3 hl
    exact ⟨_, rfl, _, rfl, e2 a ha⟩
/-! ## texts as lists of codes -/
def sT (t : List Nat) : Str := ⟨t.toArray⟩
theorem sT_len (t : List Nat) : (sT t).length = t.length := by show t.toArray.size = t.length; simp
theorem sT_cps (t : List Nat) : (sT t).cps.toList = t := by show t.toArray.toList = t; simp
theorem sT_of (z : Str) : sT z.cps.toList = z := by cases z; simp [sT]
theorem sT_inj {a b : List Nat} (h : sT a = sT b) : a = b := by rw [← sT_cps a, ← sT_cps b, h]
def chV (c : Nat) : V := .str ⟨#[c]⟩
theorem chV_sT (c : Nat) : chV c = .str (sT [c]) := rfl
theorem cut_nat (t : List Nat) (a b : Nat) : cutS (sT t) (some (a : Int)) (some (b : Int)) = sT ((t.drop a).take (b - a)) := by
  unfold cutS
  rw [sT_len, sT_cps, HT.sIx_nat, HT.sIx_nat]
  unfold sT
  congr 2
  apply List.ext_getElem?
  intro i
  simp only [List.getElem?_take, List.getElem?_drop]
  by_cases h : a ≤ t.length
  · rw [Nat.min_eq_left h]
    by_cases h2 : b ≤ t.length
    · rw [Nat.min_eq_left h2]
    · rw [Nat.min_eq_right (by omega)]
      by_cases h3 : i < t.length - a
      · rw [if_pos h3, if_pos (by omega)]
      · rw [if_neg h3]
        by_cases h4 : i < b - a
        · rw [if_pos h4, List.getElem?_eq_none (by omega)]
        · rw [if_neg h4]
  · rw [Nat.min_eq_right (show t.length ≤ a by omega), if_neg (by omega)]
    by_cases h4 : i < b - a
    · rw [if_pos h4, List.getElem?_eq_none (by omega)]
    · rw [if_neg h4]
theorem cut_from (t : List Nat) (a : Nat) : cutS (sT t) (some (a : Int)) none = sT (t.drop a) := by
  unfold cutS
  rw [sT_len, sT_cps, HT.sIx_nat, HT.sIx_none]
  unfold sT
  congr 2
  apply List.ext_getElem?
  intro i
  simp only [List.getElem?_take, List.getElem?_drop]
  by_cases h : a ≤ t.length
  · rw [Nat.min_eq_left h]
    by_cases h3 : i < t.length - a
    · rw [if_pos h3]
    · rw [if_neg h3, List.getElem?_eq_none (by omega)]
  · rw [Nat.min_eq_right (by omega), if_neg (by omega), List.getElem?_eq_none (by omega)]
theorem cut_to (t : List Nat) (b : Nat) : cutS (sT t) none (some (b : Int)) = sT (t.take b) := by
  have h := cut_nat t 0 b
  rw [List.drop_zero, Nat.sub_zero] at h
  rw [← h]
  unfold cutS
  rw [HT.sIx_none]
  rfl
def isSmall (c : Nat) : Bool := decide (97 ≤ c) && decide (c ≤ 122)
def isBig (c : Nat) : Bool := decide (65 ≤ c) && decide (c ≤ 90)
def isFig (c : Nat) : Bool := decide (48 ≤ c) && decide (c ≤ 57)
def isInner (c : Nat) : Bool := isSmall c || isBig c || isFig c || decide (c = 95)
def isGood (c : Nat) : Bool := decide (c = 10) || (decide (32 ≤ c) && decide (c ≤ 126) && !decide (c = 37))
theorem cps_small : ("abcdefghijklmnopqrstuvwxyz" : Str).cps.toList = [97, 98, 99, 100, 101, 102, 103, 104, 105, 106, 107, 108, 109, 110, 111, 112, 113, 114, 115, 116, 117, 118, 119, 120, 121, 122] := by decide +kernel
theorem cps_fig : ("0123456789" : Str).cps.toList = [48, 49, 50, 51, 52, 53, 54, 55, 56, 57] := by decide +kernel
theorem cps_inner : ("abcdefghijklmnopqrstuvwxyzABCDEFGHIJKLMNOPQRSTUVWXYZ0123456789_" : Str).cps.toList = [97, 98, 99, 100, 101, 102, 103, 104, 105, 106, 107, 108, 109, 110, 111, 112, 113, 114, 115, 116, 117, 118, 119, 120, 121, 122, 65, 66, 67, 68, 69, 70, 71, 72, 73, 74, 75, 76, 77, 78, 79, 80, 81, 82, 83, 84, 85, 86, 87, 88, 89, 90, 48, 49, 50, 51, 52, 53, 54, 55, 56, 57, 95] := by decide +kernel
theorem cps_blank : (" \n" : Str).cps.toList = [32, 10] := by decide +kernel
theorem mem_small (c : Nat) : decide (c ∈ ("abcdefghijklmnopqrstuvwxyz" : Str).cps.toList) = isSmall c := by
  rw [cps_small]
  unfold isSmall
  rw [← Bool.decide_and]
  apply decide_eq_decide.mpr
  simp only [List.mem_cons, List.not_mem_nil, or_false]
  omega
theorem mem_fig (c : Nat) : decide (c ∈ ("0123456789" : Str).cps.toList) = isFig c := by
  rw [cps_fig]
  unfold isFig
  rw [← Bool.decide_and]
  apply decide_eq_decide.mpr
  simp only [List.mem_cons, List.not_mem_nil, or_false]
  omega
theorem mem_inner (c : Nat) : decide (c ∈ ("abcdefghijklmnopqrstuvwxyzABCDEFGHIJKLMNOPQRSTUVWXYZ0123456789_" : Str).cps.toList) = isInner c := by
  rw [cps_inner]
  unfold isInner isSmall isBig isFig
  rw [← Bool.decide_and, ← Bool.decide_and, ← Bool.decide_and, ← Bool.decide_or, ← Bool.decide_or, ← Bool.decide_or]
  apply decide_eq_decide.mpr
  simp only [List.mem_cons, List.not_mem_nil, or_false]
  omega
theorem mem_blank (c : Nat) : decide (c ∈ (" \n" : Str).cps.toList) = (decide (c = 32) || decide (c = 10)) := by
  rw [cps_blank, ← Bool.decide_or]
  apply decide_eq_decide.mpr
  simp only [List.mem_cons, List.not_mem_nil, or_false]
/-- c between two signs, as the law says it -/
theorem le_sign (a c : Nat) : (!decide ([c] < [a])) = decide (a ≤ c) := by
  rw [← decide_not]
  apply decide_eq_decide.mpr
  rw [List.cons_lt_cons_iff]
  simp
/-! the longest word that begins a rest -/
def isLong : List Nat → Bool
  | [] => false
  | c :: r => isInner c || (decide (c = 45) && (match r with | [] => false | d :: _ => isFig d))
theorem isLong_cons (c : Nat) (r : List Nat) : isLong (c :: r) = (isInner c || (decide (c = 45) && (match r with | [] => false | d :: _ => isFig d))) := rfl
def wl (t : List Nat) : Nat := if isLong t = true then 1 + ((t.drop 1).takeWhile isInner).length else if t.take 2 = [60, 61] ∨ t.take 2 = [61, 61] then 2 else 1
theorem take_prefix_tw (p : Nat → Bool) : ∀ t : List Nat, (t.takeWhile p).length ≤ t.length
  | [] => Nat.le_refl _
  | c :: r => by
    unfold List.takeWhile
    split
    · exact Nat.succ_le_succ (take_prefix_tw p r)
    · exact Nat.zero_le _
theorem wl_pos (t : List Nat) : 1 ≤ wl t := by unfold wl; split <;> try split <;> omega
                                               all_goals omega
theorem wl_le {t : List Nat} (h : t ≠ []) : wl t ≤ t.length := by
  obtain ⟨c, r, rfl⟩ := List.exists_cons_of_ne_nil h
  unfold wl
  split
  · have := take_prefix_tw isInner r
    simp only [List.drop_one, List.tail_cons, List.length_cons]
    omega
  · split
    · rename_i q
      have : ((c :: r).take 2).length = 2 := by rcases q with q | q <;> rw [q] <;> rfl
      rw [List.length_take] at this
      omega
    · simp
theorem tw_take (p : Nat → Bool) : ∀ t : List Nat, (t.take (t.takeWhile p).length).takeWhile p = t.takeWhile p
  | [] => rfl
  | c :: r => by
    by_cases h : p c = true
    · have e : (c :: r).takeWhile p = c :: r.takeWhile p := by simp [List.takeWhile, h]
      rw [e, List.length_cons, List.take_succ_cons]
      simp only [List.takeWhile, h]
      rw [tw_take p r]
    · have e : (c :: r).takeWhile p = [] := by simp [List.takeWhile, h]
      rw [e]
      rfl
theorem wl_take {t : List Nat} (h : t ≠ []) : wl (t.take (wl t)) = wl t := by
  obtain ⟨c, r, rfl⟩ := List.exists_cons_of_ne_nil h
  by_cases hl : isLong (c :: r) = true
  · have e : wl (c :: r) = 1 + (r.takeWhile isInner).length := by unfold wl; rw [if_pos hl]; rfl
    rw [e, Nat.add_comm, List.take_succ_cons]
    have hl2 : isLong (c :: r.take (r.takeWhile isInner).length) = true := by
      rw [isLong_cons] at hl ⊢
      cases hi : isInner c with
      | true => rfl
      | false =>
        rw [hi, Bool.false_or] at hl
        rw [Bool.false_or]
        cases r with
        | nil => simpa using hl
        | cons d q =>
          simp only [Bool.and_eq_true] at hl
          have hd : isInner d = true := by unfold isInner; rw [hl.2]; simp
          simp only [List.takeWhile, hd, List.length_cons, List.take_succ_cons, Bool.and_eq_true]
          exact hl
    unfold wl
    rw [if_pos hl2]
    simp only [List.drop_one, List.tail_cons]
    rw [tw_take, Nat.add_comm]
  · have hlf : isLong (c :: r) = false := by simpa using hl
    by_cases q : (c :: r).take 2 = [60, 61] ∨ (c :: r).take 2 = [61, 61]
    · have e : wl (c :: r) = 2 := by unfold wl; rw [if_neg hl, if_pos q]
      rw [e]
      rcases q with q | q <;> rw [q] <;> rfl
    · have e : wl (c :: r) = 1 := by unfold wl; rw [if_neg hl, if_neg q]
      rw [e]
      have h1 : ([c] : List Nat).take 2 ≠ [60, 61] ∧ ([c] : List Nat).take 2 ≠ [61, 61] := ⟨by simp, by simp⟩
      show wl [c] = 1
      unfold wl
      split
      · rfl
      · rw [if_neg (by simp)]
/-- a text's words with their places -/
def cutF : Nat → List Nat → Nat → Nat → List (List Nat × Nat × Nat)
  | 0, _, _, _ => []
  | _ + 1, [], _, _ => []
  | n + 1, c :: r, l, k => if c = 10 then cutF n r (l + 1) 1 else if c = 32 then cutF n r l (k + 1) else ((c :: r).take (wl (c :: r)), l, k) :: cutF n ((c :: r).drop (wl (c :: r))) l (k + wl (c :: r))
abbrev cutT (t : List Nat) : List (List Nat × Nat × Nat) := cutF t.length t 1 1
theorem cutF_nil (n l k : Nat) : cutF n [] l k = [] := by cases n <;> rfl
theorem cutF_mem {n : Nat} : ∀ {t : List Nat} {l k : Nat} {x : List Nat × Nat × Nat}, x ∈ cutF n t l k → (∀ c ∈ x.1, c ∈ t) ∧ x.1 ≠ [] ∧ x.1.length ≤ t.length ∧ cutT x.1 = [(x.1, 1, 1)] := by
  induction n with
  | zero => intro t l k x h; cases h
  | succ n ih =>
    intro t l k x h
    cases t with
    | nil => cases h
    | cons c r =>
      unfold cutF at h
      split at h
      · obtain ⟨h1, h2, h3, h4⟩ := ih h
        exact ⟨fun d hd => List.mem_cons_of_mem _ (h1 d hd), h2, by simp only [List.length_cons]; omega, h4⟩
      · split at h
        · obtain ⟨h1, h2, h3, h4⟩ := ih h
          exact ⟨fun d hd => List.mem_cons_of_mem _ (h1 d hd), h2, by simp only [List.length_cons]; omega, h4⟩
        · rename_i n1 n2
          rcases List.mem_cons.mp h with h | h
          · subst h
            have p1 := wl_pos (c :: r)
            have p2 := wl_le (t := c :: r) (by simp)
            have ht := wl_take (t := c :: r) (by simp)
            have e : (c :: r).take (wl (c :: r)) = c :: r.take (wl (c :: r) - 1) := by
              obtain ⟨m, hm⟩ : ∃ m, wl (c :: r) = m + 1 := ⟨wl (c :: r) - 1, by omega⟩
              rw [hm, List.take_succ_cons]; rfl
            refine ⟨fun d hd => List.mem_of_mem_take hd, by simp only [e]; simp, by simp only [List.length_take]; omega, ?_⟩
            have hlen : ((c :: r).take (wl (c :: r))).length = wl (c :: r) := by rw [List.length_take]; omega
            show cutF ((c :: r).take (wl (c :: r))).length _ 1 1 = _
            obtain ⟨m, hm⟩ : ∃ m, ((c :: r).take (wl (c :: r))).length = m + 1 := ⟨wl (c :: r) - 1, by omega⟩
            rw [hm]
            generalize hw : (c :: r).take (wl (c :: r)) = w at *
            rw [e]
            unfold cutF
            rw [if_neg n1, if_neg n2, ← e, ht, List.take_of_length_le (by omega), List.drop_of_length_le (by omega), cutF_nil]
          · obtain ⟨h1, h2, h3, h4⟩ := ih h
            refine ⟨fun d hd => List.mem_of_mem_drop (h1 d hd), h2, ?_, h4⟩
            rw [List.length_drop] at h3
            omega
theorem cutF_len {n : Nat} : ∀ {t : List Nat} {l k : Nat}, (cutF n t l k).length ≤ t.length := by
  induction n with
  | zero => intro t l k; exact Nat.zero_le _
  | succ n ih =>
    intro t l k
    cases t with
    | nil => exact Nat.zero_le _
    | cons c r =>
      unfold cutF
      split
      · exact Nat.le_succ_of_le ih
      · split
        · exact Nat.le_succ_of_le ih
        · have h := ih (t := (c :: r).drop (wl (c :: r))) (l := l) (k := k + wl (c :: r))
          rw [List.length_drop] at h
          have := wl_pos (c :: r)
          have := wl_le (t := c :: r) (by simp)
          simp only [List.length_cons] at *
          omega
/-! sorts -/
def keptV : List V := [V.str "and", V.str "at", V.str "choice", V.str "else", V.str "fail", V.str "false", V.str "function", V.str "if", V.str "let", V.str "long", V.str "make", V.str "match", V.str "new", V.str "not", V.str "number", V.str "of", V.str "or", V.str "over", V.str "put", V.str "rest", V.str "return", V.str "row", V.str "set", V.str "show", V.str "true", V.str "truth", V.str "try", V.str "unit", V.str "uses", V.str "while"]
def signsV : List V := [V.str "(", V.str ")", V.str "{", V.str "}", V.str ",", V.str ":", V.str "=", V.str "|", V.str "+", V.str "-", V.str "*", V.str "<", V.str "<=", V.str "=="]
def keptB (t : List Nat) : Bool := inV (.str (sT t)) keptV
def signB (t : List Nat) : Bool := inV (.str (sT t)) signsV
def nameB (t : List Nat) : Bool := decide (1 ≤ t.length) && decide (t.length ≤ 8) && !keptB t && t.all isSmall
def figsOf (t : List Nat) : List Nat := if t.take 1 = [45] then t.drop 1 else t
def numB (t : List Nat) : Bool := !decide (figsOf t = []) && (figsOf t).all isFig && (decide (t = [48]) || !decide ((figsOf t).take 1 = [48]))
def goodB (t : List Nat) : Bool := t.all isGood
def sortF (t : List Nat) : Str := if keptB t = true ∨ signB t = true then sT t else if numB t = true then "figures" else if nameB t = true then "name" else "strange"
theorem name_num {t : List Nat} (h : nameB t = true) : numB t = false := by
  unfold nameB at h
  simp only [Bool.and_eq_true, decide_eq_true_eq, List.all_eq_true] at h
  obtain ⟨⟨⟨h1, _⟩, _⟩, h2⟩ := h
  cases t with
  | nil => simp at h1
  | cons c r =>
    have hc := h2 c (List.mem_cons_self ..)
    unfold isSmall at hc
    simp only [Bool.and_eq_true, decide_eq_true_eq] at hc
    unfold numB figsOf
    rw [if_neg (by simp; omega)]
    have : isFig c = false := by unfold isFig; simp; omega
    simp [this]
/-! ## the program's functions of words -/
/-- a comprehension over a text's signs that keeps those of p -/
theorem lc_chars {t : List Nat} {g : TG} {tt : TT} {te : TE} {vs : List Nat} {σ : L2.St} {H1 : Hp} {D : Addr} {Qd : Hp → Prop} (p : Nat → Bool) (hl : t.length ≤ 100000) (hD : H1 D = none)
    (hs : ∀ (c : Nat) (H' : Hp) (A : VK) (B : Hp → Prop), c ∈ t → Same H1 H' → (p c = true → A (chV c) H') → (p c = false → B H') → g (chV c) (wipe σ vs) H' fun σ2 H2 => wipe σ2 vs = wipe σ vs ∧ tt σ2 H2 fun b H3 => if b = true then te σ2 H3 A else B H3)
    (hd : Qd (upd H1 D (.lst ((t.filter p).map chV)))) :
    ∃ W : Nat → Nat → Hp → Prop, (∃ m, W 0 m (upd H1 D (.lst []))) ∧ ∀ i m H, W i m H →
      ((Its (sT t)).stop i H ∧ Qd H) ∨ ((Its (sT t)).go i H ∧ ∃ Nx : Hp → Prop, (∀ H', Nx H' → ∃ m', m' < m ∧ W (i + 1) m' H') ∧ ∀ x H', (Its (sT t)).yld i H x H' → g x (wipe σ vs) H' fun σ2 H2 => wipe σ2 vs = wipe σ vs ∧ tt σ2 H2 fun b H3 =>
        if b = true then te σ2 H3 fun y H4 => ∃ acc, H4 D = some (.lst acc) ∧ acc.length < sizeLine ∧ Nx (upd H4 D (.lst (acc ++ [y]))) else Nx H3) := by
  refine lc_it walk_str (fun i H => H = upd H1 D (.lst (((t.take i).filter p).map chV))) rfl (fun _ _ _ _ => trivial) ?_ ?_
  · rintro i x H H' hi rfl ⟨rfl, c, hc, rfl⟩
    have hc2 : t[i]? = some c := by
      rw [← sT_cps t, Array.getElem?_toList]; exact hc
    have e : t.take (i + 1) = t.take i ++ [c] := by
      have hlt := (List.getElem?_eq_some_iff.mp hc2).1
      rw [List.take_succ, hc2]; rfl
    refine hs c _ _ _ (List.mem_of_getElem? hc2) (same_new hD) (fun h => ⟨_, upd_same, ?_, ?_⟩) (fun h => ?_)
    · rw [List.length_map]
      refine Nat.lt_of_lt_of_le (Nat.lt_succ_of_le (Nat.le_trans (List.length_filter_le _ _) (Nat.le_trans (List.length_take_le' _ _) hl))) (by decide)
    · rw [upd_upd, e, List.filter_append, List.map_append]
      simp [h]
    · rw [e, List.filter_append]
      simp [h]
  · rintro H rfl
    have e : t.take (sT t).cps.size = t := by
      have : (sT t).cps.size = t.length := sT_len t
      rw [this, List.take_length]
    rw [e]
    exact hd
theorem dpAll_strs {K : PySem.W.Frag} {H : Hp} : ∀ l : List Nat, DpAll K H (l.map chV) (l.map fun c => PyData.str ⟨#[c]⟩)
  | [] => .nil
  | c :: l => .cons (.str ⟨#[c]⟩) (dpAll_strs l)
/-- texts of plain signs, of any length that is in reach -/
def tx (t : List Nat) : Prop := t.length ≤ 100000 ∧ ∀ c ∈ t, c < 128
theorem tx_sub {t u : List Nat} (h : tx t) (hl : u.length ≤ t.length) (hm : ∀ c ∈ u, c ∈ t) : tx u := ⟨Nat.le_trans hl h.1, fun c hc => h.2 c (hm c hc)⟩
theorem tx_take {t : List Nat} (h : tx t) (n : Nat) : tx (t.take n) := tx_sub h (List.length_take_le' _ _) fun c hc => List.mem_of_mem_take hc
theorem tx_drop {t : List Nat} (h : tx t) (n : Nat) : tx (t.drop n) := tx_sub h (by rw [List.length_drop]; omega) fun c hc => List.mem_of_mem_drop hc
theorem strOk_tx {t : List Nat} (h : ∀ c ∈ t, c < 128) : PyData.strOk (sT t) = true := by
  unfold PyData.strOk
  show (t.toArray).all _ = true
  rw [List.all_toArray, List.all_eq_true]
  intro c hc
  have := h c hc
  exact decide_eq_true (by omega)
theorem shaped_strs (l : List Nat) (h : ∀ c ∈ l, c < 128) : SeqAt.shaped (.list (l.map fun c => PyData.str ⟨#[c]⟩)) = true := by
  have h1 : PyData.canLayAll0 (l.map fun c => PyData.str ⟨#[c]⟩) = true := by
    induction l with
    | nil => rfl
    | cons c l ih =>
      show (PyData.strOk (sT [c]) && PyData.canLayAll0 (l.map fun c => PyData.str ⟨#[c]⟩)) = true
      rw [ih fun d hd => h d (List.mem_cons_of_mem _ hd), strOk_tx fun d hd => by rw [List.mem_singleton.mp hd]; exact h c (List.mem_cons_self ..)]
      rfl
  have h2 : PyData.depthAll (l.map fun c => PyData.str ⟨#[c]⟩) = 0 := by
    clear h h1
    induction l with
    | nil => rfl
    | cons c l ih => simp [PyData.depthAll, PyData.depth, ih]
  simp [SeqAt.shaped, PyData.canLay0, PyData.depth, h1, h2]
theorem eqv_nilS (l : List Nat) : PyData.eqv (.list (l.map fun c => PyData.str ⟨#[c]⟩)) (.list []) = l.isEmpty := by
  cases l <;> simp [PyData.eqv, PyData.eqvAll]
abbrev Wd := List Nat × Nat × Nat
def wordD (x : Wd) : PyData := .tuple [.str (sT x.1), .int (x.2.1 : Int), .int (x.2.2 : Int)]
def wordV (x : Wd) : List V := [.str (sT x.1), .int (x.2.1 : Int), .int (x.2.2 : Int)]
theorem eqv_word (x y : Wd) : PyData.eqv (wordD x) (wordD y) = decide (x = y) := by
  obtain ⟨a, l, k⟩ := x
  obtain ⟨b, m, n⟩ := y
  simp only [wordD, PyData.eqv, PyData.eqvAll, Bool.and_true]
  rw [Bool.eq_iff_iff]
  simp only [Bool.and_eq_true, beq_iff_eq, decide_eq_true_eq, Prod.mk.injEq]
  constructor
  · rintro ⟨h1, h2, h3⟩
    exact ⟨sT_inj h1, by omega, by omega⟩
  · rintro ⟨h1, h2, h3⟩
    exact ⟨by rw [h1], by omega, by omega⟩
theorem eqv_words : ∀ xs ys : List Wd, PyData.eqvAll (xs.map wordD) (ys.map wordD) = decide (xs = ys)
  | [], [] => by simp [PyData.eqvAll]
  | [], _ :: _ => by simp [PyData.eqvAll]
  | _ :: _, [] => by simp [PyData.eqvAll]
  | x :: xs, y :: ys => by
    simp only [List.map_cons, PyData.eqvAll, eqv_words xs ys, eqv_word]
    by_cases h : x = y <;> by_cases h' : xs = ys <;> simp [h, h']
def txw (xs : List Wd) : Prop := ∀ x ∈ xs, tx x.1
theorem shaped_words (xs : List Wd) (h : txw xs) : SeqAt.shaped (.list (xs.map wordD)) = true := by
  have h1 : PyData.canLayAll0 (xs.map wordD) = true := by
    induction xs with
    | nil => rfl
    | cons x l ih =>
      show ((PyData.strOk (sT x.1) && true) && PyData.canLayAll0 (l.map wordD)) = true
      rw [ih fun d hd => h d (List.mem_cons_of_mem _ hd), strOk_tx (h x (List.mem_cons_self ..)).2]
      rfl
  have h2 : PyData.depthAll (xs.map wordD) ≤ 1 := by
    clear h h1
    induction xs with
    | nil => exact Nat.zero_le _
    | cons x l ih => simp [PyData.depthAll, PyData.depth, wordD, ih]
  simp [SeqAt.shaped, PyData.canLay0, PyData.depth, h1]
  omega
/-- the words' list at a -/
def WordsAt (H : Hp) (a : Addr) (xs : List Wd) : Prop := ∃ ps : List Addr, H a = some (.lst (ps.map V.ref)) ∧ ps.length = xs.length ∧ ∀ (i : Nat) (p : Addr) (x : Wd), ps[i]? = some p → xs[i]? = some x → H p = some (.tup (wordV x))
theorem WordsAt.same {H H' : Hp} {a : Addr} {xs : List Wd} (s : Same H H') (h : WordsAt H a xs) : WordsAt H' a xs := by
  obtain ⟨ps, h1, h2, h3⟩ := h
  exact ⟨ps, s _ _ h1, h2, fun i p x e1 e2 => s _ _ (h3 i p x e1 e2)⟩
theorem dp_word {K : PySem.W.Frag} {H : Hp} {p : Addr} {x : Wd} (h : H p = some (.tup (wordV x))) : Dp K H (.ref p) (wordD x) :=
  .tup (SqT.of h) (.cons (.str _) (.cons (.int _) (.cons (.int _) .nil)))
theorem dp_wordsAll {K : PySem.W.Frag} {H : Hp} : ∀ {ps : List Addr} {xs : List Wd}, ps.length = xs.length → (∀ (i : Nat) (p : Addr) (x : Wd), ps[i]? = some p → xs[i]? = some x → H p = some (.tup (wordV x))) → DpAll K H (ps.map V.ref) (xs.map wordD)
  | [], [], _, _ => .nil
  | [], _ :: _, e, _ => by simp at e
  | _ :: _, [], e, _ => by simp at e
  | p :: ps, x :: xs, e, h => .cons (dp_word (h 0 p x rfl rfl)) (dp_wordsAll (Nat.succ.inj e) fun i p x e1 e2 => h (i + 1) p x e1 e2)
theorem WordsAt.dp {K : PySem.W.Frag} {H : Hp} {a : Addr} {xs : List Wd} (h : WordsAt H a xs) : Dp K H (.ref a) (.list (xs.map wordD)) := by
  obtain ⟨ps, h1, h2, h3⟩ := h
  exact .lst (SqL.of h1) (dp_wordsAll h2 h3)
/-- .. all of it new -/
def WordsNew (H H' : Hp) (a : Addr) (xs : List Wd) : Prop := ∃ ps : List Addr, (H' a = some (.lst (ps.map V.ref)) ∧ H a = none) ∧ ps.length = xs.length ∧ ∀ (i : Nat) (p : Addr) (x : Wd), ps[i]? = some p → xs[i]? = some x → H' p = some (.tup (wordV x)) ∧ H p = none
theorem WordsNew.at {H H' : Hp} {a : Addr} {xs : List Wd} (h : WordsNew H H' a xs) : WordsAt H' a xs := by
  obtain ⟨ps, h1, h2, h3⟩ := h
  exact ⟨ps, h1.1, h2, fun i p x e1 e2 => (h3 i p x e1 e2).1⟩
/-- what is seen, with all that is new -/
def seen (H0 H H' : Hp) : Hp := fun b => match H b with | none => H' b | some _ => H0 b
theorem seen_vs {H0 H H' : Hp} (s : Same H0 H) (s2 : Same H H') : Vs H0 H (seen H0 H H') H' := by
  refine ⟨fun b o e => ?_, fun b o e => ?_, fun b o e => ?_⟩
  · unfold seen; rw [s _ _ e]; exact e
  · unfold seen at e
    cases h : H b with
    | none => rw [h] at e; exact e
    | some u => rw [h] at e; exact s2 _ _ (s _ _ e)
  · unfold seen at e
    cases h : H b with
    | none => exact .inr rfl
    | some u => rw [h] at e; exact .inl e
theorem seen_new {H0 H H' : Hp} {b : Addr} (h : H b = none) : seen H0 H H' b = H' b := by unfold seen; rw [h]
theorem WordsNew.seen {H0 H H' : Hp} {a : Addr} {xs : List Wd} (h : WordsNew H H' a xs) : WordsAt (seen H0 H H') a xs := by
  obtain ⟨ps, h1, h2, h3⟩ := h
  exact ⟨ps, by rw [seen_new h1.2]; exact h1.1, h2, fun i p x e1 e2 => by rw [seen_new (h3 i p x e1 e2).2]; exact (h3 i p x e1 e2).1⟩
theorem WordsNew.same {H H' H'' : Hp} {a : Addr} {xs : List Wd} (h : WordsNew H H' a xs) (s : Same H' H'') : WordsNew H H'' a xs := by
  obtain ⟨ps, h1, h2, h3⟩ := h
  exact ⟨ps, ⟨s _ _ h1.1, h1.2⟩, h2, fun i p x e1 e2 => ⟨s _ _ (h3 i p x e1 e2).1, (h3 i p x e1 e2).2⟩⟩
/-! promises -/
def NotStr (K : PySem.W.Frag) (H : Hp) (x : V) : Prop := ∃ t, TyX K H x t ∧ PySem.W.kitOne K t (.type "str") = some false
def spTx (g : List Nat → V) : Sp := fun vs H Q _ => ∃ t, vs = [.str (sT t)] ∧ tx t ∧ ∀ H', Same H H' → Q (g t) H'
def spTxO (K : PySem.W.Frag) (g : List Nat → Bool) : Sp := fun vs H Q _ => ∃ x, vs = [x] ∧ ((∃ t, x = .str (sT t) ∧ tx t ∧ ∀ H', Same H H' → Q (.bl (g t)) H') ∨ (NotStr K H x ∧ ∀ H', Same H H' → Q (.bl false) H'))
def spSize : Sp := fun vs H Q _ => ∃ (t : List Nat) (i : Nat), vs = [.str (sT t), .int (i : Int)] ∧ tx t ∧ i < t.length ∧ ∀ H', Same H H' → Q (.int (wl (t.drop i) : Nat)) H'
def spCut : Sp := fun vs H Q _ => ∃ t, vs = [.str (sT t)] ∧ tx t ∧ ∀ H' a, Same H H' → WordsNew H H' a (cutT t) → Q (.ref a) H'
abbrev sSmall : Str := "abcdefghijklmnopqrstuvwxyz"
abbrev sFigs : Str := "0123456789"
abbrev sInner : Str := "abcdefghijklmnopqrstuvwxyzABCDEFGHIJKLMNOPQRSTUVWXYZ0123456789_"
/-- the module's constants -/
structure GkF (K : PySem.W.Frag) (mg : Str → Option Value) : Prop where
  kept : ∃ a, mg "KEPT" = some (.ref a) ∧ ∀ H, SqT K H a keptV
  signs : ∃ a, mg "SIGNS" = some (.ref a) ∧ ∀ H, SqT K H a signsV
  small : ∃ t, mg "SMALL" = some (.str "abcdefghijklmnopqrstuvwxyz" t)
  figs : ∃ t, mg "FIGURES" = some (.str "0123456789" t)
  inner : ∃ t, mg "INNER" = some (.str "abcdefghijklmnopqrstuvwxyzABCDEFGHIJKLMNOPQRSTUVWXYZ0123456789_" t)
  isi : mg "isinstance" = none
  str : mg "str" = none
  len : mg "len" = none
  int : mg "int" = none
  ord : mg "ord" = none
section
variable {P : Program} {w : World} {K : PySem.W.Frag} {mg : Str → Option Value} {base : Heap}
theorem flat_kept : keptV.all flatV = true := rfl
theorem flat_signs : signsV.all flatV = true := rfl
theorem sc_is_name : FnScope ["thing", "letter"] ["thing"] (defScope s_is_name) := ⟨rfl, rfl, rfl, by decide +kernel, rfl, by decide +kernel, by decide +kernel⟩
theorem kit_str_str : PySem.W.kitOne K (.type "str") (.type "str") = some true := kit_ty (by decide +kernel)
theorem isEmpty_filter_not (p : Nat → Bool) (t : List Nat) : (t.filter fun c => !p c).isEmpty = t.all p := by
  induction t with
  | nil => rfl
  | cons c t ih => cases h : p c <;> simp [h, List.filter_cons, ih]
theorem ok_is_name {CX : CXT} {f : Addr} {fd : FuncData} (F : FnP K "is_name" s_is_name f fd) (G : GkF K mg) : FnOk P w K mg base CX 1 f fd ["thing"] (spTxO K nameB) := by
  refine F.ok sc_is_name (fun vs H Q E h => ?_) (fun cdv A outer s H vs Q E hr h => ?_)
  · obtain ⟨x, rfl, _⟩ := h
    rfl
  · obtain ⟨x, rfl, h⟩ := h
    have hu := hu_of hr
    have nd := sc_is_name.nd
    obtain ⟨kA, gK, sK⟩ := G.kept
    obtain ⟨tS, gS⟩ := G.small
    refine ⟨_, PSs.nox (pss_cons (ps_if (PW.pt (pw_or (pt_not (pt_val (pe_callB call_isi (by rfl) G.isi (by decide +kernel) (pa_cons (pv 0) (pa_cons (pe_bltn (v := .ty "str") (by rfl) G.str (by decide +kernel) rfl) pa_nil)))))
        (pw_or (pt_not (pt_chain op_le op_le pe_int (pe_callB call_len (by rfl) G.len PySem.boot_len (pa_cons (pv 0) pa_nil)) pe_int)) (pw_or1 (pt_cmpR op_in_seq (pv 0) (pe_glob (v := .ref kA) (by rfl) gK rfl) (by rfl)))))) (pss_one (ps_ret pe_bl)) pss_nil)
      (pss_one (ps_ret (pe_cmpR (op_eqD hr.units) (pe_lc (own := [("letter", 1)]) (g := gName 1) rfl nd (pi_str (pv 0)) (blkOk_by (own := [("letter", 1)]) (N := ["thing", "letter"]) (sc := defScope s_is_name) (by decide +kernel))
          (fun _ _ _ _ _ => pg_name (i := 1) nd rfl (Or.inl rfl)) (fun _ _ _ _ _ => pts_one (pt_cmpR op_notIn_sign (pv 1) (pe_glob (v := .str sSmall) (by rfl) gS ⟨_, rfl⟩) (by rfl))) (fun _ _ _ _ _ => pv 1)) (pe_lst pa_nil) (nomark _))))), ?_⟩
    rcases h with ⟨t, rfl, ht, k⟩ | ⟨⟨ty, h1, h2⟩, k⟩
    · refine ⟨_, rfl, _, _, _, _, true, rfl, .ty "str", .base (.str _), kit_str_str, true, rfl, iteF ?_⟩
      refine ⟨_, rfl, _, _, rfl, ⟨sl_of ht.1, rfl⟩, _, _, rfl, rfl, _, rfl, ?_⟩
      rw [sT_len]
      have out : nameB t = false → Q (.bl false) H := fun e => by
        have q := k H (Same.refl _)
        rw [e] at q
        exact q
      refine ite2 (fun c1 => ?_) (fun c1 => ?_)
      · have c1 := of_decide_eq_true c1
        refine ⟨_, _, rfl, rfl, _, rfl, ?_⟩
        by_cases c2 : t.length ≤ 8
        · rw [show decide ((t.length : Int) ≤ 8) = true from decide_eq_true (by omega)]
          refine iteF ⟨_, rfl, kA, keptV, rfl, .inr (sK H), rfl, flat_kept, _, rfl, ?_⟩
          refine ite2 (fun c3 => ?_) (fun c3 => ?_)
          · have c3 : keptB t = true := c3
            exact out (by unfold nameB; rw [c3]; simp)
          · have c3 : keptB t = false := by
              cases e : keptB t with
              | true => exact absurd e c3
              | false => rfl
            refine ⟨_, rfl, _, rfl, fun D hD => lc_chars (fun c => !isSmall c) ht.1 hD (fun c H' A B hc s h1 h2 => ⟨rfl, _, rfl, _, _, rfl, rfl, _, rfl, ?_⟩) ?_⟩
            · rw [mem_small]
              exact ite2 (fun e => ⟨_, rfl, h1 e⟩) (fun e => h2 (by simpa using e))
            · refine ⟨sl_of (by decide), fun p hp => ⟨_, _, .lst (SqL.of ((same_new hp) _ _ upd_same)) (dpAll_strs _), .lst (SqL.of upd_same) .nil, shaped_strs _ (fun c hc => ht.2 c (List.mem_filter.mp hc).1), rfl, ?_⟩⟩
              rw [eqv_nilS, isEmpty_filter_not, ← show nameB t = t.all isSmall by unfold nameB; rw [c3]; simp; omega]
              exact k _ ((same_new hD).trans (same_new hp))
        · rw [show decide ((t.length : Int) ≤ 8) = false from decide_eq_false (by omega)]
          refine iteT (iteT ?_)
          exact out (by unfold nameB; simp; omega)
      · have c1 : ¬ (1 : Int) ≤ t.length := fun z => c1 (decide_eq_true z)
        refine ⟨_, rfl, iteT (iteT ?_)⟩
        exact out (by unfold nameB; simp; omega)
    · refine ⟨_, rfl, _, _, _, _, false, rfl, .ty "str", h1, h2, false, rfl, iteT (iteT ?_)⟩
      exact k _ (Same.refl _)
end
section
variable {P : Program} {w : World} {K : PySem.W.Frag} {mg : Str → Option Value} {base : Heap}
theorem str_eq (a : List Nat) (z : Str) : decide (V.str (sT a) = V.str z) = decide (a = z.cps.toList) := by
  apply decide_eq_decide.mpr
  constructor
  · intro h
    injection h with h
    rw [← h, sT_cps]
  · rintro rfl
    rw [sT_of]
theorem Str_beq (a : List Nat) (z : Str) : (z == sT a) = decide (a = z.cps.toList) := by
  rw [Bool.eq_iff_iff, beq_iff_eq, decide_eq_true_eq]
  constructor
  · rintro rfl
    rw [sT_cps]
  · rintro rfl
    rw [sT_of]
/-- .. == [], .. != [] of a text's signs -/
theorem empty_end {K : PySem.W.Frag} {H : Hp} {D : Addr} {t : List Nat} {p : Nat → Bool} (ht : tx t) (hD : H D = none) {Q : VK} (k : ∀ H', Same H H' → Q (.bl (t.all p)) H') :
    ([] : List V).length ≤ sizeLine ∧ ∀ q, (upd H D (.lst ((t.filter fun c => !p c).map chV))) q = none → rEqD K (.ref D) (.ref q) (upd (upd H D (.lst ((t.filter fun c => !p c).map chV))) q (.lst [])) Q := by
  refine ⟨sl_of (by decide), fun q hq => ⟨_, _, .lst (SqL.of ((same_new hq) _ _ upd_same)) (dpAll_strs _), .lst (SqL.of upd_same) .nil, shaped_strs _ (fun c hc => ht.2 c (List.mem_filter.mp hc).1), rfl, ?_⟩⟩
  rw [eqv_nilS, isEmpty_filter_not]
  exact k _ ((same_new hD).trans (same_new hq))
theorem empty_endN {K : PySem.W.Frag} {H : Hp} {D : Addr} {t : List Nat} {p : Nat → Bool} (ht : tx t) (hD : H D = none) {Q : VK} (k : ∀ H', Same H H' → Q (.bl (!t.all p)) H') :
    ([] : List V).length ≤ sizeLine ∧ ∀ q, (upd H D (.lst ((t.filter fun c => !p c).map chV))) q = none → rNeD K (.ref D) (.ref q) (upd (upd H D (.lst ((t.filter fun c => !p c).map chV))) q (.lst [])) Q := by
  refine ⟨sl_of (by decide), fun q hq => ⟨_, _, .lst (SqL.of ((same_new hq) _ _ upd_same)) (dpAll_strs _), .lst (SqL.of upd_same) .nil, shaped_strs _ (fun c hc => ht.2 c (List.mem_filter.mp hc).1), rfl, ?_⟩⟩
  rw [eqv_nilS, isEmpty_filter_not]
  exact k _ ((same_new hD).trans (same_new hq))
theorem cps_minus : ("-" : Str).cps.toList = [45] := by decide +kernel
theorem cps_empty : ("" : Str).cps.toList = [] := by decide +kernel
theorem cps_0 : ("0" : Str).cps.toList = [48] := by decide +kernel
theorem figs_sub (t : List Nat) : (figsOf t).length ≤ t.length ∧ ∀ c ∈ figsOf t, c ∈ t := by
  unfold figsOf
  split
  · exact ⟨by rw [List.length_drop]; omega, fun c hc => List.mem_of_mem_drop hc⟩
  · exact ⟨Nat.le_refl _, fun c hc => hc⟩
theorem tx_figs {t : List Nat} (h : tx t) : tx (figsOf t) := tx_sub h (figs_sub t).1 (figs_sub t).2
theorem sc_is_number_word : FnScope ["word", "figures", "letter"] ["word"] (defScope s_is_number_word) := ⟨rfl, rfl, rfl, by decide +kernel, rfl, by decide +kernel, by decide +kernel⟩
theorem ok_is_number_word {CX : CXT} {f : Addr} {fd : FuncData} (F : FnP K "is_number_word" s_is_number_word f fd) (G : GkF K mg) : FnOk P w K mg base CX 1 f fd ["word"] (spTx fun t => .bl (numB t)) := by
  refine F.ok sc_is_number_word (fun vs H Q E h => ?_) (fun cdv A outer s H vs Q E hr h => ?_)
  · obtain ⟨x, rfl, _⟩ := h
    rfl
  · obtain ⟨t, rfl, ht, k⟩ := h
    have kv : ∀ {b}, numB t = b → ∀ H', Same H H' → Q (.bl b) H' := fun {b} e H' s' => by
      have q : Q (.bl (numB t)) H' := k H' s'
      rw [e] at q
      exact q
    have hu := hu_of hr
    have nd := sc_is_number_word.nd
    obtain ⟨tS, gS⟩ := G.figs
    refine ⟨_, PSs.nox (pss_cons (ps_set (i := 1) nd rfl (.inl rfl) (pe_ifExp (pt_cmpR op_eq (pe_slice sl_str (pv 0) po_none (po_some pe_int)) pe_str (nomark _)) (pe_slice sl_str (pv 0) (po_some pe_int) po_none) (pv 0)))
      (pss_cons (ps_if (PW.pt (pw_or (pt_cmpR op_eq (pv 1) pe_str (nomark _)) (pw_or1 (pt_cmpR (op_neD hr.units) (pe_lc (own := [("letter", 2)]) (g := gName 2) rfl nd (pi_str (pv 1)) (blkOk_by (own := [("letter", 2)]) (N := ["word", "figures", "letter"]) (sc := defScope s_is_number_word) (by decide +kernel))
          (fun _ _ _ _ _ => pg_name (i := 2) nd rfl (Or.inl rfl)) (fun _ _ _ _ _ => pts_one (pt_cmpR op_notIn_sign (pv 2) (pe_glob (v := .str sFigs) (by rfl) gS ⟨_, rfl⟩) (by rfl))) (fun _ _ _ _ _ => pv 2)) (pe_lst pa_nil) (nomark _))))) (pss_one (ps_ret pe_bl)) pss_nil)
      (pss_one (ps_ret (pe_or (pe_cmpR op_eq (pv 0) pe_str (nomark _)) (pe_one (pe_cmpR op_ne (pe_ix ix_str (pv 1) pe_int (fun _ _ => rfl)) pe_str (nomark _)))))))), ?_⟩
    have fin : ∀ u, u = figsOf t → tSeq (tIfS (tOr (tTest (tOp rEq (tVar 1) (tC (.str "")))) (tTest (tOp (rNeD K) (tLc (iStr (tVar 1)) (gName 2) (tTest (tOp (fun x y H Q => ∃ (c : Nat) (z : Str), x = .str ⟨#[c]⟩ ∧ y = .str z ∧ Q (.bl (!decide (c ∈ z.cps.toList))) H) (tVar 2) (tC (.str sFigs)))) (tVar 2) [2]) (tLst tNil)))) (tRet (tC (.bl false))) tNext)
        (tRet (tOrV (tOp rEq (tVar 0) (tC (.str "0"))) (tOp rNe (tOp rIxS (tVar 1) (tC (.int 0))) (tC (.str "0"))))) { nx := fun _ H' => Q .non H', rt := Q } [some (.str (sT t)), some (.str (sT u)), none] H := by
      rintro u rfl
      have hx := tx_figs ht
      refine ⟨_, rfl, rfl, _, rfl, ?_⟩
      rw [str_eq, cps_empty]
      refine ite2 (fun c1 => iteT ?_) (fun c1 => ?_)
      · have c1 := of_decide_eq_true c1
        exact kv (by unfold numB; simp [c1]) _ (Same.refl _)
      · have c1 : ¬ figsOf t = [] := fun z => c1 (decide_eq_true z)
        refine ⟨_, rfl, _, rfl, fun D hD => lc_chars (fun c => !isFig c) hx.1 hD (fun c H' A B hc s h1 h2 => ⟨rfl, _, rfl, _, _, rfl, rfl, _, rfl, ?_⟩) (empty_endN hx hD fun H' s' => ⟨_, rfl, ?_⟩)⟩
        · rw [mem_fig]
          exact ite2 (fun e => ⟨_, rfl, h1 e⟩) (fun e => h2 (by simpa using e))
        · refine ite2 (fun c2 => ?_) (fun c2 => ?_)
          · exact kv (by unfold numB; have : (figsOf t).all isFig = false := (by simpa using c2); rw [this]; simp) _ s'
          · have c2 : (figsOf t).all isFig = true := by simpa using c2
            refine ⟨_, rfl, rfl, _, rfl, ?_⟩
            rw [str_eq, cps_0]
            refine ite2 (fun c3 => ?_) (fun c3 => ?_)
            · have c3 := of_decide_eq_true c3
              exact kv (by unfold numB; rw [c2, decide_eq_true c3, decide_eq_false c1]; rfl) _ s'
            · have c3 : ¬ t = [48] := fun z => c3 (decide_eq_true z)
              obtain ⟨c, r, e⟩ := List.exists_cons_of_ne_nil c1
              refine ⟨_, rfl, _, _, c, rfl, rfl, sl_of (by rw [sT_len]; exact hx.1), by rw [sT_cps]; exact atI_nat (j := 0) (by rw [e]; rfl), rfl, ?_⟩
              refine kv ?_ _ s'
              show _ = !decide (V.str (sT [c]) = V.str "0")
              rw [str_eq, cps_0]
              unfold numB
              rw [c2, e]
              simp [c3]
    refine ⟨_, rfl, _, rfl, _, rfl, sl_of (by rw [sT_len]; exact ht.1), rfl, _, rfl, ?_⟩
    have e1 : cutS (sT t) none (some 1) = sT (t.take 1) := cut_to t 1
    have e2 : cutS (sT t) (some 1) none = sT (t.drop 1) := cut_from t 1
    rw [e1, str_eq, cps_minus]
    refine ite2 (fun c => ?_) (fun c => ?_)
    · have c := of_decide_eq_true c
      refine ⟨_, rfl, _, rfl, _, rfl, sl_of (by rw [sT_len]; exact ht.1), ?_⟩
      rw [e2]
      exact fin _ (by unfold figsOf; rw [if_pos c])
    · have c : ¬ t.take 1 = [45] := fun z => c (decide_eq_true z)
      exact ⟨_, rfl, fin _ (by unfold figsOf; rw [if_neg c])⟩
end
section
variable {P : Program} {w : World} {K : PySem.W.Frag} {mg : Str → Option Value} {base : Heap}
theorem cps_nl : ("\n" : Str).cps.toList = [10] := by decide +kernel
theorem cps_sp : (" " : Str).cps.toList = [32] := by decide +kernel
theorem cps_til : ("~" : Str).cps.toList = [126] := by decide +kernel
theorem le_str (c : Nat) (z : Str) (a : Nat) (h : z.cps.toList = [a]) : (!decide ((⟨#[c]⟩ : Str).cps.toList < z.cps.toList)) = decide (a ≤ c) := by
  rw [h]
  exact le_sign a c
theorem ge_str (c : Nat) (z : Str) (a : Nat) (h : z.cps.toList = [a]) : (!decide (z.cps.toList < (⟨#[c]⟩ : Str).cps.toList)) = decide (c ≤ a) := by
  rw [h]
  exact le_sign c a
theorem ch_eq (c : Nat) (z : Str) (a : Nat) (h : z.cps.toList = [a]) : decide (V.str ⟨#[c]⟩ = V.str z) = decide (c = a) := by
  show decide (V.str (sT [c]) = V.str z) = _
  rw [str_eq, h]
  simp
theorem sc_is_text : FnScope ["thing", "letter"] ["thing"] (defScope s_is_text) := ⟨rfl, rfl, rfl, by decide +kernel, rfl, by decide +kernel, by decide +kernel⟩
theorem ok_is_text {CX : CXT} {f : Addr} {fd : FuncData} (F : FnP K "is_text" s_is_text f fd) (G : GkF K mg) : FnOk P w K mg base CX 1 f fd ["thing"] (spTxO K goodB) := by
  refine F.ok sc_is_text (fun vs H Q E h => ?_) (fun cdv A outer s H vs Q E hr h => ?_)
  · obtain ⟨x, rfl, _⟩ := h
    rfl
  · obtain ⟨x, rfl, h⟩ := h
    have hu := hu_of hr
    have nd := sc_is_text.nd
    refine ⟨_, PSs.nox (pss_cons (ps_if (pt_not (pt_val (pe_callB call_isi (by rfl) G.isi (by decide +kernel) (pa_cons (pv 0) (pa_cons (pe_bltn (v := .ty "str") (by rfl) G.str (by decide +kernel) rfl) pa_nil))))) (pss_one (ps_ret pe_bl)) pss_nil)
      (pss_one (ps_ret (pe_cmpR (op_eqD hr.units) (pe_lc (own := [("letter", 1)]) (g := gName 1) rfl nd (pi_str (pv 0)) (blkOk_by (own := [("letter", 1)]) (N := ["thing", "letter"]) (sc := defScope s_is_text) (by decide +kernel))
          (fun _ _ _ _ _ => pg_name (i := 1) nd rfl (Or.inl rfl)) (fun _ _ _ _ _ => pts_one (PW.pt (pw_and (pt_cmpR op_ne (pv 1) pe_str (nomark _)) (pw_and1 (PW.pt (pw_or (pt_not (pt_chain op_le_str op_le_str pe_str (pv 1) pe_str)) (pw_or1 (pt_cmpR op_eq (pe_callB call_ord (by rfl) G.ord (by decide +kernel) (pa_cons (pv 1) pa_nil)) pe_int (nomark _))))))))) (fun _ _ _ _ _ => pv 1)) (pe_lst pa_nil) (nomark _))))), ?_⟩
    rcases h with ⟨t, rfl, ht, k⟩ | ⟨⟨ty, h1, h2⟩, k⟩
    · refine ⟨_, rfl, _, _, _, _, true, rfl, .ty "str", .base (.str _), kit_str_str, true, rfl, iteF ?_⟩
      refine ⟨_, rfl, _, rfl, fun D hD => lc_chars (fun c => !isGood c) ht.1 hD (fun c H' A B hc s h1 h2 => ⟨rfl, ?_⟩) (empty_end ht hD k)⟩
      have go : (b : Bool) → b = (!isGood c) → if b = true then ∃ v, ([some (.str (sT t)), some (chV c)] : L2.St)[1]? = some (some v) ∧ A v H' else B H' := fun b hb => by
        subst hb
        exact ite2 (fun e => ⟨_, rfl, h1 e⟩) (fun e => h2 (by simpa using e))
      refine ⟨_, rfl, rfl, _, rfl, ?_⟩
      rw [show decide (chV c = V.str "\n") = decide (c = 10) from ch_eq c _ 10 cps_nl]
      by_cases c1 : c = 10
      · rw [decide_eq_true c1]
        exact iteF (go false (by unfold isGood; simp [c1]))
      · rw [decide_eq_false c1]
        refine iteT ⟨_, rfl, _, _, rfl, rfl, _, rfl, ?_⟩
        rw [le_str c " " 32 cps_sp]
        refine ite2 (fun c2 => ?_) (fun c2 => ?_)
        · have c2 := of_decide_eq_true c2
          refine ⟨_, _, rfl, rfl, _, rfl, ?_⟩
          rw [ge_str c "~" 126 cps_til]
          by_cases c3 : c ≤ 126
          · rw [decide_eq_true c3]
            refine iteF ⟨_, rfl, _, rfl, rfl, rfl, _, rfl, ?_⟩
            refine go _ ?_
            have e1 : ((⟨#[c]⟩ : Str).cps.getD 0 0) = c := rfl
            rw [e1]
            unfold isGood
            have e2 : decide (V.int (c : Int) = V.int 37) = decide (c = 37) := decide_eq_decide.mpr ⟨fun z => by injection z with z; omega, fun z => by rw [z]; rfl⟩
            rw [e2]
            simp [c1, c2, c3]
          · rw [decide_eq_false c3]
            exact iteT (go true (by unfold isGood; simp [c1, c3]))
        · have c2 : ¬ 32 ≤ c := fun z => c2 (decide_eq_true z)
          exact ⟨_, rfl, iteT (go true (by unfold isGood; simp [c1, c2]))⟩
    · refine ⟨_, rfl, _, _, _, _, false, rfl, .ty "str", h1, h2, false, rfl, iteT ?_⟩
      exact k _ (Same.refl _)
/-! word_size -/
def ngB (t : List Nat) : Bool := match t with | [] => false | c :: r => decide (c = 45) && (match r with | [] => false | d :: _ => isFig d)
theorem isLong_ng (c : Nat) (r : List Nat) : isLong (c :: r) = (isInner c || ngB (c :: r)) := rfl
theorem wl_calc {t u : List Nat} (h : t ≠ []) (hu : u = t.drop (if ngB t = true then 1 else 0)) :
    (0 < (u.takeWhile isInner).length → wl t = (if ngB t = true then 1 else 0) + (u.takeWhile isInner).length) ∧ (¬ 0 < (u.takeWhile isInner).length → wl t = if t.take 2 = [60, 61] ∨ t.take 2 = [61, 61] then 2 else 1) := by
  obtain ⟨c, r, rfl⟩ := List.exists_cons_of_ne_nil h
  by_cases hn : ngB (c :: r) = true
  · rw [if_pos hn] at hu ⊢
    have hu : u = r := hu
    subst hu
    have hl : isLong (c :: u) = true := by rw [isLong_ng, hn]; simp
    refine ⟨fun _ => by unfold wl; rw [if_pos hl]; rfl, fun z => ?_⟩
    exfalso
    apply z
    unfold ngB at hn
    cases u with
    | nil => simp at hn
    | cons d q =>
      simp only [Bool.and_eq_true] at hn
      have hd : isInner d = true := by unfold isInner; rw [hn.2]; simp
      simp [List.takeWhile, hd]
  · rw [if_neg hn] at hu ⊢
    have hu : u = c :: r := hu
    subst hu
    have hn : ngB (c :: r) = false := by simpa using hn
    cases hi : isInner c with
    | true =>
      have hl : isLong (c :: r) = true := by rw [isLong_cons, hi]; rfl
      refine ⟨fun _ => by unfold wl; rw [if_pos hl]; simp [List.takeWhile, hi]; omega, fun z => absurd (by simp [List.takeWhile, hi]) z⟩
    | false =>
      have hl : isLong (c :: r) = false := by rw [isLong_ng, hi, hn]; rfl
      refine ⟨fun z => absurd z (by simp [List.takeWhile, hi]), fun _ => by unfold wl; rw [hl, if_neg (by simp)]⟩
theorem tw_in {p : Nat → Bool} : ∀ {t : List Nat} {j : Nat}, j < (t.takeWhile p).length → ∃ c, t[j]? = some c ∧ p c = true
  | [], j, h => by simp at h
  | c :: r, j, h => by
    cases hc : p c with
    | false => simp [List.takeWhile, hc] at h
    | true =>
      cases j with
      | zero => exact ⟨c, rfl, hc⟩
      | succ j =>
        simp only [List.takeWhile, hc, List.length_cons] at h
        obtain ⟨d, e1, e2⟩ := tw_in (p := p) (t := r) (j := j) (by omega)
        exact ⟨d, e1, e2⟩
theorem tw_out {p : Nat → Bool} : ∀ {t : List Nat} {c : Nat}, t[(t.takeWhile p).length]? = some c → p c = false
  | [], c, h => by simp at h
  | d :: r, c, h => by
    cases hd : p d with
    | false =>
      simp only [List.takeWhile, hd, List.length_nil, List.getElem?_cons_zero, Option.some.injEq] at h
      rw [← h]
      exact hd
    | true =>
      simp only [List.takeWhile, hd, List.length_cons, List.getElem?_cons_succ] at h
      exact tw_out h
theorem cps_le : ("<=" : Str).cps.toList = [60, 61] := by decide +kernel
theorem cps_ee : ("==" : Str).cps.toList = [61, 61] := by decide +kernel
theorem in2 (u : List Nat) : inV (.str (sT u)) [V.str "<=", V.str "=="] = decide (u = [60, 61] ∨ u = [61, 61]) := by
  show (("<=" : Str) == sT u || (("==" : Str) == sT u || false)) = _
  rw [Str_beq, Str_beq, cps_le, cps_ee, Bool.or_false, ← Bool.decide_or]
theorem ne_empty (u : List Nat) : (!decide (V.str (sT u) = V.str "")) = !decide (u = []) := by rw [str_eq, cps_empty]
theorem sc_word_size : FnScope ["text", "at", "end", "begin"] ["text", "at"] (defScope s_word_size) := ⟨rfl, rfl, rfl, by decide +kernel, rfl, by decide +kernel, by decide +kernel⟩
theorem ok_word_size {CX : CXT} {f : Addr} {fd : FuncData} (F : FnP K "word_size" s_word_size f fd) (G : GkF K mg) : FnOk P w K mg base CX 1 f fd ["text", "at"] spSize := by
  refine F.ok sc_word_size (fun vs H Q E h => ?_) (fun cdv A outer s H vs Q E hr h => ?_)
  · obtain ⟨t, i, rfl, _⟩ := h
    rfl
  · obtain ⟨t, i, rfl, ht, hi, k⟩ := h
    have hu := hu_of hr
    have nd := sc_word_size.nd
    obtain ⟨tF, gF⟩ := G.figs
    obtain ⟨tI, gI⟩ := G.inner
    refine ⟨_, PSs.nox (C8.pss_cut (ps_set (i := 2) nd rfl (.inl rfl) (pe_op op_add (pv 1) (pe_callTy call_int1 (by rfl) G.int (by decide +kernel) (pa_cons (pe_and (pe_cmpR op_eq (pe_ix ix_str (pv 0) (pv 1) (fun _ _ => rfl)) pe_str (nomark _))
        (pe_and (pe_cmpR op_ne (pe_slice sl_str (pv 0) (po_some (pe_op op_add (pv 1) pe_int)) (po_some (pe_op op_add (pv 1) pe_int))) pe_str (nomark _)) (pe_one (pe_cmpR op_in_sign (pe_ix ix_str (pv 0) (pe_op op_add (pv 1) pe_int) (fun _ _ => rfl)) (pe_glob (v := .str sFigs) (by rfl) gF ⟨_, rfl⟩) (by rfl))))) pa_nil))))
      (pss_cons (ps_set (i := 3) nd rfl (.inl rfl) (pv 2))
      (pss_cons (ps_while PassesOwn.never (PW.pt (pw_and (pt_cmpR op_lt (pv 2) (pe_callB call_len (by rfl) G.len PySem.boot_len (pa_cons (pv 0) pa_nil)) (nomark _)) (pw_and1 (pt_cmpR op_in_sign (pe_ix ix_str (pv 0) (pv 2) (fun _ _ => rfl)) (pe_glob (v := .str sInner) (by rfl) gI ⟨_, rfl⟩) (by rfl))))) (pss_one (ps_aug (i := 2) nd rfl (.inl rfl) pe_int ip_add)))
      (pss_cons (ps_if (pt_cmpR op_gt (pv 2) (pv 3) (nomark _)) (pss_one (ps_ret (pe_op op_sub (pv 2) (pv 1)))) pss_nil)
      (pss_one (ps_ret (pe_ifExp (pt_cmpR op_in_seq (pe_slice sl_str (pv 0) (po_some (pv 1)) (po_some (pe_op op_add (pv 1) pe_int))) (pe_tup (pa_cons pe_str (pa_cons pe_str pa_nil))) (by rfl)) pe_int pe_int))))))), ?_⟩
    obtain ⟨c, r, er⟩ := List.exists_cons_of_ne_nil (show t.drop i ≠ [] by intro z; have := congrArg List.length z; rw [List.length_drop] at this; simp at this; omega)
    have gt : ∀ j, t[i + j]? = (c :: r)[j]? := fun j => by rw [← er, List.getElem?_drop]
    have g0 : t[i]? = some c := gt 0
    have zl := ht.1
    have sl : (sT t).length ≤ sizeLine := sl_of (by rw [sT_len]; exact ht.1)
    refine ⟨fun σ H' => σ = [some (.str (sT t)), some (.int (i : Int)), some (.int ((i : Int) + (if ngB (c :: r) = true then 1 else 0))), none] ∧ H' = H, ?_, ?_⟩
    · have fin : ∀ k, k = ngB (c :: r) → (∃ j, [V.bl k] = [V.int j] ∧ (rI0 fun i j => V.int (i + j)) (.int (i : Int)) (.int j) H fun v H' => [some (.str (sT t)), some (.int (i : Int)), some v, none] = [some (.str (sT t)), some (.int (i : Int)), some (.int ((i : Int) + (if ngB (c :: r) = true then 1 else 0))), none] ∧ H' = H) ∨
          ∃ k', [V.bl k] = [V.bl k'] ∧ (rI0 fun i j => V.int (i + j)) (.int (i : Int)) (.int (if k' = true then 1 else 0)) H fun v H' => [some (.str (sT t)), some (.int (i : Int)), some v, none] = [some (.str (sT t)), some (.int (i : Int)), some (.int ((i : Int) + (if ngB (c :: r) = true then 1 else 0))), none] ∧ H' = H := by
        rintro k rfl
        exact .inr ⟨_, rfl, _, _, rfl, rfl, rfl, rfl⟩
      refine ⟨_, rfl, _, rfl, _, rfl, _, _, c, rfl, rfl, sl, by rw [sT_cps]; exact atI_nat g0, rfl, _, rfl, ?_⟩
      rw [ch_eq c "-" 45 cps_minus]
      by_cases c1 : c = 45
      · rw [decide_eq_true c1]
        refine iteT ⟨_, rfl, _, rfl, _, _, rfl, rfl, _, rfl, _, rfl, _, _, rfl, rfl, _, rfl, _, rfl, sl, ?_⟩
        rw [show cutS (sT t) (some ((i : Int) + 1)) (some ((i : Int) + 2)) = sT ((t.drop (i + 1)).take (i + 2 - (i + 1))) from cut_nat t (i + 1) (i + 2)]
        refine ⟨rfl, _, rfl, ?_⟩
        rw [ne_empty]
        have ed : t.drop (i + 1) = r := by rw [← List.drop_drop, er]; rfl
        rw [ed, show i + 2 - (i + 1) = 1 by omega]
        cases r with
        | nil => exact iteF (fin false (by simp [ngB]))
        | cons d q =>
          refine iteT ⟨_, rfl, _, rfl, _, _, rfl, rfl, _, _, d, rfl, rfl, sl, by rw [sT_cps]; exact atI_nat (j := i + 1) (gt 1), _, _, rfl, rfl, ?_⟩
          rw [mem_fig]
          exact fin _ (by simp [ngB, c1])
      · rw [decide_eq_false c1]
        exact iteF (fin false (by simp [ngB, c1]))
    · rintro σ H' ⟨rfl, rfl⟩
      obtain ⟨nb, enb⟩ : ∃ nb : Nat, nb = if ngB (c :: r) = true then 1 else 0 := ⟨_, rfl⟩
      have eb : (i : Int) + (if ngB (c :: r) = true then 1 else 0) = ((i + nb : Nat) : Int) := by rw [enb]; split <;> rfl
      rw [eb]
      obtain ⟨u, eu⟩ : ∃ u, u = (c :: r).drop nb := ⟨_, rfl⟩
      obtain ⟨m, em⟩ : ∃ m, m = (u.takeWhile isInner).length := ⟨_, rfl⟩
      have wc := wl_calc (t := c :: r) (u := u) (by simp) (by rw [eu, enb])
      rw [← enb, ← em, ← er] at wc
      have gu : ∀ j, t[i + nb + j]? = u[j]? := fun j => by rw [eu, List.getElem?_drop, ← gt]; congr 1; omega
      have ml : i + nb + m ≤ t.length := by
        have h1 := take_prefix_tw isInner u
        have h2 : u.length = t.length - (i + nb) := by rw [eu, ← er, List.drop_drop, List.length_drop]
        have h3 : i + nb ≤ t.length := by rw [enb]; split <;> omega
        omega
      refine ⟨_, rfl, ?_⟩
      refine ⟨fun n σ H2 => ∃ j, j + n = m ∧ σ = [some (.str (sT t)), some (.int (i : Int)), some (.int ((i + nb + j : Nat) : Int)), some (.int ((i + nb : Nat) : Int))] ∧ H2 = H', ⟨m, 0, Nat.zero_add _, rfl, rfl⟩, ?_⟩
      · rintro n σ H2 ⟨j, hj, rfl, rfl⟩
        have fin : j = m → tSeq (tIfS (tTest (tOp (rI0 fun i j => .bl (decide (j < i))) (tVar 2) (tVar 3))) (tRet (tOp (rI0 fun i j => .int (i - j)) (tVar 2) (tVar 1))) tNext)
            (tRet (tIf (tTest (tOp (rIn K false) (tSl rSlS (tVar 0) (tPart (tVar 1)) (tPart (tOp (rI0 fun i j => .int (i + j)) (tVar 1) (tC (.int 2))))) (tTup (tCons (tC (.str "<=")) (tCons (tC (.str "==")) tNil))))) (tC (.int 2)) (tC (.int 1)))) { nx := fun _ H' => Q .non H', rt := Q } [some (.str (sT t)), some (.int (i : Int)), some (.int ((i + nb + j : Nat) : Int)), some (.int ((i + nb : Nat) : Int))] H2 := by
          rintro rfl
          refine ⟨_, rfl, _, rfl, _, _, rfl, rfl, _, rfl, ?_⟩
          refine ite2 (fun c1 => ?_) (fun c1 => ?_)
          · have c1 := of_decide_eq_true c1
            refine ⟨_, rfl, _, rfl, _, _, rfl, rfl, ?_⟩
            have q := k H2 (Same.refl _)
            rw [wc.1 (by omega)] at q
            show Q (.int (((i + nb + j : Nat) : Int) - (i : Int))) H2
            rw [show ((i + nb + j : Nat) : Int) - (i : Int) = ((nb + j : Nat) : Int) by omega]
            exact q
          · have c1 : ¬ ((i + nb : Nat) : Int) < ((i + nb + j : Nat) : Int) := fun z => c1 (decide_eq_true z)
            have w2 := wc.2 (by omega)
            refine ⟨_, rfl, _, rfl, _, rfl, _, rfl, _, _, rfl, rfl, _, rfl, _, rfl, sl, (show 2 ≤ sizeLine by decide), fun p hp => ?_⟩
            rw [show cutS (sT t) (some (i : Int)) (some ((i : Int) + 2)) = sT ((t.drop i).take (i + 2 - i)) from cut_nat t i (i + 2), show i + 2 - i = 2 by omega]
            refine ⟨p, _, rfl, .inr (SqT.of upd_same), rfl, rfl, _, rfl, ?_⟩
            rw [w2] at k
            refine ite2 (fun c2 => ?_) (fun c2 => ?_)
            · have c2 : inV (.str (sT ((t.drop i).take 2))) [V.str "<=", V.str "=="] = true := c2
              rw [in2] at c2
              rw [if_pos (of_decide_eq_true c2)] at k
              exact k _ (same_new hp)
            · have c2 : ¬ inV (.str (sT ((t.drop i).take 2))) [V.str "<=", V.str "=="] = true := c2
              rw [in2] at c2
              rw [if_neg (fun z => c2 (decide_eq_true z))] at k
              exact k _ (same_new hp)
        refine ⟨_, rfl, _, rfl, _, _, rfl, ⟨sl, rfl⟩, _, _, rfl, rfl, _, rfl, ?_⟩
        rw [sT_len]
        refine ite2 (fun c1 => ?_) (fun c1 => ?_)
        · have c1 : i + nb + j < t.length := by have := of_decide_eq_true c1; omega
          obtain ⟨d, hd⟩ : ∃ d, t[i + nb + j]? = some d := ⟨_, List.getElem?_eq_getElem c1⟩
          refine ⟨_, rfl, _, rfl, _, _, d, rfl, rfl, sl, by rw [sT_cps]; exact atI_nat hd, _, _, rfl, rfl, _, rfl, ?_⟩
          rw [mem_inner]
          rw [gu] at hd
          by_cases c2 : j < m
          · obtain ⟨d', e1, e2⟩ := tw_in (p := isInner) (t := u) (j := j) (by rw [← em]; exact c2)
            rw [hd] at e1
            cases e1
            rw [e2]
            refine iteT ⟨fun σ' H' => σ' = [some (.str (sT t)), some (.int (i : Int)), some (.int ((i + nb + (j + 1) : Nat) : Int)), some (.int ((i + nb : Nat) : Int))] ∧ H' = H2, fun _ _ h => ⟨n - 1, by omega, j + 1, by omega, h.1, h.2⟩, _, rfl, _, _, rfl, rfl, rfl, rfl⟩
          · have e : j = m := by omega
            rw [e, em] at hd
            rw [tw_out hd]
            exact iteF (fin e)
        · have c1 : ¬ i + nb + j < t.length := fun z => c1 (decide_eq_true (by omega))
          exact iteF (fin (by omega))
end
theorem WordsNew.app {H H' : Hp} {D p : Addr} {acc : List Wd} {x : Wd} {ps : List Addr} (h1 : H' D = some (.lst (ps.map V.ref)) ∧ H D = none) (h2 : ps.length = acc.length) (h3 : ∀ (i : Nat) (p : Addr) (x : Wd), ps[i]? = some p → acc[i]? = some x → H' p = some (.tup (wordV x)) ∧ H p = none) (s : Same H H') (hp : H' p = none) :
    WordsNew H (upd (upd H' p (.tup (wordV x))) D (.lst (ps.map V.ref ++ [.ref p]))) D (acc ++ [x]) := by
  have nDp : D ≠ p := ne_of_none h1.1 hp
  refine ⟨ps ++ [p], ⟨by rw [upd_same, List.map_append]; rfl, h1.2⟩, by simp [h2], fun i q y e1 e2 => ?_⟩
  by_cases hi : i < ps.length
  · rw [List.getElem?_append_left hi] at e1
    rw [List.getElem?_append_left (by omega)] at e2
    obtain ⟨a1, a2⟩ := h3 i q y e1 e2
    have n1 : q ≠ D := ne_of a1 h1.1 (by intro z; cases z)
    have n2 : q ≠ p := ne_of_none a1 hp
    rw [upd_ne n1, upd_ne n2]
    exact ⟨a1, a2⟩
  · rw [List.getElem?_append_right (by omega)] at e1
    rw [List.getElem?_append_right (by omega)] at e2
    have : i - ps.length = 0 := by
      have := (List.getElem?_eq_some_iff.mp e1).1
      simp at this
      omega
    rw [this] at e1
    rw [show i - acc.length = 0 by omega] at e2
    cases e1
    cases e2
    rw [upd_ne nDp.symm, upd_same]
    exact ⟨rfl, s.free hp⟩
theorem cutF_cons (n c l k : Nat) (r : List Nat) : cutF (n + 1) (c :: r) l k = if c = 10 then cutF n r (l + 1) 1 else if c = 32 then cutF n r l (k + 1) else ((c :: r).take (wl (c :: r)), l, k) :: cutF n ((c :: r).drop (wl (c :: r))) l (k + wl (c :: r)) := rfl
theorem same_app {H H' : Hp} {D p : Addr} {o1 o2 : HO} (s : Same H H') (hD : H D = none) (hp : H' p = none) : Same H (upd (upd H' p o1) D o2) := same_sub (s.trans (same_new hp)) hD
section
variable {P : Program} {w : World} {K : PySem.W.Frag} {mg : Str → Option Value} {base : Heap}
theorem sc_cut : FnScope ["text", "found", "at", "line", "begin", "size"] ["text"] (defScope s_cut) := ⟨rfl, rfl, rfl, by decide +kernel, rfl, by decide +kernel, by decide +kernel⟩
theorem in_blank (c : Nat) : decide (c ∈ (" \n" : Str).cps.toList) = (decide (c = 32) || decide (c = 10)) := mem_blank c
theorem ok_cut {CX : CXT} {f fW : Addr} {fd fdW : FuncData} (F : FnP K "cut" s_cut f fd) (FW : FnP K "word_size" s_word_size fW fdW) (gW : mg "word_size" = some (.ref fW)) (G : GkF K mg) : FnOk P w K mg base CX 2 f fd ["text"] spCut := by
  have GW : FnOk P w K mg base CX0 1 fW fdW ["text", "at"] spSize := ok_word_size FW G
  have bW : Binds K fdW ["text", "at"] [] := FW.bindsN fun _ _ _ _ _ _ us hl => match us, hl with | [_, _], _ => rfl
  refine F.ok sc_cut (fun vs H Q E h => ?_) (fun cdv A outer s H vs Q E hr h => ?_)
  · obtain ⟨t, rfl, _⟩ := h
    rfl
  · obtain ⟨t, rfl, ht, k⟩ := h
    have hu := hu_of hr
    have nd := sc_cut.nd
    refine ⟨_, PSs.nox (pss_cons (ps_asg (pe_tup (pa_cons (pe_lst pa_nil) (pa_cons pe_int (pa_cons pe_int (pa_cons pe_int pa_nil))))) (pg_tup rfl (pgs_cons (pg_name (i := 1) nd rfl (Or.inl rfl)) (pgs_cons (pg_name (i := 2) nd rfl (Or.inl rfl)) (pgs_cons (pg_name (i := 3) nd rfl (Or.inl rfl)) (pgs_cons (pg_name (i := 4) nd rfl (Or.inl rfl)) pgs_nil))))))
      (pss_cons (ps_while PassesOwn.never (pt_cmpR op_lt (pv 2) (pe_callB call_len (by rfl) G.len PySem.boot_len (pa_cons (pv 0) pa_nil)) (nomark _))
        (pss_one (ps_if (pt_cmpR op_in_sign (pe_ix ix_str (pv 0) (pv 2) (fun _ _ => rfl)) pe_str (by rfl))
          (pss_cons (ps_aug (i := 2) nd rfl (.inl rfl) pe_int ip_add)
          (pss_one (ps_if (pt_cmpR op_eq (pe_ix ix_str (pv 0) (pe_op op_sub (pv 2) pe_int) (fun _ _ => rfl)) pe_str (nomark _)) (pss_one (ps_par (i := 3) (j := 4) rfl nd rfl rfl (by decide) rfl rfl (pa_cons (pe_op op_add (pv 3) pe_int) (pa_cons (pv 2) pa_nil)) (by rfl))) pss_nil)))
          (pss_cons (ps_set (i := 5) nd rfl (.inl rfl) (pe_call GW hr rfl gW FW.kp bW .nil pass0 (pa_cons (pv 0) (pa_cons (pv 2) pa_nil))))
          (pss_cons (ps_expr (pe_bm PySem.F.plainAttrs_list PySem.F.slot_list_append PySem.F.type_list_append mt_append (pv 1) (pa_cons (pe_tup (pa_cons (pe_slice sl_str (pv 0) (po_some (pv 2)) (po_some (pe_op op_add (pv 2) (pv 5)))) (pa_cons (pv 3) (pa_cons (pe_op op_add (pe_op op_sub (pv 2) (pv 4)) pe_int) pa_nil)))) pa_nil)))
          (pss_one (ps_aug (i := 2) nd rfl (.inl rfl) (pv 5) ip_add)))))))
      (pss_one (ps_ret (pv 1))))), ?_⟩
    have sl : (sT t).length ≤ sizeLine := sl_of (by rw [sT_len]; exact ht.1)
    have zl := ht.1
    refine ⟨Nat.zero_le _, fun D hD => ⟨(show 4 ≤ sizeLine by decide), fun q hq => ⟨q, _, rfl, SqT.of upd_same, rfl, _, _, rfl, _, _, rfl, _, _, rfl, _, _, rfl, rfl, ?_⟩⟩⟩
    have nDq : D ≠ q := fun z => by rw [← z, upd_same] at hq; cases hq
    refine ⟨fun n σ H' => ∃ (at_ line bgn : Nat) (acc : List Wd) (v5 : Option V), (t.drop at_).length ≤ n ∧ bgn ≤ at_ ∧ at_ ≤ t.length ∧ acc ++ cutF n (t.drop at_) line (at_ - bgn + 1) = cutT t ∧
        σ = [some (.str (sT t)), some (.ref D), some (.int (at_ : Int)), some (.int (line : Int)), some (.int (bgn : Int)), v5] ∧ Same H H' ∧ WordsNew H H' D acc,
      ⟨t.length, 0, 1, 0, [], none, by simp, Nat.le_refl _, Nat.zero_le _, rfl, rfl, (same_new hD).trans (same_new hq), [], ⟨by rw [upd_ne nDq, upd_same]; rfl, hD⟩, rfl, fun i p x e1 e2 => by simp at e1⟩, ?_⟩
    rintro n σ H' ⟨at_, line, bgn, acc, v5, hn, hb, ha, hc, rfl, sm, hw⟩
    refine ⟨_, rfl, _, rfl, _, _, rfl, ⟨sl, rfl⟩, _, _, rfl, rfl, _, rfl, ?_⟩
    rw [sT_len]
    refine ite2 (fun c1 => ?_) (fun c1 => ?_)
    · have c1 : at_ < t.length := by have := of_decide_eq_true c1; omega
      obtain ⟨c, r, er⟩ := List.exists_cons_of_ne_nil (show t.drop at_ ≠ [] by intro z; have := congrArg List.length z; rw [List.length_drop] at this; simp at this; omega)
      have g0 : t[at_]? = some c := by
        have : (t.drop at_)[0]? = some c := by rw [er]; rfl
        rw [List.getElem?_drop] at this
        exact this
      have e1 : t.drop (at_ + 1) = r := by rw [← List.drop_drop, er]; rfl
      rw [er] at hn hc
      obtain ⟨n, rfl⟩ : ∃ m, n = m + 1 := ⟨n - 1, by simp at hn; omega⟩
      simp only [List.length_cons] at hn
      refine ⟨fun σ' H2 => ∃ (at_ line bgn : Nat) (acc : List Wd) (v5 : Option V), (t.drop at_).length ≤ n ∧ bgn ≤ at_ ∧ at_ ≤ t.length ∧ acc ++ cutF n (t.drop at_) line (at_ - bgn + 1) = cutT t ∧
        σ' = [some (.str (sT t)), some (.ref D), some (.int (at_ : Int)), some (.int (line : Int)), some (.int (bgn : Int)), v5] ∧ Same H H2 ∧ WordsNew H H2 D acc, fun _ _ h => ⟨n, Nat.lt_succ_self _, h⟩, ?_⟩
      rw [cutF_cons] at hc
      refine ⟨_, rfl, _, rfl, _, _, c, rfl, rfl, sl, by rw [sT_cps]; exact atI_nat g0, _, _, rfl, rfl, _, rfl, ?_⟩
      rw [in_blank]
      by_cases c2 : c = 10
      · rw [if_pos c2] at hc
        rw [decide_eq_true c2, Bool.or_true]
        refine iteT ⟨_, rfl, _, _, rfl, rfl, _, rfl, _, rfl, _, _, rfl, rfl, _, _, c, rfl, rfl, sl, by rw [sT_cps, show ((at_ : Int) + 1 - 1) = (at_ : Int) by omega]; exact atI_nat g0, rfl, _, rfl, ?_⟩
        rw [ch_eq c "\n" 10 cps_nl, decide_eq_true c2]
        refine iteT ⟨_, rfl, _, _, rfl, rfl, _, rfl, _, _, rfl, at_ + 1, line + 1, at_ + 1, acc, _, by rw [e1]; omega, Nat.le_refl _, c1, ?_, rfl, sm, hw⟩
        rw [e1, Nat.sub_self]
        exact hc
      · rw [if_neg c2] at hc
        rw [decide_eq_false c2, Bool.or_false]
        by_cases c3 : c = 32
        · rw [if_pos c3] at hc
          rw [decide_eq_true c3]
          refine iteT ⟨_, rfl, _, _, rfl, rfl, _, rfl, _, rfl, _, _, rfl, rfl, _, _, c, rfl, rfl, sl, by rw [sT_cps, show ((at_ : Int) + 1 - 1) = (at_ : Int) by omega]; exact atI_nat g0, rfl, _, rfl, ?_⟩
          rw [ch_eq c "\n" 10 cps_nl, decide_eq_false c2]
          refine iteF ⟨at_ + 1, line, bgn, acc, _, by rw [e1]; omega, by omega, c1, ?_, rfl, sm, hw⟩
          rw [e1, show at_ + 1 - bgn + 1 = at_ - bgn + 1 + 1 by omega]
          exact hc
        · rw [if_neg c3] at hc
          rw [decide_eq_false c3]
          refine iteF ⟨_, rfl, _, rfl, t, at_, rfl, ht, c1, fun H2 s2 => ?_⟩
          rw [er]
          have wp := wl_pos (c :: r)
          have wle : wl (c :: r) ≤ (c :: r).length := wl_le (by simp)
          have lr : (c :: r).length = t.length - at_ := by rw [← er, List.length_drop]
          have hw2 := hw.same s2
          have sm2 := sm.trans s2
          obtain ⟨ps, h1, h2, h3⟩ := id hw2
          refine ⟨_, rfl, .inl ⟨rfl, _, SqL.of h1.1⟩, _, rfl, _, rfl, _, rfl, _, rfl, _, rfl, _, _, rfl, rfl, _, rfl, _, rfl, sl, _, rfl, _, rfl, _, rfl, _, _, rfl, rfl, _, _, rfl, rfl, (show 3 ≤ sizeLine by decide), fun p hp => ?_⟩
          have nDp : D ≠ p := ne_of_none h1.1 hp
          refine ⟨D, _, _, rfl, rfl, by rw [upd_ne nDp]; exact h1.1, ?_, _, rfl, _, rfl, _, _, rfl, rfl, at_ + wl (c :: r), line, bgn, acc ++ [((c :: r).take (wl (c :: r)), line, at_ - bgn + 1)], _, ?_, by omega, by omega, ?_, rfl, ?_, ?_⟩
          · rw [List.length_map, h2]
            have h5 := congrArg List.length hc
            rw [List.length_append] at h5
            have h6 : (cutT t).length ≤ t.length := cutF_len
            have h7 : 100000 < sizeLine := by decide
            have h8 : acc.length ≤ t.length := by omega
            exact Nat.lt_of_le_of_lt (Nat.le_trans h8 zl) h7
          · rw [List.length_drop]; simp only [List.length_cons] at lr; omega
          · rw [List.append_assoc, ← List.drop_drop, er, show at_ + wl (c :: r) - bgn + 1 = at_ - bgn + 1 + wl (c :: r) by omega]
            exact hc
          · exact same_app sm2 h1.2 hp
          · have := WordsNew.app (x := ((c :: r).take (wl (c :: r)), line, at_ - bgn + 1)) h1 h2 h3 sm2 hp
            rw [show wordV ((c :: r).take (wl (c :: r)), line, at_ - bgn + 1) = [.str (cutS (sT t) (some (at_ : Int)) (some ((at_ : Int) + ((wl (c :: r) : Nat) : Int)))), .int (line : Int), .int ((at_ : Int) - (bgn : Int) + 1)] by
              rw [show cutS (sT t) (some (at_ : Int)) (some ((at_ : Int) + ((wl (c :: r) : Nat) : Int))) = sT ((t.drop at_).take (at_ + wl (c :: r) - at_)) from cut_nat t at_ (at_ + wl (c :: r)), er, show at_ + wl (c :: r) - at_ = wl (c :: r) by omega]
              unfold wordV
              rw [show ((at_ - bgn + 1 : Nat) : Int) = (at_ : Int) - (bgn : Int) + 1 by omega]] at this
            exact this
    · have c1 : ¬ at_ < t.length := fun z => c1 (decide_eq_true (by omega))
      refine ⟨_, rfl, k _ D sm ?_⟩
      have : t.drop at_ = [] := List.drop_of_length_le (by omega)
      rw [this, cutF_nil, List.append_nil] at hc
      rw [← hc]
      exact hw
end
section
variable {X : Cx} {CX : CXT} {k : Nat} {f : Addr} {fd : FuncData} {ps ks : List Str} {sp : Sp} {E : XK} {x : Str} {p pos : Pos} {kws : List Keyword} {tk : TA} {g : List Value → List Value → List Value} {gV : List V → List V → List V}
/-- f(k = v, ..) -/
theorem pe_callN0 (F : FnOk X.prog X.w X.K X.mg X.base CX k f fd ps sp) (hr : Room k X.A) (hg : Gl X x) (hm : X.mg x = some (.ref f)) (hk : PySem.W.keepIn X.K (.ref f) = true) (hb : KBn X.K fd ps 0 ks g gV) (hx : Passes CX X E)
    (hkw : PK X kws tk) (hall : (backToKw pos (keywordEach kws X.env)).all (·.1.isSome) = true := by rfl) (hks : (backToKw pos (keywordEach kws X.env)).filterMap (·.1) = ks := by rfl)
    (hdb : (x == ("__debug__" : Str)) = false := by decide)
    (hpl : ((backTo pos (starEach [] X.env)).any (·.1) || (backToKw pos (keywordEach kws X.env)).any (·.1.isNone)) = false := by rfl) :
    PE X (.Call (.Name x p) [] kws pos) (tCallN 0 ks.length sp gV E tNil tk) := by
  refine ⟨fun pins s σ H Q I h => ?_⟩
  refine wpAny_Call_Name_kw (ld_glob I hg hm ?_ hdb)
  refine PySem.W.callWith_KW0 (h₀ := X.base) I.ok.mod.kin hk hall ?_ hpl
  refine thn (hkw.run pos pins s σ H _ I h) fun ws s2 ⟨zs, H2, I2, rz, l1, l2, q2⟩ => ⟨I2.kIn, ?_⟩
  rw [hks]
  exact run_fnN (us := []) (vs := []) F hr hb hx I2 .nil rz rfl l2 q2
end
section
variable {K : PySem.W.Frag} {x qual : Str} {params : Arguments} {body : List Stmt} {scope : Scope} {kws : List (Str × V)} {f : Addr} {fd : FuncData} {ps : List Str}
/-- every parameter by its name, in the order of the parameters -/
theorem FunD.kbindsA (F : FunD K x qual params body scope [] kws f fd)
    (h : ∀ (kV doc pm : Value) (an : Option Addr) (cdv ct : Value) (ws : List Value), ws.length = ps.length → bindArgs (PySem.W.fnOf x qual params body scope .none kV doc pm an cdv ct) ⟨[], ps.zip ws⟩ = pure (ps.zip ws)) : KBn K fd ps 0 ps (fun _ ws => ws) (fun _ zs => zs) := by
  obtain ⟨oc, od, dV, kV, doc, pm, an, cdv, ct, osl, rfl, lk, hcd, hD, hK⟩ := F.ex
  rcases hD with ⟨_, rfl⟩ | ⟨e, _⟩
  · refine ⟨fun s us ws X l1 l2 => ?_, fun _ r2 => r2⟩
    cases us with
    | nil => exact .of_eq (h kV doc pm an cdv ct ws l2)
    | cons a b => cases l1
  · exact absurd rfl e
end
section
variable {P : Program} {w : World} {K : PySem.W.Frag} {mg : Str → Option Value} {base : Heap}
theorem sc_sort_told : FnScope ["word"] ["word"] (defScope s_sort_told) := ⟨rfl, rfl, rfl, by decide +kernel, rfl, by decide +kernel, by decide +kernel⟩
theorem ok_sort_told {CX : CXT} {f fN fM : Addr} {fd fdN fdM : FuncData} (F : FnP K "sort_told" s_sort_told f fd) (FN : FnP K "is_name" s_is_name fN fdN) (gN : mg "is_name" = some (.ref fN)) (FM : FnP K "is_number_word" s_is_number_word fM fdM) (gM : mg "is_number_word" = some (.ref fM)) (G : GkF K mg) :
    FnOk P w K mg base CX 2 f fd ["word"] (spTx fun t => .str (sortF t)) := by
  have GN : FnOk P w K mg base CX0 1 fN fdN ["thing"] (spTxO K nameB) := ok_is_name FN G
  have bN : Binds K fdN ["thing"] [] := FN.bindsN fun _ _ _ _ _ _ us hl => match us, hl with | [_], _ => rfl
  have GM : FnOk P w K mg base CX0 1 fM fdM ["word"] (spTx fun t => .bl (numB t)) := ok_is_number_word FM G
  have bM : Binds K fdM ["word"] [] := FM.bindsN fun _ _ _ _ _ _ us hl => match us, hl with | [_], _ => rfl
  refine F.ok sc_sort_told (fun vs H Q E h => ?_) (fun cdv A outer s H vs Q E hr h => ?_)
  · obtain ⟨t, rfl, _⟩ := h
    rfl
  · obtain ⟨t, rfl, ht, k⟩ := h
    have kv : ∀ {b}, sortF t = b → ∀ H', Same H H' → Q (.str b) H' := fun {b} e H' s' => by
      have q : Q (.str (sortF t)) H' := k H' s'
      rw [e] at q
      exact q
    have hu := hu_of hr
    have nd := sc_sort_told.nd
    obtain ⟨kA, gK, sK⟩ := G.kept
    obtain ⟨sA, gS, sS⟩ := G.signs
    refine ⟨_, PSs.nox (pss_cons (ps_if (PW.pt (pw_or (pt_cmpR op_in_seq (pv 0) (pe_glob (v := .ref kA) (by rfl) gK rfl) (by rfl)) (pw_or1 (pt_cmpR op_in_seq (pv 0) (pe_glob (v := .ref sA) (by rfl) gS rfl) (by rfl))))) (pss_one (ps_ret (pv 0))) pss_nil)
      (pss_cons (ps_if (pt_val (pe_call GM hr rfl gM FM.kp bM .nil pass0 (pa_cons (pv 0) pa_nil))) (pss_one (ps_ret pe_str)) pss_nil)
      (pss_one (ps_ret (pe_ifExp (pt_val (pe_call GN hr rfl gN FN.kp bN .nil pass0 (pa_cons (pv 0) pa_nil))) pe_str pe_str))))), ?_⟩
    refine ⟨_, rfl, kA, keptV, rfl, .inr (sK H), rfl, flat_kept, _, rfl, ?_⟩
    refine ite2 (fun c1 => iteT ⟨_, rfl, kv (by unfold sortF; rw [if_pos (.inl c1)]) _ (Same.refl _)⟩) (fun c1 => ?_)
    refine ⟨_, rfl, sA, signsV, rfl, .inr (sS H), rfl, flat_signs, _, rfl, ?_⟩
    refine ite2 (fun c2 => ⟨_, rfl, kv (by unfold sortF; rw [if_pos (.inr c2)]) _ (Same.refl _)⟩) (fun c2 => ?_)
    have c3 : ¬ (keptB t = true ∨ signB t = true) := fun z => z.elim c1 c2
    refine ⟨_, rfl, t, rfl, ht, fun H1 s1 => ⟨_, rfl, ?_⟩⟩
    refine ite2 (fun c4 => kv (by unfold sortF; rw [if_neg c3, if_pos c4]) _ s1) (fun c4 => ?_)
    refine ⟨_, rfl, _, rfl, .inl ⟨t, rfl, ht, fun H2 s2 => ⟨_, rfl, ?_⟩⟩⟩
    exact ite2 (fun c5 => kv (by unfold sortF; rw [if_neg c3, if_neg c4, if_pos c5]) _ (s1.trans s2)) (fun c5 => kv (by unfold sortF; rw [if_neg c3, if_neg c4, if_neg c5]) _ (s1.trans s2))
/-! sort_of -/
/-- an own exception without own __init__ -/
structure PlnX (K : PySem.W.Frag) (mg : Str → Option Value) (x : Str) (C : Addr) : Prop where
  g : mg x = some (.ref C)
  x : PySem.W.excIn K C He.veBase "ValueError.__new__" = true
  o : OexC K C
def spSortOf (K : PySem.W.Frag) (C : Addr) : Sp := fun vs H Q E => ∃ x, vs = [x] ∧ ((∃ t, x = .str (sT t) ∧ tx t ∧ (goodB t = true → cutT t = [(t, 1, 1)] → ∀ H', Same H H' → Q (.str (sortF t)) H') ∧ (¬ (goodB t = true ∧ cutT t = [(t, 1, 1)]) → ∀ H', Same H H' → E (.ref C) none H')) ∨ (NotStr K H x ∧ ∀ H', Same H H' → E (.ref C) none H'))
theorem sc_sort_of : FnScope ["word"] ["word"] (defScope s_sort_of) := ⟨rfl, rfl, rfl, by decide +kernel, rfl, by decide +kernel, by decide +kernel⟩
theorem txw_cut {t : List Nat} (h : tx t) : txw (cutT t) := fun x hx => by
  obtain ⟨h1, _, h3, _⟩ := cutF_mem hx
  exact tx_sub h h3 h1
theorem ok_sort_of {f fT fC fS C : Addr} {fd fdT fdC fdS : FuncData} (F : FnP K "sort_of" s_sort_of f fd) (FT : FnP K "is_text" s_is_text fT fdT) (gT : mg "is_text" = some (.ref fT)) (kC : PySem.W.keepIn K (.ref fC) = true) (gC : mg "cut" = some (.ref fC)) (bC : Binds K fdC ["text"] []) (GC : FnOk P w K mg base CX0 2 fC fdC ["text"] spCut)
    (kS : PySem.W.keepIn K (.ref fS) = true) (gS : mg "sort_told" = some (.ref fS)) (bS : Binds K fdS ["word"] []) (GS : FnOk P w K mg base CX0 2 fS fdS ["word"] (spTx fun t => .str (sortF t))) (G : GkF K mg) (B : PlnX K mg "BadWord" C) :
    FnOk P w K mg base (L2.CX P w) 3 f fd ["word"] (spSortOf K C) := by
  have GT : FnOk P w K mg base CX0 1 fT fdT ["thing"] (spTxO K goodB) := ok_is_text FT G
  have bT : Binds K fdT ["thing"] [] := FT.bindsN fun _ _ _ _ _ _ us hl => match us, hl with | [_], _ => rfl
  refine F.ok sc_sort_of (fun vs H Q E h => ?_) (fun cdv A outer s H vs Q E hr h => ?_)
  · obtain ⟨t, rfl, _⟩ := h
    rfl
  · obtain ⟨x, rfl, h⟩ := h
    have hu := hu_of hr
    have nd := sc_sort_of.nd
    refine ⟨_, pss_cons (ps_if (PW.pt (pw_or (pt_not (pt_val (pe_call GT (hr.mono (by decide)) rfl gT FT.kp bT .nil pass0 (pa_cons (pv 0) pa_nil)))) (pw_or1 (pt_cmpR (op_neD hr.units) (pe_call GC hr rfl gC kC bC .nil pass0 (pa_cons (pv 0) pa_nil)) (pe_lst (pa_cons (pe_tup (pa_cons (pv 0) (pa_cons pe_int (pa_cons pe_int pa_nil)))) pa_nil)) (nomark _)))))
        (pss_one (ps_raise rfl (takes_of rfl rfl rfl rfl) (pmk_own PySem.F.excBase_ValueError B.x B.g B.o.kC (raises_own B.o.exC B.o.tyC) rfl))) pss_nil)
      (PSs.nox (pss_one (ps_ret (pe_call GS hr rfl gS kS bS .nil pass0 (pa_cons (pv 0) pa_nil))))), ?_⟩
    rcases h with ⟨t, rfl, ht, k1, k2⟩ | ⟨hN, k⟩
    · refine ⟨_, rfl, _, rfl, .inl ⟨t, rfl, ht, fun H1 s1 => ⟨_, rfl, ?_⟩⟩⟩
      cases hg : goodB t with
      | false => exact iteT (iteT (k2 (by rw [hg]; intro z; exact Bool.noConfusion z.1) _ s1))
      | true =>
        refine iteF ⟨_, rfl, t, rfl, ht, fun H2 a s2 hw => ⟨_, rfl, (show 3 ≤ sizeLine by decide), fun p hp => ⟨(show 1 ≤ sizeLine by decide), fun q hq => ?_⟩⟩⟩
        have npq : p ≠ q := fun z => by rw [← z, upd_same] at hq; cases hq
        have s3 : Same H2 (upd (upd H2 p (.tup (wordV (t, 1, 1)))) q (.lst [.ref p])) := (same_new hp).trans (same_new hq)
        refine ⟨_, .list [wordD (t, 1, 1)], (hw.same s3).at.dp, .lst (SqL.of upd_same) (.cons (dp_word (x := (t, 1, 1)) (by rw [upd_ne npq, upd_same]; rfl)) .nil), shaped_words _ (txw_cut ht), shaped_words [(t, 1, 1)] (fun y hy => by rw [List.mem_singleton.mp hy]; exact ht), _, rfl, ?_⟩
        rw [show PyData.eqv (.list ((cutT t).map wordD)) (.list [wordD (t, 1, 1)]) = decide (cutT t = [(t, 1, 1)]) by simp only [PyData.eqv]; exact eqv_words _ [(t, 1, 1)]]
        have s4 := s1.trans (s2.trans s3)
        by_cases hc : cutT t = [(t, 1, 1)]
        · rw [decide_eq_true hc]
          exact iteF ⟨_, rfl, t, rfl, ht, fun H5 s5 => k1 hg hc _ (s4.trans s5)⟩
        · rw [decide_eq_false hc]
          exact iteT (k2 (fun z => hc z.2) _ s4)
    · exact ⟨_, rfl, _, rfl, .inr ⟨hN, fun H1 s1 => ⟨_, rfl, iteT (iteT (k _ s1))⟩⟩⟩
/-! words_of -/
def btF (l c w : V) : List (Str × V) := [("wanted", w), ("column", c), ("line", l)]
def spBt (C : Addr) : Sp := fun vs H Q _ => ∃ (e : Addr) (l c w : V), vs = [.ref e, l, c, w] ∧ H e = some (exo e C none) ∧ ∀ dx, H dx = none → Q .non (upd (upd H dx (exd dx (btF l c w))) e (exo e C (some dx)))
theorem sc_bt : ScopeS ["self", "line", "column", "wanted"] (defScope s_BadText___init__) := ⟨rfl, rfl, rfl, by decide +kernel, by decide +kernel, by decide +kernel, rfl, rfl⟩
def bodyBT : List Stmt := (defBody s_BadText___init__).drop 1
theorem ok_bt {f cc cda C : Addr} {fd : FuncData} (F : SupF P K mg C f cc cda "BadText.__init__" (defArgs s_BadText___init__) (defBody s_BadText___init__) (defScope s_BadText___init__) fd) (T : OexC K C) (n1 : PySem.W.findIn K (.ref C) "line" = some none) (n2 : PySem.W.findIn K (.ref C) "column" = some none) (n3 : PySem.W.findIn K (.ref C) "wanted" = some none) :
    FnOk P w K mg base CX0 1 f fd ["self", "line", "column", "wanted"] (spBt C) := by
  refine fn_super F T sc_bt ⟨fun _ _ _ _ => rfl, fun _ _ _ _ => rfl, ⟨_, fun _ _ _ _ => rfl⟩⟩ rfl rfl (fun vs H Q E h => ?_) (fun vs H Q E h => ?_) (fun A outer s H vs Q E h => ?_)
  · obtain ⟨e, l, c, w, rfl, _⟩ := h
    rfl
  · obtain ⟨e, l, c, w, rfl, he, _⟩ := h
    exact ⟨e, _, rfl, he⟩
  · obtain ⟨e, l, c, w, rfl, he, k⟩ := h
    refine ⟨_, PSs.nox (pss_cons (ps_ost (pv 0) (pv 1)) (pss_cons (ps_ost (pv 0) (pv 2)) (pss_one (ps_ost (pv 0) (pv 3))))), ?_⟩
    refine ⟨_, rfl, _, rfl, e, C, rfl, T, n1, .inl ⟨he, fun dx hd hne => ?_⟩⟩
    refine ⟨_, rfl, _, rfl, e, C, rfl, T, n2, .inr ⟨dx, [("line", l)], upd_same, by rw [upd_ne hne, upd_same], (show 1 ≤ 900 by decide), ?_⟩⟩
    refine ⟨_, rfl, _, rfl, e, C, rfl, T, n3, .inr ⟨dx, [("column", c), ("line", l)], by rw [upd_ne hne.symm, upd_same], upd_same, (show 2 ≤ 900 by decide), ?_⟩⟩
    have q := k dx hd
    have e0 : ∀ (o1 o2 o3 : HO), upd (upd (upd (upd H dx o1) e (exo e C (some dx))) dx o2) dx o3 = upd (upd H dx o3) e (exo e C (some dx)) := fun o1 o2 o3 => by
      funext b
      by_cases h1 : b = dx
      · subst h1
        rw [upd_same, upd_ne hne, upd_same]
      · rw [upd_ne h1, upd_ne h1]
        by_cases h2 : b = e
        · subst h2
          rw [upd_same, upd_same]
        · rw [upd_ne h2, upd_ne h1, upd_ne h2, upd_ne h1]
    show Q .non _
    rw [e0]
    exact q
end
/-! words_of -/
def spWordsOf (K : PySem.W.Frag) (C : Addr) : Sp := fun vs H Q E => ∃ x, vs = [x] ∧ ((∃ t, x = .str (sT t) ∧ tx t ∧ (goodB t = true → ∀ H' a, Same H H' → WordsNew H H' a (cutT t) → Q (.ref a) H') ∧ (goodB t = false → ∀ H' d, Same H H' → H' d = some (.xd (btF .non .non .non)) → H d = none → E (.ref C) (some d) H')) ∨
  (NotStr K H x ∧ ∀ H' d, Same H H' → H' d = some (.xd (btF .non .non .non)) → H d = none → E (.ref C) (some d) H'))
theorem raise_bt {C : Addr} {H : Hp} {l c w : V} {Q : XK} (k : ∀ H' d, Same H H' → H' d = some (.xd (btF l c w)) → H d = none → Q (.ref C) (some d) H') :
    ([l, c, w] : List V).length ≤ 1000 ∧ ∀ a, H a = none → spBt C (.ref a :: ([l, c, w] ++ [])) (upd H a (exo a C none)) (fun v H2 => v = .non ∧ ∃ (d : Addr) (fs : List (Str × V)), H2 a = some (exo a C (some d)) ∧ H2 d = some (exd d fs) ∧ H d = none ∧ Q (.ref C) (some d) (upd (del H2 a) d (.xd fs))) (fun _ _ _ => False) := by
  refine ⟨by show 3 ≤ 1000; decide, fun a ha => ⟨a, l, c, w, rfl, upd_same, fun dx hd => ?_⟩⟩
  have hne : dx ≠ a := fun z => by rw [z, upd_same] at hd; cases hd
  have hd0 : H dx = none := by rw [upd_ne hne] at hd; exact hd
  refine ⟨rfl, dx, _, upd_same, by rw [upd_ne hne, upd_same], hd0, k _ _ (fun b o e => ?_) upd_same hd0⟩
  have n1 : b ≠ dx := ne_of_none e hd0
  have n2 : b ≠ a := ne_of_none e ha
  rw [upd_ne n1, del_ne n2, upd_ne n2, upd_ne n1, upd_ne n2]
  exact e
section
variable {P : Program} {w : World} {K : PySem.W.Frag} {mg : Str → Option Value} {base : Heap}
/-- the class BadText -/
structure BtX (P : Program) (w : World) (K : PySem.W.Frag) (mg : Str → Option Value) (base : Heap) (C : Addr) : Prop where
  g : mg "BadText" = some (.ref C)
  o : OexC K C
  i : ∃ (f : Addr) (fd : FuncData), PySem.W.findIn K (.ref C) "__init__" = some (some (.ref f)) ∧ PySem.W.typeIn K (.ref f) = some (.type "function") ∧ FnOk P w K mg base CX0 1 f fd ["self", "line", "column", "wanted"] (spBt C) ∧ Binds K fd ["self", "line", "column", "wanted"] []
theorem sc_words_of : FnScope ["text"] ["text"] (defScope s_words_of) := ⟨rfl, rfl, rfl, by decide +kernel, rfl, by decide +kernel, by decide +kernel⟩
theorem ok_words_of {f fT fC C : Addr} {fd fdT fdC : FuncData} (F : FnP K "words_of" s_words_of f fd) (FT : FnP K "is_text" s_is_text fT fdT) (gT : mg "is_text" = some (.ref fT)) (kC : PySem.W.keepIn K (.ref fC) = true) (gC : mg "cut" = some (.ref fC)) (bC : Binds K fdC ["text"] []) (GC : FnOk P w K mg base CX0 2 fC fdC ["text"] spCut)
    (G : GkF K mg) (B : BtX P w K mg base C) : FnOk P w K mg base (L2.CX P w) 3 f fd ["text"] (spWordsOf K C) := by
  have GT : FnOk P w K mg base CX0 1 fT fdT ["thing"] (spTxO K goodB) := ok_is_text FT G
  have bT : Binds K fdT ["thing"] [] := FT.bindsN fun _ _ _ _ _ _ us hl => match us, hl with | [_], _ => rfl
  obtain ⟨fI, fdI, iC, tI, FI, bI⟩ := B.i
  refine F.ok sc_words_of (fun vs H Q E h => ?_) (fun cdv A outer s H vs Q E hr h => ?_)
  · obtain ⟨t, rfl, _⟩ := h
    rfl
  · obtain ⟨x, rfl, h⟩ := h
    have nd := sc_words_of.nd
    refine ⟨_, pss_cons (ps_if (pt_not (pt_val (pe_call GT (hr.mono (by decide)) rfl gT FT.kp bT .nil pass0 (pa_cons (pv 0) pa_nil))))
        (pss_one (ps_raise rfl (takes_of rfl rfl rfl rfl) (pmk_oex B.o iC tI FI hr bI .nil pass0 rfl B.g (pa_cons pe_non (pa_cons pe_non (pa_cons pe_non pa_nil)))))) pss_nil)
        (PSs.nox (pss_one (ps_ret (pe_call GC hr rfl gC kC bC .nil pass0 (pa_cons (pv 0) pa_nil))))), ?_⟩
    rcases h with ⟨t, rfl, ht, k1, k2⟩ | ⟨hN, k⟩
    · refine ⟨_, rfl, _, rfl, .inl ⟨t, rfl, ht, fun H1 s1 => ⟨_, rfl, ?_⟩⟩⟩
      cases hg : goodB t with
      | false => exact iteT (raise_bt fun H' d s' hd h0 => k2 hg _ _ (s1.trans s') hd (s1.free h0))
      | true =>
        refine iteF ⟨_, rfl, t, rfl, ht, fun H2 a s2 hw => k1 hg _ _ (s1.trans s2) ?_⟩
        obtain ⟨ps, h1, h2, h3⟩ := hw
        exact ⟨ps, ⟨h1.1, s1.free h1.2⟩, h2, fun i p x e1 e2 => ⟨(h3 i p x e1 e2).1, s1.free (h3 i p x e1 e2).2⟩⟩
    · exact ⟨_, rfl, _, rfl, .inr ⟨hN, fun H1 s1 => ⟨_, rfl, iteT (raise_bt fun H' d s' hd h0 => k _ _ (s1.trans s') hd (s1.free h0))⟩⟩⟩
end

/-! ## the law's functions of words -/
abbrev rLeS : R2 := fun x y H Q => ∃ i j, x = .str i ∧ y = .str j ∧ Q (.bl (!decide (j.cps.toList < i.cps.toList))) H
theorem rng_v {c a b i : Nat} {lo hi : Str} {σ : L2.St} {H : Hp} {Q : VK} (hσ : σ[i]? = some (some (chV c))) (h1 : lo.cps.toList = [a]) (h2 : hi.cps.toList = [b]) (h : Q (.bl (decide (a ≤ c) && decide (c ≤ b))) H) :
    tChain rLeS rLeS (tC (.str lo)) (tVar i) (tC (.str hi)) σ H Q := by
  refine ⟨_, hσ, _, _, rfl, rfl, _, rfl, ?_⟩
  rw [le_str c lo a h1]
  refine ite2 (fun e => ⟨_, _, rfl, rfl, ?_⟩) (fun e => ?_)
  · rw [ge_str c hi b h2]
    rw [e, Bool.true_and] at h
    exact h
  · have e : decide (a ≤ c) = false := by simpa using e
    rw [e, Bool.false_and] at h
    exact h
theorem rng_t {c a b i : Nat} {lo hi : Str} {σ : L2.St} {H : Hp} {Q : Bool → Hp → Prop} (hσ : σ[i]? = some (some (chV c))) (h1 : lo.cps.toList = [a]) (h2 : hi.cps.toList = [b]) (h : Q (decide (a ≤ c) && decide (c ≤ b)) H) :
    tTest (tChain rLeS rLeS (tC (.str lo)) (tVar i) (tC (.str hi))) σ H Q := rng_v hσ h1 h2 ⟨_, rfl, h⟩
theorem or_rng {c a b i : Nat} {lo hi : Str} {σ : L2.St} {H : Hp} {tb : TE} {Q : VK} (hσ : σ[i]? = some (some (chV c))) (h1 : lo.cps.toList = [a]) (h2 : hi.cps.toList = [b]) (h : if (decide (a ≤ c) && decide (c ≤ b)) = true then Q (.bl true) H else tb σ H Q) :
    tOrV (tChain rLeS rLeS (tC (.str lo)) (tVar i) (tC (.str hi))) tb σ H Q := rng_v hσ h1 h2 ⟨_, rfl, h⟩
theorem cps_a : ("a" : Str).cps.toList = [97] := by decide +kernel
theorem cps_z : ("z" : Str).cps.toList = [122] := by decide +kernel
theorem cps_A : ("A" : Str).cps.toList = [65] := by decide +kernel
theorem cps_Z : ("Z" : Str).cps.toList = [90] := by decide +kernel
theorem cps_9 : ("9" : Str).cps.toList = [57] := by decide +kernel
theorem cps_low : ("_" : Str).cps.toList = [95] := by decide +kernel
def smallB (t : List Nat) : Bool := !decide (t = []) && t.all isSmall
theorem name_alt (t : List Nat) : nameB t = (decide ((t.length : Int) < 9) && (smallB t && !keptB t)) := by
  unfold nameB smallB
  cases t with
  | nil => simp
  | cons c r =>
    rw [show decide (1 ≤ (c :: r).length) = true from decide_eq_true (by simp), show decide (((c :: r).length : Int) < 9) = decide ((c :: r).length ≤ 8) from decide_eq_decide.mpr (by omega)]
    rw [show decide (c :: r = []) = false from decide_eq_false (by simp)]
    cases decide ((c :: r).length ≤ 8) <;> cases (c :: r).all isSmall <;> cases keptB (c :: r) <;> rfl
def spKept : Sp := fun vs H Q _ => vs = [] ∧ ∀ H' p, Same H H' → H p = none → H' p = some (.lst keptV) → Q (.ref p) H'
section
variable {P : Program} {w : World} {K : PySem.W.Frag} {mg : Str → Option Value} {base : Heap}
theorem sc_kept : FnScope ["_law_found"] [] (defScope s_law_kept) := ⟨rfl, rfl, rfl, by decide +kernel, rfl, by decide +kernel, by decide +kernel⟩
theorem ok_kept {CX : CXT} {f : Addr} {fd : FuncData} (F : FnP K "_law_kept" s_law_kept f fd) : FnOk P w K mg base CX 1 f fd [] spKept := by
  refine F.ok sc_kept (fun vs H Q E h => ?_) (fun cdv A outer s H vs Q E hr h => ?_)
  · obtain ⟨rfl, _⟩ := h
    rfl
  · obtain ⟨rfl, k⟩ := h
    have nd := sc_kept.nd
    refine ⟨_, PSs.nox (pss_cons (ps_set (i := 0) nd rfl (.inl rfl) (pe_lst (pa_cons pe_str (pa_cons pe_str (pa_cons pe_str (pa_cons pe_str (pa_cons pe_str (pa_cons pe_str (pa_cons pe_str (pa_cons pe_str (pa_cons pe_str (pa_cons pe_str (pa_cons pe_str (pa_cons pe_str (pa_cons pe_str pa_nil)))))))))))))))
      (pss_cons (ps_set (i := 0) nd rfl (.inl rfl) (pe_op op_cat (pv 0) (pe_lst (pa_cons pe_str (pa_cons pe_str (pa_cons pe_str (pa_cons pe_str (pa_cons pe_str (pa_cons pe_str (pa_cons pe_str (pa_cons pe_str (pa_cons pe_str (pa_cons pe_str (pa_cons pe_str (pa_cons pe_str (pa_cons pe_str pa_nil))))))))))))))))
      (pss_one (ps_ret (pe_op op_cat (pv 0) (pe_lst (pa_cons pe_str (pa_cons pe_str (pa_cons pe_str (pa_cons pe_str pa_nil)))))))))), ?_⟩
    refine ⟨(show 13 ≤ sizeLine by decide), fun p hp => ?_⟩
    refine ⟨_, rfl, (show 13 ≤ sizeLine by decide), fun q hq => ?_⟩
    have npq : p ≠ q := fun z => by rw [← z, upd_same] at hq; cases hq
    refine ⟨p, q, _, _, rfl, rfl, (upd_ne npq).trans upd_same, upd_same, (show 26 ≤ sizeLine by decide), fun r hr => ?_⟩
    refine ⟨_, rfl, (show 4 ≤ sizeLine by decide), fun s hs => ?_⟩
    have nrs : r ≠ s := fun z => by rw [← z, upd_same] at hs; cases hs
    refine ⟨r, s, _, _, rfl, rfl, (upd_ne nrs).trans upd_same, upd_same, (show 30 ≤ sizeLine by decide), fun t ht => ?_⟩
    exact k _ t ((same_new hp).trans ((same_new hq).trans ((same_new hr).trans ((same_new hs).trans (same_new ht))))) (((same_new hp).trans ((same_new hq).trans ((same_new hr).trans (same_new hs)))).free ht) upd_same
theorem sc_is_small : FnScope ["_law_word", "_law_letter"] ["_law_word"] (defScope s_law_is_small) := ⟨rfl, rfl, rfl, by decide +kernel, rfl, by decide +kernel, by decide +kernel⟩
theorem ok_is_small {CX : CXT} {f : Addr} {fd : FuncData} (F : FnP K "_law_is_small" s_law_is_small f fd) : FnOk P w K mg base CX 1 f fd ["_law_word"] (spTx fun t => .bl (smallB t)) := by
  refine F.ok sc_is_small (fun vs H Q E h => ?_) (fun cdv A outer s H vs Q E hr h => ?_)
  · obtain ⟨t, rfl, _⟩ := h
    rfl
  · obtain ⟨t, rfl, ht, k⟩ := h
    have nd := sc_is_small.nd
    refine ⟨_, PSs.nox (pss_one (ps_ret (pe_and (pe_cmpR op_ne (pv 0) pe_str (nomark _)) (pe_one (pe_cmpR (op_eqD hr.units) (pe_lc (own := [("_law_letter", 1)]) (g := gName 1) rfl nd (pi_str (pv 0)) (blkOk_by (own := [("_law_letter", 1)]) (N := ["_law_word", "_law_letter"]) (sc := defScope s_law_is_small) (by decide +kernel))
          (fun _ _ _ _ _ => pg_name (i := 1) nd rfl (Or.inl rfl)) (fun _ _ _ _ _ => pts_one (pt_not (pt_chain op_le_str op_le_str pe_str (pv 1) pe_str))) (fun _ _ _ _ _ => pv 1)) (pe_lst pa_nil) (nomark _)))))), ?_⟩
    have k : ∀ H', Same H H' → Q (.bl (smallB t)) H' := k
    refine ⟨_, rfl, rfl, _, rfl, ?_⟩
    rw [ne_empty]
    by_cases c1 : t = []
    · rw [decide_eq_true c1]
      refine iteF ?_
      have q := k H (Same.refl _)
      rw [show smallB t = false by rw [c1]; rfl] at q
      exact q
    · rw [decide_eq_false c1]
      refine iteT ⟨_, rfl, _, rfl, fun D hD => lc_chars (fun c => !isSmall c) ht.1 hD (fun c H' A B hc s h1 h2 => ⟨rfl, ?_⟩) (empty_end ht hD fun H' s' => ?_)⟩
      · refine rng_t (lo := "a") (hi := "z") (i := 1) rfl cps_a cps_z ?_
        rw [show (decide (97 ≤ c) && decide (c ≤ 122)) = isSmall c from rfl]
        exact ite2 (fun e => ⟨_, rfl, h1 e⟩) (fun e => h2 (by simpa using e))
      · have q := k H' s'
        rw [show smallB t = t.all isSmall by unfold smallB; rw [decide_eq_false c1]; rfl] at q
        exact q
theorem sc_lis_name : FnScope ["_law_matter"] ["_law_matter"] (defScope s_law_is_name) := ⟨rfl, rfl, rfl, by decide +kernel, rfl, by decide +kernel, by decide +kernel⟩
theorem ok_lis_name {CX : CXT} {f fS fK : Addr} {fd fdS fdK : FuncData} (F : FnP K "_law_is_name" s_law_is_name f fd) (FS : FnP K "_law_is_small" s_law_is_small fS fdS) (gS : mg "_law_is_small" = some (.ref fS)) (FK : FnP K "_law_kept" s_law_kept fK fdK) (gK : mg "_law_kept" = some (.ref fK)) (G : GkF K mg) :
    FnOk P w K mg base CX 2 f fd ["_law_matter"] (spTxO K nameB) := by
  have GS : FnOk P w K mg base CX0 1 fS fdS ["_law_word"] (spTx fun t => .bl (smallB t)) := ok_is_small FS
  have bS : Binds K fdS ["_law_word"] [] := FS.bindsN fun _ _ _ _ _ _ us hl => match us, hl with | [_], _ => rfl
  have GK : FnOk P w K mg base CX0 1 fK fdK [] spKept := ok_kept FK
  have bK : Binds K fdK [] [] := FK.bindsN fun _ _ _ _ _ _ us hl => match us, hl with | [], _ => rfl
  refine F.ok sc_lis_name (fun vs H Q E h => ?_) (fun cdv A outer s H vs Q E hr h => ?_)
  · obtain ⟨t, rfl, _⟩ := h
    rfl
  · obtain ⟨x, rfl, h⟩ := h
    refine ⟨_, PSs.nox (pss_one (ps_ret (pe_and (pe_callB call_isi (by rfl) G.isi (by decide +kernel) (pa_cons (pv 0) (pa_cons (pe_bltn (v := .ty "str") (by rfl) G.str (by decide +kernel) rfl) pa_nil)))
      (pe_and (pe_cmpR op_lt (pe_callB call_len (by rfl) G.len PySem.boot_len (pa_cons (pv 0) pa_nil)) pe_int (nomark _))
      (pe_and (pe_call GS hr rfl gS FS.kp bS .nil pass0 (pa_cons (pv 0) pa_nil)) (pe_one (pe_cmpR op_notIn_seq (pv 0) (pe_call0 GK hr rfl gK FK.kp bK .nil pass0) (by rfl)))))))), ?_⟩
    rcases h with ⟨t, rfl, ht, k⟩ | ⟨⟨ty, h1, h2⟩, k⟩
    · have k : ∀ H', Same H H' → Q (.bl (nameB t)) H' := k
      rw [name_alt] at k
      refine ⟨_, rfl, _, _, _, _, true, rfl, .ty "str", .base (.str _), kit_str_str, true, rfl, iteT ?_⟩
      refine ⟨_, rfl, _, _, rfl, ⟨sl_of ht.1, rfl⟩, _, _, rfl, rfl, _, rfl, ?_⟩
      rw [sT_len]
      refine ite2 (fun c1 => ?_) (fun c1 => ?_)
      · have c1 : decide ((t.length : Int) < 9) = true := c1
        rw [c1, Bool.true_and] at k
        refine ⟨_, rfl, t, rfl, ht, fun H1 s1 => ⟨_, rfl, ?_⟩⟩
        refine ite2 (fun c2 => ?_) (fun c2 => ?_)
        · rw [c2, Bool.true_and] at k
          refine ⟨_, rfl, rfl, fun H2 p s2 hp hl => ?_⟩
          exact ⟨p, keptV, rfl, .inl (SqL.of hl), rfl, flat_kept, k _ (s1.trans s2)⟩
        · have c2 : smallB t = false := by simpa using c2
          rw [c2, Bool.false_and] at k
          exact k _ s1
      · have c1 : decide ((t.length : Int) < 9) = false := by simpa using c1
        rw [c1, Bool.false_and] at k
        exact k _ (Same.refl _)
    · exact ⟨_, rfl, _, _, _, _, false, rfl, .ty "str", h1, h2, false, rfl, iteF (k _ (Same.refl _))⟩
theorem sc_inner : FnScope ["_law_sign"] ["_law_sign"] (defScope s_law_inner) := ⟨rfl, rfl, rfl, by decide +kernel, rfl, by decide +kernel, by decide +kernel⟩
def spInner : Sp := fun vs H Q _ => ∃ c, vs = [chV c] ∧ Q (.bl (isInner c)) H
theorem ok_inner {CX : CXT} {f : Addr} {fd : FuncData} (F : FnP K "_law_inner" s_law_inner f fd) : FnOk P w K mg base CX 1 f fd ["_law_sign"] spInner := by
  refine F.ok sc_inner (fun vs H Q E h => ?_) (fun cdv A outer s H vs Q E hr h => ?_)
  · obtain ⟨t, rfl, _⟩ := h
    rfl
  · obtain ⟨c, rfl, k⟩ := h
    refine ⟨_, PSs.nox (pss_one (ps_ret (pe_or (pe_chain op_le_str op_le_str pe_str (pv 0) pe_str) (pe_or (pe_chain op_le_str op_le_str pe_str (pv 0) pe_str) (pe_or (pe_chain op_le_str op_le_str pe_str (pv 0) pe_str) (pe_one (pe_cmpR op_eq (pv 0) pe_str (nomark _)))))))), ?_⟩
    unfold isInner isSmall isBig isFig at k
    refine or_rng (lo := "a") (hi := "z") (i := 0) (c := c) (by rfl) cps_a cps_z ?_
    refine ite2 (fun e => by rw [e] at k; exact k) (fun e => ?_)
    rw [show (decide (97 ≤ c) && decide (c ≤ 122)) = false by simpa using e, Bool.false_or] at k
    refine or_rng (lo := "A") (hi := "Z") (i := 0) (c := c) (by rfl) cps_A cps_Z ?_
    refine ite2 (fun e => by rw [e] at k; exact k) (fun e => ?_)
    rw [show (decide (65 ≤ c) && decide (c ≤ 90)) = false by simpa using e, Bool.false_or] at k
    refine or_rng (lo := "0") (hi := "9") (i := 0) (c := c) (by rfl) cps_0 cps_9 ?_
    refine ite2 (fun e => by rw [e] at k; exact k) (fun e => ?_)
    rw [show (decide (48 ≤ c) && decide (c ≤ 57)) = false by simpa using e, Bool.false_or] at k
    refine ⟨_, rfl, rfl, ?_⟩
    rw [show decide (chV c = V.str "_") = decide (c = 95) from ch_eq c _ 95 cps_low]
    exact k
end


def spWordAt : Sp := fun vs H Q _ => ∃ (t : List Nat) (i : Nat), vs = [.str (sT t), .int (i : Int)] ∧ tx t ∧ i < t.length ∧ ∀ H', Same H H' → Q (.str (sT ((t.drop i).take (wl (t.drop i))))) H'
section
variable {P : Program} {w : World} {K : PySem.W.Frag} {mg : Str → Option Value} {base : Heap}
theorem sc_lsort : FnScope ["_law_word", "_law_figures", "_law_is_plain", "_law_one"] ["_law_word"] (defScope s_law_sort) := ⟨rfl, rfl, rfl, by decide +kernel, rfl, by decide +kernel, by decide +kernel⟩
theorem in_ten (c : Nat) : decide (c ∈ ("0123456789" : Str).cps.toList) = isFig c := mem_fig c
theorem ok_lsort {CX : CXT} {f fN fK : Addr} {fd fdN fdK : FuncData} (F : FnP K "_law_sort" s_law_sort f fd) (FN : FnP K "_law_is_name" s_law_is_name fN fdN) (gN : mg "_law_is_name" = some (.ref fN)) (GN : FnOk P w K mg base CX0 2 fN fdN ["_law_matter"] (spTxO K nameB)) (FK : FnP K "_law_kept" s_law_kept fK fdK) (gK : mg "_law_kept" = some (.ref fK)) (G : GkF K mg) :
    FnOk P w K mg base CX 3 f fd ["_law_word"] (spTx fun t => .str (sortF t)) := by
  have bN : Binds K fdN ["_law_matter"] [] := FN.bindsN fun _ _ _ _ _ _ us hl => match us, hl with | [_], _ => rfl
  have GK : FnOk P w K mg base CX0 1 fK fdK [] spKept := ok_kept FK
  have bK : Binds K fdK [] [] := FK.bindsN fun _ _ _ _ _ _ us hl => match us, hl with | [], _ => rfl
  refine F.ok sc_lsort (fun vs H Q E h => ?_) (fun cdv A outer s H vs Q E hr h => ?_)
  · obtain ⟨t, rfl, _⟩ := h
    rfl
  · obtain ⟨t, rfl, ht, k⟩ := h
    have kv : ∀ {b}, sortF t = b → ∀ H', Same H H' → Q (.str b) H' := fun {b} e H' s' => by
      have q : Q (.str (sortF t)) H' := k H' s'
      rw [e] at q
      exact q
    have nd := sc_lsort.nd
    refine ⟨_, PSs.nox (pss_cons (ps_if (PW.pt (pw_or (pt_cmpR op_in_seq (pv 0) (pe_call0 GK (hr.mono (by decide)) rfl gK FK.kp bK .nil pass0) (by rfl)) (pw_or1 (pt_cmpR op_in_seq (pv 0) (pe_lst (pa_cons pe_str (pa_cons pe_str (pa_cons pe_str (pa_cons pe_str (pa_cons pe_str (pa_cons pe_str (pa_cons pe_str (pa_cons pe_str (pa_cons pe_str (pa_cons pe_str (pa_cons pe_str (pa_cons pe_str (pa_cons pe_str (pa_cons pe_str pa_nil))))))))))))))) (by rfl))))) (pss_one (ps_ret (pv 0))) pss_nil)
      (pss_cons (ps_if (pt_val (pe_call GN hr rfl gN FN.kp bN .nil pass0 (pa_cons (pv 0) pa_nil))) (pss_one (ps_ret pe_str)) pss_nil)
      (pss_cons (ps_set (i := 1) nd rfl (.inl rfl) (pe_ifExp (pt_cmpR op_eq (pe_slice sl_str (pv 0) po_none (po_some pe_int)) pe_str (nomark _)) (pe_slice sl_str (pv 0) (po_some pe_int) po_none) (pv 0)))
      (pss_cons (ps_set (i := 2) nd rfl (.inl rfl) (pe_and (pe_cmpR op_ne (pv 1) pe_str (nomark _)) (pe_one (pe_cmpR (op_eqD hr.units) (pe_lc (own := [("_law_one", 3)]) (g := gName 3) rfl nd (pi_str (pv 1)) (blkOk_by (own := [("_law_one", 3)]) (N := ["_law_word", "_law_figures", "_law_is_plain", "_law_one"]) (sc := defScope s_law_sort) (by decide +kernel))
          (fun _ _ _ _ _ => pg_name (i := 3) nd rfl (Or.inl rfl)) (fun _ _ _ _ _ => pts_one (pt_cmpR op_notIn_sign (pv 3) pe_str (by rfl))) (fun _ _ _ _ _ => pv 3)) (pe_lst pa_nil) (nomark _)))))
      (pss_one (ps_ret (pe_ifExp (PW.pt (pw_or (pt_cmpR op_eq (pv 0) pe_str (nomark _)) (pw_or1 (PW.pt (pw_and (pt_val (pv 2)) (pw_and1 (pt_cmpR op_ne (pe_ix ix_str (pv 1) pe_int (fun _ _ => rfl)) pe_str (nomark _)))))))) pe_str pe_str))))))), ?_⟩
    refine ⟨_, rfl, rfl, fun H1 p s1 hp hl => ?_⟩
    refine ⟨p, keptV, rfl, .inl (SqL.of hl), rfl, flat_kept, _, rfl, ?_⟩
    refine ite2 (fun c1 => iteT ⟨_, rfl, kv (by unfold sortF; rw [if_pos (.inl c1)]) _ s1⟩) (fun c1 => ?_)
    refine ⟨_, rfl, (show 14 ≤ sizeLine by decide), fun q hq => ?_⟩
    refine ⟨q, signsV, rfl, .inl (SqL.of upd_same), rfl, flat_signs, _, rfl, ?_⟩
    have s2 : Same H (upd H1 q (.lst signsV)) := s1.trans (same_new hq)
    refine ite2 (fun c2 => ⟨_, rfl, kv (by unfold sortF; rw [if_pos (.inr c2)]) _ s2⟩) (fun c2 => ?_)
    have c3 : ¬ (keptB t = true ∨ signB t = true) := fun z => z.elim c1 c2
    refine ⟨_, rfl, _, rfl, .inl ⟨t, rfl, ht, fun H3 s3 => ⟨_, rfl, ?_⟩⟩⟩
    have s4 := s2.trans s3
    refine ite2 (fun c5 => kv (by unfold sortF; rw [if_neg c3, name_num c5, if_neg (by simp), if_pos c5]) _ s4) (fun c5 => ?_)
    have c5 : nameB t = false := by simpa using c5
    have e5 : sortF t = if numB t = true then ("figures" : Str) else ("strange" : Str) := by unfold sortF; rw [if_neg c3, c5, if_neg (by simp : ¬ false = true)]
    have fin : ∀ u, u = figsOf t → tSeq (tAsg (tAndV (tOp rNe (tVar 1) (tC (.str ""))) (tOp (rEqD K) (tLc (iStr (tVar 1)) (gName 3) (tTest (tOp (fun x y H Q => ∃ (c : Nat) (z : Str), x = .str ⟨#[c]⟩ ∧ y = .str z ∧ Q (.bl (!decide (c ∈ z.cps.toList))) H) (tVar 3) (tC (.str sFigs)))) (tVar 3) [3]) (tLst tNil))) (gName 2))
        (tRet (tIf (tOr (tTest (tOp rEq (tVar 0) (tC (.str "0")))) (tAnd (tTest (tVar 2)) (tTest (tOp rNe (tOp rIxS (tVar 1) (tC (.int 0))) (tC (.str "0")))))) (tC (.str "figures")) (tC (.str "strange")))) { nx := fun _ H' => Q .non H', rt := Q } [some (.str (sT t)), some (.str (sT u)), none, none] H3 := by
      rintro u rfl
      have hx := tx_figs ht
      have nb : numB t = (!decide (figsOf t = []) && (figsOf t).all isFig && (decide (t = [48]) || !decide ((figsOf t).take 1 = [48]))) := rfl
      have fin2 : ∀ (H5 : Hp) (z : Option V) (pl : Bool), Same H3 H5 → pl = (!decide (figsOf t = []) && (figsOf t).all isFig) → tRet (tIf (tOr (tTest (tOp rEq (tVar 0) (tC (.str "0")))) (tAnd (tTest (tVar 2)) (tTest (tOp rNe (tOp rIxS (tVar 1) (tC (.int 0))) (tC (.str "0")))))) (tC (.str "figures")) (tC (.str "strange"))) { nx := fun _ H' => Q .non H', rt := Q } [some (.str (sT t)), some (.str (sT (figsOf t))), some (.bl pl), z] H5 := by
        intro H5 z pl s5 hpl
        refine ⟨_, rfl, rfl, _, rfl, ?_⟩
        rw [str_eq, cps_0]
        refine ite2 (fun c6 => iteT ?_) (fun c6 => ?_)
        · have c6 := of_decide_eq_true c6
          exact kv (by rw [e5, nb, c6]; rfl) _ (s4.trans s5)
        · have c6 : ¬ t = [48] := fun z => c6 (decide_eq_true z)
          rw [decide_eq_false c6, Bool.false_or, ← hpl] at nb
          refine ⟨_, rfl, _, rfl, ?_⟩
          cases pl with
          | false => exact iteF (iteF (kv (by rw [e5, nb]; rfl) _ (s4.trans s5)))
          | true =>
            have c7 : ¬ figsOf t = [] := fun z => by rw [decide_eq_true z] at hpl; simp at hpl
            obtain ⟨c, r, e⟩ := List.exists_cons_of_ne_nil c7
            refine iteT ⟨_, rfl, _, _, c, rfl, rfl, sl_of (by rw [sT_len]; exact hx.1), by rw [sT_cps]; exact atI_nat (j := 0) (by rw [e]; rfl), rfl, _, rfl, ?_⟩
            rw [show decide (V.str ⟨#[c]⟩ = V.str "0") = decide (c = 48) from ch_eq c _ 48 cps_0]
            rw [Bool.true_and, e, show decide ((c :: r).take 1 = [48]) = decide (c = 48) from decide_eq_decide.mpr (by simp)] at nb
            exact ite2 (fun c8 => kv (by rw [e5, nb, c8]; rfl) _ (s4.trans s5)) (fun c8 => kv (by rw [e5, nb, if_neg c8]) _ (s4.trans s5))
      refine ⟨_, rfl, rfl, _, rfl, ?_⟩
      rw [ne_empty]
      by_cases c1 : figsOf t = []
      · rw [decide_eq_true c1]
        exact iteF (fin2 _ _ _ (Same.refl _) (by rw [decide_eq_true c1]; rfl))
      · rw [decide_eq_false c1]
        refine iteT ⟨_, rfl, _, rfl, fun D hD => lc_chars (fun c => !isFig c) hx.1 hD (fun c H' A B hc s h1 h2 => ⟨rfl, _, rfl, _, _, rfl, rfl, _, rfl, ?_⟩) (empty_end (Q := fun v H5 => _) hx hD fun H' s' => ?_)⟩
        · rw [mem_fig]
          exact ite2 (fun e => ⟨_, rfl, h1 e⟩) (fun e => h2 (by simpa using e))
        · exact fin2 _ _ _ s' (by rw [decide_eq_false c1]; rfl)
    refine ⟨_, rfl, _, rfl, _, rfl, sl_of (by rw [sT_len]; exact ht.1), rfl, _, rfl, ?_⟩
    have e1 : cutS (sT t) none (some 1) = sT (t.take 1) := cut_to t 1
    have e2 : cutS (sT t) (some 1) none = sT (t.drop 1) := cut_from t 1
    rw [e1, str_eq, cps_minus]
    refine ite2 (fun c => ?_) (fun c => ?_)
    · have c := of_decide_eq_true c
      refine ⟨_, rfl, _, rfl, _, rfl, sl_of (by rw [sT_len]; exact ht.1), ?_⟩
      rw [e2]
      exact fin _ (by unfold figsOf; rw [if_pos c])
    · have c : ¬ t.take 1 = [45] := fun z => c (decide_eq_true z)
      exact ⟨_, rfl, fin _ (by unfold figsOf; rw [if_neg c])⟩
end

section
variable {P : Program} {w : World} {K : PySem.W.Frag} {mg : Str → Option Value} {base : Heap}
theorem sc_word_at : FnScope ["_law_text", "_law_at", "_law_end", "_law_is_long"] ["_law_text", "_law_at"] (defScope s_law_word_at) := ⟨rfl, rfl, rfl, by decide +kernel, rfl, by decide +kernel, by decide +kernel⟩
theorem ok_word_at {CX : CXT} {f fI : Addr} {fd fdI : FuncData} (F : FnP K "_law_word_at" s_law_word_at f fd) (FI : FnP K "_law_inner" s_law_inner fI fdI) (gI : mg "_law_inner" = some (.ref fI)) (G : GkF K mg) : FnOk P w K mg base CX 2 f fd ["_law_text", "_law_at"] spWordAt := by
  have GI : FnOk P w K mg base CX0 1 fI fdI ["_law_sign"] spInner := ok_inner FI
  have bI : Binds K fdI ["_law_sign"] [] := FI.bindsN fun _ _ _ _ _ _ us hl => match us, hl with | [_], _ => rfl
  refine F.ok sc_word_at (fun vs H Q E h => ?_) (fun cdv A outer s H vs Q E hr h => ?_)
  · obtain ⟨t, i, rfl, _⟩ := h
    rfl
  · obtain ⟨t, i, rfl, ht, hi, k⟩ := h
    have nd := sc_word_at.nd
    refine ⟨_, PSs.nox (pss_cons (ps_set (i := 2) nd rfl (.inl rfl) (pe_op op_add (pv 1) pe_int))
      (C8.pss_cut (ps_set (i := 3) nd rfl (.inl rfl) (pe_or (pe_call GI hr rfl gI FI.kp bI .nil pass0 (pa_cons (pe_ix ix_str (pv 0) (pv 1) (fun _ _ => rfl)) pa_nil))
         (pe_one (pe_and (pe_cmpR op_eq (pe_ix ix_str (pv 0) (pv 1) (fun _ _ => rfl)) pe_str (nomark _)) (pe_one (pe_chain op_le_str op_le_str pe_str (pe_slice sl_str (pv 0) (po_some (pe_op op_add (pv 1) pe_int)) (po_some (pe_op op_add (pv 1) pe_int))) pe_str))))))
      (pss_cons (ps_while PassesOwn.never (PW.pt (pw_and (pt_val (pv 3)) (pw_and (pt_cmpR op_lt (pv 2) (pe_callB call_len (by rfl) G.len PySem.boot_len (pa_cons (pv 0) pa_nil)) (nomark _)) (pw_and1 (pt_val (pe_call GI hr rfl gI FI.kp bI .nil pass0 (pa_cons (pe_ix ix_str (pv 0) (pv 2) (fun _ _ => rfl)) pa_nil)))))))
        (pss_one (ps_set (i := 2) nd rfl (.inl rfl) (pe_op op_add (pv 2) pe_int))))
      (pss_one (ps_ret (pe_ifExp (PW.pt (pw_and (pt_not (pt_val (pv 3))) (pw_and1 (pt_cmpR op_in_seq (pe_slice sl_str (pv 0) (po_some (pv 1)) (po_some (pe_op op_add (pv 1) pe_int))) (pe_lst (pa_cons pe_str (pa_cons pe_str pa_nil))) (by rfl)))))
        (pe_slice sl_str (pv 0) (po_some (pv 1)) (po_some (pe_op op_add (pv 1) pe_int))) (pe_slice sl_str (pv 0) (po_some (pv 1)) (po_some (pv 2))))))))), ?_⟩
    obtain ⟨c, r, er⟩ := List.exists_cons_of_ne_nil (show t.drop i ≠ [] by intro z; have := congrArg List.length z; rw [List.length_drop] at this; simp at this; omega)
    have gt : ∀ j, t[i + j]? = (c :: r)[j]? := fun j => by rw [← er, List.getElem?_drop]
    have g0 : t[i]? = some c := gt 0
    have zl := ht.1
    have sl : (sT t).length ≤ sizeLine := sl_of (by rw [sT_len]; exact ht.1)
    have rl : r.length = t.length - (i + 1) := by have := congrArg List.length er; rw [List.length_drop] at this; simp only [List.length_cons] at this; omega
    refine ⟨_, rfl, _, _, rfl, rfl, ?_⟩
    refine ⟨fun σ H' => σ = [some (.str (sT t)), some (.int (i : Int)), some (.int ((i : Int) + 1)), some (.bl (isLong (c :: r)))] ∧ H' = H, ?_, ?_⟩
    · rw [isLong_ng]
      refine ⟨_, rfl, _, rfl, _, _, c, rfl, rfl, sl, by rw [sT_cps]; exact atI_nat g0, c, rfl, _, rfl, ?_⟩
      refine ite2 (fun e => ?_) (fun e => ?_)
      · rw [e]
        exact ⟨rfl, rfl⟩
      · have e : isInner c = false := by simpa using e
        rw [e, Bool.false_or]
        refine ⟨_, rfl, _, rfl, _, _, c, rfl, rfl, sl, by rw [sT_cps]; exact atI_nat g0, rfl, _, rfl, ?_⟩
        rw [ch_eq c "-" 45 cps_minus]
        by_cases c1 : c = 45
        · rw [decide_eq_true c1]
          refine iteT ⟨_, rfl, _, rfl, _, _, rfl, rfl, _, rfl, _, rfl, _, _, rfl, rfl, _, rfl, _, rfl, sl, ?_⟩
          rw [show cutS (sT t) (some ((i : Int) + 1)) (some ((i : Int) + 2)) = sT ((t.drop (i + 1)).take (i + 2 - (i + 1))) from cut_nat t (i + 1) (i + 2)]
          have ed : t.drop (i + 1) = r := by rw [← List.drop_drop, er]; rfl
          rw [ed, show i + 2 - (i + 1) = 1 by omega]
          refine ⟨_, _, rfl, rfl, _, rfl, ?_⟩
          cases r with
          | nil =>
            rw [show (!decide ((sT (([] : List Nat).take 1)).cps.toList < ("0" : Str).cps.toList)) = false by rw [sT_cps, cps_0]; rfl]
            refine iteF ?_
            rw [show ngB [c] = false by simp [ngB]]
            exact ⟨rfl, rfl⟩
          | cons d q =>
            rw [show (!decide ((sT ((d :: q).take 1)).cps.toList < ("0" : Str).cps.toList)) = decide (48 ≤ d) from le_str d "0" 48 cps_0]
            have eng : ngB (c :: d :: q) = (decide (48 ≤ d) && decide (d ≤ 57)) := by simp [ngB, c1, isFig]
            rw [eng]
            refine ite2 (fun e => ⟨_, _, rfl, rfl, ?_⟩) (fun e => ?_)
            · rw [show (!decide (("9" : Str).cps.toList < (sT ((d :: q).take 1)).cps.toList)) = decide (d ≤ 57) from ge_str d "9" 57 cps_9, e, Bool.true_and]
              exact ⟨rfl, rfl⟩
            · rw [show decide (48 ≤ d) = false by simpa using e, Bool.false_and]
              exact ⟨rfl, rfl⟩
        · rw [decide_eq_false c1]
          refine iteF ?_
          rw [show ngB (c :: r) = false by simp [ngB, c1]]
          exact ⟨rfl, rfl⟩
    · rintro σ H' ⟨rfl, rfl⟩
      obtain ⟨b, eb⟩ : ∃ b, b = isLong (c :: r) := ⟨_, rfl⟩
      rw [← eb]
      obtain ⟨m, em⟩ : ∃ m, m = if b = true then (r.takeWhile isInner).length else 0 := ⟨_, rfl⟩
      have ml : i + 1 + m ≤ t.length := by
        have h1 := take_prefix_tw isInner r
        rw [em]
        split <;> omega
      refine ⟨fun n σ H2 => ∃ j, j + n = m ∧ σ = [some (.str (sT t)), some (.int (i : Int)), some (.int ((i + 1 + j : Nat) : Int)), some (.bl b)] ∧ H2 = H', ⟨m, 0, Nat.zero_add _, rfl, rfl⟩, ?_⟩
      rintro n σ H2 ⟨j, hj, rfl, rfl⟩
      have hsl : cutS (sT t) (some (i : Int)) (some ((i : Int) + 2)) = sT ((t.drop i).take 2) := by
        rw [show cutS (sT t) (some (i : Int)) (some ((i : Int) + 2)) = sT ((t.drop i).take (i + 2 - i)) from cut_nat t i (i + 2), show i + 2 - i = 2 by omega]
      have fin : j = m → tRet (tIf (tAnd (tNot (tTest (tVar 3))) (tTest (tOp (rIn K false) (tSl rSlS (tVar 0) (tPart (tVar 1)) (tPart (tOp (rI0 fun i j => .int (i + j)) (tVar 1) (tC (.int 2))))) (tLst (tCons (tC (.str "<=")) (tCons (tC (.str "==")) tNil))))))
          (tSl rSlS (tVar 0) (tPart (tVar 1)) (tPart (tOp (rI0 fun i j => .int (i + j)) (tVar 1) (tC (.int 2))))) (tSl rSlS (tVar 0) (tPart (tVar 1)) (tPart (tVar 2)))) { nx := fun _ H' => Q .non H', rt := Q } [some (.str (sT t)), some (.int (i : Int)), some (.int ((i + 1 + j : Nat) : Int)), some (.bl b)] H2 := by
        rintro rfl
        have last : ∀ H3, Same H2 H3 → wl (t.drop i) = 1 + j → ∃ v, ([some (.str (sT t)), some (.int (i : Int)), some (.int ((i + 1 + j : Nat) : Int)), some (.bl b)] : L2.St)[0]? = some (some v) ∧ tPart (tVar 1) [some (.str (sT t)), some (.int (i : Int)), some (.int ((i + 1 + j : Nat) : Int)), some (.bl b)] H3 fun lo H4 => tPart (tVar 2) [some (.str (sT t)), some (.int (i : Int)), some (.int ((i + 1 + j : Nat) : Int)), some (.bl b)] H4 fun hi H5 => rSlS v lo hi H5 Q := by
          intro H3 s3 ew
          refine ⟨_, rfl, _, rfl, _, rfl, _, rfl, _, rfl, _, rfl, sl, ?_⟩
          have q := k H3 s3
          rw [ew] at q
          rw [cut_nat t i (i + 1 + j), show i + 1 + j - i = 1 + j by omega]
          exact q
        refine ⟨_, rfl, _, rfl, ?_⟩
        cases hb : b with
        | true =>
          rw [hb] at eb em
          rw [hb] at last
          refine iteF (iteF (last _ (Same.refl _) ?_))
          rw [er]
          unfold wl
          rw [if_pos eb.symm, em, if_pos rfl]
          rfl
        | false =>
          rw [hb] at eb em
          rw [hb] at last
          have e0 : j = 0 := by rw [em]; rfl
          have ew : wl (t.drop i) = if (t.drop i).take 2 = [60, 61] ∨ (t.drop i).take 2 = [61, 61] then 2 else 1 := by
            rw [er]
            unfold wl
            rw [← eb, if_neg (by simp)]
          refine iteT ⟨_, rfl, _, rfl, _, rfl, _, rfl, _, _, rfl, rfl, _, rfl, _, rfl, sl, (show 2 ≤ sizeLine by decide), fun p hp => ?_⟩
          rw [hsl]
          refine ⟨p, _, rfl, .inl (SqL.of upd_same), rfl, rfl, _, rfl, ?_⟩
          refine ite2 (fun c2 => ?_) (fun c2 => ?_)
          · have c2 : inV (.str (sT ((t.drop i).take 2))) [V.str "<=", V.str "=="] = true := c2
            rw [in2] at c2
            refine ⟨_, rfl, _, rfl, _, rfl, _, rfl, _, _, rfl, rfl, _, rfl, _, rfl, sl, ?_⟩
            rw [hsl]
            rw [ew, if_pos (of_decide_eq_true c2)] at k
            exact k _ (same_new hp)
          · have c2 : ¬ inV (.str (sT ((t.drop i).take 2))) [V.str "<=", V.str "=="] = true := c2
            rw [in2] at c2
            refine last _ (same_new hp) ?_
            rw [ew, if_neg (fun z => c2 (decide_eq_true z)), e0]
      refine ⟨_, rfl, _, rfl, ?_⟩
      cases hb : b with
      | false =>
        rw [hb] at em fin
        exact iteF (fin (by rw [if_neg (by simp : ¬ false = true)] at em; omega))
      | true =>
        rw [hb] at em fin
        rw [if_pos rfl] at em
        refine iteT ⟨_, rfl, _, rfl, _, _, rfl, ⟨sl, rfl⟩, _, _, rfl, rfl, _, rfl, ?_⟩
        rw [sT_len]
        refine ite2 (fun c1 => ?_) (fun c1 => ?_)
        · have c1 : i + 1 + j < t.length := by have := of_decide_eq_true c1; omega
          obtain ⟨d, hd⟩ : ∃ d, t[i + 1 + j]? = some d := ⟨_, List.getElem?_eq_getElem c1⟩
          refine ⟨_, rfl, _, rfl, _, _, d, rfl, rfl, sl, by rw [sT_cps]; exact atI_nat hd, d, rfl, _, rfl, ?_⟩
          rw [show i + 1 + j = i + (j + 1) by omega, gt (j + 1), List.getElem?_cons_succ] at hd
          by_cases c2 : j < m
          · obtain ⟨d', e1, e2⟩ := tw_in (p := isInner) (t := r) (j := j) (by rw [← em]; exact c2)
            rw [hd] at e1
            cases e1
            rw [e2]
            refine iteT ⟨fun σ' H' => σ' = [some (.str (sT t)), some (.int (i : Int)), some (.int ((i + 1 + (j + 1) : Nat) : Int)), some (.bl true)] ∧ H' = H2, fun _ _ h => ⟨n - 1, by omega, j + 1, by omega, h.1, h.2⟩, _, rfl, _, _, rfl, rfl, rfl, rfl⟩
          · have e : j = m := by omega
            rw [e, em] at hd
            rw [tw_out hd]
            exact iteF (fin e)
        · have c1 : ¬ i + 1 + j < t.length := fun z => c1 (decide_eq_true (by omega))
          exact iteF (fin (by omega))
theorem sc_lcut : FnScope ["_law_text", "_law_found", "_law_at", "_law_line", "_law_column", "_law_size"] ["_law_text"] (defScope s_law_cut) := ⟨rfl, rfl, rfl, by decide +kernel, rfl, by decide +kernel, by decide +kernel⟩
theorem in_wht (c : Nat) : inV (chV c) [V.str " ", V.str "\n"] = (decide (c = 32) || decide (c = 10)) := by
  show ((" " : Str) == sT [c] || (("\n" : Str) == sT [c] || false)) = _
  rw [Str_beq, Str_beq, cps_sp, cps_nl, Bool.or_false]
  simp
theorem ok_lcut {CX : CXT} {f fW : Addr} {fd fdW : FuncData} (F : FnP K "_law_cut" s_law_cut f fd) (FW : FnP K "_law_word_at" s_law_word_at fW fdW) (gW : mg "_law_word_at" = some (.ref fW)) (GW : FnOk P w K mg base CX0 2 fW fdW ["_law_text", "_law_at"] spWordAt) (G : GkF K mg) : FnOk P w K mg base CX 3 f fd ["_law_text"] spCut := by
  have bW : Binds K fdW ["_law_text", "_law_at"] [] := FW.bindsN fun _ _ _ _ _ _ us hl => match us, hl with | [_, _], _ => rfl
  refine F.ok sc_lcut (fun vs H Q E h => ?_) (fun cdv A outer s H vs Q E hr h => ?_)
  · obtain ⟨t, rfl, _⟩ := h
    rfl
  · obtain ⟨t, rfl, ht, k⟩ := h
    have nd := sc_lcut.nd
    refine ⟨_, PSs.nox (pss_cons (ps_asg (pe_tup (pa_cons (pe_lst pa_nil) (pa_cons pe_int (pa_cons pe_int (pa_cons pe_int pa_nil))))) (pg_tup rfl (pgs_cons (pg_name (i := 1) nd rfl (Or.inl rfl)) (pgs_cons (pg_name (i := 2) nd rfl (Or.inl rfl)) (pgs_cons (pg_name (i := 3) nd rfl (Or.inl rfl)) (pgs_cons (pg_name (i := 4) nd rfl (Or.inl rfl)) pgs_nil))))))
      (pss_cons (ps_while PassesOwn.never (pt_cmpR op_lt (pv 2) (pe_callB call_len (by rfl) G.len PySem.boot_len (pa_cons (pv 0) pa_nil)) (nomark _))
        (pss_cons (ps_set (i := 5) nd rfl (.inl rfl) pe_int)
        (C8.pss_cut (ps_if (pt_cmpR op_notIn_seq (pe_ix ix_str (pv 0) (pv 2) (fun _ _ => rfl)) (pe_lst (pa_cons pe_str (pa_cons pe_str pa_nil))) (by rfl))
          (pss_cons (ps_expr (pe_bm PySem.F.plainAttrs_list PySem.F.slot_list_append PySem.F.type_list_append mt_append (pv 1) (pa_cons (pe_tup (pa_cons (pe_call GW hr rfl gW FW.kp bW .nil pass0 (pa_cons (pv 0) (pa_cons (pv 2) pa_nil))) (pa_cons (pv 3) (pa_cons (pv 4) pa_nil)))) pa_nil)))
          (pss_one (ps_set (i := 5) nd rfl (.inl rfl) (pe_callB call_len (by rfl) G.len PySem.boot_len (pa_cons (pe_ix ix_tup (pe_ix ix_list (pv 1) (pe_un un_neg pe_int) (fun _ _ => rfl)) pe_int (fun _ _ => rfl)) pa_nil))))) pss_nil)
        (pss_cons (ps_par (i := 3) (j := 4) rfl nd rfl rfl (by decide) rfl rfl (pa_cons (pe_op op_add (pv 3) (pe_callTy call_int1 (by rfl) G.int (by decide +kernel) (pa_cons (pe_cmpR op_eq (pe_ix ix_str (pv 0) (pv 2) (fun _ _ => rfl)) pe_str (nomark _)) pa_nil)))
            (pa_cons (pe_ifExp (pt_cmpR op_eq (pe_ix ix_str (pv 0) (pv 2) (fun _ _ => rfl)) pe_str (nomark _)) pe_int (pe_op op_add (pv 4) (pv 5))) pa_nil)) (by rfl))
        (pss_one (ps_set (i := 2) nd rfl (.inl rfl) (pe_op op_add (pv 2) (pv 5))))))))
      (pss_one (ps_ret (pv 1))))), ?_⟩
    have sl : (sT t).length ≤ sizeLine := sl_of (by rw [sT_len]; exact ht.1)
    have zl := ht.1
    refine ⟨Nat.zero_le _, fun D hD => ⟨(show 4 ≤ sizeLine by decide), fun q hq => ⟨q, _, rfl, SqT.of upd_same, rfl, _, _, rfl, _, _, rfl, _, _, rfl, _, _, rfl, rfl, ?_⟩⟩⟩
    have nDq : D ≠ q := fun z => by rw [← z, upd_same] at hq; cases hq
    refine ⟨fun n σ H' => ∃ (at_ line col : Nat) (acc : List Wd) (v5 : Option V), (t.drop at_).length ≤ n ∧ at_ ≤ t.length ∧ acc ++ cutF n (t.drop at_) line col = cutT t ∧
        σ = [some (.str (sT t)), some (.ref D), some (.int (at_ : Int)), some (.int (line : Int)), some (.int (col : Int)), v5] ∧ Same H H' ∧ WordsNew H H' D acc,
      ⟨t.length, 0, 1, 1, [], none, by simp, Nat.zero_le _, rfl, rfl, (same_new hD).trans (same_new hq), [], ⟨by rw [upd_ne nDq, upd_same]; rfl, hD⟩, rfl, fun i p x e1 e2 => by simp at e1⟩, ?_⟩
    rintro n σ H' ⟨at_, line, col, acc, v5, hn, ha, hc, rfl, sm, hw⟩
    refine ⟨_, rfl, _, rfl, _, _, rfl, ⟨sl, rfl⟩, _, _, rfl, rfl, _, rfl, ?_⟩
    rw [sT_len]
    refine ite2 (fun c1 => ?_) (fun c1 => ?_)
    · have c1 : at_ < t.length := by have := of_decide_eq_true c1; omega
      obtain ⟨c, r, er⟩ := List.exists_cons_of_ne_nil (show t.drop at_ ≠ [] by intro z; have := congrArg List.length z; rw [List.length_drop] at this; simp at this; omega)
      have g0 : t[at_]? = some c := by
        have : (t.drop at_)[0]? = some c := by rw [er]; rfl
        rw [List.getElem?_drop] at this
        exact this
      have e1 : t.drop (at_ + 1) = r := by rw [← List.drop_drop, er]; rfl
      rw [er] at hn hc
      obtain ⟨n, rfl⟩ : ∃ m, n = m + 1 := ⟨n - 1, by simp at hn; omega⟩
      simp only [List.length_cons] at hn
      have lr : (c :: r).length = t.length - at_ := by rw [← er, List.length_drop]
      simp only [List.length_cons] at lr
      refine ⟨fun σ' H2 => ∃ (at_ line col : Nat) (acc : List Wd) (v5 : Option V), (t.drop at_).length ≤ n ∧ at_ ≤ t.length ∧ acc ++ cutF n (t.drop at_) line col = cutT t ∧
        σ' = [some (.str (sT t)), some (.ref D), some (.int (at_ : Int)), some (.int (line : Int)), some (.int (col : Int)), v5] ∧ Same H H2 ∧ WordsNew H H2 D acc, fun _ _ h => ⟨n, Nat.lt_succ_self _, h⟩, ?_⟩
      rw [cutF_cons] at hc
      refine ⟨fun σ' H2 => ∃ (sz : Nat) (acc : List Wd), 1 ≤ sz ∧ at_ + sz ≤ t.length ∧ acc ++ cutF n (t.drop (at_ + sz)) (if c = 10 then line + 1 else line) (if c = 10 then 1 else col + sz) = cutT t ∧
        σ' = [some (.str (sT t)), some (.ref D), some (.int (at_ : Int)), some (.int (line : Int)), some (.int (col : Int)), some (.int (sz : Int))] ∧ Same H H2 ∧ WordsNew H H2 D acc, ?_, ?_⟩
      · refine ⟨_, rfl, _, rfl, _, _, c, rfl, rfl, sl, by rw [sT_cps]; exact atI_nat g0, (show 2 ≤ sizeLine by decide), fun p hp => ?_⟩
        refine ⟨p, _, rfl, .inl (SqL.of upd_same), rfl, rfl, _, rfl, ?_⟩
        rw [show (if (true : Bool) = true then !inV (V.str ⟨#[c]⟩) [V.str " ", V.str "\n"] else inV (V.str ⟨#[c]⟩) [V.str " ", V.str "\n"]) = !(decide (c = 32) || decide (c = 10)) from congrArg Bool.not (in_wht c)]
        have sm1 := sm.trans (same_new (o := .lst [V.str " ", V.str "\n"]) hp)
        have hw1 := hw.same (same_new (o := .lst [V.str " ", V.str "\n"]) hp)
        generalize upd H' p (.lst [V.str " ", V.str "\n"]) = H1 at sm1 hw1
        by_cases c2 : c = 10
        · rw [decide_eq_true c2, Bool.or_true]
          rw [if_pos c2] at hc
          refine iteF ⟨1, acc, Nat.le_refl _, c1, ?_, rfl, sm1, hw1⟩
          rw [if_pos c2, if_pos c2, e1]
          exact hc
        · rw [if_neg c2] at hc
          rw [decide_eq_false c2, Bool.or_false]
          by_cases c3 : c = 32
          · rw [if_pos c3] at hc
            rw [decide_eq_true c3]
            refine iteF ⟨1, acc, Nat.le_refl _, c1, ?_, rfl, sm1, hw1⟩
            rw [if_neg c2, if_neg c2, e1]
            exact hc
          · rw [if_neg c3] at hc
            rw [decide_eq_false c3]
            have wp := wl_pos (c :: r)
            have wle : wl (c :: r) ≤ (c :: r).length := wl_le (by simp)
            simp only [List.length_cons] at wle
            obtain ⟨ps, h1, h2, h3⟩ := id hw1
            refine iteT ⟨_, rfl, .inl ⟨rfl, _, SqL.of h1.1⟩, _, rfl, _, rfl, t, at_, rfl, ht, c1, fun H2 s2 => ?_⟩
            rw [er]
            have sm2 := sm1.trans s2
            have hw2 := hw1.same s2
            refine ⟨_, rfl, _, rfl, (show 3 ≤ sizeLine by decide), fun p hp => ?_⟩
            have hD2 := s2 _ _ h1.1
            have nDp : D ≠ p := ne_of_none hD2 hp
            obtain ⟨ps2, i1, i2, i3⟩ := id hw2
            have eps : ps2 = ps := by
              have := i1.1.symm.trans hD2
              injection this with this
              injection this with this
              exact (List.map_inj_right (fun a b e => by injection e)).mp this
            subst eps
            refine ⟨D, _, _, rfl, rfl, (upd_ne nDp).trans hD2, ?_, ?_⟩
            · rw [List.length_map, h2]
              have h5 := congrArg List.length hc
              rw [List.length_append] at h5
              have h6 : (cutT t).length ≤ t.length := cutF_len
              have h7 : 100000 < sizeLine := by decide
              have h8 : acc.length ≤ t.length := by omega
              exact Nat.lt_of_le_of_lt (Nat.le_trans h8 zl) h7
            · refine ⟨_, rfl, _, rfl, _, _, _, _, rfl, rfl, SqL.of upd_same, atI_last _ _, _, _, _, _, rfl, rfl, SqT.of ((upd_ne nDp.symm).trans upd_same), atI_nat (j := 0) rfl, _, _, rfl, ⟨sl_of ?_, rfl⟩, ?_⟩
              · rw [sT_len, List.length_take]
                simp only [List.length_cons]
                omega
              · refine ⟨wl (c :: r), acc ++ [((c :: r).take (wl (c :: r)), line, col)], wp, by omega, ?_, ?_, same_app sm2 h1.2 hp, WordsNew.app (x := ((c :: r).take (wl (c :: r)), line, col)) i1 i2 i3 sm2 hp⟩
                · rw [if_neg c2, if_neg c2, List.append_assoc, ← List.drop_drop, er]
                  exact hc
                · rw [show ((sT ((c :: r).take (wl (c :: r)))).length : Int) = ((wl (c :: r) : Nat) : Int) by rw [sT_len, List.length_take]; simp only [List.length_cons]; omega]
                  rfl
      · rintro σ H2 ⟨sz, acc, z1, z2, hc, rfl, sm, hw⟩
        refine ⟨_, rfl, _, rfl, _, rfl, _, _, c, rfl, rfl, sl, by rw [sT_cps]; exact atI_nat g0, rfl, .inr ⟨_, rfl, _, _, rfl, rfl, ?_⟩⟩
        refine ⟨_, rfl, _, rfl, _, _, c, rfl, rfl, sl, by rw [sT_cps]; exact atI_nat g0, rfl, _, rfl, ?_⟩
        rw [ch_eq c "\n" 10 cps_nl]
        by_cases c2 : c = 10
        · rw [decide_eq_true c2]
          rw [if_pos c2, if_pos c2] at hc
          exact iteT ⟨_, _, rfl, _, rfl, _, rfl, _, _, rfl, rfl, at_ + sz, line + 1, 1, acc, _, by rw [List.length_drop]; omega, z2, hc, rfl, sm, hw⟩
        · rw [decide_eq_false c2]
          rw [if_neg c2, if_neg c2] at hc
          exact iteF ⟨_, rfl, _, rfl, _, _, rfl, rfl, _, _, rfl, _, rfl, _, rfl, _, _, rfl, rfl, at_ + sz, line, col + sz, acc, _, by rw [List.length_drop]; omega, z2, hc, by show ([some (.str (sT t)), some (.ref D), some (.int ((at_ : Int) + (sz : Int))), some (.int ((line : Int) + 0)), some (.int ((col : Int) + (sz : Int))), some (.int (sz : Int))] : L2.St) = _; rw [Int.add_zero]; rfl, sm, hw⟩
    · have c1 : ¬ at_ < t.length := fun z => c1 (decide_eq_true (by omega))
      refine ⟨_, rfl, k _ D sm ?_⟩
      have : t.drop at_ = [] := List.drop_of_length_le (by omega)
      rw [this, cutF_nil, List.append_nil] at hc
      rw [← hc]
      exact hw
end

/-! ## _law_refused_right -/
theorem cps_tab : ("\t" : Str).cps.toList = [9] := by decide +kernel
theorem tab_eq : ("\t" : Str) = ⟨#[9]⟩ := by
  have h := sT_of "\t"
  rw [cps_tab] at h
  exact h.symm
theorem good_small {c : Nat} (h : isGood c = true) : c < 128 := by
  unfold isGood at h
  simp only [Bool.or_eq_true, Bool.and_eq_true, decide_eq_true_eq, Bool.not_eq_true', decide_eq_false_iff_not] at h
  omega
def OddT (t : List Nat) : Prop := t.length ≤ 100000 ∧ ∀ c ∈ t, isGood c = true ∨ c = 9
theorem OddT.tx {t : List Nat} (h : OddT t) : tx t := ⟨h.1, fun c hc => (h.2 c hc).elim good_small fun e => by omega⟩
def oddOk (z : Str) : Bool := decide (z.cps.toList.length ≤ 100) && z.cps.toList.all fun c => isGood c || decide (c = 9)
theorem OddT.of {z : Str} (h : oddOk z = true) : OddT z.cps.toList := by
  unfold oddOk at h
  simp only [Bool.and_eq_true, decide_eq_true_eq, List.all_eq_true, Bool.or_eq_true] at h
  exact ⟨by omega, h.2⟩
/-- values that are no texts -/
inductive NsV (H : Hp) : V → Prop where
  | non : NsV H .non
  | bl (b : Bool) : NsV H (.bl b)
  | int (i : Int) : NsV H (.int i)
  | lst {a : Addr} {xs : List V} (e : H a = some (.lst xs)) : NsV H (.ref a)
  | tup {a : Addr} {xs : List V} (e : H a = some (.tup xs)) : NsV H (.ref a)
  | dic {a : Addr} {kvs : List (Key × V)} (e : H a = some (.dK kvs)) : NsV H (.ref a)
theorem NsV.same {H H' : Hp} {v : V} (s : Same H H') (h : NsV H v) : NsV H' v := by
  cases h with
  | non => exact .non
  | bl b => exact .bl b
  | int i => exact .int i
  | lst e => exact .lst (s _ _ e)
  | tup e => exact .tup (s _ _ e)
  | dic e => exact .dic (s _ _ e)
theorem NsV.ns {K : PySem.W.Frag} {H : Hp} {v : V} (h : NsV H v) : NotStr K H v := by
  cases h with
  | non => exact ⟨_, .base .non, kit_ty (by decide +kernel)⟩
  | bl b => exact ⟨_, .base (.bl b), kit_ty (by decide +kernel)⟩
  | int i => exact ⟨_, .base (.int i), kit_ty (by decide +kernel)⟩
  | lst e => exact ⟨_, .base (.lst e), kit_ty (by decide +kernel)⟩
  | tup e => exact ⟨_, .base (.tup e), kit_ty (by decide +kernel)⟩
  | dic e => exact ⟨_, .base (.dK e), kit_ty (by decide +kernel)⟩
def OddV (H : Hp) (v : V) : Prop := (∃ t, v = .str (sT t) ∧ OddT t) ∨ NsV H v
theorem OddV.same {H H' : Hp} {v : V} (s : Same H H') (h : OddV H v) : OddV H' v := h.imp (fun x => x) (NsV.same s)
theorem OddV.str {H : Hp} {z : Str} (h : oddOk z = true) : OddV H (.str z) := .inl ⟨z.cps.toList, by rw [sT_of], .of h⟩
/-! the visible heap, further -/
theorem Dw.mk {t : Nat} {V0 H : Hp} {d p : Addr} {o : HO} (h : Dw t V0 H d) (hp : H p = none) : ∃ V', Dw t V' (upd H p o) d ∧ Same V0 V' ∧ V' p = some o :=
  ⟨upd V0 p o, h.new hp, same_new (h.same.free hp), upd_same⟩
theorem Dw.ext {t : Nat} {V0 H H1 : Hp} {d : Addr} (h : Dw t V0 H d) (e : LamX.ExtN H H1) : ∃ V', Dw t V' H1 d ∧ LamX.ExtN V0 V' ∧ ∀ b o, H1 b = some o → (∀ kvs, o ≠ .dK kvs) → (∀ xs, o ≠ .lst xs) → V' b = some o := by
  obtain ⟨s, w, c, ws, cs, rest, turn, h1, h2, h3, ht, D⟩ := h
  have D1 : DrD H1 d w c ws cs rest turn := ⟨e _ _ D.hd (fun _ z => by cases z), e _ _ D.hw (fun _ z => by cases z), e _ _ D.hc (fun _ z => by cases z), D.wc, D.wl, D.wn, D.cl, D.rn, D.tn⟩
  refine ⟨fun b => if b = d ∨ b = w ∨ b = c then none else H1 b, ⟨fun b o q => ?_, w, c, ws, cs, rest, turn, if_pos (.inl rfl), if_pos (.inr (.inl rfl)), if_pos (.inr (.inr rfl)), ht, D1⟩, fun b o q n => ?_, fun b o q n1 n2 => ?_⟩
  · by_cases hb : b = d ∨ b = w ∨ b = c
    · simp only [if_pos hb] at q
      cases q
    · simp only [if_neg hb] at q
      exact q
  · have hb : ¬ (b = d ∨ b = w ∨ b = c) := by
      rintro (z | z | z) <;> subst z
      · rw [h1] at q; cases q
      · rw [h2] at q; cases q
      · rw [h3] at q; cases q
    simp only [if_neg hb]
    exact e _ _ (s _ _ q) n
  · have hb : ¬ (b = d ∨ b = w ∨ b = c) := by
      rintro (z | z | z) <;> subst z
      · rw [D1.hd] at q; cases q; exact n1 _ rfl
      · rw [D1.hw] at q; cases q; exact n2 _ rfl
      · rw [D1.hc] at q; cases q; exact n2 _ rfl
    simp only [if_neg hb]
    exact q
theorem tabs_vis {T : List (Addr × Str)} {V' H1 : Hp} (h : ∀ b o, H1 b = some o → (∀ kvs, o ≠ .dK kvs) → (∀ xs, o ≠ .lst xs) → V' b = some o) (t : LamX.Tabs T H1) : LamX.Tabs T V' := fun p hp => by
  obtain ⟨ps, h1, h2, h3⟩ := t p hp
  refine ⟨ps, h _ _ h1 (fun _ z => by cases z) (fun _ z => by cases z), h2, fun pos cv hc => ?_⟩
  obtain ⟨c, e1, e2⟩ := h3 pos cv hc
  exact ⟨c, e1, h _ _ e2 (fun _ z => by unfold LamX.CodeO at z; cases z) (fun _ z => by unfold LamX.CodeO at z; cases z)⟩
theorem Dw.sm {t : Nat} {V0 H H1 : Hp} {d : Addr} {T : List (Addr × Str)} (h : Dw t V0 H d) (TV : LamX.Tabs T V0) (e : Same H H1) : ∃ V', Dw t V' H1 d ∧ Same V0 V' ∧ LamX.Tabs T V' ∧ ∀ b o, H1 b = some o → (∀ kvs, o ≠ .dK kvs) → (∀ xs, o ≠ .lst xs) → V' b = some o := by
  obtain ⟨s, w, c, ws, cs, rest, turn, h1, h2, h3, ht, D⟩ := h
  have D1 := D.same e
  have vis : ∀ b o, H1 b = some o → (∀ kvs, o ≠ .dK kvs) → (∀ xs, o ≠ .lst xs) → (if b = d ∨ b = w ∨ b = c then none else H1 b) = some o := fun b o q n1 n2 => by
    have hb : ¬ (b = d ∨ b = w ∨ b = c) := by
      rintro (z | z | z) <;> subst z
      · rw [D1.hd] at q; cases q; exact n1 _ rfl
      · rw [D1.hw] at q; cases q; exact n2 _ rfl
      · rw [D1.hc] at q; cases q; exact n2 _ rfl
    rw [if_neg hb]
    exact q
  refine ⟨fun b => if b = d ∨ b = w ∨ b = c then none else H1 b, ⟨fun b o q => ?_, w, c, ws, cs, rest, turn, if_pos (.inl rfl), if_pos (.inr (.inl rfl)), if_pos (.inr (.inr rfl)), ht, D1⟩, fun b o q => ?_, tabs_vis vis ((TV.ext s).ext e), vis⟩
  · by_cases hb : b = d ∨ b = w ∨ b = c
    · simp only [if_pos hb] at q
      cases q
    · simp only [if_neg hb] at q
      exact q
  · have hb : ¬ (b = d ∨ b = w ∨ b = c) := by
      rintro (z | z | z) <;> subst z
      · rw [h1] at q; cases q
      · rw [h2] at q; cases q
      · rw [h3] at q; cases q
    simp only [if_neg hb]
    exact e _ _ (s _ _ q)
theorem Dw.lam {t : Nat} {V0 H H1 : Hp} {d : Addr} {T : List (Addr × Str)} (h : Dw t V0 H d) (e : LamX.ExtN H H1) (T1 : LamX.Tabs T H1) : ∃ V', Dw t V' H1 d ∧ LamX.ExtN V0 V' ∧ LamX.Tabs T V' := by
  obtain ⟨V', D, x, v⟩ := h.ext e
  exact ⟨V', D, x, tabs_vis v T1⟩
theorem NsV.ext {H H' : Hp} {v : V} (s : LamX.ExtN H H') (h : NsV H v) : NsV H' v := by
  cases h with
  | non => exact .non
  | bl b => exact .bl b
  | int i => exact .int i
  | lst e => exact .lst (s _ _ e fun _ z => by cases z)
  | tup e => exact .tup (s _ _ e fun _ z => by cases z)
  | dic e => exact .dic (s _ _ e fun _ z => by cases z)
theorem OddV.ext {H H' : Hp} {v : V} (s : LamX.ExtN H H') (h : OddV H v) : OddV H' v := h.imp (fun x => x) (NsV.ext s)
theorem ExtN.sm {H H' : Hp} (s : Same H H') : LamX.ExtN H H' := LamX.ExtN.of s
/-- what raises BadText in words_of -/
theorem raises8 {K : PySem.W.Frag} {C : Addr} {V0 H : Hp} {v : V} {Q : VK} {E : XK} (s : Same V0 H) (h : (∃ t, v = .str (sT t) ∧ OddT t ∧ goodB t = false) ∨ NsV V0 v) (k : ∀ H' d, Same H H' → H' d = some (.xd (btF .non .non .non)) → H d = none → E (.ref C) (some d) H') : spWordsOf K C [v] H Q E := by
  refine ⟨v, rfl, ?_⟩
  rcases h with ⟨t, rfl, ht, hg⟩ | h
  · exact .inl ⟨t, rfl, ht.tx, fun g => by rw [hg] at g; exact Bool.noConfusion g, fun _ => k⟩
  · exact .inr ⟨(h.same s).ns, k⟩
theorem raises8T {K : PySem.W.Frag} {C : Addr} {V0 H : Hp} {v : V} {Q : VK} {E : XK} {σ : L2.St} (s : Same V0 H) (h : (∃ t, v = .str (sT t) ∧ OddT t ∧ goodB t = false) ∨ NsV V0 v) (k : ∀ H' d, Same H H' → H' d = some (.xd (btF .non .non .non)) → H d = none → E (.ref C) (some d) H') : tNil σ H (fun xs H2 => spWordsOf K C ((v :: xs) ++ []) H2 Q E) := raises8 s h k
abbrev someL : List V := [V.str "", V.str " ", V.str "a b", V.str "a-b", V.str " a", V.str "a ", V.str "<= ", V.str "a(", V.str "()", V.str "-", V.str "- 1", V.str "1-", V.str "a\tb", V.str "===", V.str "<=="]
theorem someL_odd {H : Hp} : ∀ v ∈ someL, OddV H v := by
  intro v hv
  have all : someL.all (fun v => match v with | .str z => oddOk z | _ => false) = true := by decide +kernel
  have q := List.all_eq_true.mp all v hv
  cases v with
  | str z => exact .str q
  | _ => exact absurd q (by simp)
theorem bad_str {z : Str} (h : (oddOk z && !goodB z.cps.toList) = true) : ∃ t, V.str z = .str (sT t) ∧ OddT t ∧ goodB t = false := by
  simp only [Bool.and_eq_true, Bool.not_eq_true'] at h
  exact ⟨z.cps.toList, by rw [sT_of], .of h.1, h.2⟩
def isWd (t : List Nat) : Prop := goodB t = true ∧ cutT t = [(t, 1, 1)]
def WordV (V0 : Hp) (v : V) (isw : Bool) : Prop := (isw = true ∧ ∃ t, v = .str (sT t) ∧ OddT t ∧ isWd t) ∨ (isw = false ∧ ((∃ t, v = .str (sT t) ∧ OddT t ∧ ¬ isWd t) ∨ NsV V0 v))
theorem odd_word {t : List Nat} (h : OddT t) : decide (9 ∈ t) = !goodB t := by
  have e1 : goodB t = true ↔ 9 ∉ t := by
    unfold goodB
    rw [List.all_eq_true]
    constructor
    · intro q z
      have := q 9 z
      revert this
      decide
    · intro q c hc
      rcases h.2 c hc with z | z
      · exact z
      · rw [z] at hc
        exact absurd hc q
  cases e : goodB t with
  | true => exact decide_eq_false (e1.mp e)
  | false => exact decide_eq_true (Decidable.byContradiction fun z => by rw [e1.mpr z] at e; cases e)
theorem sT_app (a : List Nat) (z : Str) : sT a ++ z = sT (a ++ z.cps.toList) := by
  have h : z = sT z.cps.toList := (sT_of z).symm
  rw [h, sT_cps]
  show (⟨a.toArray ++ z.cps.toList.toArray⟩ : Str) = ⟨(a ++ z.cps.toList).toArray⟩
  simp
abbrev refQ : Str := (("_law_refused_right" : Str) ++ ".<locals>.") ++ "<lambda>"
def spRef (PT : Addr) : Sp := fun vs H Q _ => ∃ (t : Nat) (V0 : Hp) (d a : Addr) (xs : List Wd), vs = [.ref d, .ref a] ∧ Dw t V0 H d ∧ t + 2000 < T40 ∧ WordsAt V0 a xs ∧ xs.length ≤ 1000 ∧ (∀ x ∈ xs, x.1.length ≤ 90000 ∧ ∀ c ∈ x.1, isGood c = true) ∧ LamX.Tabs [(PT, refQ)] V0 ∧
  ∀ V' H', Dw (t + 2000) V' H' d → LamX.ExtN V0 V' → LamX.Tabs [(PT, refQ)] V' → Q (.bl true) H'
structure ExF (K : PySem.W.Frag) (mg : Str → Option Value) (CS CT CW : Addr) : Prop where
  gS : mg "StopError" = some (.ref CS)
  gT : mg "BadText" = some (.ref CT)
  gW : mg "BadWord" = some (.ref CW)
  xT : PySem.W.exmOne K (.ref CT) (.ref CS) = some true
  xW : PySem.W.exmOne K (.ref CW) (.ref CS) = some true
  rT : ExcR K CT
  rW : ExcR K CW
  iTT : PySem.W.kitOne K (.ref CT) (.ref CT) = some true
  iTV : PySem.W.kitOne K (.ref CT) (.type "ValueError") = some true
  iWW : PySem.W.kitOne K (.ref CW) (.ref CW) = some true
  n1 : PySem.W.findIn K (.ref CT) "line" = some none
  n2 : PySem.W.findIn K (.ref CT) "column" = some none
  n3 : PySem.W.findIn K (.ref CT) "wanted" = some none
  ve : mg "ValueError" = none
theorem FunD.okC {P : Program} {w : World} {K : PySem.W.Frag} {mg : Str → Option Value} {base : Heap} {x qual : Str} {params : Arguments} {body : List Stmt} {scope : Scope} {dvs : List V} {kws : List (Str × V)} {f : Addr} {fd : FuncData} {CX : CXT} {N ps : List Str} {k : Nat} {sp : Sp} (F : FunD K x qual params body scope dvs kws f fd) (S : FnScope N ps scope) (len : ∀ vs H Q E, sp vs H Q E → vs.length = ps.length)
    (hbody : ∀ (c : Addr) (A : Around) (outer : List Env) (s : Shared) (H : Hp) (vs : List V) (Q : VK) (E : XK), fd.code = .ref c → Room k (A.deeper (PyProof.Rows.envOfC qual scope s.heap.objs.size f (.ref c))) → sp vs H Q E →
      ∃ t, PSs (cxOf CX P w K mg base N qual scope f (.ref c) A outer s H E) body t ∧ t { nx := fun _ H' => Q .non H', rt := Q } (start N vs) H) : FnOk P w K mg base CX (k + 1) f fd ps sp := by
  obtain ⟨oc, od, dV, kV, doc, pm, an, cdv, ct, osl, rfl, lk, hcd, _, _⟩ := F.ex
  obtain ⟨c, rfl⟩ := He.codeIn_ref hcd
  exact fn_of lk hcd S len fun A outer s H vs Q E hr hsp => hbody c A outer s H vs Q E rfl hr hsp
/-- _law_caught(lambda: body) -/
theorem pe_caught {X : Cx} {g CS c PT : Addr} {fdg : FuncData} {k : Nat} {params : Arguments} {body : Expr} {scope : Scope} {t : XK → TE} {p lpos pos : Pos}
    (FC : FnP X.K "_law_caught" s_law_caught g fdg) (gC : X.mg "_law_caught" = some (.ref g)) (gS : X.mg "StopError" = some (.ref CS)) (hg : Gl X "_law_caught")
    (TB : LamX.TabB X.base X.mg c PT) (hcode : X.env.code = .ref c) (hr : Room (k + 2) X.A) (L : LamX.LamS X.env.scope scope) (hdef : defaultsOf params X.env = ([], []))
    (hbind : ∀ (q : Str) (cl : List (Str × Addr)) (pm cv ctv : Value), bindArgs (PySem.W.kla_fn "<lambda>" q params body scope cl pm cv ctv) ⟨[], []⟩ = pure [])
    (hbody : ∀ (A : Around) (outer : List Env) (s : Shared) (H : Hp) (E : XK) (f c' : Addr), Room k (A.deeper (LamX.lamEnv X scope s.heap.objs.size f c')) → PE (LamX.lamCx X A outer s H E scope f c') body (t E)) :
    PE X (.Call (.Name "_law_caught" p) [.Lambda params body scope lpos] [] pos) (LamX.tLam [(PT, X.env.qual ++ "<lambda>")] (TCaught X.K CS) t) := by
  have bC : Binds X.K fdg ["_law_work"] [] := FC.bindsN fun _ _ _ _ _ _ us hl => match us, hl with | [_], _ => rfl
  have kp := FC.kp
  obtain ⟨oc, od, dV, kV, doc, pm, an, cdv, ct, osl, rfl, lk, hcd, _, _⟩ := FC.ex
  exact LamX.pe_lamcall (Ng := ["_law_work", "_law_error", "caught"]) hg gC kp lk hcd bC sc_caught rfl (.inl rfl) (caught_gives gS) TB hcode (List.mem_singleton.mpr rfl) (fun p hp _ => by rw [List.mem_singleton.mp hp]) hr L hdef hbind hbody
section
variable {P : Program} {w : World} {K : PySem.W.Frag} {mg : Str → Option Value} {base : Heap}
theorem sc_ref : FnScope ["_law_draw", "_law_words", "_law_some", "_law_odd", "_law_word", "_law_line", "_law_column", "_law_error", "_law_is_word"] ["_law_draw", "_law_words"] (defScope s_law_refused_right) := ⟨rfl, rfl, rfl, by decide +kernel, rfl, by decide +kernel, by decide +kernel⟩
structure RefF (P : Program) (w : World) (K : PySem.W.Frag) (mg : Str → Option Value) (base : Heap) (CS CT CW : Addr) : Prop where
  x : ExF K mg CS CT CW
  G : GkF K mg
  pick : ∃ (f : Addr) (fd : FuncData), mg "_law_pick" = some (.ref f) ∧ PySem.W.keepIn K (.ref f) = true ∧ Binds K fd ["_law_draw", "_law_some"] [] ∧ FnOk P w K mg base CX0 3 f fd ["_law_draw", "_law_some"] (spPick K)
  caught : ∃ (f : Addr) (fd : FuncData), mg "_law_caught" = some (.ref f) ∧ FnP K "_law_caught" s_law_caught f fd
  words : ∃ (f : Addr) (fd : FuncData), mg "words_of" = some (.ref f) ∧ PySem.W.keepIn K (.ref f) = true ∧ Binds K fd ["text"] [] ∧ KBn K fd ["text"] 0 ["text"] (fun _ ws => ws) (fun _ zs => zs) ∧ FnOk P w K mg base (L2.CX P w) 3 f fd ["text"] (spWordsOf K CT)
  sort : ∃ (f : Addr) (fd : FuncData), mg "sort_of" = some (.ref f) ∧ PySem.W.keepIn K (.ref f) = true ∧ Binds K fd ["word"] [] ∧ KBn K fd ["word"] 0 ["word"] (fun _ ws => ws) (fun _ zs => zs) ∧ FnOk P w K mg base (L2.CX P w) 3 f fd ["word"] (spSortOf K CW)
  cut : ∃ (f : Addr) (fd : FuncData), mg "_law_cut" = some (.ref f) ∧ PySem.W.keepIn K (.ref f) = true ∧ Binds K fd ["_law_text"] [] ∧ FnOk P w K mg base CX0 3 f fd ["_law_text"] spCut
theorem ok_ref {f c0 PT CS CT CW : Addr} {fd : FuncData} (F : FnP K "_law_refused_right" s_law_refused_right f fd) (hc0 : fd.code = .ref c0) (TB : LamX.TabB base mg c0 PT) (R : RefF P w K mg base CS CT CW) :
    FnOk P w K mg base CX0 6 f fd ["_law_draw", "_law_words"] (spRef PT) := by
  obtain ⟨fP, fdP, gP, kP, bP, GP⟩ := R.pick
  obtain ⟨fC, fdC, gC, FC⟩ := R.caught
  obtain ⟨fW, fdW, gW, kW, bW, kbW, GW⟩ := R.words
  obtain ⟨fS, fdS, gS, kS, bS, kbS, GS⟩ := R.sort
  obtain ⟨fU, fdU, gU, kU, bU, GU⟩ := R.cut
  have X := R.x
  have G := R.G
  refine FunD.okC F sc_ref (fun vs H Q E h => ?_) (fun c A outer s H vs Q E hcode hr h => ?_)
  · obtain ⟨t, V0, d, a, xs, rfl, _⟩ := h
    rfl
  · rw [hc0] at hcode
    cases hcode
    obtain ⟨t, V0, d, a, xs, rfl, hD, ht, hW, hl, hx, hT, k⟩ := h
    have nd := sc_ref.nd
    have hr3 := hr.mono (show 3 ≤ 5 by decide)
    apply Exists.intro
    apply And.intro
    case left =>
     apply PSs.nox
     apply pss_cons
     · exact ps_set (i := 2) nd rfl (.inl rfl) (pe_lst (pa_cons pe_str (pa_cons pe_str (pa_cons pe_str (pa_cons pe_str (pa_cons pe_str (pa_cons pe_str (pa_cons pe_str (pa_cons pe_str (pa_cons pe_str (pa_cons pe_str (pa_cons pe_str (pa_cons pe_str (pa_cons pe_str (pa_cons pe_str (pa_cons pe_str pa_nil))))))))))))))))
     apply pss_cons
     · exact (ps_set (i := 3) nd rfl (.inr rfl) (pe_call GP hr3 rfl gP kP bP .nil pass0 (pa_cons (pv 0) (pa_cons (pe_op op_cat (pe_op op_cat (pv 2) (pe_lst (pa_cons pe_non (pa_cons pe_int (pa_cons pe_bl (pa_cons (pe_lst (pa_cons pe_str pa_nil)) (pa_cons (pe_tup (pa_cons pe_str pa_nil)) (pa_cons pe_dnewK pa_nil))))))))
          (pe_lc (own := [("_law_word", 4), ("_law_line", 5), ("_law_column", 6)]) (g := gTup K 3 (gCons (gName 4) (gCons (gName 5) (gCons (gName 6) gNil)))) rfl nd (pi_list (pv 1)) (blkOk_by (own := [("_law_word", 4), ("_law_line", 5), ("_law_column", 6)]) (N := ["_law_draw", "_law_words", "_law_some", "_law_odd", "_law_word", "_law_line", "_law_column", "_law_error", "_law_is_word"]) (sc := defScope s_law_refused_right) (by decide +kernel))
            (fun _ _ _ _ _ => by exact pg_tup rfl (pgs_cons (pg_name (i := 4) nd rfl (Or.inl rfl)) (pgs_cons (pg_name (i := 5) nd rfl (Or.inl rfl)) (pgs_cons (pg_name (i := 6) nd rfl (Or.inl rfl)) pgs_nil)))) (fun _ _ _ _ _ => pts_nil)
            (fun _ _ _ _ _ => pe_op op_add_str (pv 4) (pe_call GP hr3 rfl gP kP bP .nil pass0 (pa_cons (pv 0) (pa_cons (pe_lst (pa_cons pe_str (pa_cons pe_str (pa_cons pe_str (pa_cons pe_str pa_nil))))) pa_nil)))))) pa_nil))))
     apply pss_cons
     · exact (ps_if (pt_not (pt_val (pe_callB call_isiX (by rfl) G.isi (by decide +kernel) (pa_cons (pe_caught FC gC X.gS rfl TB rfl hr (LamX.lamS_by (sc := defScope s_law_refused_right) (by decide +kernel)) rfl (fun _ _ _ _ _ => rfl)
            (fun A outer s H E f c' hr' => pe_call GW hr' rfl gW kW bW .nil (passes_call (takes_of rfl rfl rfl rfl) (fun _ _ _ _ h => h)) (pa_cons (pe_call GP hr' rfl gP kP bP .nil pass0 (pa_cons (pv 0) (pa_cons (pe_lst (pa_cons pe_non (pa_cons pe_int (pa_cons pe_bl (pa_cons (pe_lst (pa_cons pe_str pa_nil)) (pa_cons pe_str (pa_cons pe_str (pa_cons (pe_tup (pa_cons pe_str pa_nil)) (pa_cons pe_dnewK pa_nil))))))))) pa_nil))) pa_nil)))
          (pa_cons (pe_glob (v := .ref CT) (by rfl) X.gT rfl) pa_nil))))) (pss_one (ps_ret pe_bl)) pss_nil)
     apply pss_cons
     · exact (ps_set (i := 7) nd rfl (.inl rfl) (pe_caught FC gC X.gS rfl TB rfl hr (LamX.lamS_by (sc := defScope s_law_refused_right) (by decide +kernel)) rfl (fun _ _ _ _ _ => rfl)
            (fun A outer s H E f c' hr' => pe_callN0 GW hr' rfl gW kW kbW (passes_call (takes_of rfl rfl rfl rfl) (fun _ _ _ _ h => h)) (pk_cons pe_non pk_nil))))
     apply pss_cons
     · exact (ps_if (PW.pt (pw_or (pt_cmpR (op_neD hr.units) (pe_lst (pa_cons (pe_exF (pv 7)) (pa_cons (pe_exF (pv 7)) (pa_cons (pe_exF (pv 7)) pa_nil)))) (pe_lst (pa_cons pe_non (pa_cons pe_non (pa_cons pe_non pa_nil)))) (nomark _))
          (pw_or1 (pt_not (pt_val (pe_callB call_isiX (by rfl) G.isi (by decide +kernel) (pa_cons (pv 7) (pa_cons (pe_bltn (v := .ty "ValueError") (by rfl) X.ve (by decide +kernel) rfl) pa_nil)))))))) (pss_one (ps_ret pe_bl)) pss_nil)
     apply C8.pss_cut
     · exact (ps_set (i := 8) nd rfl (.inl rfl) (pe_and (pe_callB call_isi (by rfl) G.isi (by decide +kernel) (pa_cons (pv 3) (pa_cons (pe_bltn (v := .ty "str") (by rfl) G.str (by decide +kernel) rfl) pa_nil)))
          (pe_and (pe_cmpR op_notIn_sign pe_str (pv 3) (by rfl)) (pe_one (pe_cmpR (op_eqD hr.units) (pe_call GU hr3 rfl gU kU bU .nil pass0 (pa_cons (pv 3) pa_nil)) (pe_lst (pa_cons (pe_tup (pa_cons (pv 3) (pa_cons pe_int (pa_cons pe_int pa_nil)))) pa_nil)) (nomark _))))))
     apply pss_cons
     · exact (ps_set (i := 7) nd rfl (.inl rfl) (pe_caught FC gC X.gS rfl TB rfl hr (LamX.lamS_by (sc := defScope s_law_refused_right) (by decide +kernel)) rfl (fun _ _ _ _ _ => rfl)
            (fun A outer s H E f c' hr' => pe_call GS hr' rfl gS kS bS .nil (passes_call (takes_of rfl rfl rfl rfl) (fun _ _ _ _ h => h)) (pa_cons (pv 3) pa_nil))))
     apply pss_one
     exact (ps_ret (pe_ifExp (pt_val (pv 8)) (pe_cmpR op_isN (pv 7) pe_non (nomark _)) (pe_callB call_isiX (by rfl) G.isi (by decide +kernel) (pa_cons (pv 7) (pa_cons (pe_glob (v := .ref CW) (by rfl) X.gW rfl) pa_nil)))))
    case right =>
      have T0 : t + 2000 < 1099511627776 := ht
      refine ⟨(show 15 ≤ sizeLine by decide), fun p1 hp1 => ?_⟩
      obtain ⟨V1, D1, s1, e1⟩ : ∃ V1, Dw t V1 (upd H p1 (.lst someL)) d ∧ Same V0 V1 ∧ V1 p1 = some (.lst someL) := hD.mk hp1
      refine ⟨_, rfl, _, rfl, (show 1 ≤ sizeLine by decide), fun q1 hq1 => ?_⟩
      obtain ⟨V2, D2, s2, e2⟩ := D1.mk (o := .lst [V.str "a"]) hq1
      refine ⟨(show 1 ≤ sizeLine by decide), fun q2 hq2 => ?_⟩
      obtain ⟨V3, D3, s3, e3⟩ := D2.mk (o := .tup [V.str "a"]) hq2
      refine fun q3 hq3 => ?_
      obtain ⟨V4, D4, s4, e4⟩ := D3.mk (o := .dK []) hq3
      refine ⟨(show 6 ≤ sizeLine by decide), fun q4 hq4 => ?_⟩
      obtain ⟨V5, D5, s5, e5⟩ := D4.mk (o := .lst [.non, .int 5, .bl true, .ref q1, .ref q2, .ref q3]) hq4
      have e15 := s5 _ _ (s4 _ _ (s3 _ _ (s2 _ _ e1)))
      refine ⟨p1, q4, someL, [.non, .int 5, .bl true, .ref q1, .ref q2, .ref q3], rfl, rfl, D5.same _ _ e15, D5.same _ _ e5, (show 21 ≤ sizeLine by decide), fun q5 hq5 => ?_⟩
      obtain ⟨V6, D6, s6, e6⟩ := D5.mk (o := .lst (someL ++ [.non, .int 5, .bl true, .ref q1, .ref q2, .ref q3])) hq5
      have sV := s1.trans (s2.trans (s3.trans (s4.trans (s5.trans s6))))
      have n1 : NsV V6 (.ref q1) := .lst (s6 _ _ (s5 _ _ (s4 _ _ (s3 _ _ e2))))
      have n2 : NsV V6 (.ref q2) := .tup (s6 _ _ (s5 _ _ (s4 _ _ e3)))
      have n3 : NsV V6 (.ref q3) := .dic (s6 _ _ (s5 _ _ e4))
      have six : ∀ v ∈ someL ++ [.non, .int 5, .bl true, .ref q1, .ref q2, .ref q3], OddV V6 v := by
        intro v hv
        rcases List.mem_append.mp hv with hv | hv
        · exact someL_odd v hv
        · simp only [List.mem_cons, List.not_mem_nil, or_false] at hv
          rcases hv with rfl | rfl | rfl | rfl | rfl | rfl
          · exact .inr .non
          · exact .inr (.int 5)
          · exact .inr (.bl true)
          · exact .inr n1
          · exact .inr n2
          · exact .inr n3
      clear n1 n2 n3 e5 e4 e3 e2 e15
      obtain ⟨ps, w1, w2, w3⟩ := WordsAt.same sV hW
      refine ⟨_, rfl, a, rfl, ⟨_, SqL.of (D6.same _ _ w1)⟩, fun D hDn => ?_⟩
      obtain ⟨V7, D7, s7, e7⟩ := D6.mk (o := .lst []) hDn
      refine lc_list (K := K) (a := a) (xs := ps.map V.ref) (fun i H' => ∃ (V' : Hp) (acc : List V), Dw (t + i) V' H' d ∧ Same V6 V' ∧ V' D = some (.lst acc) ∧ acc.length = i ∧ ∀ v ∈ acc, ∃ t, v = .str (sT t) ∧ OddT t)
        ⟨V7, [], D7, s7, e7, rfl, fun v hv => nomatch hv⟩ (fun i H' _ ⟨V', acc, a1, a2, _⟩ => SqL.of (a1.same _ _ (a2 _ _ w1))) ?_ ?_
      · rintro i x H' hi ⟨V', acc, b1, b2, b3, b4, b5⟩
        rw [List.getElem?_map] at hi
        obtain ⟨p, hp, rfl⟩ : ∃ p, ps[i]? = some p ∧ x = .ref p := by
          cases e : ps[i]? with
          | none => rw [e] at hi; cases hi
          | some p => rw [e] at hi; exact ⟨p, rfl, (Option.some.inj hi).symm⟩
        have hil : i < xs.length := by rw [← w2]; exact (List.getElem?_eq_some_iff.mp hp).1
        have hxi : xs[i]? = some xs[i] := List.getElem?_eq_getElem hil
        have hpw := w3 i p xs[i] hp hxi
        obtain ⟨hxl, hxg⟩ := hx xs[i] (List.getElem_mem hil)
        refine ⟨p, _, rfl, SqT.of (b1.same _ _ (b2 _ _ hpw)), rfl, _, _, rfl, _, _, rfl, _, _, rfl, rfl, rfl, yesIf ?_⟩
        refine ⟨_, rfl, _, rfl, (show 4 ≤ sizeLine by decide), fun r1 hr1 => ?_⟩
        obtain ⟨V8, D8, s8, e8⟩ := b1.mk (o := .lst [V.str "(", V.str " ", V.str "\n", V.str "+1"]) hr1
        refine ⟨t + i, V8, d, .ref r1, _, rfl, D8, by show t + i < 1099511627776; omega, .lst (SqL.of e8), (show 0 < 4 by decide), (show 4 < 100000 by decide), fun v H9 hv D9 => ?_⟩
        have hz : ∃ z : Str, v = .str z ∧ (oddOk z && decide (z.cps.toList.length ≤ 2)) = true := by
          simp only [List.mem_cons, List.not_mem_nil, or_false] at hv
          rcases hv with rfl | rfl | rfl | rfl
          · exact ⟨_, rfl, by decide +kernel⟩
          · exact ⟨_, rfl, by decide +kernel⟩
          · exact ⟨_, rfl, by decide +kernel⟩
          · exact ⟨_, rfl, by decide +kernel⟩
        obtain ⟨z, rfl, hz⟩ := hz
        simp only [Bool.and_eq_true, decide_eq_true_eq] at hz
        have oz := OddT.of hz.1
        refine ⟨_, _, rfl, rfl, ?_, ?_⟩
        · have e : z.length = z.cps.toList.length := by rw [← sT_of z, sT_len, sT_cps]
          rw [sT_len, e]
          exact sl_of (by omega)
        · have eD := s8 _ _ b3
          refine ⟨acc, D9.same _ _ eD, ?_, upd V8 D (.lst (acc ++ [.str (sT xs[i].1 ++ z)])), acc ++ [.str (sT xs[i].1 ++ z)], ?_, ?_, upd_same, ?_, ?_⟩
          · rw [b4]
            exact Nat.lt_of_lt_of_le (show i < 1000 by omega) (by decide)
          · exact D9.set eD
          · exact same_sub (b2.trans s8) (D6.same.free hDn)
          · rw [List.length_append, b4]; rfl
          · intro u hu
            rcases List.mem_append.mp hu with hu | hu
            · exact b5 u hu
            · rw [List.mem_singleton.mp hu, sT_app]
              refine ⟨_, rfl, by rw [List.length_append]; omega, fun c hc => ?_⟩
              rcases List.mem_append.mp hc with hc | hc
              · exact .inl (hxg c hc)
              · exact oz.2 c hc
      · rintro H' ⟨V', acc, b1, b2, b3, b4, b5⟩
        rw [List.length_map, w2] at b1 b4
        refine ⟨q5, D, _, _, rfl, rfl, b1.same _ _ (b2 _ _ e6), b1.same _ _ b3, ?_, fun q6 hq6 => ?_⟩
        · rw [b4]
          exact sl_of (show 21 + xs.length ≤ 100000 by omega)
        obtain ⟨V8, D8, s8, e8⟩ := b1.mk (o := .lst ((someL ++ [.non, .int 5, .bl true, .ref q1, .ref q2, .ref q3]) ++ acc)) hq6
        refine ⟨t + xs.length, V8, d, .ref q6, _, rfl, D8, by show t + xs.length < 1099511627776; omega, .lst (SqL.of e8), by rw [List.length_append]; exact Nat.lt_of_lt_of_le (show 0 < 21 by decide) (Nat.le_add_right _ _), by rw [List.length_append, b4]; show 21 + xs.length < 100000; omega, fun v H9 hv D9 => ?_⟩
        have hodd : OddV V8 v := by
          rcases List.mem_append.mp hv with hv | hv
          · exact (six v hv).same (b2.trans s8)
          · exact .inl (b5 v hv)
        have s08 : Same V0 V8 := sV.trans (b2.trans s8)
        have hT8 := hT.ext s08
        -- the first lambda
        refine ⟨hT8.ext D9.same, fun Ha xa Ta => ?_⟩
        obtain ⟨Va, Da, ya, za⟩ := D9.lam xa Ta
        have hodd := hodd.ext ya
        have ext1 : LamX.ExtN V0 Va := (ExtN.sm s08).trans ya
        refine ⟨_, rfl, (show 1 ≤ sizeLine by decide), fun r1 hr1 => ?_⟩
        obtain ⟨Vb, Db, sb, eb⟩ := Da.mk (o := .lst [V.str "a"]) hr1
        refine ⟨(show 1 ≤ sizeLine by decide), fun r2 hr2 => ?_⟩
        obtain ⟨Vc, Dc, sc, ec⟩ := Db.mk (o := .tup [V.str "unit"]) hr2
        refine fun r3 hr3 => ?_
        obtain ⟨Vd, Dd, sd, ed⟩ := Dc.mk (o := .dK []) hr3
        refine ⟨(show 8 ≤ sizeLine by decide), fun r4 hr4 => ?_⟩
        obtain ⟨Ve, De, se, ee⟩ := Dd.mk (o := .lst [.non, .int 5, .bl true, .ref r1, .str "a\tb", .str "\t", .ref r2, .ref r3]) hr4
        refine ⟨t + xs.length + 1, Ve, d, .ref r4, _, rfl, De, by show t + xs.length + 1 < 1099511627776; omega, .lst (SqL.of ee), (show 0 < 8 by decide), (show 8 < 100000 by decide), fun u Hf hu Df => ?_⟩
        have h8 : (∃ t, u = .str (sT t) ∧ OddT t ∧ goodB t = false) ∨ NsV Ve u := by
          simp only [List.mem_cons, List.not_mem_nil, or_false] at hu
          rcases hu with rfl | rfl | rfl | rfl | rfl | rfl | rfl | rfl
          · exact .inr .non
          · exact .inr (.int 5)
          · exact .inr (.bl true)
          · exact .inr (.lst (se _ _ (sd _ _ (sc _ _ eb))))
          · exact .inl (bad_str (by decide +kernel))
          · exact .inl (bad_str (by decide +kernel))
          · exact .inr (.tup (se _ _ (sd _ _ ec)))
          · exact .inr (.dic (se _ _ ed))
        refine raises8T Df.same h8 fun Hg dg sg eg _ => ?_
        refine ⟨X.xT, fun e1 he1 => ?_⟩
        obtain ⟨Vg, Dg, yg, zg, vg⟩ := Df.sm (za.ext (sb.trans (sc.trans (sd.trans se)))) sg
        have s1g := (sb.trans (sc.trans (sd.trans se))).trans yg
        have hodd := hodd.same s1g
        have ext2 := ext1.trans (ExtN.sm s1g)
        obtain ⟨Vh, Dh, sh, eh⟩ := Dg.mk (o := ExH (.ref CT) e1 (some dg)) he1
        have hdg := upd_ne (o := ExH (.ref CT) e1 (some dg)) (H := Hg) (ne_of_none eg he1)
        refine ⟨e1, CT, .ref CT, .ref CT, true, rfl, .own CT, X.rT, .inr (.inr ⟨some dg, upd_same, fun dx e => by cases e; exact ⟨_, hdg.trans eg⟩⟩), X.iTT, _, rfl, iteF ?_⟩
        have hodd := hodd.same sh
        have ext3 := ext2.trans (ExtN.sm sh)
        have zh := zg.ext sh
        have z0 := s08
        -- the second
        refine ⟨zh.ext Dh.same, fun Hi xi Ti => ?_⟩
        obtain ⟨Vi, Di, yi, zi⟩ := Dh.lam xi Ti
        have hodd := hodd.ext yi
        have ext4 := ext3.trans yi
        refine ⟨rfl, rfl, ?_⟩
        refine raises8 Di.same (.inr .non) fun Hj dj sj ej _ => ?_
        refine ⟨X.xT, fun e2 he2 => ?_⟩
        obtain ⟨Vj, Dj, yj, zj, vj⟩ := Di.sm zi sj
        obtain ⟨Vk, Dk, sk, ek⟩ := Dj.mk (o := ExH (.ref CT) e2 (some dj)) he2
        have hodd := (hodd.same yj).same sk
        have ext5 := ext4.trans (ExtN.sm (yj.trans sk))
        have zk := zj.ext sk
        have nje := ne_of_none ej he2
        have edj := (upd_ne (o := ExH (.ref CT) e2 (some dj)) (H := Hj) nje).trans ej
        -- its fields
        refine ⟨_, rfl, e2, CT, dj, _, .non, rfl, X.rT, X.n1, .inr ⟨upd_same, edj⟩, rfl, ?_⟩
        refine ⟨_, rfl, e2, CT, dj, _, .non, rfl, X.rT, X.n2, .inr ⟨upd_same, edj⟩, rfl, ?_⟩
        refine ⟨_, rfl, e2, CT, dj, _, .non, rfl, X.rT, X.n3, .inr ⟨upd_same, edj⟩, rfl, ?_⟩
        refine ⟨(show 3 ≤ sizeLine by decide), fun l1 hl1 => ?_⟩
        obtain ⟨Vl, Dl, sl, el⟩ := Dk.mk (o := .lst [.non, .non, .non]) hl1
        refine ⟨(show 3 ≤ sizeLine by decide), fun l2 hl2 => ?_⟩
        obtain ⟨Vm, Dm, sm, em⟩ := Dl.mk (o := .lst [.non, .non, .non]) hl2
        refine ⟨_, _, .lst (SqL.of (Dm.same _ _ (sm _ _ el))) (.cons .non (.cons .non (.cons .non .nil))), .lst (SqL.of (Dm.same _ _ em)) (.cons .non (.cons .non (.cons .non .nil))), rfl, rfl, _, rfl, iteF ?_⟩
        have ve2 := sm _ _ (sl _ _ ek)
        have vdj := sm _ _ (sl _ _ (sk _ _ (vj _ _ ej (fun _ z => by cases z) (fun _ z => by cases z))))
        refine ⟨_, rfl, e2, CT, .ty "ValueError", .type "ValueError", true, rfl, .ty _, X.rT, .inr (.inr ⟨some dj, Dm.same _ _ ve2, fun dx e => by cases e; exact ⟨_, Dm.same _ _ vdj⟩⟩), X.iTV, _, rfl, iteF ?_⟩
        have hodd := hodd.same (sl.trans sm)
        have ext6 := ext5.trans (ExtN.sm (sl.trans sm))
        have zm := zk.ext (sl.trans sm)
        refine ⟨fun σ H' => ∃ (isw : Bool) (V' : Hp) (a2 a4 a5 a6 a7 : Option V), σ = [some (.ref d), some (.ref a), a2, some v, a4, a5, a6, a7, some (.bl isw)] ∧ Dw (t + xs.length + 1 + 1) V' H' d ∧ LamX.ExtN V0 V' ∧ LamX.Tabs [(PT, refQ)] V' ∧ WordV V' v isw, ?_, ?_⟩
        · rcases hodd with ⟨t', rfl, ho⟩ | hN
          · have ht := ho.tx
            refine ⟨_, rfl, _, _, _, _, true, rfl, .ty "str", .base (.str _), kit_str_str, _, rfl, iteT ?_⟩
            refine ⟨_, rfl, 9, _, congrArg V.str tab_eq, rfl, _, rfl, ?_⟩
            rw [sT_cps, odd_word ho, Bool.not_not]
            cases hg : goodB t' with
            | false => exact iteF ⟨false, Vm, _, _, _, _, _, rfl, Dm, ext6, zm, .inr ⟨rfl, .inl ⟨t', rfl, ho, fun z => by rw [z.1] at hg; cases hg⟩⟩⟩
            | true =>
              refine iteT ⟨_, rfl, t', rfl, ht, fun H2 b s2 hw => ⟨_, rfl, (show 3 ≤ sizeLine by decide), fun p hp => ⟨(show 1 ≤ sizeLine by decide), fun q hq => ?_⟩⟩⟩
              have npq : p ≠ q := fun z => by rw [← z, upd_same] at hq; cases hq
              have s3 : Same H2 (upd (upd H2 p (.tup (wordV (t', 1, 1)))) q (.lst [.ref p])) := (same_new hp).trans (same_new hq)
              refine ⟨_, .list [wordD (t', 1, 1)], (hw.same s3).at.dp, .lst (SqL.of upd_same) (.cons (dp_word (x := (t', 1, 1)) (by rw [upd_ne npq, upd_same]; rfl)) .nil), shaped_words _ (txw_cut ht), shaped_words [(t', 1, 1)] (fun y hy => by rw [List.mem_singleton.mp hy]; exact ht), ?_⟩
              rw [show PyData.eqv (.list ((cutT t').map wordD)) (.list [wordD (t', 1, 1)]) = decide (cutT t' = [(t', 1, 1)]) by simp only [PyData.eqv]; exact eqv_words _ [(t', 1, 1)]]
              obtain ⟨Vn, Dn, yn, zn, _⟩ := Dm.sm zm (s2.trans s3)
              refine ⟨_, Vn, _, _, _, _, _, rfl, Dn, ext6.trans (ExtN.sm yn), zn, ?_⟩
              by_cases hc : cutT t' = [(t', 1, 1)]
              · rw [decide_eq_true hc]
                exact .inl ⟨rfl, t', rfl, ho, hg, hc⟩
              · rw [decide_eq_false hc]
                exact .inr ⟨rfl, .inl ⟨t', rfl, ho, fun z => hc z.2⟩⟩
          · obtain ⟨ty, k1, k2⟩ := (hN.same Dm.same).ns (K := K)
            exact ⟨_, rfl, _, _, _, _, false, rfl, .ty "str", k1, k2, _, rfl, iteF ⟨false, Vm, _, _, _, _, _, rfl, Dm, ext6, zm, .inr ⟨rfl, .inr hN⟩⟩⟩
        · rintro σ Hn ⟨isw, Vn, a2, a4, a5, a6, a7, rfl, Dn, xn, zn, hw⟩
          refine ⟨zn.ext Dn.same, fun Ho xo To => ?_⟩
          obtain ⟨Vo, Do, yo, zo⟩ := Dn.lam xo To
          have xo' := xn.trans yo
          refine ⟨_, rfl, v, rfl, ?_⟩
          -- behind
          have fin : ∀ (V' H' : Hp), Dw (t + xs.length + 1 + 1) V' H' d → LamX.ExtN V0 V' → LamX.Tabs [(PT, refQ)] V' → Q (.bl true) H' := fun V' H' D x z => k V' H' (D.mono (by omega)) x z
          have raised : isw = false → ∀ H', Same Ho H' → ∀ (e : Addr), H' e = none → tIf (tTest (tVar 8)) (tOp (fun x y H Q => y = .non ∧ Q (.bl (decide (x = .non))) H) (tVar 7) (tC .non)) (tCB (rIsiX K) (tCons (tVar 7) (tCons (tC (.ref CW)) tNil))) [some (.ref d), some (.ref a), a2, some v, a4, a5, a6, some (.ref e), some (.bl isw)] (upd H' e (ExH (.ref CW) e none)) Q := by
            rintro rfl H' s' e he
            obtain ⟨Vp, Dp, yp, zp, _⟩ := Do.sm zo s'
            obtain ⟨Vq, Dq, sq, eq⟩ := Dp.mk (o := ExH (.ref CW) e none) he
            refine ⟨_, rfl, _, rfl, iteF ⟨_, rfl, e, CW, .ref CW, .ref CW, true, rfl, .own CW, X.rW, .inr (.inr ⟨none, upd_same, fun dx e => nomatch e⟩), X.iWW, ?_⟩⟩
            exact fin _ _ Dq ((xo'.trans (ExtN.sm yp)).trans (ExtN.sm sq)) (zp.ext sq)
          rcases hw with ⟨rfl, t', rfl, ho, hi⟩ | ⟨rfl, ⟨t', rfl, ho, hi⟩ | hN⟩
          · refine .inl ⟨t', rfl, ho.tx, fun _ _ H' s' => ⟨_, rfl, ?_⟩, fun n => absurd hi n⟩
            obtain ⟨Vp, Dp, yp, zp, _⟩ := Do.sm zo s'
            refine ⟨_, rfl, _, rfl, iteT ⟨_, rfl, rfl, ?_⟩⟩
            exact fin _ _ Dp (xo'.trans (ExtN.sm yp)) zp
          · refine .inl ⟨t', rfl, ho.tx, fun g c => absurd ⟨g, c⟩ hi, fun _ H' s' => ⟨X.xW, fun e he => ?_⟩⟩
            exact raised rfl H' s' e he
          · refine .inr ⟨((hN.ext yo).same Do.same).ns, fun H' s' => ⟨X.xW, fun e he => ?_⟩⟩
            exact raised rfl H' s' e he
end


/-! ## the law -/
theorem Room.u101 {k : Nat} {A : Around} (r : Room k A) : A.units + 101 < cLine := by have := r.un; omega
theorem join_sT : ∀ ys : List (List Nat), Str.join "" (ys.map sT) = sT ys.flatten
  | [] => rfl
  | [x] => by simp [Str.join]
  | x :: y :: r => by
    show (sT x ++ "") ++ Str.join "" ((y :: r).map sT) = sT ((x :: y :: r).flatten)
    rw [join_sT (y :: r), sT_app, sT_app, cps_empty, sT_cps, List.append_nil]
    simp
abbrev lsomeL : List V := [V.str "a", V.str "b", V.str "z", V.str "if", V.str "while", V.str "truth", V.str "A", V.str "0", V.str "1", V.str "7", V.str "-", V.str "-", V.str "_", V.str "$", V.str "<", V.str "=", V.str "==", V.str "<=", V.str "(", V.str ")", V.str "{", V.str "}", V.str ",", V.str ":", V.str "|", V.str "+", V.str "*", V.str "."]
abbrev moreL : List V := [V.str " ", V.str " ", V.str "\n", V.str "  ", V.str "\n\n", V.str "abcdefgh", V.str "number"]
theorem piece_ok : ∀ v ∈ lsomeL ++ moreL, ∃ t, v = .str (sT t) ∧ t.length ≤ 8 ∧ ∀ c ∈ t, isGood c = true := by
  intro v hv
  have all : (lsomeL ++ moreL).all (fun v => match v with | .str z => decide (z.cps.toList.length ≤ 8) && z.cps.toList.all isGood | _ => false) = true := by decide +kernel
  have q := List.all_eq_true.mp all v hv
  cases v with
  | str z =>
    simp only [Bool.and_eq_true, decide_eq_true_eq, List.all_eq_true] at q
    exact ⟨z.cps.toList, by rw [sT_of], q.1, q.2⟩
  | _ => exact absurd q (by simp)
theorem flat_le : ∀ acc : List (List Nat), (∀ t ∈ acc, t.length ≤ 8 ∧ ∀ c ∈ t, isGood c = true) → ((acc.map sT).map (·.length)).sum ≤ 8 * acc.length ∧ acc.flatten.length ≤ 8 * acc.length ∧ ∀ c ∈ acc.flatten, isGood c = true
  | [], _ => ⟨Nat.le_refl _, Nat.le_refl _, fun c hc => nomatch hc⟩
  | t :: acc, h => by
    obtain ⟨h1, h2, h3⟩ := flat_le acc fun u hu => h u (List.mem_cons_of_mem _ hu)
    obtain ⟨g1, g2⟩ := h t (List.mem_cons_self ..)
    refine ⟨?_, ?_, fun c hc => ?_⟩
    · simp only [List.map_cons, List.sum_cons, List.length_cons, sT_len]
      simp only [List.map_map] at h1 ⊢
      omega
    · simp only [List.flatten_cons, List.length_append, List.length_cons]
      omega
    · rw [List.flatten_cons] at hc
      rcases List.mem_append.mp hc with hc | hc
      · exact g2 c hc
      · exact h3 c hc
theorem no_name {z : Str} (h : (oddOk z && !nameB z.cps.toList) = true) : ∃ t, V.str z = .str (sT t) ∧ tx t ∧ nameB t = false := by
  simp only [Bool.and_eq_true, Bool.not_eq_true'] at h
  exact ⟨z.cps.toList, by rw [sT_of], (OddT.of h.1).tx, h.2⟩
def keptD : PyData := .tuple [.str "and", .str "at", .str "choice", .str "else", .str "fail", .str "false", .str "function", .str "if", .str "let", .str "long", .str "make", .str "match", .str "new", .str "not", .str "number", .str "of", .str "or", .str "over", .str "put", .str "rest", .str "return", .str "row", .str "set", .str "show", .str "true", .str "truth", .str "try", .str "unit", .str "uses", .str "while"]
theorem dx_kept {K : PySem.W.Frag} {H : Hp} {a : Addr} (h : SqT K H a keptV) : Dx K H (.ref a) keptD :=
  .tup h (.cons (.str _) (.cons (.str _) (.cons (.str _) (.cons (.str _) (.cons (.str _) (.cons (.str _) (.cons (.str _) (.cons (.str _) (.cons (.str _) (.cons (.str _) (.cons (.str _) (.cons (.str _) (.cons (.str _) (.cons (.str _) (.cons (.str _) (.cons (.str _) (.cons (.str _) (.cons (.str _) (.cons (.str _) (.cons (.str _) (.cons (.str _) (.cons (.str _) (.cons (.str _) (.cons (.str _) (.cons (.str _) (.cons (.str _) (.cons (.str _) (.cons (.str _) (.cons (.str _) (.cons (.str _) .nil))))))))))))))))))))))))))))))
theorem kept_show : keptD.showable = true ∧ keptD.depth ≤ 100 ∧ keptD.shown.length ≤ sizeLine := ⟨by decide +kernel, by decide +kernel, by decide +kernel⟩
theorem Dw.nw {t : Nat} {V0 H H1 : Hp} {d : Addr} {T : List (Addr × Str)} (h : Dw t V0 H d) (TV : LamX.Tabs T V0) (e : Same H H1) : ∃ V', Dw t V' H1 d ∧ Same V0 V' ∧ LamX.Tabs T V' ∧ ∀ b o, H b = none → H1 b = some o → V' b = some o := by
  obtain ⟨s, w, c, ws, cs, rest, turn, h1, h2, h3, ht, D⟩ := h
  have D1 := D.same e
  have hid : ∀ b, H b = none → ¬ (b = d ∨ b = w ∨ b = c) := fun b q => by
    rintro (z | z | z) <;> subst z
    · rw [D.hd] at q; cases q
    · rw [D.hw] at q; cases q
    · rw [D.hc] at q; cases q
  have sm : Same V0 (fun b => if b = d ∨ b = w ∨ b = c then none else H1 b) := fun b o q => by
    have hb : ¬ (b = d ∨ b = w ∨ b = c) := by
      rintro (z | z | z) <;> subst z
      · rw [h1] at q; cases q
      · rw [h2] at q; cases q
      · rw [h3] at q; cases q
    simp only [if_neg hb]
    exact e _ _ (s _ _ q)
  refine ⟨fun b => if b = d ∨ b = w ∨ b = c then none else H1 b, ⟨fun b o q => ?_, w, c, ws, cs, rest, turn, if_pos (.inl rfl), if_pos (.inr (.inl rfl)), if_pos (.inr (.inr rfl)), ht, D1⟩, sm, TV.ext sm, fun b o q n => ?_⟩
  · by_cases hb : b = d ∨ b = w ∨ b = c
    · simp only [if_pos hb] at q
      cases q
    · simp only [if_neg hb] at q
      exact q
  · simp only [if_neg (hid b q)]
    exact n
theorem WordsNew.vis {V' H H' : Hp} {a : Addr} {xs : List Wd} (v : ∀ b o, H b = none → H' b = some o → V' b = some o) (h : WordsNew H H' a xs) : WordsAt V' a xs := by
  obtain ⟨ps, h1, h2, h3⟩ := h
  exact ⟨ps, v _ _ h1.2 h1.1, h2, fun i p x e1 e2 => v _ _ (h3 i p x e1 e2).2 (h3 i p x e1 e2).1⟩
structure LawF (P : Program) (w : World) (K : PySem.W.Frag) (mg : Str → Option Value) (base : Heap) (PT CT CW : Addr) : Prop where
  G : GkF K mg
  S : SmD K
  m_repr : mg "repr" = none
  m_tuple : mg "tuple" = none
  m_min : mg "min" = none
  m_range : mg "range" = none
  begun : ∃ (f : Addr) (fd : FuncData), mg "_law_begun" = some (.ref f) ∧ PySem.W.keepIn K (.ref f) = true ∧ Binds K fd ["_law_script"] [] ∧ FnOk P w K mg base CX0 1 f fd ["_law_script"] (spBegun K)
  take : ∃ (f : Addr) (fd : FuncData), mg "_law_take" = some (.ref f) ∧ PySem.W.keepIn K (.ref f) = true ∧ Binds K fd ["_law_draw", "_law_many"] [] ∧ FnOk P w K mg base CX0 2 f fd ["_law_draw", "_law_many"] spTake
  pick : ∃ (f : Addr) (fd : FuncData), mg "_law_pick" = some (.ref f) ∧ PySem.W.keepIn K (.ref f) = true ∧ Binds K fd ["_law_draw", "_law_some"] [] ∧ FnOk P w K mg base CX0 3 f fd ["_law_draw", "_law_some"] (spPick K)
  kept : ∃ (f : Addr) (fd : FuncData), mg "_law_kept" = some (.ref f) ∧ PySem.W.keepIn K (.ref f) = true ∧ Binds K fd [] [] ∧ FnOk P w K mg base CX0 1 f fd [] spKept
  cut : ∃ (f : Addr) (fd : FuncData), mg "_law_cut" = some (.ref f) ∧ PySem.W.keepIn K (.ref f) = true ∧ Binds K fd ["_law_text"] [] ∧ FnOk P w K mg base CX0 3 f fd ["_law_text"] spCut
  lsort : ∃ (f : Addr) (fd : FuncData), mg "_law_sort" = some (.ref f) ∧ PySem.W.keepIn K (.ref f) = true ∧ Binds K fd ["_law_word"] [] ∧ FnOk P w K mg base CX0 3 f fd ["_law_word"] (spTx fun t => .str (sortF t))
  lname : ∃ (f : Addr) (fd : FuncData), mg "_law_is_name" = some (.ref f) ∧ PySem.W.keepIn K (.ref f) = true ∧ Binds K fd ["_law_matter"] [] ∧ FnOk P w K mg base CX0 2 f fd ["_law_matter"] (spTxO K nameB)
  name : ∃ (f : Addr) (fd : FuncData), mg "is_name" = some (.ref f) ∧ PySem.W.keepIn K (.ref f) = true ∧ Binds K fd ["thing"] [] ∧ KBn K fd ["thing"] 0 ["thing"] (fun _ ws => ws) (fun _ zs => zs) ∧ FnOk P w K mg base CX0 1 f fd ["thing"] (spTxO K nameB)
  words : ∃ (f : Addr) (fd : FuncData), mg "words_of" = some (.ref f) ∧ PySem.W.keepIn K (.ref f) = true ∧ Binds K fd ["text"] [] ∧ KBn K fd ["text"] 0 ["text"] (fun _ ws => ws) (fun _ zs => zs) ∧ FnOk P w K mg base (L2.CX P w) 3 f fd ["text"] (spWordsOf K CT)
  sort : ∃ (f : Addr) (fd : FuncData), mg "sort_of" = some (.ref f) ∧ PySem.W.keepIn K (.ref f) = true ∧ Binds K fd ["word"] [] ∧ KBn K fd ["word"] 0 ["word"] (fun _ ws => ws) (fun _ zs => zs) ∧ FnOk P w K mg base (L2.CX P w) 3 f fd ["word"] (spSortOf K CW)
  ref : ∃ (f : Addr) (fd : FuncData), mg "_law_refused_right" = some (.ref f) ∧ PySem.W.keepIn K (.ref f) = true ∧ Binds K fd ["_law_draw", "_law_words"] [] ∧ FnOk P w K mg base CX0 6 f fd ["_law_draw", "_law_words"] (spRef PT)
def spLaw (K : PySem.W.Frag) (PT : Addr) : Sp := fun vs H Q _ => ∃ (a : Addr) (ns : List Int), vs = [.ref a] ∧ SqL K H a (ns.map V.int) ∧ ns.length ≤ 63 ∧ LamX.Tabs [(PT, refQ)] H ∧ ∀ H', Q (.bl true) H'
section
variable {P : Program} {w : World} {K : PySem.W.Frag} {mg : Str → Option Value} {base : Heap}
theorem sc_law : FnScope ["_law_script", "_law_draw", "_law_some", "_law_turn", "_law_pieces", "_law_k", "_law_text", "_law_due", "_law_word", "_law_line", "_law_column", "_law_found"] ["_law_script"] (defScope s_law) := ⟨rfl, rfl, rfl, by decide +kernel, rfl, by decide +kernel, by decide +kernel⟩
theorem ok_law {f PT CT CW : Addr} {fd : FuncData} (F : FnP K "law" s_law f fd) (R : LawF P w K mg base PT CT CW) : FnG P w K mg base 7 f fd ["_law_script"] (spLaw K PT) := by
  obtain ⟨fB, fdB, gB, kB, bB, GB⟩ := R.begun
  obtain ⟨fT, fdT, gT, kT, bT, GT⟩ := R.take
  obtain ⟨fP, fdP, gP, kP, bP, GP⟩ := R.pick
  obtain ⟨fK, fdK, gK, kK, bK, GK⟩ := R.kept
  obtain ⟨fU, fdU, gU, kU, bU, GU⟩ := R.cut
  obtain ⟨fL, fdL, gL, kL, bL, GL⟩ := R.lsort
  obtain ⟨fM, fdM, gM, kM, bM, GM⟩ := R.lname
  obtain ⟨fN, fdN, gN, kN, bN, kbN, GN⟩ := R.name
  obtain ⟨fW, fdW, gW, kW, bW, kbW, GW⟩ := R.words
  obtain ⟨fS, fdS, gS, kS, bS, kbS, GS⟩ := R.sort
  obtain ⟨fR, fdR, gR, kR, bR, GR⟩ := R.ref
  have G := R.G
  obtain ⟨kA, gKA, sKA⟩ := G.kept
  refine FunD.okG F sc_law (fun vs H Q E h => ?_) (fun cdv A outer s H vs Q E hgd hr h => ?_)
  · obtain ⟨a, ns, rfl, _⟩ := h
    rfl
  · obtain ⟨a, ns, rfl, hS, hl, hT, k⟩ := h
    have nd := sc_law.nd
    have hu := hr.units
    have hr1 := hr.mono (show 1 ≤ 6 by decide)
    have hr2 := hr.mono (show 2 ≤ 6 by decide)
    have hr3 := hr.mono (show 3 ≤ 6 by decide)
    apply Exists.intro
    apply And.intro
    case left =>
     apply PSs.nox
     apply pss_cons
     · exact ps_set (i := 1) nd rfl (.inr rfl) (pe_call GB hr1 rfl gB kB bB .nil pass0 (pa_cons (pv 0) pa_nil))
     apply pss_cons
     · exact ps_if (pt_cmpR op_ne (pe_callB (call_reprX hgd (Room.u101 hr) R.S) (by rfl) R.m_repr (by decide +kernel) (pa_cons (pe_glob (v := .ref kA) (by rfl) gKA rfl) pa_nil)) (pe_callB (call_reprX hgd (Room.u101 hr) R.S) (by rfl) R.m_repr (by decide +kernel) (pa_cons (pe_callTy call_tuple_of (by rfl) R.m_tuple (by decide +kernel) (pa_cons (pe_call0 GK hr1 rfl gK kK bK .nil pass0) pa_nil)) pa_nil)) (nomark _)) (pss_one (ps_ret pe_bl)) pss_nil
     apply pss_cons
     · exact ps_set (i := 2) nd rfl (.inr rfl) (pe_lst (pa_cons pe_str (pa_cons pe_str (pa_cons pe_str (pa_cons pe_str (pa_cons pe_str (pa_cons pe_str (pa_cons pe_str (pa_cons pe_str (pa_cons pe_str (pa_cons pe_str (pa_cons pe_str (pa_cons pe_str (pa_cons pe_str (pa_cons pe_str (pa_cons pe_str (pa_cons pe_str (pa_cons pe_str (pa_cons pe_str (pa_cons pe_str (pa_cons pe_str (pa_cons pe_str (pa_cons pe_str (pa_cons pe_str (pa_cons pe_str (pa_cons pe_str (pa_cons pe_str (pa_cons pe_str (pa_cons pe_str pa_nil)))))))))))))))))))))))))))))
     apply pss_cons
     · apply ps_for PassesOwn.never rfl (pi_range1 (by rfl) R.m_range (pa_cons (pe_op op_add pe_int (pe_callB (call_min2 rfl) (by rfl) R.m_min (by decide +kernel) (pa_cons (pe_callB call_len (by rfl) G.len PySem.boot_len (pa_cons (pv 0) pa_nil)) (pa_cons pe_int pa_nil)))) pa_nil)) (pg_name (i := 3) nd rfl (Or.inl rfl))
       apply pss_cons
       · exact ps_setLc (i := 4) (own := [("_law_k", 5)]) (g := gName 5) rfl nd rfl rfl (sw_true rfl rfl rfl (by decide +kernel)) (pi_range1 (by rfl) R.m_range (pa_cons (pe_call GT hr2 rfl gT kT bT .nil pass0 (pa_cons (pv 1) (pa_cons pe_int pa_nil))) pa_nil)) (blkOk_by (own := [("_law_k", 5)]) (N := ["_law_script", "_law_draw", "_law_some", "_law_turn", "_law_pieces", "_law_k", "_law_text", "_law_due", "_law_word", "_law_line", "_law_column", "_law_found"]) (sc := defScope s_law) (by decide +kernel))
           (fun _ _ _ _ _ => pg_name (i := 5) nd rfl (Or.inl rfl)) (fun _ _ _ _ _ => pts_nil) (fun _ _ _ _ _ => pe_call GP hr3 rfl gP kP bP .nil pass0 (pa_cons (pv 1) (pa_cons (pe_op op_cat (pv 2) (pe_lst (pa_cons pe_str (pa_cons pe_str (pa_cons pe_str (pa_cons pe_str (pa_cons pe_str (pa_cons pe_str (pa_cons pe_str pa_nil))))))))) pa_nil)))
       apply pss_cons
       · exact ps_set (i := 6) nd rfl (.inl rfl) (pe_join pe_str (pv 4))
       apply pss_cons
       · exact ps_set (i := 7) nd rfl (.inl rfl) (pe_call GU hr3 rfl gU kU bU .nil pass0 (pa_cons (pv 6) pa_nil))
       apply pss_cons
       · exact ps_if (pt_cmpR (op_neD hr.units) (pe_lc (own := [("_law_word", 8), ("_law_line", 9), ("_law_column", 10)]) (g := gTup K 3 (gCons (gName 8) (gCons (gName 9) (gCons (gName 10) gNil)))) rfl nd (pi_list (pv 7)) (blkOk_by (own := [("_law_word", 8), ("_law_line", 9), ("_law_column", 10)]) (N := ["_law_script", "_law_draw", "_law_some", "_law_turn", "_law_pieces", "_law_k", "_law_text", "_law_due", "_law_word", "_law_line", "_law_column", "_law_found"]) (sc := defScope s_law) (by decide +kernel))
            (fun _ _ _ _ _ => by exact pg_tup rfl (pgs_cons (pg_name (i := 8) nd rfl (Or.inl rfl)) (pgs_cons (pg_name (i := 9) nd rfl (Or.inl rfl)) (pgs_cons (pg_name (i := 10) nd rfl (Or.inl rfl)) pgs_nil)))) (fun _ _ _ _ _ => pts_one (PW.pt (pw_and (pt_cmpR op_gt (pe_callB call_len_str (by rfl) G.len PySem.boot_len (pa_cons (pv 8) pa_nil)) pe_int (nomark _)) (pw_and1 (pt_cmpR op_eq (pe_call GL hr3 rfl gL kL bL .nil pass0 (pa_cons (pv 8) pa_nil)) pe_str (nomark _)))))) (fun _ _ _ _ _ => pe_int)) (pe_lst pa_nil) (nomark _)) (pss_one ps_continue) pss_nil
       apply pss_cons
       · exact ps_set (i := 11) nd rfl (.inl rfl) (pe_call GW hr3 rfl gW kW bW .nil (passes_call LamX.takes0 (fun _ _ _ _ h => h)) (pa_cons (pv 6) pa_nil))
       apply pss_cons
       · exact ps_if (pt_cmpR (op_neD hr.units) (pv 11) (pv 7) (nomark _)) (pss_one (ps_ret pe_bl)) pss_nil
       apply pss_cons
       · exact ps_expr (pe_bm PySem.F.plainAttrs_list PySem.F.slot_list_append PySem.F.type_list_append mt_append (pv 11) (pa_cons pe_non pa_nil))
       apply pss_cons
       · exact ps_if (pt_cmpR (op_neD hr.units) (pe_callN0 GW hr3 rfl gW kW kbW (passes_call LamX.takes0 (fun _ _ _ _ h => h)) (pk_cons (pv 6) pk_nil)) (pv 7) (nomark _)) (pss_one (ps_ret pe_bl)) pss_nil
       apply pss_cons
       · apply ps_for PassesOwn.never rfl (pi_list (pv 7)) (pg_tup rfl (pgs_cons (pg_name (i := 8) nd rfl (Or.inl rfl)) (pgs_cons (pg_name (i := 9) nd rfl (Or.inl rfl)) (pgs_cons (pg_name (i := 10) nd rfl (Or.inl rfl)) pgs_nil))))
         apply pss_one
         exact ps_if (PW.pt (pw_or (pt_cmpR op_ne (pe_call GS hr3 rfl gS kS bS .nil (passes_call LamX.takes0 (fun _ _ _ _ h => h)) (pa_cons (pv 8) pa_nil)) (pe_call GL hr3 rfl gL kL bL .nil pass0 (pa_cons (pv 8) pa_nil)) (nomark _))
            (pw_or (pt_cmpR op_ne (pe_callN0 GS hr3 rfl gS kS kbS (passes_call LamX.takes0 (fun _ _ _ _ h => h)) (pk_cons (pv 8) pk_nil)) (pe_call GL hr3 rfl gL kL bL .nil pass0 (pa_cons (pv 8) pa_nil)) (nomark _))
            (pw_or1 (pt_cmpR op_ne (pe_call GN hr1 rfl gN kN bN .nil pass0 (pa_cons (pv 8) pa_nil)) (pe_call GM hr2 rfl gM kM bM .nil pass0 (pa_cons (pv 8) pa_nil)) (nomark _)))))) (pss_one (ps_ret pe_bl)) pss_nil
       apply pss_one
       exact ps_if (pt_not (pt_val (pe_call GR hr rfl gR kR bR .nil pass0 (pa_cons (pv 1) (pa_cons (pv 7) pa_nil))))) (pss_one (ps_ret pe_bl)) pss_nil
     apply pss_one
     exact ps_ret (pe_cmpR op_isBl (pe_callN0 GN hr1 rfl gN kN kbN pass0 (pk_cons (pe_call GP hr3 rfl gP kP bP .nil pass0 (pa_cons (pv 1) (pa_cons (pe_lst (pa_cons pe_non (pa_cons pe_int (pa_cons pe_bl (pa_cons (pe_lst (pa_cons pe_str pa_nil)) (pa_cons pe_str (pa_cons pe_str (pa_cons pe_str (pa_cons pe_str pa_nil))))))))) pa_nil))) pk_nil)) pe_bl (nomark _))
    case right =>
      refine ⟨_, rfl, a, ns, rfl, hS, hl, fun H1 d D1 _ => ?_⟩
      refine ⟨kA, keptD, rfl, dx_kept (sKA _), kept_show.1, kept_show.2.1, kept_show.2.2, ?_⟩
      refine ⟨rfl, fun H2 p0 s2 hp0 hl2 => ?_⟩
      obtain ⟨V2, D2, y2, z2, _⟩ := D1.nw hT s2
      refine ⟨p0, keptV, rfl, .inl ⟨SqL.of hl2, fun q0 hq0 => ?_⟩⟩
      obtain ⟨V3, D3, y3, e3⟩ := D2.mk (o := .tup keptV) hq0
      refine ⟨q0, keptD, rfl, dx_kept (SqT.of upd_same), kept_show.1, kept_show.2.1, kept_show.2.2, rfl, _, rfl, ?_⟩
      rw [decide_eq_true rfl]
      refine iteF ?_
      refine ⟨(show 28 ≤ sizeLine by decide), fun p hp => ?_⟩
      obtain ⟨V4, D4, y4, e4⟩ := D3.mk (o := .lst lsomeL) hp
      have z4 := z2.ext (y3.trans y4)
      have hS4 := ((y2.trans y3).trans (y4.trans D4.same)).seq hS
      refine ⟨_, rfl, _, _, rfl, .inl ⟨_, hS4, rfl⟩, _, _, rfl, _, _, rfl, rfl, ?_⟩
      rw [List.length_map]
      have hb : 0 ≤ (4 : Int) + (if (20 : Int) < (ns.length : Int) then 20 else (ns.length : Int)) ∧ (4 : Int) + (if (20 : Int) < (ns.length : Int) then 20 else (ns.length : Int)) ≤ 24 := by
        split <;> omega
      refine ⟨_, rfl, by omega, by omega, ?_⟩
      refine for_range (lo := 0) (n := ((4 : Int) + (if (20 : Int) < (ns.length : Int) then 20 else (ns.length : Int))).toNat) (fun i σ H' => ∃ (V' : Hp) (b3 b4 b5 b6 b7 b8 b9 b10 b11 : Option V), σ = [some (.ref a), some (.ref d), some (.ref p), b3, b4, b5, b6, b7, b8, b9, b10, b11] ∧ Dw (i * 3000) V' H' d ∧ V' p = some (.lst lsomeL) ∧ LamX.Tabs [(PT, refQ)] V')
        ⟨V4, _, _, _, _, _, _, _, _, _, rfl, D4, e4, z4⟩ ?_ ?_
      · rintro i σ Hi hi ⟨Vi, b3, b4, b5, b6, b7, b8, b9, b10, b11, rfl, Di, ep, zi⟩
        have hi24 : i < 24 := by omega
        refine ⟨_, rfl, i * 3000, Vi, d, 40, rfl, Di, by show i * 3000 < 1099511627776; omega, by decide, by decide, fun kk Hk k0 k1 Dk => ?_⟩
        refine ⟨kk, rfl, by omega, by omega, fun Dl hDl => ?_⟩
        obtain ⟨Vl, Dl0, yl, el⟩ := Dk.mk (o := .lst []) hDl
        refine lc_range (lo := 0) (n := kk.toNat) (fun j H' => ∃ (V' : Hp) (acc : List (List Nat)), Dw (i * 3000 + 1 + j) V' H' d ∧ V' p = some (.lst lsomeL) ∧ LamX.Tabs [(PT, refQ)] V' ∧ V' Dl = some (.lst ((acc.map sT).map V.str)) ∧ acc.length = j ∧ ∀ t ∈ acc, t.length ≤ 8 ∧ ∀ c ∈ t, isGood c = true)
          ⟨Vl, [], Dl0, yl _ _ ep, zi.ext yl, el, rfl, fun t ht => nomatch ht⟩ ?_ ?_
        · rintro j H' hj ⟨V', acc, c1, c2, c3, c4, c5, c6⟩
          refine ⟨rfl, yesIf ?_⟩
          refine ⟨_, rfl, _, rfl, (show 7 ≤ sizeLine by decide), fun r1 hr1 => ?_⟩
          obtain ⟨V6, D6, y6, e6⟩ := c1.mk (o := .lst moreL) hr1
          refine ⟨p, r1, lsomeL, moreL, rfl, rfl, D6.same _ _ (y6 _ _ c2), D6.same _ _ e6, (show 35 ≤ sizeLine by decide), fun r2 hr2 => ?_⟩
          obtain ⟨V7, D7, y7, e7⟩ := D6.mk (o := .lst (lsomeL ++ moreL)) hr2
          refine ⟨i * 3000 + 1 + j, V7, d, .ref r2, _, rfl, D7, by show i * 3000 + 1 + j < 1099511627776; omega, .lst (SqL.of e7), (show 0 < 35 by decide), (show 35 < 100000 by decide), fun v H8 hv D8 => ?_⟩
          obtain ⟨u, rfl, hu1, hu2⟩ := piece_ok v hv
          have eD := y7 _ _ (y6 _ _ c4)
          have nDp : p ≠ Dl := fun z => by
            have q := ep
            rw [z, Dk.same.free hDl] at q
            cases q
          refine ⟨_, D8.same _ _ eD, ?_, upd V7 Dl (.lst ((acc.map sT).map V.str ++ [.str (sT u)])), acc ++ [u], D8.set eD, ?_, ?_, ?_, ?_, ?_⟩
          · rw [List.length_map, List.length_map, c5]
            exact Nat.lt_of_lt_of_le (show j < 1000 by omega) (by decide)
          · rw [upd_ne nDp]
            exact y7 _ _ (y6 _ _ c2)
          · intro pr hpr
            obtain ⟨ps, t1, t2, t3⟩ := (c3.ext (y6.trans y7)) pr hpr
            have nt : ∀ b o, V7 b = some o → (∀ xs, o ≠ .lst xs) → upd V7 Dl (.lst ((acc.map sT).map V.str ++ [.str (sT u)])) b = some o := fun b o q n => by
              have hb : b ≠ Dl := fun z => by
                rw [z, eD] at q
                cases q
                exact n _ rfl
              rw [upd_ne hb]
              exact q
            refine ⟨ps, nt _ _ t1 (fun _ z => by cases z), t2, fun pos cv hc => ?_⟩
            obtain ⟨c, q1, q2⟩ := t3 pos cv hc
            exact ⟨c, q1, nt _ _ q2 (fun _ z => by unfold LamX.CodeO at z; cases z)⟩
          · rw [upd_same, List.map_append, List.map_append]
            rfl
          · rw [List.length_append, c5]
            rfl
          · intro t ht
            rcases List.mem_append.mp ht with ht | ht
            · exact c6 t ht
            · rw [List.mem_singleton.mp ht]
              exact ⟨hu1, hu2⟩
        · rintro H6 ⟨V6, acc, D6, ep6, z6, e6, hlen, hacc⟩
          have hk : acc.length ≤ 40 := by omega
          obtain ⟨sm1, sm2, sm3⟩ := flat_le acc hacc
          refine ⟨⟨_, rfl⟩, _, rfl, "", Dl, acc.map sT, rfl, rfl, .inl (SqL.of (D6.same _ _ e6)), ?_, ?_⟩
          · rw [show ("" : Str).length = 0 from rfl, Nat.mul_zero, Nat.add_zero]
            omega
          rw [show Txt.join "" (acc.map sT) = sT acc.flatten from (TL.join_eq _ _).trans (join_sT acc)]
          generalize acc.flatten = t at sm2 sm3
          have htx : tx t := ⟨by omega, fun c hc => good_small (sm3 c hc)⟩
          have hg : goodB t = true := by
            unfold goodB
            rw [List.all_eq_true]
            exact sm3
          obtain ⟨τ, eτ⟩ : ∃ τ, τ = i * 3000 + 1 + kk.toNat := ⟨_, rfl⟩
          rw [← eτ] at D6
          have hτ : τ + 2000 ≤ (i + 1) * 3000 := by omega
          clear eτ e6 hacc sm1 hlen
          -- the law's own words
          refine ⟨_, rfl, t, rfl, htx, fun H7 u s7 hw => ?_⟩
          obtain ⟨V7, D7, y7, z7, v7⟩ := D6.nw z6 s7
          have ep7 := y7 _ _ ep6
          have wd := hw.vis v7
          clear hw v7
          obtain ⟨ps, w1, w2, w3⟩ := id wd
          have hwt := txw_cut htx
          refine ⟨_, rfl, u, rfl, ⟨_, SqL.of (D7.same _ _ w1)⟩, fun E2 hE2 => ?_⟩
          obtain ⟨V8, D8, y8, e8⟩ := D7.mk (o := .lst []) hE2
          refine lc_list (K := K) (a := u) (xs := ps.map V.ref) (fun j H' => ∃ (V' : Hp) (ms : List Int), Dw τ V' H' d ∧ Same V7 V' ∧ V' E2 = some (.lst (ms.map V.int)) ∧ ms.length ≤ j)
            ⟨V8, [], D8, y8, e8, Nat.le_refl _⟩ (fun j H' _ ⟨V', ms, c1, c2, _⟩ => SqL.of (c1.same _ _ (c2 _ _ w1))) ?_ ?_
          · rintro j x H' hj ⟨V', ms, c1, c2, c3, c4⟩
            rw [List.getElem?_map] at hj
            obtain ⟨pp, hp, rfl⟩ : ∃ p, ps[j]? = some p ∧ x = .ref p := by
              cases e : ps[j]? with
              | none => rw [e] at hj; cases hj
              | some p => rw [e] at hj; exact ⟨p, rfl, (Option.some.inj hj).symm⟩
            have hil : j < (cutT t).length := by rw [← w2]; exact (List.getElem?_eq_some_iff.mp hp).1
            have hxi : (cutT t)[j]? = some (cutT t)[j] := List.getElem?_eq_getElem hil
            have hpw := w3 j pp _ hp hxi
            have hxt := hwt _ (List.getElem_mem hil)
            generalize (cutT t)[j] = x at hpw hxt
            have hjl : j < 100000 := by
              have h6 : (cutT t).length ≤ t.length := cutF_len
              omega
            have more : ∀ (V' : Hp) (H' : Hp), Dw τ V' H' d → Same V7 V' → V' E2 = some (.lst (ms.map V.int)) → ∃ acc, H' E2 = some (.lst acc) ∧ acc.length < sizeLine ∧ ∃ (V'' : Hp) (ms : List Int), Dw τ V'' (upd H' E2 (.lst (acc ++ [V.int 1]))) d ∧ Same V7 V'' ∧ V'' E2 = some (.lst (ms.map V.int)) ∧ ms.length ≤ j + 1 := by
              intro V' H' g1 g2 g3
              refine ⟨_, g1.same _ _ g3, ?_, upd V' E2 (.lst (ms.map V.int ++ [V.int 1])), ms ++ [1], g1.set g3, same_sub g2 (D7.same.free hE2), by rw [upd_same, List.map_append]; rfl, by rw [List.length_append]; exact Nat.succ_le_succ c4⟩
              rw [List.length_map]
              exact Nat.lt_of_le_of_lt c4 (Nat.lt_of_lt_of_le hjl (by decide))
            refine ⟨pp, _, rfl, SqT.of (c1.same _ _ (c2 _ _ hpw)), rfl, _, _, rfl, _, _, rfl, _, _, rfl, rfl, rfl, ?_⟩
            refine ⟨_, rfl, _, rfl, sl_of (by rw [sT_len]; exact hxt.1), _, _, rfl, rfl, _, rfl, ?_⟩
            refine ite2 (fun _ => ?_) (fun _ => ?_)
            · refine ⟨_, rfl, x.1, rfl, hxt, fun H8 s8 => ⟨rfl, _, rfl, ?_⟩⟩
              obtain ⟨V9, D9, y9, z9, _⟩ := c1.nw (z7.ext c2) s8
              refine ite2 (fun _ => ?_) (fun _ => ?_)
              · exact more V9 H8 D9 (c2.trans y9) (y9 _ _ c3)
              · exact ⟨V9, ms, D9, c2.trans y9, y9 _ _ c3, Nat.le_succ_of_le c4⟩
            · exact ⟨V', ms, c1, c2, c3, Nat.le_succ_of_le c4⟩
          · rintro H8 ⟨V9, ms, D9, y9, e9, _⟩
            refine ⟨(show 0 ≤ sizeLine by decide), fun q1 hq1 => ?_⟩
            obtain ⟨Va, Da, ya, ea⟩ := D9.mk (o := .lst []) hq1
            refine ⟨_, _, .lst (SqL.of (Da.same _ _ (ya _ _ e9))) (dpAll_ints ms), .lst (SqL.of upd_same) .nil, shaped_lst ms, shaped_lst [], _, rfl, ?_⟩
            rw [eqv_nil]
            have y7a := y9.trans ya
            have za := z7.ext y7a
            refine ite2 (fun _ => ⟨Va, _, _, _, _, _, _, _, _, _, rfl, Da.mono (by omega), y7a _ _ ep7, za⟩) (fun _ => ?_)
            have wa := wd.same y7a
            -- words_of
            refine ⟨_, rfl, _, rfl, .inl ⟨t, rfl, htx, fun _ Hb f1 sb hwb => ?_, fun n => by rw [hg] at n; cases n⟩⟩
            obtain ⟨Vb, Db, yb, zb, vb⟩ := Da.nw za sb
            have wb := hwb.vis vb
            have wub := wa.same yb
            have nf : Va f1 = none := by
              obtain ⟨ps, h1, _⟩ := hwb
              exact Da.same.free h1.2
            have shd : SeqAt.shaped (.list ((cutT t).map wordD)) = true := shaped_words _ hwt
            have same_eq : PyData.eqv (.list ((cutT t).map wordD)) (.list ((cutT t).map wordD)) = true := by
              simp only [PyData.eqv]
              rw [eqv_words]
              exact decide_eq_true rfl
            refine ⟨_, rfl, _, rfl, _, _, (wb.same Db.same).dp, (wub.same Db.same).dp, shd, shd, _, rfl, ?_⟩
            rw [same_eq]
            refine iteF ?_
            -- found.append(None)
            obtain ⟨fs, g1, g2, g3⟩ := id wb
            refine ⟨_, rfl, .inl ⟨rfl, _, SqL.of (Db.same _ _ g1)⟩, f1, _, _, rfl, rfl, Db.same _ _ g1, ?_, ?_⟩
            · rw [List.length_map, g2]
              have h6 : (cutT t).length ≤ t.length := cutF_len
              exact Nat.lt_of_lt_of_le (show (cutT t).length < 1000 by omega) (by decide)
            have Dc := Db.set (o' := .lst (fs.map V.ref ++ [V.non])) g1
            have yac : Same Va (upd Vb f1 (.lst (fs.map V.ref ++ [V.non]))) := same_sub yb nf
            have zc := za.ext yac
            have wc := wa.same yac
            have epc := yac _ _ (y7a _ _ ep7)
            generalize upd Vb f1 (.lst (fs.map V.ref ++ [V.non])) = Vc at Dc yac zc wc epc
            -- words_of again
            refine ⟨_, rfl, rfl, rfl, _, rfl, .inl ⟨t, rfl, htx, fun _ Hd f2 sd hwd => ?_, fun n => by rw [hg] at n; cases n⟩⟩
            obtain ⟨Vd, Dd, yd, zd, vd⟩ := Dc.nw zc sd
            have wfd := hwd.vis vd
            have wud := wc.same yd
            refine ⟨_, rfl, _, _, (wfd.same Dd.same).dp, (wud.same Dd.same).dp, shd, shd, _, rfl, ?_⟩
            rw [same_eq]
            refine iteF ?_
            have epd := yd _ _ epc
            -- word by word
            obtain ⟨us, k1, k2, k3⟩ := id wud
            refine ⟨_, rfl, u, rfl, ⟨_, SqL.of (Dd.same _ _ k1)⟩, ?_⟩
            refine for_list (K := K) (a := u) (xs := us.map V.ref) (fun j σ H' => ∃ (V' : Hp) (b3 b4 b5 b8 b9 b10 b11 : Option V), σ = [some (.ref a), some (.ref d), some (.ref p), b3, b4, b5, some (.str (sT t)), some (.ref u), b8, b9, b10, b11] ∧ Dw τ V' H' d ∧ Same Vd V')
              ⟨Vd, _, _, _, _, _, _, _, rfl, Dd, Same.refl _⟩ (fun j σ H' _ ⟨V', _, _, _, _, _, _, _, _, c1, c2⟩ => SqL.of (c1.same _ _ (c2 _ _ k1))) ?_ ?_
            · rintro j x σ H' hj ⟨V', b3, b4, b5, b8, b9, b10, b11, rfl, c1, c2⟩
              rw [List.getElem?_map] at hj
              obtain ⟨pp, hp, rfl⟩ : ∃ p, us[j]? = some p ∧ x = .ref p := by
                cases e : us[j]? with
                | none => rw [e] at hj; cases hj
                | some p => rw [e] at hj; exact ⟨p, rfl, (Option.some.inj hj).symm⟩
              have hil : j < (cutT t).length := by rw [← k2]; exact (List.getElem?_eq_some_iff.mp hp).1
              have hxi : (cutT t)[j]? = some (cutT t)[j] := List.getElem?_eq_getElem hil
              have hpw := k3 j pp _ hp hxi
              have hxm := List.getElem_mem hil
              have hxt := hwt _ hxm
              obtain ⟨m1, m2, m3, m4⟩ := cutF_mem hxm
              generalize (cutT t)[j] = x at hpw hxt m1 m4
              have hgx : goodB x.1 = true := by
                unfold goodB
                rw [List.all_eq_true]
                exact fun c hc => sm3 c (m1 c hc)
              have hno : ¬ ¬ (goodB x.1 = true ∧ cutT x.1 = [(x.1, 1, 1)]) := fun z => z ⟨hgx, m4⟩
              refine ⟨pp, _, rfl, SqT.of (c1.same _ _ (c2 _ _ hpw)), rfl, _, _, rfl, _, _, rfl, _, _, rfl, rfl, ?_⟩
              refine ⟨_, rfl, _, rfl, .inl ⟨x.1, rfl, hxt, fun _ _ h1 s1 => ?_, fun n => absurd n hno⟩⟩
              refine ⟨_, rfl, x.1, rfl, hxt, fun h2 s2 => ⟨rfl, _, rfl, ?_⟩⟩
              rw [decide_eq_true rfl]
              refine iteF ⟨_, rfl, rfl, rfl, _, rfl, .inl ⟨x.1, rfl, hxt, fun _ _ h3 s3 => ?_, fun n => absurd n hno⟩⟩
              refine ⟨_, rfl, x.1, rfl, hxt, fun h4 s4 => ⟨rfl, _, rfl, ?_⟩⟩
              rw [decide_eq_true rfl]
              refine iteF ⟨_, rfl, _, rfl, .inl ⟨x.1, rfl, hxt, fun h5 s5 => ?_⟩⟩
              refine ⟨_, rfl, _, rfl, .inl ⟨x.1, rfl, hxt, fun h6 s6 => ⟨rfl, _, rfl, ?_⟩⟩⟩
              rw [decide_eq_true rfl]
              obtain ⟨Ve, De, ye, _, _⟩ := c1.nw (zd.ext c2) (s1.trans (s2.trans (s3.trans (s4.trans (s5.trans s6)))))
              exact iteF ⟨Ve, _, _, _, _, _, _, _, rfl, De, c2.trans ye⟩
            · rintro σ He ⟨Ve, b3, b4, b5, b8, b9, b10, b11, rfl, De, ye⟩
              have we := wud.same ye
              refine ⟨_, rfl, _, rfl, τ, Ve, d, u, cutT t, rfl, De, by show τ + 2000 < 1099511627776; omega, we, ?_, fun x hx => ?_, zd.ext ye, fun Vf Hf Df xf zf => ⟨_, rfl, iteF ⟨Vf, _, _, _, _, _, _, _, _, _, rfl, Df.mono hτ, xf _ _ (ye _ _ epd) (fun _ z => by cases z), zf⟩⟩⟩
              · have h6 : (cutT t).length ≤ t.length := cutF_len
                omega
              · obtain ⟨m1, m2, m3, m4⟩ := cutF_mem hx
                exact ⟨by omega, fun c hc => sm3 c (m1 c hc)⟩
      · rintro σ Hz ⟨Vz, b3, b4, b5, b6, b7, b8, b9, b10, b11, rfl, Dz, ep, zz⟩
        refine ⟨_, rfl, (show 1 ≤ sizeLine by decide), fun q1 hq1 => ?_⟩
        obtain ⟨V1, D1', y1, e1⟩ := Dz.mk (o := .lst [V.str "a"]) hq1
        refine ⟨(show 8 ≤ sizeLine by decide), fun q2 hq2 => ?_⟩
        obtain ⟨V2', D2', y2', e2⟩ := D1'.mk (o := .lst [.non, .int 5, .bl true, .ref q1, .str "", .str "abcdefghi", .str "Z", .str "a b"]) hq2
        refine ⟨_, V2', d, .ref q2, _, rfl, D2', ?_, .lst (SqL.of e2), (show 0 < 8 by decide), (show 8 < 100000 by decide), fun v H3 hv D3' => ?_⟩
        · show _ * 3000 < 1099511627776
          omega
        have h8 : (∃ t, v = .str (sT t) ∧ tx t ∧ nameB t = false) ∨ NsV V2' v := by
          simp only [List.mem_cons, List.not_mem_nil, or_false] at hv
          rcases hv with rfl | rfl | rfl | rfl | rfl | rfl | rfl | rfl
          · exact .inr .non
          · exact .inr (.int 5)
          · exact .inr (.bl true)
          · exact .inr (.lst (y2' _ _ e1))
          · exact .inl (no_name (by decide +kernel))
          · exact .inl (no_name (by decide +kernel))
          · exact .inl (no_name (by decide +kernel))
          · exact .inl (no_name (by decide +kernel))
        refine ⟨rfl, rfl, v, rfl, ?_⟩
        rcases h8 with ⟨t, rfl, ht, hn⟩ | hN
        · refine .inl ⟨t, rfl, ht, fun H4 s4 => ?_⟩
          rw [hn]
          exact ⟨_, _, rfl, rfl, k _⟩
        · exact .inr ⟨(hN.same D3'.same).ns, fun H4 s4 => ⟨_, _, rfl, rfl, k _⟩⟩

end

/-! ## the head's facts, by tables of tests on the written part -/
open PySem.W in
def oexB (K : Frag) (C : Addr) : Bool := (match K.lookup C with
  | some ⟨.type "type", _, .cls cd, sl⟩ => (match cd.mro, sl.toList with
    | .ref C' :: bm, [_, _, _, _, some (.builtin n), _] => C' == C && (n == "ValueError.__new__" && (!cd.hasDel && (cd.hasDict && PySem.HandSPX.refsVE bm)))
    | _, _ => false)
  | _ => false) && (He.eqO (findIn K (.ref C) "__setattr__") (some (some (.builtin "object.__setattr__"))) && (decide (subIn K (.ref C) (.type "BaseException") = some true) && (decide (typeIn K (.ref C) = some (.type "type")) && keepIn K (.ref C))))
theorem oexB_ok {K : PySem.W.Frag} {C : Addr} (h : oexB K C = true) : OexC K C := by
  obtain ⟨h1, h2⟩ := He.ba h
  obtain ⟨h3, h4⟩ := He.ba h2
  obtain ⟨h5, h6⟩ := He.ba h4
  obtain ⟨h7, h8⟩ := He.ba h6
  refine ⟨?_, He.eqO_ok h3, of_decide_eq_true h5, of_decide_eq_true h7, h8⟩
  split at h1
  · rename_i dd cd sl ho
    split at h1
    · rename_i C' bm k0 k1 k2 k3 n k5 hm hs
      obtain ⟨e1, h1⟩ := He.ba h1
      obtain ⟨e2, h1⟩ := He.ba h1
      obtain ⟨e3, h1⟩ := He.ba h1
      obtain ⟨e4, e5⟩ := He.ba h1
      obtain ⟨nm, bs, mro, ns, qn, hd, sn, sub, ab, col, del⟩ := cd
      dsimp only at hm e3 e4
      have e1 : C' = C := eq_of_beq e1
      have e2 : n = "ValueError.__new__" := eq_of_beq e2
      have e3 : del = false := by simpa using e3
      subst hm e1 e2 e3 e4
      have hsl : sl = #[k0, k1, k2, k3, some (.builtin "ValueError.__new__"), k5] := by
        obtain ⟨l⟩ := sl
        simp only at hs
        rw [hs]
      subst hsl
      exact ⟨_, _, _, _, _, _, _, _, _, _, _, _, _, _, _, ho, e5⟩
    · cases h1
  · cases h1
open PySem.W in
def excRB (K : Frag) (D : Addr) : Bool := He.eqO (findIn K (.ref D) "__getattribute__") (some (some (.builtin "BaseException.__getattribute__"))) && (He.eqO (findIn K (.ref D) "__getattr__") (some none) && (decide (subIn K (.ref D) (.type "BaseException") = some true) &&
  (hasDictIn K D && (He.eqO (findIn K (.ref D) "__class__") (some (some (.builtin "object.__class__"))) && (He.eqO (specialIn K (.builtin "object.__class__") "__get__") (some (some (.builtin "getset_descriptor.__get__"))) &&
  (decide (takesIn K (.builtin "object.__class__") = some true) && decide (mroIn K D (.type "object") = some true)))))))
theorem excRB_ok {K : PySem.W.Frag} {D : Addr} (h : excRB K D = true) : ExcR K D := by
  obtain ⟨h1, h⟩ := He.ba h
  obtain ⟨h2, h⟩ := He.ba h
  obtain ⟨h3, h⟩ := He.ba h
  obtain ⟨h4, h⟩ := He.ba h
  obtain ⟨h5, h⟩ := He.ba h
  obtain ⟨h6, h⟩ := He.ba h
  obtain ⟨h7, h8⟩ := He.ba h
  exact ⟨He.eqO_ok h1, He.eqO_ok h2, of_decide_eq_true h3, h4, He.eqO_ok h5, He.eqO_ok h6, of_decide_eq_true h7, of_decide_eq_true h8⟩
/-- an __init__ of an own exception that begins with super() -/
structure DefS where
  cls : Str
  qual : Str
  params : Arguments
  body : List Stmt
  scope : Scope
abbrev FnSW : Type := Option (Str × Str × Arguments × FuncBody × Scope × Addr × List Str × Addr)
abbrev initAd (K : PySem.W.Frag) (C : Str) : Addr := He.ma K (He.ga K C) "__init__"
def fnSW (K : PySem.W.Frag) (C : Str) : FnSW := match K.lookup (initAd K C) with
  | some ⟨_, _, .func fd, _⟩ => some (fd.name, fd.qualname, fd.params, fd.body, fd.scope, fd.globals, fd.closure.map (·.1), fd.builtins)
  | _ => none
def DefS.val (d : DefS) : FnSW := some ("__init__", d.qual, d.params, .stmts d.body, d.scope, mainGlobals, ["__class__"], builtinsNs)
open PySem.W in
/-- what such an __init__ of the class C wants of the written part, the module's file given -/
def supB (file : Str) (K : Frag) (C : Str) (qual : Str) : Bool :=
  He.eqO (findIn K (.ref (He.ga K C)) "__init__") (some (some (.ref (initAd K C)))) && (decide (typeIn K (.ref (initAd K C)) = some (.type "function")) &&
  ((match K.lookup (initAd K C) with
    | some ⟨_, _, .func fd, _⟩ => (match fd.closure, fd.code with
      | [(_, cc)], .ref cda => (match K.lookup cc with
          | some ⟨_, _, .cell (some (.ref D)), _⟩ => D == He.ga K C
          | _ => false) && (codeIn K (.ref cda) qual && (match K.lookup cda with
          | some ⟨_, _, .fields vs, _⟩ => (match vs[2]? with
            | some (Value.str f _) => file == f
            | _ => false)
          | _ => false))
      | _, _ => false)
    | _ => false) && (decide (mroIn K (He.ga K C) (.ref (He.ga K C)) = some true) && (He.eqO (nsIn K cStatics "thirdparty.any") (some none) && (decide (subIn K (.ref (He.ga K C)) (.type "ValueError") = some true) &&
    (match clsIn K (He.ga K C) with
    | some cd => He.eqO (alongIn K "__init__" ((cd.mro.dropWhile (· != .ref (He.ga K C))).drop 1)) (some (some (.builtin "ValueError.__init__")))
    | none => false))))))
theorem supB_ok {P : Program} {K : PySem.W.Frag} {mg : Str → Option Value} {d : DefS} (hw : fnSW K d.cls = d.val) (h : supB P.main.file K d.cls d.qual = true) (top : (P.main.scope.names.lookup ("super" : Str)).isSome = false) (su : mg "super" = none) :
    PySem.W.findIn K (.ref (He.ga K d.cls)) "__init__" = some (some (.ref (initAd K d.cls))) ∧ PySem.W.typeIn K (.ref (initAd K d.cls)) = some (.type "function") ∧
    ∃ (cc cda : Addr) (fd : FuncData), SupF P K mg (He.ga K d.cls) (initAd K d.cls) cc cda d.qual d.params d.body d.scope fd := by
  obtain ⟨h1, h⟩ := He.ba h
  obtain ⟨h2, h⟩ := He.ba h
  obtain ⟨h3, h⟩ := He.ba h
  obtain ⟨h4, h⟩ := He.ba h
  obtain ⟨h5, h⟩ := He.ba h
  obtain ⟨h6, h7⟩ := He.ba h
  refine ⟨He.eqO_ok h1, of_decide_eq_true h2, ?_⟩
  unfold fnSW at hw
  split at h3
  · rename_i oc od fd osl lk
    rw [lk] at hw
    split at h3
    · rename_i nm cc cda hclo hcod
      obtain ⟨h8, h3⟩ := He.ba h3
      obtain ⟨h9, h10⟩ := He.ba h3
      have e2 : (some (fd.name, fd.qualname, fd.params, fd.body, fd.scope, fd.globals, fd.closure.map (·.1), fd.builtins) : FnSW) = d.val := hw
      unfold DefS.val at e2
      simp only [Option.some.injEq, Prod.mk.injEq] at e2
      obtain ⟨g1, g2, g3, g4, g5, g6, g7, g8⟩ := e2
      rw [hclo] at g7
      have g7 : nm = "__class__" := by simpa using g7
      refine ⟨cc, cda, fd, ?_⟩
      have hcell : ∃ oc : Obj, K.lookup cc = some oc ∧ oc.data = .cell (some (.ref (He.ga K d.cls))) := by
        split at h8
        · rename_i a b D c hl
          have e : D = He.ga K d.cls := eq_of_beq h8
          exact ⟨_, hl, by rw [← e]⟩
        · cases h8
      have hco : ∃ (oc : Obj) (vs : Array Value) (file : Str) (tf : Tok), K.lookup cda = some oc ∧ oc.data = .fields vs ∧ vs[2]? = some (.str file tf) ∧ ((P.main.file : Str) == file) = true := by
        split at h10
        · rename_i a b vs c hl
          split at h10
          · rename_i f t hv
            exact ⟨_, vs, f, t, hl, rfl, hv, h10⟩
          · cases h10
        · cases h10
      have hal : ∃ cd, PySem.W.clsIn K (He.ga K d.cls) = some cd ∧ PySem.W.alongIn K "__init__" ((cd.mro.dropWhile (· != .ref (He.ga K d.cls))).drop 1) = some (some (.builtin "ValueError.__init__")) := by
        split at h7
        · rename_i cd hc
          exact ⟨cd, hc, He.eqO_ok h7⟩
        · cases h7
      obtain ⟨n1, n2, n3, n4, n5, n6, n7, n8, n9, n10, n11, n12, n13, n14, n15⟩ := fd
      dsimp only at g1 g2 g3 g4 g5 g6 g8 hclo hcod
      subst g1 g2 g3 g4 g5 g6 g8 hclo hcod g7
      exact ⟨⟨oc, od, n8, n9, n10, n11, n14, n12, osl, rfl, lk⟩, h9, hco, hcell, top, of_decide_eq_true h4, He.eqO_ok h5, hal, of_decide_eq_true h6, su⟩
    · cases h3
  · cases h3
/-! ### the Hook -/
abbrev AlZ : Type := Bool × List He.FnW × List FnSW
def obsZ (fb : List (PySem.W.Frag → Bool)) (fn : List He.DefD) (cs : List DefS) (K : PySem.W.Frag) : AlZ := ((fb.all fun f => f K) && fn.all fun d => d.ok K, fn.map fun d => He.fnW K d.at_, cs.map fun d => fnSW K d.cls)
def valZ (fn : List He.DefD) (cs : List DefS) : AlZ := (true, fn.map He.DefD.val, cs.map DefS.val)
def SaysZ (fb : List (PySem.W.Frag → Bool)) (fn : List He.DefD) (cs : List DefS) (K : PySem.W.Frag) : Prop := obsZ fb fn cs K = valZ fn cs
/-- a def whose lambdas are made: its code object, the table in it -/
def tabB (g : Addr → Option Obj) (K : PySem.W.Frag) (p : He.Defn) : Bool := (match g (He.cT K p).2 with
  | some o => He.emptyTab o
  | none => false) && (match K.lookup (He.cT K p).1 with
  | some ⟨.type c, _, .fields vs, _⟩ => decide (c = "code") && (decide (vs[11]? = some (.ref (He.cT K p).2)) && ((match vs.getD 18 .none, vs.getD 7 .none, vs.getD 9 .none, vs.getD 10 .none with
      | .str _ _, .int _ _, .bool _, .int _ _ => true
      | _, _, _, _ => false) && decide ((He.cT K p).1 ≠ (He.cT K p).2)))
  | _ => false)
theorem tabB_ok {h : Heap} {K : PySem.W.Frag} (X : K.In h) {p : He.Defn} (e : tabB h.get? K p = true) : h.get? (He.cT K p).2 = some { cls := .none, data := .fields #[] } ∧ PySem.W.CodeHd h (He.cT K p).1 (He.cT K p).2 := by
  obtain ⟨h1, h2⟩ := He.ba e
  refine ⟨?_, ?_⟩
  · split at h1
    · rename_i o ho
      rw [ho, He.emptyTab_eq h1]
    · cases h1
  · split at h2
    · rename_i c dd vs sl lk
      obtain ⟨q1, h2⟩ := He.ba h2
      obtain ⟨q2, h2⟩ := He.ba h2
      obtain ⟨q3, q4⟩ := He.ba h2
      have e2 := of_decide_eq_true q2
      have e3 : vs.getD 11 .none = .ref (He.cT K p).2 := by
        rw [Array.getD_eq_getD_getElem?, e2] <;> rfl
      split at q3
      · rename_i f tf fl tg b i tt z1 z2 z3 z4
        exact ⟨_, vs, f, tf, fl, tg, b, i, tt, X _ _ lk, congrArg Value.type (of_decide_eq_true q1), rfl, e2, e3, z1, z2, z3, z4, of_decide_eq_true q4⟩
      · cases q3
    · cases h2
def obsZG (n : Nat) (fb : List (PySem.W.Frag → Bool)) (fn : List He.DefD) (cs : List DefS) (ts : List He.Defn) (g : Addr → Option Obj) : Bool × AlZ := (ts.all fun p => tabB g (He.frT g (He.asD g n ++ [cStatics, sysModules])) p, obsZ fb fn cs (He.frT g (He.asD g n ++ [cStatics, sysModules])))
def TabsZ (ts : List He.Defn) (K : PySem.W.Frag) (h : Heap) : Prop := ∀ p ∈ ts, h.get? (He.cT K p).2 = some { cls := .none, data := .fields #[] } ∧ K.lookup (He.cT K p).2 = none ∧ PySem.W.CodeHd h (He.cT K p).1 (He.cT K p).2
def hookZ (n : Nat) (fb : List (PySem.W.Frag → Bool)) (fn : List He.DefD) (cs : List DefS) (ts : List He.Defn) : PySem.W.Hook where
  α := Bool × AlZ
  obs := fun s => obsZG n fb fn cs ts s.heap.get?
  val := fun _ => (true, valZ fn cs)
  says := fun _ h => ∃ K : PySem.W.Frag, K.In h ∧ SaysZ fb fn cs K ∧ TabsZ ts K h
  of := fun _ s e => by
    refine ⟨_, He.frT_in, congrArg Prod.snd e, fun p hp => ?_⟩
    have q := List.all_eq_true.mp (show (ts.all fun p => tabB s.heap.get? (He.frT s.heap.get? (He.asD s.heap.get? n ++ [cStatics, sysModules])) p) = true from congrArg Prod.fst e) p hp
    obtain ⟨h1, h2⟩ := tabB_ok He.frT_in q
    exact ⟨h1, He.frT_none h1 rfl, h2⟩
  keeps := fun _ _ _ ⟨K, hK, c, t⟩ k => ⟨K, PySem.W.Frag.In.keeps hK k, c, fun p hp => ⟨k _ _ (t p hp).1, (t p hp).2.1, (t p hp).2.2.keeps k⟩⟩
theorem obsZG_eq {n : Nat} {fb : List (PySem.W.Frag → Bool)} {fn : List He.DefD} {cs : List DefS} {ts : List He.Defn} {g : Addr → Option Obj} {s : Shared} (h : ∀ a, g a = s.heap.get? a) : obsZG n fb fn cs ts g = (hookZ n fb fn cs ts).obs s := by
  have e : g = s.heap.get? := funext h
  rw [e] <;> rfl
section
variable {fb : List (PySem.W.Frag → Bool)} {fn : List He.DefD} {cs : List DefS} {K : PySem.W.Frag}
theorem SaysZ.all (c : SaysZ fb fn cs K) : ∀ f ∈ fb, f K = true :=
  List.all_eq_true.mp (He.ba (show ((fb.all fun f => f K) && fn.all fun d => d.ok K) = true from congrArg (fun z : AlZ => z.1) c)).1
theorem SaysZ.fact (c : SaysZ fb fn cs K) (i : Nat) {f : PySem.W.Frag → Bool} (h : fb[i]? = some f := by rfl) : f K = true := c.all f (List.mem_of_getElem? h)
theorem SaysZ.def_ (c : SaysZ fb fn cs K) (i : Nat) {d : He.DefD} (h : fn[i]? = some d := by rfl) : ∃ fd, FunD K d.name d.qual d.params d.body d.scope (d.dvs K) (d.kws K) (He.fAd K d.at_) fd := by
  have c2 := (He.ba (show ((fb.all fun f => f K) && fn.all fun d => d.ok K) = true from congrArg (fun z : AlZ => z.1) c)).2
  have e : fn.map (fun d => He.fnW K d.at_) = fn.map He.DefD.val := congrArg (fun z : AlZ => z.2.1) c
  have e2 : (fn.map fun d => He.fnW K d.at_)[i]? = (fn.map He.DefD.val)[i]? := by rw [e]
  rw [List.getElem?_map, List.getElem?_map, h] at e2
  exact He.DefD.funD (Option.some.inj e2) (List.all_eq_true.mp c2 d (List.mem_of_getElem? h))
theorem SaysZ.ini (c : SaysZ fb fn cs K) {d : DefS} (h : d ∈ cs) : fnSW K d.cls = d.val := by
  have e : cs.map (fun d => fnSW K d.cls) = cs.map DefS.val := congrArg (fun z : AlZ => z.2.2) c
  obtain ⟨i, hi⟩ := List.mem_iff_getElem?.mp h
  have e2 : (cs.map fun d => fnSW K d.cls)[i]? = (cs.map DefS.val)[i]? := by rw [e]
  rw [List.getElem?_map, List.getElem?_map, hi] at e2
  exact Option.some.inj e2
end
/-! ## the law's end: no repr runs at its call; tables of code objects for the lambdas -/
theorem law_callZ {P : Program} {w : World} {K : PySem.W.Frag} {mg mb : Str → Option Value} {k : Nat} {fa a : Addr} {cs : List (Addr × Addr)} {fd : FuncData} {x : Str} {sp : Sp} {s : Shared} {vs : List Value} {ns : List Int}
    (KX : K.In s.heap) (hns : s.heap.Ns mainGlobals mg) (hb : s.heap.Ns builtinsNs mb) (hbb : ∀ x : Str, x ≠ "__name__" → mb x = bootBuiltins x) (hlim : s.heap.NoLimit) (hg : s.gens = #[])
    (hT : ∀ p ∈ cs, s.heap.get? p.2 = some { cls := .none, data := .fields #[] }) (nT : ∀ p ∈ cs, K.lookup p.2 = none) (C : ∀ p ∈ cs, PySem.W.CodeHd s.heap p.1 p.2)
    (hbm : ∃ (bm : Addr) (ob : Obj), mg "__builtins__" = some (.ref bm) ∧ bm ≠ builtinsNs ∧ s.heap.get? bm = some ob ∧ ob.cls = .type "module" ∧ ob.dict = some builtinsNs ∧ ob.data = .plain)
    (ha : s.heap.get? a = some { cls := .type "list", data := .seq vs.toArray }) (hi : PyProof.Rows.IntsAre vs ns) (hl : ns.length ≤ sizeLine) (hr : Room k callerA)
    (F : ∀ base : Heap, K.In base → base.Ns mainGlobals mg → (∀ p ∈ cs, LamX.TabB base mg p.1 p.2) → FnG P w K mg base k fa fd [x] sp) (hbind : ∀ (s : Shared) (u : Value), BindsTo s fd ⟨[u], []⟩ [(x, u)])
    (hsp : ∀ H : Hp, (∀ p ∈ cs, H p.2 = some (.tbl #[])) → SqL K H a (ns.map V.int) → sp [.ref a] H (fun v _ => v = .bl true) fun _ _ _ => False) :
    codeAny (model P w) callerA (.call (.ref fa) ⟨[.ref a], []⟩) (fun r s' => r = .ok (.ret (.bool true)) ∧ PySem.OldK s.heap s'.heap ∧ s'.os = s.os ∧ PyProof.Rows.AllBare s'.gens) s := by
  have rv := vals_ints hi
  have lenV := hi.length
  let tabs : List Addr := cs.map (·.2)
  have inTab : ∀ p ∈ cs, p.2 ∈ tabs := fun p hp => List.mem_map.mpr ⟨p, hp, rfl⟩
  have isTab : ∀ b ∈ tabs, ∃ p ∈ cs, p.2 = b := fun b hb => List.mem_map.mp hb
  have tabO : ∀ b ∈ tabs, s.heap.get? b = some { cls := .none, data := .fields #[] } := fun b hb => by
    obtain ⟨p, hp, e⟩ := isTab b hb
    exact e ▸ hT p hp
  have aN : a ∉ tabs := fun z => by
    have q := tabO a z
    rw [ha] at q
    cases q
  -- what is tracked at the start: the tables, and the script where it is none of the module's own
  let H : Hp := fun b => if b ∈ tabs then some (.tbl #[]) else if b = a ∧ K.lookup a = none then some (.frz { cls := .type "list", data := .seq vs.toArray } (.lst (ns.map V.int))) else none
  have Htab : ∀ b ∈ tabs, H b = some (.tbl #[]) := fun b hb => if_pos hb
  have Hscr : K.lookup a = none → H a = some (.frz { cls := .type "list", data := .seq vs.toArray } (.lst (ns.map V.int))) := fun q => (if_neg aN).trans (if_pos ⟨rfl, q⟩)
  have Hcases : ∀ b, H b = none ∨ b ∈ tabs ∨ (b = a ∧ K.lookup a = none) := fun b => by
    by_cases h1 : b ∈ tabs
    · exact .inr (.inl h1)
    · by_cases h2 : b = a ∧ K.lookup a = none
      · exact .inr (.inr h2)
      · exact .inl ((if_neg h1).trans (if_neg h2))
  have hok : HOk P w H s.heap := fun b u e => by
    rcases Hcases b with z | z | ⟨z, q⟩
    · rw [z] at e
      cases e
    · rw [Htab b z] at e
      cases e
      exact tabO b z
    · subst z
      rw [Hscr q] at e
      cases e
      exact ⟨ha, by rw [List.length_map]; exact hl, vs, _, rv, ha⟩
  have seq : SqL K H a (ns.map V.int) := by
    cases hk : K.lookup a with
    | none => exact .inl (.inr ⟨_, Hscr hk⟩)
    | some o =>
      have e := KX a o hk
      rw [ha] at e
      cases e
      exact .inr ⟨_, vs.toArray, _, hk, rfl, rfl, rfl, by rw [List.size_toArray, lenV]; exact hl, by simpa using rv⟩
  -- the ground
  have gr : ∀ {b : Addr} {o : Obj}, s.heap.get? b = some o → H b = none → (hidT s.heap H).get? b = some o := fun e n => hidT_get e n
  have untr : ∀ {b : Addr} {o : Obj}, s.heap.get? b = some o → (∀ us n, o.data ≠ .seq us n) → o.data ≠ .fields #[] → H b = none := fun {b o} e h1 h2 => by
    rcases Hcases b with z | z | ⟨z, _⟩
    · exact z
    · rw [tabO b z] at e
      cases e
      exact absurd rfl h2
    · rw [z, ha] at e
      cases e
      exact absurd rfl (h1 _ _)
  have dictU : ∀ {b : Addr} {o : Obj} {es : Array DictEntry} {ep : Nat}, s.heap.get? b = some o → o.data = .dict es ep → H b = none := fun e d => untr e (fun _ _ z => by rw [d] at z; cases z) (fun z => by rw [d] at z; cases z)
  have nsU : ∀ {b : Addr} {m : Str → Option Value}, s.heap.Ns b m → (hidT s.heap H).Ns b m := fun ⟨o, es, ep, e, d, r⟩ => ⟨o, es, ep, gr e (dictU e d), d, r⟩
  have kin : K.In (hidT s.heap H) := fun b o e => gr (KX b o e) (by
    rcases Hcases b with z | z | ⟨z, q⟩
    · exact z
    · obtain ⟨p, hp, ep⟩ := isTab b z
      rw [← ep, nT p hp] at e
      cases e
    · rw [z, q] at e
      cases e)
  have mod : L2.Mod K mg (hidT s.heap H) := ⟨kin, nsU hns, ⟨mb, nsU hb, hbb⟩, let ⟨mc, h1, h2⟩ := hlim; ⟨mc, nsU h1, h2⟩⟩
  have TB : ∀ p ∈ cs, LamX.TabB (hidT s.heap H) mg p.1 p.2 := fun p hp => by
    have tp := hT p hp
    refine ⟨?_, ?_, fun z => ?_⟩
    · obtain ⟨o, us, file, tf, flags, tg, inF, text, tt, e1, r1, r2, r3, rr⟩ := C p hp
      refine ⟨o, us, file, tf, flags, tg, inF, text, tt, gr e1 (untr e1 (fun _ _ z => by rw [r2] at z; cases z) fun z => ?_), r1, r2, r3, rr⟩
      rw [r2] at z
      cases z
      simp at r3
    · obtain ⟨bm, ob, b1, b2, b3, b4, b5, b6⟩ := hbm
      refine ⟨bm, ob, b1, b2, fun q => ?_, fun q => ?_, gr b3 (untr b3 (fun _ _ z => by rw [b6] at z; cases z) (fun z => by rw [b6] at z; cases z)), b4, b5, b6⟩
      · obtain ⟨o, es, ep, e, hd, _⟩ := hns
        rw [q, e] at b3
        cases b3
        rw [hd] at b6
        cases b6
      · rw [q, tp] at b3
        cases b3
        cases b6
    · obtain ⟨o, es, ep, e, hd, _⟩ := hns
      rw [z, tp] at e
      cases e
      cases hd
  have e0 : Env0 P w K mg (hidT s.heap H) callerA [] s H := ⟨rfl, mod, fun b o e => of_hidT e, Nat.le_of_eq (hidT_size _ _), trivial, fun b hb => absurd (show b ∈ ([] : List Addr) from hb) (by simp), hok, .of_eq hg⟩
  refine codeAny_mono ((F _ kin (nsU hns) TB).run callerA [] s H ⟨[.ref a], []⟩ [.ref a] [.ref a] _ _ rfl hr e0 (hbind s (.ref a)) (.cons rfl .nil) (hsp H (fun p hp => Htab _ (inTab p hp)) seq)) fun r s' h => ?_
  cases r with
  | error e => exact False.elim h
  | ok fl =>
    cases fl with
    | next => exact False.elim h
    | brk => exact False.elim h
    | cont => exact False.elim h
    | ret u =>
      obtain ⟨v, H', os, bare, un, hok', r', q⟩ := h
      have q' : v = .bl true := q
      subst q'
      obtain rfl : u = Value.bool true := r'
      have kept : ∀ b o, b ∉ tabs → s.heap.get? b = some o → s'.heap.get? b = some o := fun b o nb e => by
        rcases Hcases b with z | z | ⟨z, q⟩
        · exact un.keep b o e z (by intro z; exact absurd (show b ∈ ([] : List Addr) from z) (by simp)) (by simp)
        · exact absurd z nb
        · subst z
          have z2 := un.frzs _ _ _ (Hscr q)
          obtain ⟨e2, _⟩ := hok' _ _ z2
          rw [ha] at e
          cases e
          exact e2
      have more : ∀ p ∈ cs, ∃ more : Array Value, s'.heap.get? p.2 = some { cls := .none, data := .fields more } := fun p hp => by
        obtain ⟨mr, z⟩ := un.tbls p.2 #[] (Htab _ (inTab p hp))
        exact ⟨_, hok' p.2 _ z⟩
      refine ⟨rfl, ⟨fun b o e => ?_, fun b o e => ?_⟩, os, bare⟩
      · by_cases hbt : b ∈ tabs
        · obtain ⟨p, hp, ep⟩ := isTab b hbt
          obtain ⟨mr, hm⟩ := more p hp
          rw [← ep] at e ⊢
          rw [hT p hp] at e
          cases e
          exact .inr (.inl ⟨((C p hp).tab (hT p hp)).isCodeTable, rfl, #[], mr, rfl, by rw [Array.empty_append]; exact hm⟩)
        · exact .inl (kept b o hbt e)
      · by_cases hbt : b ∈ tabs
        · obtain ⟨p, hp, ep⟩ := isTab b hbt
          obtain ⟨mr, hm⟩ := more p hp
          exact ⟨_, ep ▸ hm⟩
        · exact ⟨o, kept b o hbt e⟩
/-- what is known of the law's promise at the head's heap -/
def LawAtZ (l : PySem.W.OpenLaw) (w : World) (k n : Nat) (x : Str) (mg : Str → Option Value) (fa : Addr) (h : Heap) : Prop :=
  ∃ (K : PySem.W.Frag) (fd : FuncData) (cs : List (Addr × Addr)) (sp : Sp), K.In h ∧ (∀ p ∈ cs, h.get? p.2 = some { cls := .none, data := .fields #[] }) ∧ (∀ p ∈ cs, K.lookup p.2 = none) ∧ (∀ p ∈ cs, PySem.W.CodeHd h p.1 p.2) ∧ (∀ (s : Shared) (u : Value), BindsTo s fd ⟨[u], []⟩ [(x, u)]) ∧
    (∀ (H : Hp) (a : Addr) (ns : List Int), ns.length ≤ n → (∀ p ∈ cs, H p.2 = some (.tbl #[])) → SqL K H a (ns.map V.int) → sp [.ref a] H (fun v _ => v = .bl true) fun _ _ _ => False) ∧
    ∀ base : Heap, K.In base → base.Ns mainGlobals mg → (∀ p ∈ cs, LamX.TabB base mg p.1 p.2) → FnG l.prog w K mg base k fa fd [x] sp
theorem walk_ofZ {l : PySem.W.OpenLaw} {n k : Nat} {q : Program} {loose : List Str} {XP : (Str → Option Value) → Heap → Prop} {YP : World → Heap → Prop} {d : DefRec} {x : Str}
    (hn : l.most = some n) (hn2 : n ≤ sizeLine) (hdf : d.params.defaults = []) (hr : Room k callerA)
    (F : ∀ (w : World) (mg : Str → Option Value) (fa : Addr) (h : Heap), YP w h → h.Ns mainGlobals mg → mg d.name = some (.ref fa) → LawAtZ l w k n x mg fa h) :
    PySem.W.WalkO q loose XP YP l.row.toRowW d [] (fun f vs => PySem.call f vs) :=
  Att.attach_call hn hdf fun w s0 s1 mg mb fa o pm cd doc a vs ns G Y ho hd hcd hmg hobj hints hlen hg => by
    obtain ⟨K, fd, cs, sp, KX, hT, nT, C, hb, hsp, hF⟩ := F w mg fa _ Y G.T.g hmg
    exact law_callZ KX G.T.g G.T.b G.T.builtins G.T.nolimit hg hT nT C G.T.bmain hobj hints (Nat.le_trans hlen hn2) hr hF hb (fun H hH hS => hsp H a ns hlen hH hS)
abbrev Rw : PySem.W.OpenRow := PySem.W.OpenLaw.row PySem.Challenge.rw_stopanywhere_k01_words_of_texts
def d_is_name : He.DefD := ⟨("is_name", none), "is_name", "is_name", defArgs s_is_name, defBody s_is_name, defScope s_is_name, [], []⟩
def d_is_number_word : He.DefD := ⟨("is_number_word", none), "is_number_word", "is_number_word", defArgs s_is_number_word, defBody s_is_number_word, defScope s_is_number_word, [], []⟩
def d_is_text : He.DefD := ⟨("is_text", none), "is_text", "is_text", defArgs s_is_text, defBody s_is_text, defScope s_is_text, [], []⟩
def d_word_size : He.DefD := ⟨("word_size", none), "word_size", "word_size", defArgs s_word_size, defBody s_word_size, defScope s_word_size, [], []⟩
def d_cut : He.DefD := ⟨("cut", none), "cut", "cut", defArgs s_cut, defBody s_cut, defScope s_cut, [], []⟩
def d_sort_told : He.DefD := ⟨("sort_told", none), "sort_told", "sort_told", defArgs s_sort_told, defBody s_sort_told, defScope s_sort_told, [], []⟩
def d_sort_of : He.DefD := ⟨("sort_of", none), "sort_of", "sort_of", defArgs s_sort_of, defBody s_sort_of, defScope s_sort_of, [], []⟩
def d_words_of : He.DefD := ⟨("words_of", none), "words_of", "words_of", defArgs s_words_of, defBody s_words_of, defScope s_words_of, [], []⟩
def d__law_begun : He.DefD := ⟨("_law_begun", none), "_law_begun", "_law_begun", defArgs s_law_begun, defBody s_law_begun, defScope s_law_begun, [], []⟩
def d__law_mixed : He.DefD := ⟨("_law_mixed", none), "_law_mixed", "_law_mixed", defArgs s_law_mixed, defBody s_law_mixed, defScope s_law_mixed, [], []⟩
def d__law_take : He.DefD := ⟨("_law_take", none), "_law_take", "_law_take", defArgs s_law_take, defBody s_law_take, defScope s_law_take, [], []⟩
def d__law_pick : He.DefD := ⟨("_law_pick", none), "_law_pick", "_law_pick", defArgs s_law_pick, defBody s_law_pick, defScope s_law_pick, [], []⟩
def d__law_kept : He.DefD := ⟨("_law_kept", none), "_law_kept", "_law_kept", defArgs s_law_kept, defBody s_law_kept, defScope s_law_kept, [], []⟩
def d__law_is_small : He.DefD := ⟨("_law_is_small", none), "_law_is_small", "_law_is_small", defArgs s_law_is_small, defBody s_law_is_small, defScope s_law_is_small, [], []⟩
def d__law_is_name : He.DefD := ⟨("_law_is_name", none), "_law_is_name", "_law_is_name", defArgs s_law_is_name, defBody s_law_is_name, defScope s_law_is_name, [], []⟩
def d__law_sort : He.DefD := ⟨("_law_sort", none), "_law_sort", "_law_sort", defArgs s_law_sort, defBody s_law_sort, defScope s_law_sort, [], []⟩
def d__law_caught : He.DefD := ⟨("_law_caught", none), "_law_caught", "_law_caught", defArgs s_law_caught, defBody s_law_caught, defScope s_law_caught, [], []⟩
def d__law_inner : He.DefD := ⟨("_law_inner", none), "_law_inner", "_law_inner", defArgs s_law_inner, defBody s_law_inner, defScope s_law_inner, [], []⟩
def d__law_word_at : He.DefD := ⟨("_law_word_at", none), "_law_word_at", "_law_word_at", defArgs s_law_word_at, defBody s_law_word_at, defScope s_law_word_at, [], []⟩
def d__law_cut : He.DefD := ⟨("_law_cut", none), "_law_cut", "_law_cut", defArgs s_law_cut, defBody s_law_cut, defScope s_law_cut, [], []⟩
def d__law_refused_right : He.DefD := ⟨("_law_refused_right", none), "_law_refused_right", "_law_refused_right", defArgs s_law_refused_right, defBody s_law_refused_right, defScope s_law_refused_right, [], []⟩
def d_law : He.DefD := ⟨("law", none), "law", "law", defArgs s_law, defBody s_law, defScope s_law, [], []⟩
def i_BadText : DefS := ⟨"BadText", "BadText.__init__", defArgs s_BadText___init__, defBody s_BadText___init__, defScope s_BadText___init__⟩
def fnL : List He.DefD := [d_is_name, d_is_number_word, d_is_text, d_word_size, d_cut, d_sort_told, d_sort_of, d_words_of, d__law_begun, d__law_mixed, d__law_take, d__law_pick, d__law_kept, d__law_is_small, d__law_is_name, d__law_sort, d__law_caught, d__law_inner, d__law_word_at, d__law_cut, d__law_refused_right, d_law]
def csL : List DefS := [i_BadText]
abbrev gloB (x : Str) (K : PySem.W.Frag) : Bool := (He.Fa.glo x).ok K
abbrev freeB (x : Str) (K : PySem.W.Frag) : Bool := (He.Fa.free x).ok K
abbrev strB (x z : Str) (K : PySem.W.Frag) : Bool := (He.Fa.str x z).ok K
abbrev exmB (x y : Str) (K : PySem.W.Frag) : Bool := (He.Fa.exm x y true).ok K
abbrev noatB (x f : Str) (K : PySem.W.Frag) : Bool := (He.Fa.noat x f).ok K
abbrev kitB (x y : Str) (K : PySem.W.Frag) : Bool := decide (PySem.W.kitOne K (.ref (He.ga K x)) (.ref (He.ga K y)) = some true)
abbrev kitF (x y : Str) (K : PySem.W.Frag) : Bool := decide (PySem.W.kitOne K (.ref (He.ga K x)) (.ref (He.ga K y)) = some false)
abbrev kitT (x : Str) (n : String) (K : PySem.W.Frag) : Bool := decide (PySem.W.kitOne K (.ref (He.ga K x)) (.type n) = some true)
def mainFile : Str := PySem.Challenge.pw_stopanywhere_k01_words_of_texts.main.file
def smdB (K : PySem.W.Frag) : Bool := match K.lookup sysModules with | some ⟨.type n, _, _, _⟩ => decide (n = "dict") | _ => false
theorem smdB_ok {K : PySem.W.Frag} (h : smdB K = true) : SmD K := by
  unfold smdB at h
  split at h
  · rename_i n a b c e
    exact ⟨_, e, congrArg Value.type (of_decide_eq_true h)⟩
  · cases h
abbrev excN (x : Str) (K : PySem.W.Frag) : Bool := PySem.W.excIn K (He.ga K x) He.veBase "ValueError.__new__"
abbrev oexN (x : Str) (K : PySem.W.Frag) : Bool := oexB K (He.ga K x)
abbrev excR (x : Str) (K : PySem.W.Frag) : Bool := excRB K (He.ga K x)
abbrev supN (d : DefS) (K : PySem.W.Frag) : Bool := supB mainFile K d.cls d.qual
def dflB (x : Str) (K : PySem.W.Frag) : Bool := match K.lookup (initAd K x) with | some ⟨_, _, .func fd, _⟩ => (match fd.defaults with | .none => true | _ => false) | _ => false
theorem dflB_ok {K : PySem.W.Frag} {x : Str} (h : dflB x K = true) {oc : Value} {od : Option Addr} {fd : FuncData} {osl : Array (Option Value)} (lk : K.lookup (initAd K x) = some ⟨oc, od, .func fd, osl⟩) : fd.defaults = .none := by
  unfold dflB at h
  rw [lk] at h
  dsimp only at h
  split at h
  · assumption
  · cases h
theorem SupF.binds {P : Program} {K : PySem.W.Frag} {mg : Str → Option Value} {C cc cda : Addr} {x qual : Str} {params : Arguments} {body : List Stmt} {scope : Scope} {fd : FuncData} {ps : List Str} (F : SupF P K mg C (initAd K x) cc cda qual params body scope fd) (hd : dflB x K = true)
    (h : ∀ (kV doc pm ct : Value) (an : Option Addr) (us : List Value), us.length = ps.length → bindArgs (PySem.W.ksFn "__init__" qual params body scope .none kV doc pm an (.ref cda) ct cc) ⟨us, []⟩ = pure (ps.zip us)) : Binds K fd ps [] := by
  obtain ⟨oc, od, dV, kV, doc, pm, ct, an, osl, rfl, lk⟩ := F.ex
  have e : dV = .none := dflB_ok hd lk
  subst e
  exact .all (h kV doc pm ct an)
def strOf : Value → Option Str
  | .str z _ => some z
  | _ => none
def tupB (x : Str) (ss : List Str) (K : PySem.W.Frag) : Bool := match K.lookup (He.ga K x) with | some ⟨.type c, _, .seq its _, _⟩ => decide (c = "tuple") && (decide (its.size ≤ sizeLine) && decide (its.toList.map strOf = ss.map some)) | _ => false
theorem strOf_vals : ∀ {us : List Value} {ss : List Str}, us.map strOf = ss.map some → Vals (ss.map V.str) us
  | [], [], _ => .nil
  | [], _ :: _, h => by cases h
  | _ :: _, [], h => by cases h
  | u :: us, z :: ss, h => by
    simp only [List.map_cons, List.cons.injEq] at h
    refine .cons ?_ (strOf_vals h.2)
    cases u with
    | str y t =>
      have e : y = z := by injection h.1
      subst e
      exact ⟨t, rfl⟩
    | _ => cases h.1
theorem tupB_ok {x : Str} {ss : List Str} {K : PySem.W.Frag} (h : tupB x ss K = true) (H : Hp) : SqT K H (He.ga K x) (ss.map V.str) := by
  unfold tupB at h
  split at h
  · rename_i c d its n sl lk
    obtain ⟨h1, h⟩ := He.ba h
    obtain ⟨h2, h3⟩ := He.ba h
    exact .inr ⟨_, its, n, lk, congrArg Value.type (of_decide_eq_true h1), rfl, of_decide_eq_true h2, strOf_vals (of_decide_eq_true h3)⟩
  · cases h
def fbL : List (PySem.W.Frag → Bool) := [smdB, gloB "is_name", gloB "is_number_word", gloB "is_text", gloB "word_size", gloB "cut", gloB "sort_told", gloB "sort_of", gloB "words_of", gloB "_law_begun", gloB "_law_mixed", gloB "_law_take", gloB "_law_pick", gloB "_law_kept", gloB "_law_is_small", gloB "_law_is_name", gloB "_law_sort", gloB "_law_caught", gloB "_law_inner", gloB "_law_word_at", gloB "_law_cut", gloB "_law_refused_right", gloB "law", gloB "StopError", gloB "BadWord", gloB "BadText", freeB "ValueError", freeB "abs", freeB "int", freeB "isinstance", freeB "len", freeB "min", freeB "ord", freeB "range", freeB "repr", freeB "str", freeB "super", freeB "tuple", oexN "StopError", oexN "BadWord", oexN "BadText", supN i_BadText, dflB "BadText", gloB "KEPT", gloB "SIGNS", tupB "KEPT" ["and", "at", "choice", "else", "fail", "false", "function", "if", "let", "long", "make", "match", "new", "not", "number", "of", "or", "over", "put", "rest", "return", "row", "set", "show", "true", "truth", "try", "unit", "uses", "while"], tupB "SIGNS" ["(", ")", "{", "}", ",", ":", "=", "|", "+", "-", "*", "<", "<=", "=="], strB "SMALL" "abcdefghijklmnopqrstuvwxyz", strB "FIGURES" "0123456789", strB "INNER" "abcdefghijklmnopqrstuvwxyzABCDEFGHIJKLMNOPQRSTUVWXYZ0123456789_", excR "BadText", excR "BadWord", excN "BadWord", exmB "BadText" "StopError", exmB "BadWord" "StopError", kitB "BadText" "BadText", kitB "BadWord" "BadWord", kitT "BadText" "ValueError", noatB "BadText" "line", noatB "BadText" "column", noatB "BadText" "wanted"]
def tsL : List He.Defn := [("_law_refused_right", none)]
abbrev hk : PySem.W.Hook := hookZ 4 fbL fnL csL tsL
def ob (s : PySem.W.SharedT) : Bool × AlZ := obsZG 4 fbL fnL csL tsL (HandSHeadRun.getT s)
theorem ob_eq (s : PySem.W.SharedT) : ob s = hk.obs s.abs := obsZG_eq (HandSHeadRun.getT_eq s)
def looseL : List PySem.Str := (["StopError", "BadWord", "BadText", "KEPT", "SIGNS", "SMALL", "FIGURES", "INNER", "is_name", "is_number_word", "is_text", "word_size", "cut", "sort_told", "sort_of", "words_of", "_law_begun", "_law_mixed", "_law_take", "_law_pick", "_law_kept", "_law_is_small", "_law_is_name", "_law_sort", "_law_caught", "_law_inner", "_law_word_at", "_law_cut", "_law_refused_right"] : List PySem.Str)
set_option maxHeartbeats 0 in
theorem run (w : World) : HandSHeadRun.RunEq Rw (PySem.W.view Rw.prog [33]) hk ob 60000 looseL w := by
  intro os
  kernel_rfl
section
variable {K : PySem.W.Frag}
theorem fact_smd (c : SaysZ fbL fnL csL K) : (smdB) K = true := c.fact 0
theorem fact_g_is_name (c : SaysZ fbL fnL csL K) : (gloB "is_name") K = true := c.fact 1
theorem fact_g_is_number_word (c : SaysZ fbL fnL csL K) : (gloB "is_number_word") K = true := c.fact 2
theorem fact_g_is_text (c : SaysZ fbL fnL csL K) : (gloB "is_text") K = true := c.fact 3
theorem fact_g_word_size (c : SaysZ fbL fnL csL K) : (gloB "word_size") K = true := c.fact 4
theorem fact_g_cut (c : SaysZ fbL fnL csL K) : (gloB "cut") K = true := c.fact 5
theorem fact_g_sort_told (c : SaysZ fbL fnL csL K) : (gloB "sort_told") K = true := c.fact 6
theorem fact_g_sort_of (c : SaysZ fbL fnL csL K) : (gloB "sort_of") K = true := c.fact 7
theorem fact_g_words_of (c : SaysZ fbL fnL csL K) : (gloB "words_of") K = true := c.fact 8
theorem fact_g__law_begun (c : SaysZ fbL fnL csL K) : (gloB "_law_begun") K = true := c.fact 9
theorem fact_g__law_mixed (c : SaysZ fbL fnL csL K) : (gloB "_law_mixed") K = true := c.fact 10
theorem fact_g__law_take (c : SaysZ fbL fnL csL K) : (gloB "_law_take") K = true := c.fact 11
theorem fact_g__law_pick (c : SaysZ fbL fnL csL K) : (gloB "_law_pick") K = true := c.fact 12
theorem fact_g__law_kept (c : SaysZ fbL fnL csL K) : (gloB "_law_kept") K = true := c.fact 13
theorem fact_g__law_is_small (c : SaysZ fbL fnL csL K) : (gloB "_law_is_small") K = true := c.fact 14
theorem fact_g__law_is_name (c : SaysZ fbL fnL csL K) : (gloB "_law_is_name") K = true := c.fact 15
theorem fact_g__law_sort (c : SaysZ fbL fnL csL K) : (gloB "_law_sort") K = true := c.fact 16
theorem fact_g__law_caught (c : SaysZ fbL fnL csL K) : (gloB "_law_caught") K = true := c.fact 17
theorem fact_g__law_inner (c : SaysZ fbL fnL csL K) : (gloB "_law_inner") K = true := c.fact 18
theorem fact_g__law_word_at (c : SaysZ fbL fnL csL K) : (gloB "_law_word_at") K = true := c.fact 19
theorem fact_g__law_cut (c : SaysZ fbL fnL csL K) : (gloB "_law_cut") K = true := c.fact 20
theorem fact_g__law_refused_right (c : SaysZ fbL fnL csL K) : (gloB "_law_refused_right") K = true := c.fact 21
theorem fact_g_law (c : SaysZ fbL fnL csL K) : (gloB "law") K = true := c.fact 22
theorem fact_g_StopError (c : SaysZ fbL fnL csL K) : (gloB "StopError") K = true := c.fact 23
theorem fact_g_BadWord (c : SaysZ fbL fnL csL K) : (gloB "BadWord") K = true := c.fact 24
theorem fact_g_BadText (c : SaysZ fbL fnL csL K) : (gloB "BadText") K = true := c.fact 25
theorem fact_f_ValueError (c : SaysZ fbL fnL csL K) : (freeB "ValueError") K = true := c.fact 26
theorem fact_f_abs (c : SaysZ fbL fnL csL K) : (freeB "abs") K = true := c.fact 27
theorem fact_f_int (c : SaysZ fbL fnL csL K) : (freeB "int") K = true := c.fact 28
theorem fact_f_isinstance (c : SaysZ fbL fnL csL K) : (freeB "isinstance") K = true := c.fact 29
theorem fact_f_len (c : SaysZ fbL fnL csL K) : (freeB "len") K = true := c.fact 30
theorem fact_f_min (c : SaysZ fbL fnL csL K) : (freeB "min") K = true := c.fact 31
theorem fact_f_ord (c : SaysZ fbL fnL csL K) : (freeB "ord") K = true := c.fact 32
theorem fact_f_range (c : SaysZ fbL fnL csL K) : (freeB "range") K = true := c.fact 33
theorem fact_f_repr (c : SaysZ fbL fnL csL K) : (freeB "repr") K = true := c.fact 34
theorem fact_f_str (c : SaysZ fbL fnL csL K) : (freeB "str") K = true := c.fact 35
theorem fact_f_super (c : SaysZ fbL fnL csL K) : (freeB "super") K = true := c.fact 36
theorem fact_f_tuple (c : SaysZ fbL fnL csL K) : (freeB "tuple") K = true := c.fact 37
theorem fact_o_StopError (c : SaysZ fbL fnL csL K) : (oexN "StopError") K = true := c.fact 38
theorem fact_o_BadWord (c : SaysZ fbL fnL csL K) : (oexN "BadWord") K = true := c.fact 39
theorem fact_o_BadText (c : SaysZ fbL fnL csL K) : (oexN "BadText") K = true := c.fact 40
theorem fact_sup_BadText (c : SaysZ fbL fnL csL K) : (supN i_BadText) K = true := c.fact 41
theorem fact_dfl_BadText (c : SaysZ fbL fnL csL K) : (dflB "BadText") K = true := c.fact 42
theorem fact_g_KEPT (c : SaysZ fbL fnL csL K) : (gloB "KEPT") K = true := c.fact 43
theorem fact_g_SIGNS (c : SaysZ fbL fnL csL K) : (gloB "SIGNS") K = true := c.fact 44
theorem fact_t_KEPT (c : SaysZ fbL fnL csL K) : (tupB "KEPT" ["and", "at", "choice", "else", "fail", "false", "function", "if", "let", "long", "make", "match", "new", "not", "number", "of", "or", "over", "put", "rest", "return", "row", "set", "show", "true", "truth", "try", "unit", "uses", "while"]) K = true := c.fact 45
theorem fact_t_SIGNS (c : SaysZ fbL fnL csL K) : (tupB "SIGNS" ["(", ")", "{", "}", ",", ":", "=", "|", "+", "-", "*", "<", "<=", "=="]) K = true := c.fact 46
theorem fact_s_SMALL (c : SaysZ fbL fnL csL K) : (strB "SMALL" "abcdefghijklmnopqrstuvwxyz") K = true := c.fact 47
theorem fact_s_FIGURES (c : SaysZ fbL fnL csL K) : (strB "FIGURES" "0123456789") K = true := c.fact 48
theorem fact_s_INNER (c : SaysZ fbL fnL csL K) : (strB "INNER" "abcdefghijklmnopqrstuvwxyzABCDEFGHIJKLMNOPQRSTUVWXYZ0123456789_") K = true := c.fact 49
theorem fact_r_BadText (c : SaysZ fbL fnL csL K) : (excR "BadText") K = true := c.fact 50
theorem fact_r_BadWord (c : SaysZ fbL fnL csL K) : (excR "BadWord") K = true := c.fact 51
theorem fact_n_BadWord (c : SaysZ fbL fnL csL K) : (excN "BadWord") K = true := c.fact 52
theorem fact_x_BadText (c : SaysZ fbL fnL csL K) : (exmB "BadText" "StopError") K = true := c.fact 53
theorem fact_x_BadWord (c : SaysZ fbL fnL csL K) : (exmB "BadWord" "StopError") K = true := c.fact 54
theorem fact_k_TT (c : SaysZ fbL fnL csL K) : (kitB "BadText" "BadText") K = true := c.fact 55
theorem fact_k_WW (c : SaysZ fbL fnL csL K) : (kitB "BadWord" "BadWord") K = true := c.fact 56
theorem fact_k_TV (c : SaysZ fbL fnL csL K) : (kitT "BadText" "ValueError") K = true := c.fact 57
theorem fact_a_line (c : SaysZ fbL fnL csL K) : (noatB "BadText" "line") K = true := c.fact 58
theorem fact_a_column (c : SaysZ fbL fnL csL K) : (noatB "BadText" "column") K = true := c.fact 59
theorem fact_a_wanted (c : SaysZ fbL fnL csL K) : (noatB "BadText" "wanted") K = true := c.fact 60
theorem def_is_name (c : SaysZ fbL fnL csL K) : ∃ fd, FunD K "is_name" "is_name" (defArgs s_is_name) (defBody s_is_name) (defScope s_is_name) [] [] (He.ga K "is_name") fd := c.def_ 0 (d := d_is_name) rfl
theorem def_is_number_word (c : SaysZ fbL fnL csL K) : ∃ fd, FunD K "is_number_word" "is_number_word" (defArgs s_is_number_word) (defBody s_is_number_word) (defScope s_is_number_word) [] [] (He.ga K "is_number_word") fd := c.def_ 1 (d := d_is_number_word) rfl
theorem def_is_text (c : SaysZ fbL fnL csL K) : ∃ fd, FunD K "is_text" "is_text" (defArgs s_is_text) (defBody s_is_text) (defScope s_is_text) [] [] (He.ga K "is_text") fd := c.def_ 2 (d := d_is_text) rfl
theorem def_word_size (c : SaysZ fbL fnL csL K) : ∃ fd, FunD K "word_size" "word_size" (defArgs s_word_size) (defBody s_word_size) (defScope s_word_size) [] [] (He.ga K "word_size") fd := c.def_ 3 (d := d_word_size) rfl
theorem def_cut (c : SaysZ fbL fnL csL K) : ∃ fd, FunD K "cut" "cut" (defArgs s_cut) (defBody s_cut) (defScope s_cut) [] [] (He.ga K "cut") fd := c.def_ 4 (d := d_cut) rfl
theorem def_sort_told (c : SaysZ fbL fnL csL K) : ∃ fd, FunD K "sort_told" "sort_told" (defArgs s_sort_told) (defBody s_sort_told) (defScope s_sort_told) [] [] (He.ga K "sort_told") fd := c.def_ 5 (d := d_sort_told) rfl
theorem def_sort_of (c : SaysZ fbL fnL csL K) : ∃ fd, FunD K "sort_of" "sort_of" (defArgs s_sort_of) (defBody s_sort_of) (defScope s_sort_of) [] [] (He.ga K "sort_of") fd := c.def_ 6 (d := d_sort_of) rfl
theorem def_words_of (c : SaysZ fbL fnL csL K) : ∃ fd, FunD K "words_of" "words_of" (defArgs s_words_of) (defBody s_words_of) (defScope s_words_of) [] [] (He.ga K "words_of") fd := c.def_ 7 (d := d_words_of) rfl
theorem def__law_begun (c : SaysZ fbL fnL csL K) : ∃ fd, FunD K "_law_begun" "_law_begun" (defArgs s_law_begun) (defBody s_law_begun) (defScope s_law_begun) [] [] (He.ga K "_law_begun") fd := c.def_ 8 (d := d__law_begun) rfl
theorem def__law_mixed (c : SaysZ fbL fnL csL K) : ∃ fd, FunD K "_law_mixed" "_law_mixed" (defArgs s_law_mixed) (defBody s_law_mixed) (defScope s_law_mixed) [] [] (He.ga K "_law_mixed") fd := c.def_ 9 (d := d__law_mixed) rfl
theorem def__law_take (c : SaysZ fbL fnL csL K) : ∃ fd, FunD K "_law_take" "_law_take" (defArgs s_law_take) (defBody s_law_take) (defScope s_law_take) [] [] (He.ga K "_law_take") fd := c.def_ 10 (d := d__law_take) rfl
theorem def__law_pick (c : SaysZ fbL fnL csL K) : ∃ fd, FunD K "_law_pick" "_law_pick" (defArgs s_law_pick) (defBody s_law_pick) (defScope s_law_pick) [] [] (He.ga K "_law_pick") fd := c.def_ 11 (d := d__law_pick) rfl
theorem def__law_kept (c : SaysZ fbL fnL csL K) : ∃ fd, FunD K "_law_kept" "_law_kept" (defArgs s_law_kept) (defBody s_law_kept) (defScope s_law_kept) [] [] (He.ga K "_law_kept") fd := c.def_ 12 (d := d__law_kept) rfl
theorem def__law_is_small (c : SaysZ fbL fnL csL K) : ∃ fd, FunD K "_law_is_small" "_law_is_small" (defArgs s_law_is_small) (defBody s_law_is_small) (defScope s_law_is_small) [] [] (He.ga K "_law_is_small") fd := c.def_ 13 (d := d__law_is_small) rfl
theorem def__law_is_name (c : SaysZ fbL fnL csL K) : ∃ fd, FunD K "_law_is_name" "_law_is_name" (defArgs s_law_is_name) (defBody s_law_is_name) (defScope s_law_is_name) [] [] (He.ga K "_law_is_name") fd := c.def_ 14 (d := d__law_is_name) rfl
theorem def__law_sort (c : SaysZ fbL fnL csL K) : ∃ fd, FunD K "_law_sort" "_law_sort" (defArgs s_law_sort) (defBody s_law_sort) (defScope s_law_sort) [] [] (He.ga K "_law_sort") fd := c.def_ 15 (d := d__law_sort) rfl
theorem def__law_caught (c : SaysZ fbL fnL csL K) : ∃ fd, FunD K "_law_caught" "_law_caught" (defArgs s_law_caught) (defBody s_law_caught) (defScope s_law_caught) [] [] (He.ga K "_law_caught") fd := c.def_ 16 (d := d__law_caught) rfl
theorem def__law_inner (c : SaysZ fbL fnL csL K) : ∃ fd, FunD K "_law_inner" "_law_inner" (defArgs s_law_inner) (defBody s_law_inner) (defScope s_law_inner) [] [] (He.ga K "_law_inner") fd := c.def_ 17 (d := d__law_inner) rfl
theorem def__law_word_at (c : SaysZ fbL fnL csL K) : ∃ fd, FunD K "_law_word_at" "_law_word_at" (defArgs s_law_word_at) (defBody s_law_word_at) (defScope s_law_word_at) [] [] (He.ga K "_law_word_at") fd := c.def_ 18 (d := d__law_word_at) rfl
theorem def__law_cut (c : SaysZ fbL fnL csL K) : ∃ fd, FunD K "_law_cut" "_law_cut" (defArgs s_law_cut) (defBody s_law_cut) (defScope s_law_cut) [] [] (He.ga K "_law_cut") fd := c.def_ 19 (d := d__law_cut) rfl
theorem def__law_refused_right (c : SaysZ fbL fnL csL K) : ∃ fd, FunD K "_law_refused_right" "_law_refused_right" (defArgs s_law_refused_right) (defBody s_law_refused_right) (defScope s_law_refused_right) [] [] (He.ga K "_law_refused_right") fd := c.def_ 20 (d := d__law_refused_right) rfl
theorem def_law (c : SaysZ fbL fnL csL K) : ∃ fd, FunD K "law" "law" (defArgs s_law) (defBody s_law) (defScope s_law) [] [] (He.ga K "law") fd := c.def_ 21 (d := d_law) rfl
theorem ini_BadText (c : SaysZ fbL fnL csL K) : fnSW K "BadText" = (i_BadText).val := c.ini (d := i_BadText) (List.mem_of_getElem? (i := 0) rfl)
end
section
abbrev LW : PySem.W.OpenLaw := PySem.Challenge.rw_stopanywhere_k01_words_of_texts
theorem gkF {K : PySem.W.Frag} {h : Heap} {mg : Str → Option Value} (X : K.In h) (G : h.Ns mainGlobals mg) (c : SaysZ fbL fnL csL K) : GkF K mg where
  kept := ⟨_, He.glo_ok X G (fact_g_KEPT c), tupB_ok (fact_t_KEPT c)⟩
  signs := ⟨_, He.glo_ok X G (fact_g_SIGNS c), tupB_ok (fact_t_SIGNS c)⟩
  small := He.str_ok X G (fact_s_SMALL c)
  figs := He.str_ok X G (fact_s_FIGURES c)
  inner := He.str_ok X G (fact_s_INNER c)
  isi := He.free_ok X G (fact_f_isinstance c)
  str := He.free_ok X G (fact_f_str c)
  len := He.free_ok X G (fact_f_len c)
  int := He.free_ok X G (fact_f_int c)
  ord := He.free_ok X G (fact_f_ord c)
theorem exF {K : PySem.W.Frag} {h : Heap} {mg : Str → Option Value} (X : K.In h) (G : h.Ns mainGlobals mg) (c : SaysZ fbL fnL csL K) : ExF K mg (He.ga K "StopError") (He.ga K "BadText") (He.ga K "BadWord") where
  gS := He.glo_ok X G (fact_g_StopError c)
  gT := He.glo_ok X G (fact_g_BadText c)
  gW := He.glo_ok X G (fact_g_BadWord c)
  xT := He.exm_ok (fact_x_BadText c)
  xW := He.exm_ok (fact_x_BadWord c)
  rT := excRB_ok (fact_r_BadText c)
  rW := excRB_ok (fact_r_BadWord c)
  iTT := of_decide_eq_true (fact_k_TT c)
  iTV := of_decide_eq_true (fact_k_TV c)
  iWW := of_decide_eq_true (fact_k_WW c)
  n1 := He.eqO_ok (fact_a_line c)
  n2 := He.eqO_ok (fact_a_column c)
  n3 := He.eqO_ok (fact_a_wanted c)
  ve := He.free_ok X G (fact_f_ValueError c)
theorem one_binds {K : PySem.W.Frag} {x qual a : Str} {params : Arguments} {body : List Stmt} {scope : Scope} {f : Addr} {fd : FuncData} (F : FunD K x qual params body scope [] [] f fd)
    (h : ∀ (kV doc pm : Value) (an : Option Addr) (cdv ct : Value) (u : Value), bindArgs (PySem.W.fnOf x qual params body scope .none kV doc pm an cdv ct) ⟨[u], []⟩ = pure [(a, u)]) : Binds K fd [a] [] :=
  F.bindsN fun kV doc pm an cdv ct us hl => match us, hl with | [u], _ => h kV doc pm an cdv ct u
theorem law_at {w : World} {K : PySem.W.Frag} {h : Heap} {mg : Str → Option Value} {fa : Addr} (X : K.In h) (G : h.Ns mainGlobals mg) (c : SaysZ fbL fnL csL K) (T : TabsZ tsL K h) (hfa : mg "law" = some (.ref fa)) : LawAtZ LW w 7 63 "_law_script" mg fa h := by
  have e := hfa.symm.trans (He.glo_ok X G (fact_g_law c))
  cases e
  obtain ⟨fd, F⟩ := def_law c
  have tt := T ("_law_refused_right", none) (List.mem_singleton.mpr rfl)
  refine ⟨K, fd, [He.cT K ("_law_refused_right", none)], spLaw K (He.cT K ("_law_refused_right", none)).2, X, ?_, ?_, ?_, fun s u => F.bindsA (ps := ["_law_script"]) (fun _ _ _ _ _ _ us hl => match us, hl with | [_], _ => rfl) s [u] rfl, fun H a ns hl hH hS => ⟨a, ns, rfl, hS, hl, ?_, fun _ => rfl⟩, fun base KX GX hB => ?_⟩
  · intro p hp
    rw [List.mem_singleton.mp hp]
    exact tt.1
  · intro p hp
    rw [List.mem_singleton.mp hp]
    exact tt.2.1
  · intro p hp
    rw [List.mem_singleton.mp hp]
    exact tt.2.2
  · intro p hp
    rw [List.mem_singleton.mp hp]
    exact LamX.TabS.nil (hH _ (List.mem_singleton.mpr rfl))
  · have TB := hB _ (List.mem_singleton.mpr rfl)
    have g := gkF X G c
    have ex := exF X G c
    obtain ⟨f1, F1⟩ := def_is_name c
    obtain ⟨f2, F2⟩ := def_is_number_word c
    obtain ⟨f3, F3⟩ := def_is_text c
    obtain ⟨f4, F4⟩ := def_word_size c
    obtain ⟨f5, F5⟩ := def_cut c
    obtain ⟨f6, F6⟩ := def_sort_told c
    obtain ⟨f7, F7⟩ := def_sort_of c
    obtain ⟨f8, F8⟩ := def_words_of c
    obtain ⟨g1, G1⟩ := def__law_begun c
    obtain ⟨g2, G2⟩ := def__law_mixed c
    obtain ⟨g3, G3⟩ := def__law_take c
    obtain ⟨g4, G4⟩ := def__law_pick c
    obtain ⟨g5, G5⟩ := def__law_kept c
    obtain ⟨g6, G6⟩ := def__law_is_small c
    obtain ⟨g7, G7⟩ := def__law_is_name c
    obtain ⟨g8, G8⟩ := def__law_sort c
    obtain ⟨g9, G9⟩ := def__law_caught c
    obtain ⟨h1, H1⟩ := def__law_inner c
    obtain ⟨h2, H2⟩ := def__law_word_at c
    obtain ⟨h3, H3⟩ := def__law_cut c
    obtain ⟨h4, H4⟩ := def__law_refused_right c
    have su := He.free_ok X G (fact_f_super c)
    have mi := He.free_ok X G (fact_f_int c)
    have ma := He.free_ok X G (fact_f_abs c)
    have ml := He.free_ok X G (fact_f_len c)
    obtain ⟨iC, tI, cc, cda, fi, FI⟩ := supB_ok (P := LW.prog) (mg := mg) (d := i_BadText) (ini_BadText c) (fact_sup_BadText c) (by decide +kernel) su
    have OI := ok_bt (P := LW.prog) (w := w) (base := base) FI (oexB_ok (fact_o_BadText c)) (He.eqO_ok (fact_a_line c)) (He.eqO_ok (fact_a_column c)) (He.eqO_ok (fact_a_wanted c))
    have bI : Binds K fi ["self", "line", "column", "wanted"] [] := FI.binds (fact_dfl_BadText c) fun _ _ _ _ _ us hl => match us, hl with | [_, _, _, _], _ => rfl
    have btx : BtX LW.prog w K mg base (He.ga K "BadText") := ⟨ex.gT, oexB_ok (fact_o_BadText c), _, fi, iC, tI, OI, bI⟩
    have plx : PlnX K mg "BadWord" (He.ga K "BadWord") := ⟨ex.gW, fact_n_BadWord c, oexB_ok (fact_o_BadWord c)⟩
    -- the defs
    have o1 : FnOk LW.prog w K mg base CX0 1 _ f1 ["thing"] (spTxO K nameB) := ok_is_name F1 g
    have b5 : Binds K f5 ["text"] [] := one_binds F5 fun _ _ _ _ _ _ _ => rfl
    have o5 : FnOk LW.prog w K mg base CX0 2 _ f5 ["text"] spCut := ok_cut F5 F4 (He.glo_ok X G (fact_g_word_size c)) g
    have b6 : Binds K f6 ["word"] [] := one_binds F6 fun _ _ _ _ _ _ _ => rfl
    have o6 : FnOk LW.prog w K mg base CX0 2 _ f6 ["word"] (spTx fun t => .str (sortF t)) := ok_sort_told F6 F1 (He.glo_ok X G (fact_g_is_name c)) F2 (He.glo_ok X G (fact_g_is_number_word c)) g
    have o7 := ok_sort_of (P := LW.prog) (w := w) (base := base) F7 F3 (He.glo_ok X G (fact_g_is_text c)) F5.kp (He.glo_ok X G (fact_g_cut c)) b5 o5 F6.kp (He.glo_ok X G (fact_g_sort_told c)) b6 o6 g plx
    have o8 := ok_words_of (P := LW.prog) (w := w) (base := base) F8 F3 (He.glo_ok X G (fact_g_is_text c)) F5.kp (He.glo_ok X G (fact_g_cut c)) b5 o5 g btx
    have w3 : FnOk LW.prog w K mg base CX0 2 _ g3 ["_law_draw", "_law_many"] spTake := ok_take G3 G2 (He.glo_ok X G (fact_g__law_mixed c)) mi
    have c3 : Binds K g3 ["_law_draw", "_law_many"] [] := G3.bindsN fun _ _ _ _ _ _ us hl => match us, hl with | [_, _], _ => rfl
    have w4 : FnOk LW.prog w K mg base CX0 3 _ g4 ["_law_draw", "_law_some"] (spPick K) := ok_pick G4 (He.glo_ok X G (fact_g__law_take c)) G3.kp c3 w3 ml
    have c4 : Binds K g4 ["_law_draw", "_law_some"] [] := G4.bindsN fun _ _ _ _ _ _ us hl => match us, hl with | [_, _], _ => rfl
    have w1 : FnOk LW.prog w K mg base CX0 1 _ g1 ["_law_script"] (spBegun K) := ok_begun G1 mi ma
    have w7 : FnOk LW.prog w K mg base CX0 2 _ g7 ["_law_matter"] (spTxO K nameB) := ok_lis_name G7 G6 (He.glo_ok X G (fact_g__law_is_small c)) G5 (He.glo_ok X G (fact_g__law_kept c)) g
    have w8 : FnOk LW.prog w K mg base CX0 3 _ g8 ["_law_word"] (spTx fun t => .str (sortF t)) := ok_lsort G8 G7 (He.glo_ok X G (fact_g__law_is_name c)) w7 G5 (He.glo_ok X G (fact_g__law_kept c)) g
    have v2 : FnOk LW.prog w K mg base CX0 2 _ h2 ["_law_text", "_law_at"] spWordAt := ok_word_at H2 H1 (He.glo_ok X G (fact_g__law_inner c)) g
    have v3 : FnOk LW.prog w K mg base CX0 3 _ h3 ["_law_text"] spCut := ok_lcut H3 H2 (He.glo_ok X G (fact_g__law_word_at c)) v2 g
    have d3 : Binds K h3 ["_law_text"] [] := one_binds H3 fun _ _ _ _ _ _ _ => rfl
    have b7 : Binds K f7 ["word"] [] := one_binds F7 fun _ _ _ _ _ _ _ => rfl
    have b8 : Binds K f8 ["text"] [] := one_binds F8 fun _ _ _ _ _ _ _ => rfl
    have k7 := FunD.kbindsA F7 (ps := ["word"]) fun _ _ _ _ _ _ us hl => match us, hl with | [_], _ => rfl
    have k8 := FunD.kbindsA F8 (ps := ["text"]) fun _ _ _ _ _ _ us hl => match us, hl with | [_], _ => rfl
    have k1 := FunD.kbindsA F1 (ps := ["thing"]) fun _ _ _ _ _ _ us hl => match us, hl with | [_], _ => rfl
    have rf : RefF LW.prog w K mg base (He.ga K "StopError") (He.ga K "BadText") (He.ga K "BadWord") := ⟨ex, g, ⟨_, g4, He.glo_ok X G (fact_g__law_pick c), G4.kp, c4, w4⟩, ⟨_, g9, He.glo_ok X G (fact_g__law_caught c), G9⟩, ⟨_, f8, He.glo_ok X G (fact_g_words_of c), F8.kp, b8, k8, o8⟩, ⟨_, f7, He.glo_ok X G (fact_g_sort_of c), F7.kp, b7, k7, o7⟩, ⟨_, h3, He.glo_ok X G (fact_g__law_cut c), H3.kp, d3, v3⟩⟩
    have hcode : h4.code = .ref (He.cT K ("_law_refused_right", none)).1 := by
      obtain ⟨oc, od, dV, kV, doc, pm, an, cdv, ct, osl, rfl, lk, hcd, _, _⟩ := H4.ex
      obtain ⟨cx, rfl⟩ := He.codeIn_ref hcd
      exact congrArg Value.ref (He.codeOf_eq (p := ("_law_refused_right", none)) lk rfl).symm
    have w5 : FnOk LW.prog w K mg base CX0 6 _ h4 ["_law_draw", "_law_words"] (spRef (He.cT K ("_law_refused_right", none)).2) := ok_ref H4 hcode TB rf
    have c5 : Binds K h4 ["_law_draw", "_law_words"] [] := H4.bindsN fun _ _ _ _ _ _ us hl => match us, hl with | [_, _], _ => rfl
    refine ok_law (CT := He.ga K "BadText") (CW := He.ga K "BadWord") F ⟨g, smdB_ok (fact_smd c), He.free_ok X G (fact_f_repr c), He.free_ok X G (fact_f_tuple c), He.free_ok X G (fact_f_min c), He.free_ok X G (fact_f_range c), ⟨_, g1, He.glo_ok X G (fact_g__law_begun c), G1.kp, one_binds G1 fun _ _ _ _ _ _ _ => rfl, w1⟩, ⟨_, g3, He.glo_ok X G (fact_g__law_take c), G3.kp, c3, w3⟩, ⟨_, g4, He.glo_ok X G (fact_g__law_pick c), G4.kp, c4, w4⟩, ⟨_, g5, He.glo_ok X G (fact_g__law_kept c), G5.kp, G5.bindsN fun _ _ _ _ _ _ us hl => match us, hl with | [], _ => rfl, ok_kept G5⟩, ⟨_, h3, He.glo_ok X G (fact_g__law_cut c), H3.kp, d3, v3⟩, ⟨_, g8, He.glo_ok X G (fact_g__law_sort c), G8.kp, one_binds G8 fun _ _ _ _ _ _ _ => rfl, w8⟩, ⟨_, g7, He.glo_ok X G (fact_g__law_is_name c), G7.kp, one_binds G7 fun _ _ _ _ _ _ _ => rfl, w7⟩, ⟨_, f1, He.glo_ok X G (fact_g_is_name c), F1.kp, one_binds F1 fun _ _ _ _ _ _ _ => rfl, k1, o1⟩, ⟨_, f8, He.glo_ok X G (fact_g_words_of c), F8.kp, b8, k8, o8⟩, ⟨_, f7, He.glo_ok X G (fact_g_sort_of c), F7.kp, b7, k7, o7⟩, ⟨_, h4, He.glo_ok X G (fact_g__law_refused_right c), H4.kp, c5, w5⟩⟩
end
end My
open PySem PySem.W PySem.Calls PyProof.Rows
set_option maxHeartbeats 0 in
theorem PySem.Challenge.cw_stopanywhere_k01_words_of_texts_holds : PySem.Challenge.rw_stopanywhere_k01_words_of_texts.Holds := by
  w_on; o_law
  refine HandSHeadRun.head_any (r := OpenLaw.row PySem.Challenge.rw_stopanywhere_k01_words_of_texts) (q := view (OpenLaw.row PySem.Challenge.rw_stopanywhere_k01_words_of_texts).prog [33]) (H := My.hk) (ob := My.ob) (M := 60000) (loose := My.looseL) (d := HandSHeadRun.topDef (OpenLaw.row PySem.Challenge.rw_stopanywhere_k01_words_of_texts).prog 33) (kwd := []) My.ob_eq
    (by kernel_rfl) (fun s => by kernel_rfl) My.run (by kernel_rfl) (by kernel_rfl) (by kernel_rfl) (by rfl) (by first | assumption | decide +kernel) (by decide +kernel) ⟨rfl, rfl, rfl, rfl, rfl, by decide +kernel⟩ ?hw ?hc
  case hw => w_witness2
  case hc =>
    refine My.walk_ofZ (l := PySem.Challenge.rw_stopanywhere_k01_words_of_texts) (n := 63) (k := 7) (x := "_law_script") rfl (by decide) (by kernel_rfl) ⟨rfl, by decide, by decide⟩ ?F
    intro w mg fa h Y G hmg0
    obtain ⟨K, KX, c, T⟩ := Y
    have hmg : mg ("law" : PySem.Str) = some (.ref fa) := by
      have e : (HandSHeadRun.topDef (OpenLaw.row PySem.Challenge.rw_stopanywhere_k01_words_of_texts).prog 33).name = ("law" : PySem.Str) := by kernel_rfl
      rw [← e]
      exact hmg0
    exact My.law_at KX G c T hmg
