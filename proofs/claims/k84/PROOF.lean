import PyProof.Rows.All
import Wide.All
import OpenK.AllK
import Wide.FinOn
import KE.KStateDown
import KE.KExcSuper
import Lean
import HandS.ForMost
import HandS.More
import HandS.WordsExc
import HandS.Defaults
import HandS.Head0
import HandS.Head1
import HandS.Head2
import HandS.HeadEnd
import HandS.HeadHook1
import HandS.HeadHook2
import HandS.HeadHook4
import HandS.IsInst
import HandS.ExcIs
import HandS.ExcInit
import HandS.ExcValue
import HandS.Strs
import HandS.Lambda
import HandS.HeadHook3
import Wide.Once
import HandS.Wide
import HandS.IntHex
import HandS.StrMore
import HandS.CallLocal
import HandS.CallSlots
import HandS.Walk
import HandS.Flow
import KE.IntTextLaws
import HandS.Deep
import HandS.Style
import HandS.Star
import KE.GoesZip
import KE.GoesMore
import KE.GoesEnum
import PyProof.EnumMake
import PyProof.EnumStmt
import PyProof.EqKinds
import HandS.Text
import PyProof.StrLawsRepr
import PyProof.FitsInt
import PyProof.ReprRoom
import HandS.MakeKwOnly
import KE.KEqSeq
import PySem.Challenge.RW_stopanywhere_k84_bits_read_or_refused
set_option Elab.async false
set_option linter.all false
set_option maxRecDepth 100000
set_option maxHeartbeats 4000000
namespace My
open PySem L2
def top (i : Nat) : Stmt := PySem.Challenge.pw_stopanywhere_k84_bits_read_or_refused.main.body.getD i (.Pass ⟨0, 0, 0, 0⟩)
abbrev s_BadBits___init__ : Stmt := inClass (top 3) 0
abbrev s_BadInstruction___init__ : Stmt := inClass (top 4) 0
abbrev s_is_name : Stmt := top 9
abbrev s_is_number : Stmt := top 14
abbrev s_sort_of_place : Stmt := top 15
abbrev s_number_of : Stmt := top 16
abbrev s_is_register : Stmt := top 17
abbrev s_is_slot : Stmt := top 18
abbrev s_need_registers : Stmt := top 22
abbrev s_digits : Stmt := top 33
abbrev s_count_of : Stmt := top 34
abbrev s_number_written : Stmt := top 35
abbrev s_is_bits : Stmt := top 36
abbrev s_need_bits : Stmt := top 37
abbrev s_count_at : Stmt := top 38
abbrev s_number_at : Stmt := top 39
abbrev s_digits_at : Stmt := top 40
abbrev s_name_at : Stmt := top 41
abbrev s_register_at : Stmt := top 42
abbrev s_place_at : Stmt := top 43
abbrev s_index_at : Stmt := top 44
abbrev s_parts_at : Stmt := top 45
abbrev s_leap_at : Stmt := top 46
abbrev s_read_one : Stmt := top 48
abbrev s_is_leap : Stmt := top 49
abbrev s_is_part : Stmt := top 50
abbrev s_is_instruction : Stmt := top 51
abbrev s_place_bits : Stmt := top 52
abbrev s_name_bits : Stmt := top 53
abbrev s_leap_bits : Stmt := top 54
abbrev s_part_bits : Stmt := top 55
abbrev s_head_bits : Stmt := top 56
abbrev s_bits_of : Stmt := top 57
abbrev s_all_read : Stmt := top 58
abbrev s_read_bits : Stmt := top 59
abbrev s_instruction_at : Stmt := top 60
abbrev s_law_begun : Stmt := top 62
abbrev s_law_mixed : Stmt := top 63
abbrev s_law_take : Stmt := top 64
abbrev s_law_pick : Stmt := top 65
abbrev s_law_names : Stmt := top 66
abbrev s_law_figure : Stmt := top 67
abbrev s_law_digits : Stmt := top 68
abbrev s_law_count : Stmt := top 69
abbrev s_law_signed : Stmt := top 70
abbrev s_law_spelt : Stmt := top 71
abbrev s_law_registers : Stmt := top 72
abbrev s_law_copied : Stmt := top 73
abbrev s_law_first : Stmt := top 74
abbrev s_law_bits : Stmt := top 75
abbrev s_law_shapes : Stmt := top 76
abbrev s_law_part : Stmt := top 77
abbrev s_law_instruction : Stmt := top 78
abbrev s_law_leap_bits : Stmt := top 79
abbrev s_law_part_bits : Stmt := top 80
abbrev s_law_told_bits : Stmt := top 81
abbrev s_law_is_name : Stmt := top 82
abbrev s_law_read : Stmt := top 83
abbrev s_law_value : Stmt := top 84
abbrev s_law_refusal : Stmt := top 85
abbrev s_law_name_at : Stmt := top 86
abbrev s_law_register_at : Stmt := top 87
abbrev s_law_copied_at : Stmt := top 88
abbrev s_law_signed_at : Stmt := top 89
abbrev s_law_some_at : Stmt := top 90
abbrev s_law_leap_at : Stmt := top 91
abbrev s_law_part_at : Stmt := top 92
abbrev s_law_one_at : Stmt := top 93
abbrev s_law_due : Stmt := top 94
abbrev s_law_changed : Stmt := top 95
abbrev s_law : Stmt := top 96

/-! ## the visible heap -/
/-- from the visible H0 (of H) to the visible H0' (of H') -/
structure Vs (H0 H H0' H' : Hp) : Prop where
  grow : Same H0 H0'
  sub : Same H0' H'
  old : ∀ b o, H0' b = some o → H0 b = some o ∨ H b = none
theorem Vs.refl {H0 H : Hp} (s : Same H0 H) : Vs H0 H H0 H := ⟨Same.refl _, s, fun _ _ e => .inl e⟩
theorem free_mono {H0 H : Hp} (s : Same H0 H) {p : Addr} (h : H p = none) : H0 p = none := s.free h
theorem same_upd {H0 H : Hp} (s : Same H0 H) (p : Addr) (o : HO) : Same (upd H0 p o) (upd H p o) := fun b u e => by
  by_cases hb : b = p
  · rw [hb, upd_same] at e ⊢; exact e
  · rw [upd_ne hb] at e ⊢; exact s b u e
theorem same_new {H : Hp} {p : Addr} {o : HO} (h : H p = none) : Same H (upd H p o) := fun b u e => by
  rw [upd_ne (ne_of_none e h)]; exact e
theorem same_sub {H0 H : Hp} (s : Same H0 H) {p : Addr} {o : HO} (h : H0 p = none) : Same H0 (upd H p o) := fun b u e => by
  rw [upd_ne (ne_of_none e h)]; exact s b u e

/-! ## draws -/
def kWide : Key := Sum.inr "wide"
def kCells : Key := Sum.inr "cells"
def kRest : Key := Sum.inr "rest"
def kTurn : Key := Sum.inr "turn"
def drK (w c : Addr) (rest turn : Int) : List (Key × V) := [(kWide, .ref w), (kCells, .ref c), (kRest, .int rest), (kTurn, .int turn)]
theorem ne_cw : ¬ kCells = kWide := by unfold kCells kWide; decide +kernel
theorem ne_rw : ¬ kRest = kWide := by unfold kRest kWide; decide +kernel
theorem ne_tw : ¬ kTurn = kWide := by unfold kTurn kWide; decide +kernel
theorem ne_rc : ¬ kRest = kCells := by unfold kRest kCells; decide +kernel
theorem ne_tc : ¬ kTurn = kCells := by unfold kTurn kCells; decide +kernel
theorem ne_tr : ¬ kTurn = kRest := by unfold kTurn kRest; decide +kernel
theorem dr_wide (w c : Addr) (r t : Int) : valV (drK w c r t) kWide = some (.ref w) := valV_pos rfl
theorem dr_cells (w c : Addr) (r t : Int) : valV (drK w c r t) kCells = some (.ref c) := by
  unfold drK; rw [valV_neg (Ne.symm ne_cw)]; exact valV_pos rfl
theorem dr_rest (w c : Addr) (r t : Int) : valV (drK w c r t) kRest = some (.int r) := by
  unfold drK; rw [valV_neg (Ne.symm ne_rw), valV_neg (Ne.symm ne_rc)]; exact valV_pos rfl
theorem dr_turn (w c : Addr) (r t : Int) : valV (drK w c r t) kTurn = some (.int t) := by
  unfold drK; rw [valV_neg (Ne.symm ne_tw), valV_neg (Ne.symm ne_tc), valV_neg (Ne.symm ne_tr)]; exact valV_pos rfl
theorem dr_putRest (w c : Addr) (r t x : Int) : putK (drK w c r t) kRest (.int x) = drK w c x t := by
  have e1 : ((drK w c r t).any fun kv => decide (kv.1 = kRest)) = true := by rw [valV_any, dr_rest]; rfl
  unfold putK
  rw [if_pos e1]
  unfold drK
  simp only [List.map_cons, List.map_nil]
  rw [if_neg (Ne.symm ne_rw), if_neg (Ne.symm ne_rc), if_pos True.intro, if_neg ne_tr]
theorem dr_putTurn (w c : Addr) (r t x : Int) : putK (drK w c r t) kTurn (.int x) = drK w c r x := by
  have e1 : ((drK w c r t).any fun kv => decide (kv.1 = kTurn)) = true := by rw [valV_any, dr_turn]; rfl
  unfold putK
  rw [if_pos e1]
  unfold drK
  simp only [List.map_cons, List.map_nil]
  rw [if_neg (Ne.symm ne_tw), if_neg (Ne.symm ne_tc), if_neg (Ne.symm ne_tr), if_pos True.intro]
theorem dr_made (w c : Addr) (r t : Int) : mergeK [] (drK w c r t) = drK w c r t := by
  have a1 : putK [] kWide (.ref w) = [(kWide, .ref w)] := putK_new _ valV_nil
  have a2 : putK [(kWide, .ref w)] kCells (.ref c) = [(kWide, .ref w), (kCells, .ref c)] := putK_new _ (by rw [valV_neg (Ne.symm ne_cw)]; exact valV_nil)
  have a3 : putK [(kWide, .ref w), (kCells, .ref c)] kRest (.int r) = [(kWide, .ref w), (kCells, .ref c), (kRest, .int r)] := putK_new _ (by rw [valV_neg (Ne.symm ne_rw), valV_neg (Ne.symm ne_rc)]; exact valV_nil)
  have a4 : putK [(kWide, .ref w), (kCells, .ref c), (kRest, .int r)] kTurn (.int t) = drK w c r t := putK_new _ (by rw [valV_neg (Ne.symm ne_tw), valV_neg (Ne.symm ne_tc), valV_neg (Ne.symm ne_tr)]; exact valV_nil)
  show putK (putK (putK (putK [] kWide (.ref w)) kCells (.ref c)) kRest (.int r)) kTurn (.int t) = drK w c r t
  rw [a1, a2, a3, a4]
/-- what the drawing dict at d holds, with its lists at w and c -/
structure DrD (H : Hp) (d w c : Addr) (ws cs : List Int) (rest turn : Int) : Prop where
  hd : H d = some (.dK (drK w c rest turn))
  hw : H w = some (.lst (ws.map V.int))
  hc : H c = some (.lst (cs.map V.int))
  wc : w ≠ c
  wl : ws.length ≤ 63
  wn : ∀ x ∈ ws, 0 ≤ x
  cl : cs.length ≤ 63
  rn : 0 ≤ rest
  tn : 0 ≤ turn
/-- H0 is seen of H, the drawing dict at d is not -/
def Dw (t : Nat) (H0 H : Hp) (d : Addr) : Prop := Same H0 H ∧ ∃ (w c : Addr) (ws cs : List Int) (rest turn : Int), H0 d = none ∧ H0 w = none ∧ H0 c = none ∧ turn ≤ t ∧ DrD H d w c ws cs rest turn
theorem Dw.same {t : Nat} {H0 H : Hp} {d : Addr} (h : Dw t H0 H d) : Same H0 H := h.1
theorem Dw.mono {t t' : Nat} {H0 H : Hp} {d : Addr} (h : Dw t H0 H d) (l : t ≤ t') : Dw t' H0 H d := by
  obtain ⟨s, w, c, ws, cs, rest, turn, h1, h2, h3, ht, D⟩ := h
  exact ⟨s, w, c, ws, cs, rest, turn, h1, h2, h3, by omega, D⟩
theorem DrD.updo {H : Hp} {d w c p : Addr} {o : HO} {ws cs : List Int} {rest turn : Int} (h : DrD H d w c ws cs rest turn) (n1 : p ≠ d) (n2 : p ≠ w) (n3 : p ≠ c) : DrD (upd H p o) d w c ws cs rest turn :=
  ⟨by rw [upd_ne (Ne.symm n1)]; exact h.hd, by rw [upd_ne (Ne.symm n2)]; exact h.hw, by rw [upd_ne (Ne.symm n3)]; exact h.hc, h.wc, h.wl, h.wn, h.cl, h.rn, h.tn⟩
theorem DrD.same {H H' : Hp} {d w c : Addr} {ws cs : List Int} {rest turn : Int} (h : DrD H d w c ws cs rest turn) (s : Same H H') : DrD H' d w c ws cs rest turn :=
  ⟨s _ _ h.hd, s _ _ h.hw, s _ _ h.hc, h.wc, h.wl, h.wn, h.cl, h.rn, h.tn⟩
/-- a new object -/
theorem Dw.new {t : Nat} {H0 H : Hp} {d p : Addr} {o : HO} (h : Dw t H0 H d) (hp : H p = none) : Dw t (upd H0 p o) (upd H p o) d := by
  obtain ⟨s, w, c, ws, cs, rest, turn, h1, h2, h3, ht, D⟩ := h
  have n1 : d ≠ p := ne_of_none D.hd hp
  have n2 : w ≠ p := ne_of_none D.hw hp
  have n3 : c ≠ p := ne_of_none D.hc hp
  exact ⟨same_upd s p o, w, c, ws, cs, rest, turn, by rw [upd_ne n1]; exact h1, by rw [upd_ne n2]; exact h2, by rw [upd_ne n3]; exact h3, ht, D.updo n1.symm n2.symm n3.symm⟩
/-- an object that is seen is changed -/
theorem Dw.set {t : Nat} {H0 H : Hp} {d p : Addr} {o o' : HO} (h : Dw t H0 H d) (hp : H0 p = some o) : Dw t (upd H0 p o') (upd H p o') d := by
  obtain ⟨s, w, c, ws, cs, rest, turn, h1, h2, h3, ht, D⟩ := h
  have n1 : p ≠ d := ne_of_none hp h1
  have n2 : p ≠ w := ne_of_none hp h2
  have n3 : p ≠ c := ne_of_none hp h3
  exact ⟨same_upd s p o', w, c, ws, cs, rest, turn, by rw [upd_ne n1.symm]; exact h1, by rw [upd_ne n2.symm]; exact h2, by rw [upd_ne n3.symm]; exact h3, ht, D.updo n1 n2 n3⟩
/-- behind what only adds -/
theorem Dw.go {t : Nat} {H0 H H0' H' : Hp} {d : Addr} (h : Dw t H0 H d) (v : Vs H0 H H0' H') (s : Same H H') : Dw t H0' H' d := by
  obtain ⟨_, w, c, ws, cs, rest, turn, h1, h2, h3, ht, D⟩ := h
  have f : ∀ {b : Addr} {o : HO}, H0 b = none → H b = some o → H0' b = none := fun {b o} e e2 => by
    cases q : H0' b with
    | none => rfl
    | some u =>
      rcases v.old b u q with z | z
      · rw [e] at z; cases z
      · rw [e2] at z; cases z
  exact ⟨v.sub, w, c, ws, cs, rest, turn, f h1 D.hd, f h2 D.hw, f h3 D.hc, ht, D.same s⟩
/-- less is seen -/
theorem Dw.less {t : Nat} {H0 H1 H : Hp} {d : Addr} (h : Dw t H0 H d) (s : Same H1 H0) : Dw t H1 H d := by
  obtain ⟨s0, w, c, ws, cs, rest, turn, h1, h2, h3, ht, D⟩ := h
  exact ⟨s.trans s0, w, c, ws, cs, rest, turn, s.free h1, s.free h2, s.free h3, ht, D⟩

/-- how many draws at most -/
abbrev T40 : Nat := 1099511627776
theorem dget_wide {H : Hp} {d w c : Addr} {r t : Int} (h : H d = some (.dK (drK w c r t))) : DGet H d (.str "wide") (some (.ref w)) := by
  have := DGet.k (k := kWide) h
  rw [dr_wide] at this
  exact this
theorem dget_cells {H : Hp} {d w c : Addr} {r t : Int} (h : H d = some (.dK (drK w c r t))) : DGet H d (.str "cells") (some (.ref c)) := by
  have := DGet.k (k := kCells) h
  rw [dr_cells] at this
  exact this
theorem dget_rest {H : Hp} {d w c : Addr} {r t : Int} (h : H d = some (.dK (drK w c r t))) : DGet H d (.str "rest") (some (.int r)) := by
  have := DGet.k (k := kRest) h
  rw [dr_rest] at this
  exact this
theorem dget_turn {H : Hp} {d w c : Addr} {r t : Int} (h : H d = some (.dK (drK w c r t))) : DGet H d (.str "turn") (some (.int t)) := by
  have := DGet.k (k := kTurn) h
  rw [dr_turn] at this
  exact this
theorem dput_rest {H : Hp} {d w c : Addr} {r t : Int} (x : Int) (h : H d = some (.dK (drK w c r t))) : DPut H d (.str "rest") (.int x) (upd H d (.dK (drK w c x t))) := by
  have := DPut.k (k := kRest) (v := .int x) h (by rw [sizeLine_eq]; exact (by decide : 4 < 16777216))
  rw [dr_putRest] at this
  exact this
theorem dput_turn {H : Hp} {d w c : Addr} {r t : Int} (x : Int) (h : H d = some (.dK (drK w c r t))) : DPut H d (.str "turn") (.int x) (upd H d (.dK (drK w c r x))) := by
  have := DPut.k (k := kTurn) (v := .int x) h (by rw [sizeLine_eq]; exact (by decide : 4 < 16777216))
  rw [dr_putTurn] at this
  exact this
theorem DrD.ne_dw {H : Hp} {d w c : Addr} {ws cs : List Int} {rest turn : Int} (h : DrD H d w c ws cs rest turn) : d ≠ w := ne_of h.hd h.hw (by intro z; cases z)
theorem DrD.ne_dc {H : Hp} {d w c : Addr} {ws cs : List Int} {rest turn : Int} (h : DrD H d w c ws cs rest turn) : d ≠ c := ne_of h.hd h.hc (by intro z; cases z)
theorem DrD.setD {H : Hp} {d w c : Addr} {ws cs : List Int} {rest turn r2 t2 : Int} (h : DrD H d w c ws cs rest turn) (h1 : 0 ≤ r2) (h2 : 0 ≤ t2) : DrD (upd H d (.dK (drK w c r2 t2))) d w c ws cs r2 t2 :=
  ⟨upd_same, by rw [upd_ne h.ne_dw.symm]; exact h.hw, by rw [upd_ne h.ne_dc.symm]; exact h.hc, h.wc, h.wl, h.wn, h.cl, h1, h2⟩
def spBegun (K : PySem.W.Frag) : Sp := fun vs H Q _ => ∃ (a : Addr) (ns : List Int), vs = [.ref a] ∧ SqL K H a (ns.map V.int) ∧ ns.length ≤ 63 ∧ ∀ (H' : Hp) (d : Addr), Dw 0 H H' d → H d = none → Q (.ref d) H'
def spMixed : Sp := fun vs H Q _ => ∃ (d w c : Addr) (ws cs : List Int) (rest turn : Int), vs = [.ref d] ∧ turn < T40 ∧ DrD H d w c ws cs rest turn ∧
  ∀ (n : Int) (H' : Hp), 0 ≤ n → DrD H' d w c ws cs rest (turn + 1) → (∀ b o, H b = some o → b ≠ d → H' b = some o) → Q (.int n) H'
def spTake : Sp := fun vs H Q _ => ∃ (t : Nat) (H0 : Hp) (d : Addr) (n : Int), vs = [.ref d, .int n] ∧ Dw t H0 H d ∧ t < T40 ∧ 0 < n ∧ n < 1152921504606846976 ∧
  ∀ (k : Int) (H' : Hp), 0 ≤ k → k < n → Dw (t + 1) H0 H' d → Q (.int k) H'
/-- what _law_pick picks from -/
inductive SomeV (K : PySem.W.Frag) (H : Hp) : V → List V → Prop where
  | lst {a : Addr} {xs : List V} (h : SqL K H a xs) : SomeV K H (.ref a) xs
  | tup {a : Addr} {xs : List V} (h : SqT K H a xs) : SomeV K H (.ref a) xs
  | str {z : Str} (h : z.length ≤ 100000) : SomeV K H (.str z) (z.cps.toList.map fun c => V.str ⟨#[c]⟩)
def spPick (K : PySem.W.Frag) : Sp := fun vs H Q _ => ∃ (t : Nat) (H0 : Hp) (d : Addr) (x : V) (xs : List V), vs = [.ref d, x] ∧ Dw t H0 H d ∧ t < T40 ∧ SomeV K H0 x xs ∧ 0 < xs.length ∧ xs.length < 100000 ∧
  ∀ (v : V) (H' : Hp), v ∈ xs → Dw (t + 1) H0 H' d → Q v H'
/-! ## own exceptions whose __init__ begins with super().__init__(text) -/
theorem lookup_app {α : Type} {x : Str} : ∀ {l m : List (Str × α)}, (l ++ m).lookup x = match l.lookup x with | some v => some v | none => m.lookup x
  | [], m => rfl
  | (y, v) :: l, m => by
    show (match x == y with | true => some v | false => (l ++ m).lookup x) = match (match x == y with | true => some v | false => l.lookup x) with | some v => some v | none => m.lookup x
    cases (x == y) with
    | true => rfl
    | false => exact lookup_app
theorem lookup_out {α : Type} {x : Str} : ∀ {l : List (Str × α)}, (∀ v, (x, v) ∉ l) → l.lookup x = none
  | [], _ => rfl
  | (y, v) :: l, h => by
    have e : (x == y) = false := by
      apply Bool.eq_false_iff.mpr
      intro q
      exact h v (by rw [eq_of_beq q]; exact List.mem_cons_self ..)
    show (match x == y with | true => some v | false => l.lookup x) = none
    rw [e]
    exact lookup_out fun w hw => h w (List.mem_cons_of_mem _ hw)
theorem rev_lookup {x : Str} {u : Value} : ∀ {ps : List Str} {us : List Value} {i : Nat}, ps.Nodup → ps[i]? = some x → us[i]? = some u → (ps.zip us).reverse.lookup x = some u
  | [], _, _, _, h, _ => by simp at h
  | _ :: _, [], _, _, _, h => by simp at h
  | p :: ps, v :: us, 0, nd, h1, h2 => by
    simp at h1 h2
    subst h1 h2
    show ((p, v) :: ps.zip us).reverse.lookup p = some v
    rw [List.reverse_cons, lookup_app, lookup_out]
    · show (match p == p with | true => some v | false => _) = some v
      rw [beq_self_eq_true]
    · intro w hw
      exact (List.nodup_cons.mp nd).1 (List.of_mem_zip (List.mem_reverse.mp hw)).1
  | p :: ps, v :: us, i + 1, nd, h1, h2 => by
    show ((p, v) :: ps.zip us).reverse.lookup x = some u
    rw [List.reverse_cons, lookup_app, rev_lookup (i := i) (List.nodup_cons.mp nd).2 (by simpa using h1) (by simpa using h2)]

/-- the context of such an __init__ behind its first statement -/
abbrev supEnv (qual : Str) (scope : Scope) (L f : Addr) (cd : Value) (cc : Addr) : Env := PySem.W.ksEnv qual scope L f cd cc
def cxS (CX : CXT) (P : Program) (w : World) (K : PySem.W.Frag) (mg : Str → Option Value) (base : Heap) (N : List Str) (qual : Str) (scope : Scope) (f : Addr) (cd : Value) (cc : Addr) (A : Around) (outer : List Env) (s : Shared) (H : Hp) (E : XK) : Cx where
  prog := P
  w := w
  K := K
  mg := mg
  base := base
  A := A.deeper (supEnv qual scope s.heap.objs.size f cd cc)
  N := N
  s_0 := s
  H_0 := H
  env := supEnv qual scope s.heap.objs.size f cd cc
  outer := outer
  stack := supEnv qual scope s.heap.objs.size f cd cc :: outer
  ex := []
  calm := true
  fn := fun _ => false
  pn := []
  xe := fun e s' => wpAny (model P w) (A.deeper (supEnv qual scope s.heap.objs.size f cd cc)) (leaving (supEnv qual scope s.heap.objs.size f cd cc) e) (fun _ s'' => CX outer H s E e s'') (fun e' s'' => CX outer H s E e' s'') s'
structure ScopeS (N : List Str) (sc : Scope) : Prop where
  kind : sc.kind = .function
  co : sc.isCoroutine = false
  gen : sc.isGenerator = false
  nd : N.Nodup
  par : ∀ x ∈ N, sc.names.lookup x = some .local
  free : ∀ y ∈ sc.names, y.2 ≠ .cell ∧ (y.2 = .free → y.1 = "__class__")
  cls : sc.names.lookup ("__class__" : Str) = some .free
  sup : sc.names.lookup ("super" : Str) = some .globalImplicit
section
variable {P : Program} {w : World} {K : PySem.W.Frag} {mg : Str → Option Value} {base : Heap}
theorem invS_start {CX : CXT} {N : List Str} {qual : Str} {scope : Scope} {f cc : Addr} {cd : Value} {A : Around} {outer : List Env} {s : Shared} {H : Hp} {E : XK} {us : List Value} {vs : List V} {h0 : Heap} {tk : Nat} {oc : Obj} {cv : Option Value}
    (S : ScopeS N scope) (hd : A.handled = none) (e0 : Env0 P w K mg base A outer s H) (hl : vs.length = N.length) (r : Vals vs us) (hcc : base.get? cc = some oc) (hcd : oc.data = .cell cv)
    (hns : h0.Ns s.heap.objs.size fun x => (N.zip us).reverse.lookup x) (hk : ∀ b o, s.heap.get? b = some o → h0.get? b = some o) :
    Inv (cxS CX P w K mg base N qual scope f cd cc A outer s H E) [] (vs.map some) H { s with heap := h0, toks := tk } := by
  have noA : ∀ b : Addr, b ∉ (cxS CX P w K mg base N qual scope f cd cc A outer s H E).ex := fun b z => absurd (show b ∈ ([] : List Addr) from z) (by simp)
  have one : ∀ {y : Str} {c : Addr}, List.lookup y [(("__class__" : Str), cc)] = some c → y = "__class__" ∧ c = cc := fun {y c} h => by
    have h2 : (match y == ("__class__" : Str) with | true => some cc | false => none) = some c := h
    cases q : (y == ("__class__" : Str)) with
    | true =>
      rw [q] at h2
      exact ⟨eq_of_beq q, (Option.some.inj h2).symm⟩
    | false =>
      rw [q] at h2
      cases h2
  have has : List.lookup ("__class__" : Str) [(("__class__" : Str), cc)] = some cc := by
    show (match ("__class__" : Str) == ("__class__" : Str) with | true => some cc | false => none) = some cc
    rw [beq_self_eq_true]
  refine ⟨⟨e0.mod, S.kind, rfl, rfl, Nat.le_refl _, fun y z c h1 h2 => ?_, fun y hy => ?_, fun y c z _ => ?_, fun _ => hd, Around.frames_deeper e0.frames, .inr ⟨rfl, rfl⟩, fun b z => absurd z (noA b), e0.bs, e0.bsz, fun b _ _ => noA b, fun b z => absurd z (noA b), e0.funs, e0.frf⟩,
    rfl, e0.bare, Un.kept hk, ⟨_, hns, fun i y v h1 h2 h3 => ?_⟩, fun y c h => ?_, e0.hok.fresh (Nat.le_refl _), fun y c h => ?_, fun p hp => absurd (show p ∈ ([] : List (Addr × Obj)) from hp) (by simp), e0.hok.kept hk, ?_⟩
  · rw [(one h1).1, (one h2).1]
  · have hy : scope.names.lookup y = some .cell ∨ scope.names.lookup y = some .free := hy
    rcases hy with hy | hy
    · exact absurd rfl (S.free _ (PySem.mem_of_lookup hy)).1
    · have e : y = "__class__" := (S.free _ (PySem.mem_of_lookup hy)).2 rfl
      exact ⟨cc, by rw [e]; exact has⟩
  · have z : false = true := z
    cases z
  · have h1 : N[i]? = some y := h1
    rw [List.getElem?_map] at h2
    cases e : vs[i]? with
    | none => rw [e] at h2; cases h2
    | some a =>
      rw [e] at h2
      cases h2
      obtain ⟨u, hu, rv⟩ := r.get e
      exact ⟨u, rv, .inl ⟨S.par y (List.mem_of_getElem? h1), rev_lookup S.nd h1 hu⟩⟩
  · rw [(one h).2]
    exact ⟨cv, oc, hk _ _ (e0.bs _ _ hcc).1, hcd⟩
  · rw [(one h).2]
    exact (e0.bs _ _ hcc).2
  · show (vs.map some).length = N.length
    rw [List.length_map, hl]

/-- the written part about such a class and its __init__ -/
structure SupF (P : Program) (K : PySem.W.Frag) (mg : Str → Option Value) (C f cc cda : Addr) (qual : Str) (params : Arguments) (body : List Stmt) (scope : Scope) (fd : FuncData) : Prop where
  ex : ∃ (oc : Value) (od : Option Addr) (dV kV doc pm ct : Value) (an : Option Addr) (osl : Array (Option Value)),
    fd = PySem.W.ksFn "__init__" qual params body scope dV kV doc pm an (.ref cda) ct cc ∧ K.lookup f = some ⟨oc, od, .func fd, osl⟩
  cd : PySem.W.codeIn K (.ref cda) qual = true
  co : ∃ (oc : Obj) (vs : Array Value) (file : Str) (tf : Tok), K.lookup cda = some oc ∧ oc.data = .fields vs ∧ vs[2]? = some (.str file tf) ∧ ((P.main.file : Str) == file) = true
  cell : ∃ oc : Obj, K.lookup cc = some oc ∧ oc.data = .cell (some (.ref C))
  top : (P.main.scope.names.lookup ("super" : Str)).isSome = false
  sub : PySem.W.mroIn K C (.ref C) = some true
  opq : PySem.W.nsIn K cStatics "thirdparty.any" = some none
  al : ∃ cd, PySem.W.clsIn K C = some cd ∧ PySem.W.alongIn K "__init__" ((cd.mro.dropWhile (· != .ref C)).drop 1) = some (some (.builtin "ValueError.__init__"))
  ve : PySem.W.subIn K (.ref C) (.type "ValueError") = some true
  su : mg "super" = none
/-- the first statement -/
abbrev supCall (p0 p1 p2 p3 p4 : Pos) (txt : Str) (kd : Nat) : Expr := .Call (.Attribute (.Call (.Name "super" p0) [] [] p1) "__init__" p2) [.Constant (.str txt) kd p3] [] p4
/-- what the evaluator's own text says there, by rfl at a written scope -/
structure SupE (qual : Str) (scope : Scope) (p0 p1 p2 p3 p4 p5 : Pos) (txt : Str) (kd : Nat) : Prop where
  hi : ∀ L f cd cc, interactive (supEnv qual scope L f cd cc) = false
  hs : ∀ L f cd cc, swapsWith (supCall p0 p1 p2 p3 p4 txt kd) none p5.line (supEnv qual scope L f cd cc) = pure false
  he : ∃ pl : Sem Bool, ∀ L f cd cc, eval (supCall p0 p1 p2 p3 p4 txt kd) (supEnv qual scope L f cd cc) = (do
      let ov ← attributeBase (.Call (.Name "super" p0) [] [] p1) "__init__" (supEnv qual scope L f cd cc) (eval (.Call (.Name "super" p0) [] [] p1) (supEnv qual scope L f cd cc))
      standAt p2.atName
      let (g, first) ← holding [ov] (getMethod ov "__init__" pl)
      callWith p4 g first (backTo p4 (starEach [.Constant (.str txt) kd p3] (supEnv qual scope L f cd cc))) [])
theorem super_init {CX : CXT} {N : List Str} {qual : Str} {params : Arguments} {body : List Stmt} {scope : Scope} {C f cc cda e : Addr} {fd : FuncData} {A : Around} {outer : List Env} {s : Shared} {H : Hp} {E : XK} {s0 : Shared} {H0 : Hp} {σ : St} {p0 p1 p2 p3 p4 p5 : Pos} {txt : Str} {kd : Nat} {ar : Arg}
    (F : SupF P K mg C f cc cda qual params body scope fd) (T : OexC K C) (S : ScopeS N scope) (SE : SupE qual scope p0 p1 p2 p3 p4 p5 txt kd) (hhd : (params.posonlyargs ++ params.args).head? = some ar) (hN : N[0]? = some ar.arg)
    (I : Inv (cxS CX P w K mg base N qual scope f (.ref cda) cc A outer s0 H0 E) [] σ H s) (hσ : σ[0]? = some (some (.ref e))) (he : H e = some (exo e C none)) {Q : Flow → Shared → Prop} {EE : Value → Shared → Prop}
    (h : ∀ s', Inv (cxS CX P w K mg base N qual scope f (.ref cda) cc A outer s0 H0 E) [] σ H s' → Q .next s') :
    PySem.wpAt (model P w) (A.deeper (supEnv qual scope s0.heap.objs.size f (.ref cda) cc)) (.func body (supEnv qual scope s0.heap.objs.size f (.ref cda) cc))
      (exec (.Expr (supCall p0 p1 p2 p3 p4 txt kd) p5) (supEnv qual scope s0.heap.objs.size f (.ref cda) cc)) Q EE s := by
  obtain ⟨oc, od, dV, kV, doc, pm, ct, an, osl, rfl, lk⟩ := F.ex
  obtain ⟨co, vs, file, tf, lco, dco, vs2, hfile⟩ := F.co
  obtain ⟨cel, lcel, dcel⟩ := F.cell
  obtain ⟨cdC, hcl, hal⟩ := F.al
  have X := I.kIn
  obtain ⟨t1, ho⟩ := exo_at I.hok he
  obtain ⟨oD, hD1, hD2⟩ : ∃ oD, s.heap.get? C = some oD ∧ oD.data = .cls cdC := by
    unfold PySem.W.clsIn at hcl
    split at hcl
    · rename_i c d cd' sl hoo
      cases hcl
      exact ⟨_, X _ _ hoo, rfl⟩
    · cases hcl
  have eC : e ≠ C := fun z => by
    rw [z] at ho
    rw [ho] at hD1
    cases hD1
    cases hD2
  obtain ⟨m, hns, hloc⟩ := I.loc
  have harl : scope.names.lookup ar.arg = some .local := S.par _ (List.mem_of_getElem? hN)
  obtain ⟨u, ru, lu⟩ := hloc 0 ar.arg (.ref e) hN hσ (.inl harl)
  cases (show u = Value.ref e from ru)
  have hm : m ar.arg = some (.ref e) := by
    rcases lu with ⟨_, z⟩ | ⟨z, _⟩
    · exact z
    · have z : scope.names.lookup ar.arg = some .cell ∨ scope.names.lookup ar.arg = some .free := z
      rw [harl] at z
      rcases z with z | z <;> cases z
  have J : PySem.W.InstAt s.heap e ({ cls := .ref C, dict := none, data := .fields #[.ref t1, .none, .none, .none, .bool false, .none] } : Obj) C none := ⟨ho, rfl, rfl, trivial⟩
  obtain ⟨pl, hev⟩ := SE.he
  refine PySem.ks_wpAt_Expr_any ?_ (SE.hi _ _ _ _) (SE.hs _ _ _ _)
  refine PySem.ks_wpAt_MethodCall (pl := pl) ?_ (hev _ _ _ _)
  refine PySem.ks_wpAt_super_base (env := supEnv qual scope s0.heap.objs.size f (.ref cda) cc) S.sup S.cls (by decide +kernel) rfl (X _ _ lk) rfl hhd rfl (X _ _ lco) dco vs2 hfile F.top ?_
  obtain ⟨mb, mb1, mb2⟩ := I.mod.blt
  refine PySem.W.ks_loadName_global S.kind S.sup (Calls.loadGlobal_builtin (env := supEnv qual scope s0.heap.objs.size f (.ref cda) cc) (I.mod.glob.keeps I.bk) F.su (mb1.keeps I.bk) ((mb2 _ (by decide)).trans (show bootBuiltins "super" = some (.type "super") by decide +kernel)) ⟨rfl, ?_⟩)
  refine wpAny_loadName_free S.kind S.cls rfl ⟨_, X _ _ lcel, dcel⟩ ?_
  refine wpAny_loadName_local S.kind harl hns hm ?_
  refine ks_wpAny_isType_cls hD1 hD2 ⟨rfl, ?_⟩
  obtain ⟨hp, g, d, t, os⟩ := s
  refine ks_wpAny_call_super hD1 hD2 ho rfl (fun c z => by cases z) (PySem.W.looks_mroIn X F.sub) (fun h' es k => ?_)
  have I1 : Inv (cxS CX P w K mg base N qual scope f (.ref cda) cc A outer s0 H0 E) [] σ H ⟨h', g, d, t, os⟩ := I.kept (t' := t) k
  have X1 := I1.kIn
  refine PySem.W.kxs_getMethod PySem.W.kxs_ValueError es (PySem.W.looks_opaque X1 F.opq) (l₀ := cdC.mro) (fun A Q E s k q => wpAny_bind ((PySem.W.looks_clsIn X1 hcl) A _ E s k (wpAny_pure q))) rfl X1 hal ((show PySem.W.InstAt h' e _ C none from ⟨k _ _ ho, rfl, rfl, trivial⟩).type.andThen (PySem.W.looks_subIn X1 F.ve)) eC (by decide +kernel) ?_
  have es2 : (h'.push (PySem.W.kxs_mw "ValueError.__init__" e)).get? h'.objs.size = some (PySem.W.kxs_mw "ValueError.__init__" e) := Heap.get?_push_at rfl rfl
  generalize h'.objs.size = u at es2
  have k2 : ∀ b o, h'.get? b = some o → (h'.push (PySem.W.kxs_mw "ValueError.__init__" e)).get? b = some o := fun b o q => Heap.get?_push_of_some _ q
  generalize h'.push (PySem.W.kxs_mw "ValueError.__init__" e) = h2 at es2 k2
  have I2 : Inv (cxS CX P w K mg base N qual scope f (.ref cda) cc A outer s0 H0 E) [] σ H ⟨h2, g, d, t + 1, os⟩ := I1.kept (t' := t + 1) k2
  have hee : ∀ env : Env, starEach [.Constant (.str txt) kd p3] env = (false, eval (.Constant (.str txt) kd p3) env) :: starEach [] env := fun env => rfl
  refine PySem.W.kxs_callWith (i := "ValueError.__init__") (x := e) (by rw [hee]; rfl) ?_
  rw [hee]
  refine Calls.evalArgs_plain (Calls.spliced_cons (Calls.Constant_str (pos := p3) (k := kd) (Calls.spliced_nil ?_)))
  refine ⟨es2, ?_⟩
  have he2 := k2 _ _ (k _ _ ho)
  obtain ⟨nm, q, N', bs, bm, sn, sub, ab, col, dd, k0, k1, k2', k3, k5, hC, hbm⟩ := T.cls
  have hC2 := I2.kIn _ _ hC
  refine wpAny_call (codeAny_of_tree ?_)
  show wpAny _ (A.deeper (supEnv qual scope s0.heap.objs.size f (.ref cda) cc)).in1 (callAny (.ref u) ⟨[.str txt _], []⟩) _ _ _
  simp only [callAny]
  refine wpAny_bind (wpAny_load es2 ?_)
  simp only [PySem.W.kxs_mw, show (Value.type "method-wrapper" == Value.type "method" || Value.type "method-wrapper" == Value.type "builtin_function_or_method" || Value.type "method-wrapper" == Value.type "method-wrapper") = true by decide, if_true]
  refine PySem.W.KFB.if_so (by decide) ?_
  refine wpAny_bind (PySem.W.check_bound_init PySem.F.excBase_ValueError.toExcCallFacts hC2 he2 rfl ?_)
  refine wpAny_bind (wpAny_pure (wpAny_pure ?_))
  refine ⟨plainId_quiet PySem.F.excBase_ValueError.init.plain _, codeAny_builtin PySem.F.excBase_ValueError.initEntry ?_⟩
  refine PySem.W.exc_init_tree (cls := .ref C) (t0 := t1) (dv := none) (c2 := .none) (c3 := .none) (b4 := .bool false) he2 (by rw [sizeLine_eq]; exact (by decide : 1 ≤ 16777216)) fun h3 k3 hx _ => ?_
  have I3 : Inv (cxS CX P w K mg base N qual scope f (.ref cda) cc A outer s0 H0 E) [] σ (upd H e (exo e C none)) ⟨h3, g, d, t + 1 + 1, os⟩ := I2.write (t' := t + 1 + 1) (x := e) (e := e) (o := exo e C none) (by rw [he]; exact True.intro) (.inl rfl) k3 ⟨_, hx⟩ (exo_ok hx)
  have eu : upd H e (exo e C none) = H := by
    funext b
    by_cases hb : b = e
    · rw [hb, upd_same, he]
    · rw [upd_ne hb]
  rw [eu] at I3
  exact h _ I3
end
section
variable {P : Program} {w : World} {K : PySem.W.Frag} {mg : Str → Option Value} {base : Heap}
/-- THE RULE for such an __init__: behind its first statement, by the rest of its body -/
theorem fn_super {CX : CXT} {k : Nat} {sp : Sp} {N : List Str} {qual : Str} {params : Arguments} {rest : List Stmt} {scope : Scope} {C f cc cda : Addr} {fd : FuncData} {p0 p1 p2 p3 p4 p5 : Pos} {txt : Str} {kd : Nat} {ar : Arg}
    (F : SupF P K mg C f cc cda qual params (.Expr (supCall p0 p1 p2 p3 p4 txt kd) p5 :: rest) scope fd) (T : OexC K C) (S : ScopeS N scope) (SE : SupE qual scope p0 p1 p2 p3 p4 p5 txt kd) (hhd : (params.posonlyargs ++ params.args).head? = some ar) (hN : N[0]? = some ar.arg)
    (len : ∀ vs H Q E, sp vs H Q E → vs.length = N.length) (first : ∀ vs H Q E, sp vs H Q E → ∃ e r, vs = .ref e :: r ∧ H e = some (exo e C none))
    (hbody : ∀ (A : Around) (outer : List Env) (s : Shared) (H : Hp) (vs : List V) (Q : VK) (E : XK), sp vs H Q E →
      ∃ t, PSs (cxS CX P w K mg base N qual scope f (.ref cda) cc A outer s H E) rest t ∧ t { nx := fun _ H' => Q .non H', rt := Q } (vs.map some) H) : FnOk P w K mg base CX (k + 1) f fd N sp := by
  refine ⟨len, fun A outer s H args us vs Q E hr e0 hb r hsp => ?_⟩
  have hl := len _ _ _ _ hsp
  obtain ⟨e, rv, rfl, he⟩ := first _ _ _ _ hsp
  have F' := F
  obtain ⟨oc, od, dV, kV, doc, pm, ct, an, osl, rfl, lk⟩ := F.ex
  obtain ⟨oc', lcel, dcel⟩ := F.cell
  have KX : K.In s.heap := e0.mod.kin.keeps fun b o e => (e0.bs b o e).1
  have lim : s.heap.NoLimit := e0.mod.nolimit.keeps fun b o e => (e0.bs b o e).1
  have hloc : ∀ x ∈ N.zip us, scope.names.lookup x.1 = some .local := fun ⟨n, v⟩ hy => S.par n (List.of_mem_zip hy).1
  refine PySem.ks_codeAny_call_defAt (binds := N.zip us) hr.depth (KX _ _ lk) rfl lim (PySem.W.codeRec_of KX F.cd) rfl hb (fun x hx => (S.free x hx).1) hloc (fun h0 hns hk => ?_) S.co S.gen S.kind
  have I := invS_start (CX := CX) (P := P) (w := w) (E := E) (f := f) (cd := .ref cda) (tk := s.toks + (N.zip us).length) (qual := qual) S hr.hd e0 hl r (e0.mod.kin _ _ lcel) dcel hns hk
  obtain ⟨t, ht, hq⟩ := hbody A outer s H _ Q E hsp
  refine PySem.ks_wpAt_execs_cons (super_init F' T S SE hhd hN I rfl he fun s' I' => wpAt_of_wpAny ?_)
  refine wpAny_mono (ht.run [] s' _ H _ I' hq) (fun fl s' hs => ?_) fun e s' hs => hs
  have fin : ∀ {σ' : St} {H' : Hp} {v : V} {u : Value}, Inv (cxS CX P w K mg base N qual scope f (.ref cda) cc A outer s H E) [] σ' H' s' → RelV v u → Q v H' → CE outer P w H s Q u s' :=
    fun {σ' H' v u} J rv q => ⟨v, H', J.os, J.bare, J.base, J.hok, rv, q⟩
  cases fl with
  | ret u =>
    obtain ⟨v, σ', H', J, rv, q⟩ := hs
    exact fin J rv q
  | next =>
    obtain ⟨σ', H', J, q⟩ := hs
    exact fin (v := V.non) (u := Value.none) J rfl q
  | brk =>
    obtain ⟨_, _, _, q⟩ := hs
    exact False.elim q
  | cont =>
    obtain ⟨_, _, _, q⟩ := hs
    exact False.elim q
end
/-- C(e, ..) as a value, C an own exception whose __init__ keeps sp -/
def tMkV (C : Addr) (sp : Sp) (E : XK) (ta : TA) : TE := fun σ H Q => ta σ H fun vs H1 => vs.length ≤ 1000 ∧ ∀ a, H1 a = none → sp (.ref a :: vs) (upd H1 a (exo a C none)) (fun v H2 => v = .non ∧ Q (.ref a) H2) E
theorem pe_mkS {X : Cx} {e : Expr} {es : List Expr} {ta : TA} {p pos : Pos} {CX : CXT} {x : Str} {C fI : Addr} {k : Nat} {fd : FuncData} {ps : List Str} {sp : Sp} {E : XK} (T : OexC X.K C) (iC : PySem.W.findIn X.K (.ref C) "__init__" = some (some (.ref fI))) (tI : PySem.W.typeIn X.K (.ref fI) = some (.type "function"))
    (F1 : FnOk X.prog X.w X.K X.mg X.base CX k fI fd ps sp) (hr : Room (k + 1) X.A) (hb : Binds X.K fd ps []) (hx : Passes CX X E) (hg : Gl X x) (hm : X.mg x = some (.ref C)) (ha : PA X (e :: es) ta)
    (hdb : (x == ("__debug__" : Str)) = false := by decide) (he : starEach (e :: es) X.env = (false, eval e X.env) :: starEach es X.env := by rfl) (hpl : (backTo pos (starEach es X.env)).any (·.1) = false := by rfl) :
    PE X (.Call (.Name x p) (e :: es) [] pos) (tMkV C sp E ta) := by
  refine ⟨fun pins s σ H Q I h => ?_⟩
  obtain ⟨nm, q, N, bs, bm, sn, sub, ab, col, dd, k0, k1, k2, k3, k5, hC, hbm⟩ := T.cls
  refine wpAny_Call_Name_kw (ld_glob I hg hm ?_ hdb)
  refine PySem.W.callWith_K (h₀ := X.base) I.ok.mod.kin T.kC (thn (ha.run pos pins s σ H _ I h) fun us s1 ⟨vs, H1, I1, r1, hz, q1⟩ => ⟨I1.kIn, ?_⟩) he hpl
  show wpAny _ _ (call (.ref C) us) _ _ _
  obtain ⟨hp, g, dr, tk, os⟩ := s1
  have hsz : hp.objs.size ≤ hp.objs.size + 1 := Nat.le_succ _
  have hn : H1 (hp.objs.size + 1) = none := I1.hok.fresh hsz
  have hq := q1 (hp.objs.size + 1) hn
  have kk : ∀ b o, hp.get? b = some o → ((hp.push (PySem.W.kdv_tup us)).push (PySem.HandSPX.excO C hp.objs.size)).get? b = some o := fun b o e => Heap.get?_push_of_some _ (Heap.get?_push_of_some _ e)
  have hget : ((hp.push (PySem.W.kdv_tup us)).push (PySem.HandSPX.excO C hp.objs.size)).get? (hp.objs.size + 1) = some (PySem.HandSPX.excO C hp.objs.size) := by heap_get
  have I2 : Inv X pins σ (upd H1 (hp.objs.size + 1) (exo (hp.objs.size + 1) C none)) ⟨(hp.push (PySem.W.kdv_tup us)).push (PySem.HandSPX.excO C hp.objs.size), g, dr, tk, os⟩ :=
    I1.laid (t' := tk) (a := hp.objs.size + 1) (o := exo (hp.objs.size + 1) C none) (h' := (hp.push (PySem.W.kdv_tup us)).push (PySem.HandSPX.excO C hp.objs.size)) kk hsz (exo_ok hget)
  have r2 : Vals (V.ref (hp.objs.size + 1) :: vs) (Value.ref (hp.objs.size + 1) :: us) := .cons rfl r1
  have hl : (Value.ref (hp.objs.size + 1) :: us).length = ps.length := by
    have e := r2.length
    rw [F1.len _ _ _ _ hq] at e
    exact e.symm
  have hus : us.length ≤ sizeLine := by
    rw [← Paired.length r1, sizeLine_eq]
    omega
  have hb' := hb ⟨(hp.push (PySem.W.kdv_tup us)).push (PySem.HandSPX.excO C hp.objs.size), g, dr, tk, os⟩ (Value.ref (hp.objs.size + 1) :: us) I2.kIn (by rw [List.append_nil]; exact hl)
  rw [List.append_nil] at hb'
  refine wpAny_call (PySem.HandSPX.call_own PySem.F.excBase_ValueError (fun Y => PySem.HandSPX.refsVE_contains Y bm hbm) (I1.kIn _ _ hC) (PySem.W.looks_findIn I1.kIn iC) (fun self => PySem.W.bind_fn I1.kIn self tI) hus
    (codeAny_mono (F1.run _ X.stack _ _ ⟨Value.ref (hp.objs.size + 1) :: us, []⟩ (Value.ref (hp.objs.size + 1) :: us) _ _ E (hr.make C us []) (I2.env0.make C us []) hb' r2 hq) fun r s' hq' => ?_))
  cases r with
  | error er => exact hx pins σ _ _ er s' I2 hq'
  | ok fl =>
    cases fl with
    | ret u =>
      obtain ⟨v, H', I3, rv, ev, q3⟩ := I2.after hq'
      subst ev
      exact ⟨rv, V.ref (hp.objs.size + 1), H', I3, rfl, q3⟩
    | next => exact False.elim hq'
    | brk => exact False.elim hq'
    | cont => exact False.elim hq'
/-! ## an exception that a clause has caught stays held -/
/-- an exception of the class cls, its dict d, stands at a -/
def ExH (cls : Value) (a : Addr) (d : Option Addr) : HO := .ext fun h => ∃ (oe : Obj) (vs : Array Value), h.get? a = some oe ∧ Zc cls d oe ∧ oe.data = .fields vs
theorem exH_ok {P : Program} {w : World} {H : Hp} {h : Heap} {a : Addr} {cls : Value} {d : Option Addr} {oe : Obj} {vs : Array Value} (e : h.get? a = some oe) (z : Zc cls d oe) (dd : oe.data = .fields vs) : ObjOk P w H h a (ExH cls a d) :=
  ⟨⟨oe, vs, e, z, dd⟩, ⟨oe, e⟩, fun _ _ ⟨o, v, q, r⟩ k => ⟨o, v, k o q, r⟩⟩
section
variable {X : Cx} {pins : List (Addr × Obj)} {σ : L2.St} {H : Hp} {s : Shared}
theorem inv_track {a : Addr} {o : HO} {ob : Obj} (I : Inv X pins σ H s) (n0 : X.s_0.heap.get? a = none) (na : H a = none) (nL : a ≠ X.env.locals) (ha : s.heap.get? a = some ob) (nc : ∀ v, ob.data ≠ .cell v)
    (np : ∀ p ∈ X.pn ++ pins, p.1 ≠ a) (ok : ObjOk X.prog X.w (upd H a o) s.heap a o) : Inv X pins σ (upd H a o) s := by
  have old : ∀ {b : Addr} {u : Obj}, X.s_0.heap.get? b = some u → b ≠ a := fun {b u} e z => by
    rw [z, n0] at e
    cases e
  have nec : ∀ x c, X.env.cells.lookup x = some c → c ≠ a := fun x c e z => by
    obtain ⟨v, oc, hoc, hd⟩ := I.cell x c e
    rw [z, ha] at hoc
    cases hoc
    exact nc v hd
  refine ⟨I.ok, I.os, I.bare, ⟨I.base.keep, I.base.slot, fun b u e n x => ?_, I.base.there, fun b xs e => ?_, fun b u v e => ?_, fun b ps e => ?_⟩, I.loc, I.cell, ?_, fun x c e => ?_, fun p hp => ?_, fun b u e => ?_, I.len⟩
  · rw [upd_ne (old e)]
    exact I.base.free b u e n x
  · rw [upd_ne (ne_of_none (I.base.tups b xs e) na)]
    exact I.base.tups b xs e
  · rw [upd_ne (ne_of_none (I.base.frzs b u v e) na)]
    exact I.base.frzs b u v e
  · obtain ⟨m, q⟩ := I.base.tbls b ps e
    exact ⟨m, by rw [upd_ne (ne_of_none q na)]; exact q⟩
  · rw [upd_ne nL.symm]
    exact I.free
  · rw [upd_ne (nec x c e)]
    exact I.freeC x c e
  · obtain ⟨h1, h2, h3⟩ := I.pin p hp
    exact ⟨h1, by rw [upd_ne (np p hp)]; exact h2, h3⟩
  · by_cases hb : b = a
    · subst hb
      rw [upd_same] at e
      cases e
      exact ok
    · rw [upd_ne hb] at e
      exact (I.hok b u e).stay (fun c v _ q => q) (fun c q => by rw [upd_ne (ne_of_none q na)]; exact q) fun c xs q => by rw [upd_ne (ne_of_none q na)]; exact q
end
/-- what the clause 'except x as n' wishes, behind which the exception stays held -/
def wHeld (K : PySem.W.Frag) (c : Value) (i : Nat) (ts : Addr → Value → Option Addr → TS) (Wout : WX) (D : Ends) : WX := fun cls d σ H =>
  ∃ b, PySem.W.exmOne K cls c = some b ∧ (b = true → ∀ a, H a = none → ts a cls d
    { nx := fun σ' H' => D.nx (σ'.set i none) (upd H' a (ExH cls a d)), rt := fun v H' => D.rt v (upd H' a (ExH cls a d)), bk := fun σ' H' => D.bk (σ'.set i none) (upd H' a (ExH cls a d)), ct := fun σ' H' => D.ct (σ'.set i none) (upd H' a (ExH cls a d)) } (σ.set i (some (.ref a))) H) ∧
    (b = false → Wout cls d σ H)
section
variable {X : Cx} {x n : Str} {c : Value} {i : Nat} {body suite : List Stmt} {b₀ : Stmt} {np pos pos' : Pos} {tb : WX → TS} {ts : Addr → Value → Option Addr → TS} {Wout : WX}
theorem ps_try_held (hex : X.ex = []) (hs : X.stack = X.env :: X.outer) (hf : X.env.frame = some X.env.locals) (hN : X.N.Nodup) (hi : X.N[i]? = some n) (hln : X.env.kindOf n = some .local) (hc : Names X x c) (tk : Takes X Wout)
    (hb : ∀ (W : WX) (pn : List (Addr × Obj)) (xe : Value → Shared → Prop), Takes (X.tr pn xe) W → PassesOwn (model X.prog X.w) X.A X.env xe → PSs (X.tr pn xe) body (tb W))
    (hsu : ∀ (a : Addr) (oe : Obj) (cls : Value) (d : Option Addr) (pn : List (Addr × Obj)), Zc cls d oe → (∃ vs, oe.data = .fields vs) → PSs (X.suite a ((a, oe) :: pn)) (b₀ :: suite) (ts a cls d)) :
    PS X (.Try body [.ExceptHandler (some (.Name x np)) (some n) (b₀ :: suite) pos'] [] [] pos) (fun D σ H => tb (wHeld X.K c i ts Wout D) D σ H) := by
  refine ⟨fun pins s σ H D I hw => ?_⟩
  have ok := I.ok
  have frames1 : X.A.frames = some (X.env :: X.outer) := ok.frames.trans (congrArg some hs)
  refine wpAny_Try_except ?_
  refine wpAny_mono ((hb (wHeld X.K c i ts Wout D) (X.pn ++ pins) (fun e s1 => wpAny (model X.prog X.w) X.A (noteFrame e X.env) (fun _ s2 => wpAny (model X.prog X.w) X.A (setFlight e none) (fun _ s3 =>
    wpAny (model X.prog X.w) X.A (handleBy e X.env [.ExceptHandler (some (.Name x np)) (some n) (b₀ :: suite) pos']) (SP X pins D) X.xe s3) X.xe s2) X.xe s1) (fun u s' air => ?_) PassesOwn.looking).run [] s σ H D (I.toTry _) hw) (fun f s1 hsp => ?_) (fun e s1 he => he)
  · obtain ⟨a, B, sI, pins', σ', H', cls, d, rfl, J0, nb, up, sky, na, os, ag, b, hb1, hyes, hno⟩ := air
    have J : Inv X pins σ' H' sI := J0.ofTry ok
    have skyE : Sky B (X.env :: X.outer) a (Zc cls d) X.env.locals s'.heap := hs ▸ sky
    show wpAny (model X.prog X.w) X.A (noteFrame (.ref a) X.env) _ _ _
    refine Sky.land Zc.steady frames1 hf skyE fun h3 fl3 up3 => ?_
    have J3 : Inv X pins σ' H' { s' with heap := h3 } := J.landed nb fl3.1 (up.trans up3) os ag
    obtain ⟨oe3, vs3, he3, hz3, hd3⟩ := fl3.there
    have nfr : a ∉ frs (X.env :: X.outer) := fun hm => by
      obtain ⟨_, o', e', hnf⟩ := fl3.2.2.1.mem hm
      rw [he3] at e'
      cases e'
      exact hnf _ hd3
    have nL : a ≠ X.env.locals := fun z => nfr (List.mem_filterMap.mpr ⟨X.env, List.mem_cons_self, hf.trans (congrArg some z.symm)⟩)
    have nF : a ∉ X.fs := fun hm => by
      obtain ⟨e, he, q⟩ := List.mem_filterMap.mp hm
      exact nfr (List.mem_filterMap.mpr ⟨e, List.mem_cons_of_mem _ he, q⟩)
    -- the exception is not of the state ahead
    have nI : sI.heap.get? a = none := by
      cases e : sI.heap.get? a with
      | none => rfl
      | some o =>
        have z := nb a o e (by rw [hs]; exact nfr)
        rw [fl3.2.1] at z
        cases z
    have n0 : X.s_0.heap.get? a = none := by
      cases e : X.s_0.heap.get? a with
      | none => rfl
      | some o =>
        obtain ⟨o', z⟩ := J.base.there a o e (by rw [hex]; exact fun q => nomatch q)
        rw [nI] at z
        cases z
    have np' : ∀ p ∈ X.pn ++ pins, p.1 ≠ a := fun p hp z => by
      have q := (J.pin p hp).1
      rw [z, nI] at q
      cases q
    have S3 := J3.suite he3 hd3 na nL nF
    refine wpAny_handleBy_cons (codeAny_handlers_test ?_) (by intro q; cases q)
    have looksT : PySem.W.Looks (model X.prog X.w) h3 (typeOf (.ref a)) cls := fun A Q E s k q => wpAny_typeOf_ref (k _ _ he3) (by rw [hz3.1]; exact q)
    have looksM := PySem.W.exm_one (M := model X.prog X.w) J3.kIn looksT hb1
    have named : ∀ {Q : Value → Shared → Prop} {E : Value → Shared → Prop}, Q c { s' with heap := h3 } → wpAny (model X.prog X.w) (X.A.mark (some (.ref a))) (eval (.Name x np) X.env) Q E { s' with heap := h3 } := fun {Q E} q => by
      obtain ⟨hg, hdbg, hm | ⟨hm, hv, hnn⟩⟩ := hc
      · exact ld_glob (X := X.suite a ((a, oe3) :: (X.pn ++ pins))) S3 hg hm q hdbg
      · exact ld_blt (X := X.suite a ((a, oe3) :: (X.pn ++ pins))) S3 hg hm hv q hnn hdbg
    refine named (looksM.here ?_)
    cases b with
    | true =>
      refine codeAny_handlers_suite_as (HandSPX.lands_againZ fl3 fun h4 fl4 up4 => ?_)
      have J4 : Inv X pins σ' H' { s' with heap := h4 } := J.landed nb fl4.1 ((up.trans up3).trans up4) os ag
      obtain ⟨oe4, vs4, he4, hz4, hd4⟩ := fl4.there
      have S4 := J4.suite he4 hd4 na nL nF
      refine store_ok (X := X.suite a ((a, oe4) :: (X.pn ++ pins))) (v := .ref a) S4 hN hi (.inl hln) rfl (fun s5 S5 => ?_) (.inr hln)
      refine wpAny_mono ((hsu a oe4 cls d (X.pn ++ pins) hz4 ⟨_, hd4⟩).run [] s5 _ H' _ S5 (hyes rfl a na)) (fun f s6 hsp => ?_) (fun _ _ z => False.elim z)
      have leave : ∀ {σ6 : L2.St} {H6 : Hp} {Q : Shared → Prop}, Inv (X.suite a ((a, oe4) :: (X.pn ++ pins))) [] σ6 H6 s6 → (∀ s7, Inv X pins (σ6.set i none) (upd H6 a (ExH cls a d)) s7 → Q s7) →
          wpAny (model X.prog X.w) X.A (do bindName X.env n .none; unbindBehindTheSuite X.env n pos') (fun _ s7 => Q s7) X.xe s6 := fun {σ6 H6 Q} S6 hq => by
        obtain ⟨g1, g2, _, _, g5⟩ := S6.pin (a, oe4) (List.mem_append_left _ List.mem_cons_self)
        exact gone_ok (inv_track (S6.unsuite ok) n0 g2 nL g1 g5 np' (exH_ok g1 hz4 hd4)) hN hi hln hq
      cases f with
      | next =>
        obtain ⟨σ6, H6, S6, q6⟩ := hsp
        exact leave S6 fun s7 J7 => ⟨_, _, J7, q6⟩
      | brk =>
        obtain ⟨σ6, H6, S6, q6⟩ := hsp
        exact leave S6 fun s7 J7 => ⟨_, _, J7, q6⟩
      | cont =>
        obtain ⟨σ6, H6, S6, q6⟩ := hsp
        exact leave S6 fun s7 J7 => ⟨_, _, J7, q6⟩
      | ret u =>
        obtain ⟨v6, σ6, H6, S6, r6, q6⟩ := hsp
        exact leave S6 fun s7 J7 => ⟨_, _, _, J7, r6, q6⟩
    | false =>
      show wpAny _ X.A (handleBy (.ref a) X.env []) _ _ _
      refine wpAny_handleBy_nil ?_
      obtain ⟨k1, k2, k3, oe, vs, T, oT, ts', he, hz, hd, h1, hr⟩ := id fl3
      unfold PySem.passOn
      refine wpAny_bind (wpAny_field he hd h1 ?_)
      rw [if_neg (show ¬ ((Value.ref T == Value.none) = true) from by simp)]
      have thrown : wpAny (model X.prog X.w) X.A (setFlight (.ref a) X.env.frame) (fun _ s4 => wpAny (model X.prog X.w) X.A (throw (.ref a) : Sem Flow) (SP X pins D) X.xe s4) X.xe { s' with heap := h3 } := by
        rw [hf]
        refine HandSPX.setFlight_upZ fl3 fun h4 hh4 up4 => wpAny_throw (tk _ _ ?_)
        exact ⟨a, B, sI, pins, σ', H', cls, d, rfl, J, nb, (up.trans up3).trans up4, .inr (.inr (hs ▸ hh4)), na, os, ag, hno rfl⟩
      first
        | exact wpAny_bind (wpAny_pure (wpAny_bind thrown))
        | exact wpAny_bind thrown
  · cases f with
    | next =>
      obtain ⟨σ', H', J', q⟩ := hsp
      exact wpAny_execs_nil ⟨σ', H', J'.ofTry ok, q⟩
    | brk =>
      obtain ⟨σ', H', J', q⟩ := hsp
      exact ⟨σ', H', J'.ofTry ok, q⟩
    | cont =>
      obtain ⟨σ', H', J', q⟩ := hsp
      exact ⟨σ', H', J'.ofTry ok, q⟩
    | ret u =>
      obtain ⟨v, σ', H', J', r, q⟩ := hsp
      exact ⟨v, σ', H', J'.ofTry ok, r, q⟩
end
/-! ## attributes and classes of exceptions that are held -/
/-- what the class at D says, for reads of its instances -/
structure ExcR (K : PySem.W.Frag) (D : Addr) : Prop where
  ga : PySem.W.findIn K (.ref D) "__getattribute__" = some (some (.builtin "BaseException.__getattribute__"))
  gt : PySem.W.findIn K (.ref D) "__getattr__" = some none
  sb : PySem.W.subIn K (.ref D) (.type "BaseException") = some true
  hd : PySem.W.hasDictIn K D = true
  kl : PySem.W.findIn K (.ref D) "__class__" = some (some (.builtin "object.__class__"))
  sp : PySem.W.specialIn K (.builtin "object.__class__") "__get__" = some (some (.builtin "getset_descriptor.__get__"))
  tk : PySem.W.takesIn K (.builtin "object.__class__") = some true
  ob : PySem.W.mroIn K D (.type "object") = some true
/-- an exception of the class at D stands at a -/
def ExAt (H : Hp) (a D : Addr) : Prop := (∃ d, H a = some (exo a D d) ∧ ∀ dx, d = some dx → ∃ fs, H dx = some (exd dx fs)) ∨ H a = some (ExO (.ref D) a) ∨ ∃ d, H a = some (ExH (.ref D) a d) ∧ ∀ dx, d = some dx → ∃ fs, H dx = some (.xd fs)
section
variable {X : Cx} {pins : List (Addr × Obj)} {σ : L2.St} {H : Hp} {s : Shared}
theorem exAt_inst {a D : Addr} (I : Inv X pins σ H s) (h : ExAt H a D) : ∃ ob od, PySem.W.InstAt s.heap a ob D od := by
  rcases h with ⟨d, h1, h2⟩ | h | ⟨d, h1, h2⟩
  · obtain ⟨t1, ho⟩ := exo_at I.hok h1
    cases d with
    | none => exact ⟨_, none, ho, rfl, rfl, trivial⟩
    | some dx =>
      obtain ⟨fs, h3⟩ := h2 dx rfl
      obtain ⟨mA, ⟨od, es, ep, hod, r⟩, _⟩ := exd_at I.hok h3
      exact ⟨_, some od, ho, rfl, rfl, hod⟩
  · have x : ObjOk X.prog X.w H s.heap a (ExO (.ref D) a) := I.hok a _ h
    obtain ⟨⟨oe, vs, e1, e2, e3, _⟩, _⟩ := x
    obtain ⟨oc, odd, oda, osl⟩ := oe
    obtain ⟨z1, z2⟩ := e2
    dsimp only at z1 z2 e3
    subst z1 z2 e3
    exact ⟨_, none, e1, rfl, rfl, trivial⟩
  · have x : ObjOk X.prog X.w H s.heap a (ExH (.ref D) a d) := I.hok a _ h1
    obtain ⟨⟨oe, vs, e1, e2, e3⟩, _⟩ := x
    obtain ⟨oc, odd, oda, osl⟩ := oe
    obtain ⟨z1, z2⟩ := e2
    dsimp only at z1 z2 e3
    subst z1 z2 e3
    cases odd with
    | none => exact ⟨_, none, e1, rfl, rfl, trivial⟩
    | some dx =>
      obtain ⟨fs, h3⟩ := h2 dx rfl
      obtain ⟨mA, ⟨od, es, ep, hod, r⟩, _⟩ : ∃ mA, s.heap.Ns1 dx mA ∧ ∀ f, RelO (fs.lookup f) (mA f) := I.hok dx _ h3
      exact ⟨_, some od, e1, rfl, rfl, hod⟩
end
open PySem.W in
theorem exc_class {prog : Program} {w : World} {A : Around} {E : Value → Shared → Prop} {s : Shared} {K : Frag} {x D : Addr} {ox : Obj} {od : Option Obj} {Q : Option Value → Shared → Prop} (C : ExcR K D)
    (X : K.In s.heap) (I : InstAt s.heap x ox D od) (h : Q (some (.ref D)) { s with toks := s.toks + 1 }) : wpAny (model prog w) A (getAttr? (.ref x) "__class__") Q E s := by
  obtain ⟨cdD, hcD⟩ : ∃ cd, clsIn K D = some cd := by
    obtain ⟨cd, q, _⟩ := any_some C.hd
    exact ⟨cd, q⟩
  have hfo : findObj K D od "__class__" = some (.bind (.builtin "getset_descriptor.__get__") (.builtin "object.__class__")) := by
    unfold findObj
    rw [hcD, Option.bind_some, C.kl, Option.bind_some]
    simp [C.sp, C.tk]
  obtain ⟨hp, gs, dr, tk, os⟩ := s
  have lt := I.type (M := model prog w)
  have lg := looks_findIn (M := model prog w) X C.ga
  have lh := looks_findIn (M := model prog w) X C.gt
  have lf := looks_find (M := model prog w) X I hfo
  have lb : Looks (model prog w) hp (isInstance (.ref x) (.type "BaseException")) true := lt.andThen (looks_subIn X C.sb)
  have z2 : (onTheHeap (Value.ref D) && Value.builtin "BaseException.__getattribute__" == Value.builtin "object.__getattribute__") = false := by
    rw [show (Value.builtin "BaseException.__getattribute__" == Value.builtin "object.__getattribute__") = false by decide +kernel] <;> rfl
  unfold getAttr? getAttrBy? getAttrBy
  refine wpAny_bind (wpAny_mkText (wpAny_bind (wpAny_attempt (wpAny_holding (wpAny_bind (lt.at (wpAny_bind (lg.at ?_))))))))
  show wpAny _ _ (if (onTheHeap (Value.ref D) && Value.builtin "BaseException.__getattribute__" == Value.builtin "object.__getattribute__") = true then _ else _) _ _ _
  rw [z2, if_neg Bool.false_ne_true]
  unfold getAttrByItsOwn hookBefore
  refine wpAny_bind ?_
  rw [if_pos (show onTheHeap (Value.ref D) = true from rfl)]
  refine lh.at (wpAny_bind (wpAny_attempt (wpAny_holding ?_)))
  unfold callGetattribute
  rw [show (false && onTheHeap (Value.builtin "BaseException.__getattribute__")) = false from rfl, if_neg Bool.false_ne_true]
  unfold boundAndCalled
  rw [PySem.F.excAttr_ValueError.ga.bind (.ref x)]
  refine wpAny_bind (wpAny_pure ?_)
  show wpAny _ _ (call (.builtin "BaseException.__getattribute__") [.ref x, .str "__class__" tk]) _ _ _
  refine wpAny_call (codeAny_call_builtin PySem.F.excAttr_ValueError.ga.plain PySem.F.entry_bexc_ga ?_)
  refine @check_slot (model prog w) _ _ ⟨hp, gs, dr, tk + 1, os⟩ "BaseException.__getattribute__" "BaseException" "__getattribute__" (.ref x) [.str "__class__" tk] [] _ (by decide +kernel) (by decide +kernel) lb (PySem.F.args_bexc_ga (.ref x) (.str "__class__" tk)) ?_
  unfold Builtin.«object.__getattribute__»
  refine wpAny_bind (wpAny_of_eq (a := ((Value.ref x : Value), [Value.str "__class__" tk])) (by first | rfl | (simp only [slotArgs]; rfl)) ?_)
  refine wpAny_bind (wpAny_pure (wpAny_bind (lt.at (wpAny_bind (lf.at ?_)))))
  show wpAny _ _ (holding [Value.builtin "object.__class__"] (call (.builtin "getset_descriptor.__get__") [.builtin "object.__class__", .ref x, .ref D]) >>= ret) _ _ _
  refine wpAny_bind (wpAny_holding (wpAny_call (class_get (s := ⟨hp, gs, dr, tk + 1, os⟩) (ox := ox) (od := od) X I C.ob ?_)))
  refine wpAny_pure ?_
  show wpAny _ _ (handedOut (.ref D)) _ _ _
  rw [handedOut_of (v := .ref D) rfl]
  exact wpAny_pure (wpAny_pure h)
open PySem.W in
theorem kitx_held {K : Frag} {x D : Addr} (C : ExcR K D) : KitX K (.ref x) (.ref D) (fun h => ∃ ox od, InstAt h x ox D od) where
  ty := fun _ _ _ ⟨_, _, I⟩ => I.type
  it := fun _ _ X _ => by
    obtain ⟨cdD, hcD, _⟩ := any_some C.hd
    unfold clsIn at hcD
    split at hcD
    · rename_i c' d' cd' sl' ho
      intro A' Q' E' s' k q
      unfold isType loadHead
      exact wpAny_bind (wpAny_loadPart (k _ _ (X _ _ ho)) (wpAny_pure q))
    · cases hcD
  ne := fun h tp dd its n sl X htp => by
    obtain ⟨cdD, hcD, _⟩ := any_some C.hd
    refine Bool.eq_false_iff.mpr fun q => ?_
    have e : D = tp := Value.ref.inj (beq_iff_eq.mp q)
    subst e
    unfold clsIn at hcD
    split at hcD
    · rename_i c' d' cd' sl' ho
      have z := (X _ _ ho).symm.trans htp
      cases z
    · cases hcD
  ca := fun X ⟨_, _, I⟩ k => exc_class C X I k
/-- isinstance(e, c), e an exception that is held -/
def rIsiX (K : PySem.W.Frag) : List V → Hp → VK → Prop := fun xs H Q => ∃ (a D : Addr) (c : V) (u : Value) (b : Bool), xs = [.ref a, c] ∧ ClsV c u ∧ ExcR K D ∧ ExAt H a D ∧ PySem.W.kitOne K (.ref D) u = some b ∧ Q (.bl b) H
theorem call_isiX {X : Cx} : CallR X (.builtin "isinstance") (rIsiX X.K) := by
  intro pins s σ H xs us Q I r h
  obtain ⟨a, D, c, u, b, rfl, k, C, ea, e, q⟩ := h
  obtain ⟨u1, u2, rfl, r1, r2⟩ := vals2 r
  have e2 := k.eq r2
  subst e2
  cases (show u1 = Value.ref a from r1)
  obtain ⟨ob, od, J⟩ := exAt_inst I ea
  exact PySem.W.kia_one (kitx_held C) I.kIn ⟨_, _, J⟩ e (fun z => nomatch z) fun tk => ⟨.bl b, H, I.tok tk, rfl, q⟩
/-- e.f, e an exception that is held, f a field of its own dict -/
def tExF (K : PySem.W.Frag) (te : TE) (f : Str) : TE := fun σ H Q => te σ H fun x H1 => ∃ (a D dx : Addr) (fs : List (Str × V)) (v : V), x = .ref a ∧ ExcR K D ∧ PySem.W.findIn K (.ref D) f = some none ∧ ((H1 a = some (exo a D (some dx)) ∧ H1 dx = some (exd dx fs)) ∨ (H1 a = some (ExH (.ref D) a (some dx)) ∧ H1 dx = some (.xd fs))) ∧ fs.lookup f = some v ∧ Q v H1
theorem pe_exF {X : Cx} {e : Expr} {te : TE} {f : Str} {pos : Pos} (he : PE X e te) (hb : attributeBase e f X.env (eval e X.env) = eval e X.env := by rfl) : PE X (.Attribute e f pos) (tExF X.K te f) := by
  refine ⟨fun pins s σ H Q I h => ?_⟩
  refine attr_of hb (thn (he.run pins s σ H _ I h) fun u s1 hh => ?_)
  obtain ⟨x, H1, I1, rx, a, D, dx, fs, v, ex, C, no, st, l, q⟩ := hh
  subst ex
  cases (show u = Value.ref a from rx)
  have key : ∃ (ob : Obj) (mA : Str → Option Value), s1.heap.Ns1 dx mA ∧ (∀ f, RelO (fs.lookup f) (mA f)) ∧ s1.heap.get? a = some ob ∧ ob.cls = .ref D ∧ PySem.W.notCls ob = true ∧ ob.dict = some dx := by
    rcases st with ⟨ea, ed⟩ | ⟨ea, ed⟩
    · obtain ⟨t1, ho⟩ := exo_at I1.hok ea
      obtain ⟨mA, hns, hr⟩ := exd_at I1.hok ed
      exact ⟨_, mA, hns, hr, ho, rfl, rfl, rfl⟩
    · have x : ObjOk X.prog X.w H1 s1.heap a (ExH (.ref D) a (some dx)) := I1.hok a _ ea
      obtain ⟨⟨oe, vs, e1, e2, e3⟩, _⟩ := x
      obtain ⟨mA, hns, hr⟩ : ∃ mA, s1.heap.Ns1 dx mA ∧ ∀ f, RelO (fs.lookup f) (mA f) := I1.hok dx _ ed
      exact ⟨oe, mA, hns, hr, e1, e2.1, by unfold PySem.W.notCls; rw [e3] <;> rfl, e2.2⟩
  obtain ⟨ob, mA, hns, hr, ho, oc, onc, odx⟩ := key
  obtain ⟨od, hod, hlk⟩ := lookIn_ns hns
  have rl := hr f
  rw [l] at rl
  cases hm : mA f with
  | none =>
    rw [hm] at rl
    exact rl.elim
  | some y =>
    rw [hm] at rl
    have J : PySem.W.InstAt s1.heap a ob D (some od) := ⟨ho, oc, onc, by rw [odx]; exact hod⟩
    exact PySem.HandSPX.exc_get I1.kIn J C.ga C.gt C.sb (PySem.W.findObj_own C.hd no rfl (by rw [hlk, hm])) (handed_of rl) ⟨v, H1, I1.tok _, rl, q⟩
/-! ## defs that are called where no repr runs -/
structure FnG (P : Program) (w : World) (K : PySem.W.Frag) (mg : Str → Option Value) (base : Heap) (k : Nat) (f : Addr) (fd : FuncData) (ps : List Str) (sp : Sp) : Prop where
  len : ∀ vs H Q E, sp vs H Q E → vs.length = ps.length
  run : ∀ (A : Around) (outer : List Env) (s : Shared) (H : Hp) (args : Args) (us : List Value) (vs : List V) (Q : VK) (E : XK), A.guards = some [] → Room k A → Env0 P w K mg base A outer s H → BindsTo s fd args (ps.zip us) → Vals vs us → sp vs H Q E →
    codeAny (model P w) A (.call (.ref f) args) (CR CX0 outer P w H s Q E) s
section
variable {P : Program} {w : World} {K : PySem.W.Frag} {mg : Str → Option Value} {base : Heap} {x qual : Str} {params : Arguments} {body : List Stmt} {scope : Scope} {dvs : List V} {kws : List (Str × V)} {f : Addr} {fd : FuncData}
theorem FunD.okG {N ps : List Str} {k : Nat} {sp : Sp} (F : FunD K x qual params body scope dvs kws f fd) (S : FnScope N ps scope) (len : ∀ vs H Q E, sp vs H Q E → vs.length = ps.length)
    (hbody : ∀ (cdv : Value) (A : Around) (outer : List Env) (s : Shared) (H : Hp) (vs : List V) (Q : VK) (E : XK), (A.deeper (PyProof.Rows.envOfC qual scope s.heap.objs.size f cdv)).guards = some [] → Room k (A.deeper (PyProof.Rows.envOfC qual scope s.heap.objs.size f cdv)) → sp vs H Q E →
      ∃ t, PSs (cxOf CX0 P w K mg base N qual scope f cdv A outer s H E) body t ∧ t { nx := fun _ H' => Q .non H', rt := Q } (start N vs) H) : FnG P w K mg base (k + 1) f fd ps sp := by
  obtain ⟨oc, od, dV, kV, doc, pm, an, cdv, ct, osl, rfl, lk, hcd, _, _⟩ := F.ex
  refine ⟨len, fun A outer s H args us vs Q E hg hr e0 hb r hsp => ?_⟩
  have hlen := len _ _ _ _ hsp
  have kin : K.In s.heap := e0.mod.kin.keeps fun b o e => (e0.bs b o e).1
  have nol : s.heap.NoLimit := e0.mod.nolimit.keeps fun b o e => (e0.bs b o e).1
  have kinds : ∀ y ∈ ps.zip us, scope.names.lookup y.1 = some .local ∨ (scope.names.lookup y.1 = some .cell ∧ ((cellsFrom (s.heap.objs.size + 1) scope.names []).lookup y.1).isSome = true) := fun ⟨n, v⟩ hy => by
    rcases S.par n (List.of_mem_zip hy).1 with q | q
    · exact .inl q
    · exact .inr ⟨q, PySem.W.cellsFrom_some _ _ _ (.inl q)⟩
  refine codeAny_call_function hr.depth (kin _ _ lk) rfl S.co S.gen rfl (PySem.W.codeRec_of kin hcd) (hb _ _ _ _ ?_)
  refine wpAny_newFunctionEnv_cells S.kind kinds fun env he s1 ic => ?_
  subst he
  refine ⟨nol.keeps ic.toInCall.keep, codeAny_func ?_⟩
  obtain ⟨t, ht, hq⟩ := hbody cdv A outer s H vs Q E hg (hr.deeper _) hsp
  have I : Inv (cxOf CX0 P w K mg base N qual scope f cdv A outer s H E) [] (start N vs) H s1 := inv_start S hr.hd e0 hlen r ic
  refine wpAny_mono (ht.run [] s1 (start N vs) H _ I hq) (fun fl s' hs => ?_) fun e s' hs => hs
  cases fl with
  | ret u =>
    obtain ⟨v, σ', H', J, rv, q⟩ := hs
    exact ⟨v, H', J.os, J.bare, J.base, J.hok, rv, q⟩
  | next =>
    obtain ⟨σ', H', J, q⟩ := hs
    exact ⟨V.non, H', J.os, J.bare, J.base, J.hok, rfl, q⟩
  | brk =>
    obtain ⟨_, _, _, q⟩ := hs
    exact q.elim
  | cont =>
    obtain ⟨_, _, _, q⟩ := hs
    exact q.elim
end
section
variable {X : Cx} {k : Nat} {f : Addr} {fd : FuncData} {ps : List Str} {sp : Sp} {E : XK} {x : Str} {p pos : Pos} {e : Expr} {es : List Expr} {t : TA} {ds : List Value} {dvs : List V}
theorem run_fnG {pins : List (Addr × Obj)} {σ : L2.St} {H : Hp} {s : Shared} {Q : VK} {us : List Value} {vs : List V} (F : FnG X.prog X.w X.K X.mg X.base k f fd ps sp) (hg : X.A.guards = some []) (hr : Room k X.A) (hb : Binds X.K fd ps ds) (hd : Vals dvs ds)
    (I : Inv X pins σ H s) (r : Vals vs us) (h : sp (vs ++ dvs) H Q E) : wpAny (model X.prog X.w) X.A (call (.ref f) us) (EP X pins σ Q) X.xe s := by
  have rr : Vals (vs ++ dvs) (us ++ ds) := r.append hd
  have hlen : (us ++ ds).length = ps.length := by
    rw [← rr.length]
    exact F.len _ _ _ _ h
  refine wpAny_call (codeAny_mono (F.run X.A X.stack s H ⟨us, []⟩ (us ++ ds) (vs ++ dvs) Q E hg hr I.env0 (hb s us I.kIn hlen) rr h) fun r s' hq => ?_)
  cases r with
  | error e => exact False.elim hq
  | ok fl =>
    cases fl with
    | ret u => exact I.after hq
    | next => exact hq.elim
    | brk => exact hq.elim
    | cont => exact hq.elim
theorem pe_callG (F : FnG X.prog X.w X.K X.mg X.base k f fd ps sp) (hgd : X.A.guards = some []) (hr : Room k X.A) (hg : Gl X x) (hm : X.mg x = some (.ref f)) (hk : PySem.W.keepIn X.K (.ref f) = true) (hb : Binds X.K fd ps ds) (hd : Vals dvs ds)
    (ha : PA X (e :: es) t) (hdb : (x == ("__debug__" : Str)) = false := by decide) (he : starEach (e :: es) X.env = (false, eval e X.env) :: starEach es X.env := by rfl) (hpl : (backTo pos (starEach es X.env)).any (·.1) = false := by rfl) :
    PE X (.Call (.Name x p) (e :: es) [] pos) (tCall sp dvs E t) :=
  ⟨fun pins s σ H Q I h => wpAny_Call_Name_kw (ld_glob I hg hm (PySem.W.callWith_K (h₀ := X.base) I.ok.mod.kin hk (thn (ha.run pos pins s σ H _ I h) fun us s1 ⟨vs, H1, I1, r, q⟩ => ⟨I1.kIn, run_fnG F hgd hr hb hd I1 r q⟩) he hpl) hdb)⟩
end
/-! ## repr of data, where no repr runs -/
def keyD : Key → PyData
  | .inl i => .int i
  | .inr x => .str x
mutual
inductive Dx (K : PySem.W.Frag) (H : Hp) : V → PyData → Prop
  | non : Dx K H .non .none
  | bl (b : Bool) : Dx K H (.bl b) (.bool b)
  | int (i : Int) : Dx K H (.int i) (.int i)
  | str (x : Str) : Dx K H (.str x) (.str x)
  | lst {a : Addr} {xs : List V} {ds : List PyData} : SqL K H a xs → DxAll K H xs ds → Dx K H (.ref a) (.list ds)
  | tup {a : Addr} {xs : List V} {ds : List PyData} : SqT K H a xs → DxAll K H xs ds → Dx K H (.ref a) (.tuple ds)
  | dic {a : Addr} {kvs : List (Key × V)} {ds : List PyData} : H a = some (.dK kvs) → DxAll K H (kvs.map (·.2)) ds → Dx K H (.ref a) (.dict ((kvs.map fun kv => keyD kv.1).zip ds))
inductive DxAll (K : PySem.W.Frag) (H : Hp) : List V → List PyData → Prop
  | nil : DxAll K H [] []
  | cons {v : V} {vs : List V} {d : PyData} {ds : List PyData} : Dx K H v d → DxAll K H vs ds → DxAll K H (v :: vs) (d :: ds)
end
/-- the modules' table is a dict of the written part -/
def SmD (K : PySem.W.Frag) : Prop := ∃ o : Obj, K.lookup sysModules = some o ∧ o.cls = .type "dict"
theorem DxAll.length {K : PySem.W.Frag} {H : Hp} : ∀ {vs : List V} {ds : List PyData}, DxAll K H vs ds → vs.length = ds.length
  | _, _, .nil => rfl
  | _, _, .cons _ t => by rw [List.length_cons, List.length_cons, t.length]
section
variable {X : Cx} {pins : List (Addr × Obj)} {σ : L2.St} {H : Hp} {s : Shared}
theorem keys_read {P : Program} {w : World} : ∀ {es : List DictEntry} {vs : List (Key × Value)} {kvs : List (Key × V)} {h : Heap}, Pairs (mixKind P w) es vs → KV kvs vs → ∃ as, ReadsAll h (es.map (·.key)) (kvs.map fun kv => keyD kv.1) as ∧ as = []
  | _, _, _, h, .nil, .nil => ⟨[], .nil, rfl⟩
  | e :: es, kv :: vs, p :: kvs, h, .cons k1 _ t, .cons r t2 => by
    obtain ⟨as, q, rfl⟩ := keys_read (h := h) t t2
    obtain ⟨c1, e1, e2⟩ := e
    obtain ⟨kk, vv⟩ := p
    have ek : kv.1 = kk := r.1.symm
    rw [ek] at k1
    have kd : Reads h e1 (keyD kk) [] := by
      rcases keyIs_shape k1 with ⟨i, tt, rfl, z⟩ | ⟨x, tt, rfl, z⟩
      · have z : e1 = Value.int i tt := z
        subst z
        exact Reads.int i tt
      · have z : e1 = Value.str x tt := z
        subst z
        exact Reads.str x tt
    exact ⟨_, ReadsAll.cons kd q, rfl⟩
theorem vals_read {P : Program} {w : World} : ∀ {es : List DictEntry} {vs : List (Key × Value)} {kvs : List (Key × V)}, Pairs (mixKind P w) es vs → KV kvs vs → Vals (kvs.map (·.2)) (es.map (·.val))
  | _, _, _, .nil, .nil => .nil
  | e :: es, kv :: vs, p :: kvs, .cons _ e1 t, .cons r t2 => by
    refine .cons ?_ (vals_read t t2)
    show RelV p.2 e.val
    rw [e1]
    exact r.2
theorem zip_fst {α β : Type} : ∀ {l : List α} {m : List β}, l.length = m.length → (l.zip m).map (·.1) = l
  | [], _, _ => rfl
  | a :: l, b :: m, h => by
    show a :: (l.zip m).map (·.1) = a :: l
    rw [zip_fst (Nat.succ.inj h)]
theorem zip_snd {α β : Type} : ∀ {l : List α} {m : List β}, l.length = m.length → (l.zip m).map (·.2) = m
  | [], [], _ => rfl
  | a :: l, b :: m, h => by
    show b :: (l.zip m).map (·.2) = b :: m
    rw [zip_snd (Nat.succ.inj h)]
mutual
theorem Dx.reads (I : Inv X pins σ H s) (S : SmD X.K) : ∀ {d : PyData} {v : V} {u : Value}, Dx X.K H v d → RelV v u → ∃ as, Reads s.heap u d as ∧ sysModules ∉ as
  | _, _, _, .non, r => by
    cases r
    exact ⟨_, Reads.none, by simp⟩
  | _, _, _, .bl b, r => by
    cases r
    exact ⟨_, Reads.bool b, by simp⟩
  | _, _, _, .int i, r => by
    obtain ⟨t, rfl⟩ := r
    exact ⟨_, Reads.int i t, by simp⟩
  | _, _, _, .str x, r => by
    obtain ⟨t, rfl⟩ := r
    exact ⟨_, Reads.str x t, by simp⟩
  | _, _, _, .lst hs ha, r => by
    cases r
    obtain ⟨its, rv, ⟨o, n, ho, hc, _, hd⟩, _⟩ := I.list hs
    obtain ⟨as, hr, hn⟩ := DxAll.reads I S ha rv
    refine ⟨_, Reads.list ho hc hd hr, fun z => ?_⟩
    rcases List.mem_cons.mp z with z | z
    · obtain ⟨om, hm, hmc⟩ := S
      have h2 := I.kIn _ _ hm
      rw [z, ho] at h2
      cases h2
      rw [hc] at hmc
      exact absurd hmc (by decide)
    · exact hn z
  | _, _, _, .tup hs ha, r => by
    cases r
    obtain ⟨its, rv, ⟨o, ho, hc, n, hd⟩, _⟩ := I.tuple hs
    obtain ⟨as, hr, hn⟩ := DxAll.reads I S ha rv
    exact ⟨_, Reads.tuple ho hc hd hr, hn⟩
  | _, _, _, .dic (a := a) (kvs := kvs) (ds := ds) hk ha, r => by
    cases r
    obtain ⟨hz, hsm, vs, rk, o, es, ep, ho, hx, hd, _, hp, _⟩ : kvs.length ≤ sizeLine ∧ (a == sysModules) = false ∧ ∃ vs, KV kvs vs ∧ s.heap.DictOf (mixKind X.prog X.w) a vs := I.hok _ _ hk
    obtain ⟨as, h1, rfl⟩ := keys_read (h := s.heap) hp rk
    obtain ⟨bs, h2, hn⟩ := DxAll.reads I S ha (vals_read hp rk)
    have hl : (kvs.map fun kv => keyD kv.1).length = ds.length := by rw [List.length_map, ← ha.length, List.length_map]
    refine ⟨_, Reads.dict (kvs := (kvs.map fun kv => keyD kv.1).zip ds) ho hx.1 hd (by rw [zip_fst hl]; exact h1) (by rw [zip_snd hl]; exact h2), fun z => ?_⟩
    rcases List.mem_cons.mp z with z | z
    · rw [z] at hsm
      simp at hsm
    · exact hn (by simpa using z)
theorem DxAll.reads (I : Inv X pins σ H s) (S : SmD X.K) : ∀ {ds : List PyData} {vs : List V} {us : List Value}, DxAll X.K H vs ds → Vals vs us → ∃ as, ReadsAll s.heap us ds as ∧ sysModules ∉ as
  | _, _, _, .nil, r => by
    cases r
    exact ⟨_, ReadsAll.nil, by simp⟩
  | _, _, _, .cons h1 h2, r => by
    cases r with
    | cons r1 r2 =>
      obtain ⟨as, q1, n1⟩ := Dx.reads I S h1 r1
      obtain ⟨bs, q2, n2⟩ := DxAll.reads I S h2 r2
      exact ⟨_, ReadsAll.cons q1 q2, fun z => (List.mem_append.mp z).elim n1 n2⟩
end
end
/-- repr(x), x a list, tuple or dict of data -/
def rRepr (K : PySem.W.Frag) : List V → Hp → VK → Prop := fun xs H Q => ∃ (a : Addr) (d : PyData), xs = [.ref a] ∧ Dx K H (.ref a) d ∧ d.showable = true ∧ d.depth ≤ 100 ∧ d.shown.length ≤ sizeLine ∧ Q (.str d.shown) H
theorem call_reprX {X : Cx} (hg : X.A.guards = some []) (hu : X.A.units + 101 < cLine) (S : SmD X.K) : CallR X (.builtin "repr") (rRepr X.K) := by
  intro pins s σ H xs us Q I r h
  obtain ⟨a, d, rfl, hd, hs, hdp, hz, q⟩ := h
  obtain ⟨u, rfl, ru⟩ := vals1 r
  obtain ⟨as, hr, hn⟩ := hd.reads I S ru
  cases (show u = Value.ref a from ru)
  exact repr_of_reads' hr hs (fun _ => hn) hg (by omega) (fun _ _ e => e) (fun h' t tk hk => ⟨.str d.shown, H, I.kept (t' := tk) hk, ⟨_, rfl⟩, q⟩) hz
/-! ## the head's facts, by tables of tests on the written part -/
open PySem.W in
def oexB (K : Frag) (C : Addr) : Bool := (match K.lookup C with
  | some ⟨.type "type", _, .cls cd, sl⟩ => (match cd.mro, sl.toList with
    | .ref C' :: bm, [_, _, _, _, some (.builtin n), _] => C' == C && (n == "ValueError.__new__" && (!cd.hasDel && (cd.hasDict && PySem.HandSPX.refsVE bm)))
    | _, _ => false)
  | _ => false) && (He.eqO (findIn K (.ref C) "__setattr__") (some (some (.builtin "object.__setattr__"))) && (decide (subIn K (.ref C) (.type "BaseException") = some true) && (decide (typeIn K (.ref C) = some (.type "type")) && keepIn K (.ref C))))
theorem oexB_ok {K : PySem.W.Frag} {C : Addr} (h : oexB K C = true) : OexC K C := by
  obtain ⟨h1, h2⟩ := He.ba h
  obtain ⟨h3, h4⟩ := He.ba h2
  obtain ⟨h5, h6⟩ := He.ba h4
  obtain ⟨h7, h8⟩ := He.ba h6
  refine ⟨?_, He.eqO_ok h3, of_decide_eq_true h5, of_decide_eq_true h7, h8⟩
  split at h1
  · rename_i dd cd sl ho
    split at h1
    · rename_i C' bm k0 k1 k2 k3 n k5 hm hs
      obtain ⟨e1, h1⟩ := He.ba h1
      obtain ⟨e2, h1⟩ := He.ba h1
      obtain ⟨e3, h1⟩ := He.ba h1
      obtain ⟨e4, e5⟩ := He.ba h1
      obtain ⟨nm, bs, mro, ns, qn, hd, sn, sub, ab, col, del⟩ := cd
      dsimp only at hm e3 e4
      have e1 : C' = C := eq_of_beq e1
      have e2 : n = "ValueError.__new__" := eq_of_beq e2
      have e3 : del = false := by simpa using e3
      subst hm e1 e2 e3 e4
      have hsl : sl = #[k0, k1, k2, k3, some (.builtin "ValueError.__new__"), k5] := by
        obtain ⟨l⟩ := sl
        simp only at hs
        rw [hs]
      subst hsl
      exact ⟨_, _, _, _, _, _, _, _, _, _, _, _, _, _, _, ho, e5⟩
    · cases h1
  · cases h1
open PySem.W in
def excRB (K : Frag) (D : Addr) : Bool := He.eqO (findIn K (.ref D) "__getattribute__") (some (some (.builtin "BaseException.__getattribute__"))) && (He.eqO (findIn K (.ref D) "__getattr__") (some none) && (decide (subIn K (.ref D) (.type "BaseException") = some true) &&
  (hasDictIn K D && (He.eqO (findIn K (.ref D) "__class__") (some (some (.builtin "object.__class__"))) && (He.eqO (specialIn K (.builtin "object.__class__") "__get__") (some (some (.builtin "getset_descriptor.__get__"))) &&
  (decide (takesIn K (.builtin "object.__class__") = some true) && decide (mroIn K D (.type "object") = some true)))))))
theorem excRB_ok {K : PySem.W.Frag} {D : Addr} (h : excRB K D = true) : ExcR K D := by
  obtain ⟨h1, h⟩ := He.ba h
  obtain ⟨h2, h⟩ := He.ba h
  obtain ⟨h3, h⟩ := He.ba h
  obtain ⟨h4, h⟩ := He.ba h
  obtain ⟨h5, h⟩ := He.ba h
  obtain ⟨h6, h⟩ := He.ba h
  obtain ⟨h7, h8⟩ := He.ba h
  exact ⟨He.eqO_ok h1, He.eqO_ok h2, of_decide_eq_true h3, h4, He.eqO_ok h5, He.eqO_ok h6, of_decide_eq_true h7, of_decide_eq_true h8⟩
/-- an __init__ of an own exception that begins with super() -/
structure DefS where
  cls : Str
  qual : Str
  params : Arguments
  body : List Stmt
  scope : Scope
abbrev FnSW : Type := Option (Str × Str × Arguments × FuncBody × Scope × Addr × List Str × Addr)
abbrev initAd (K : PySem.W.Frag) (C : Str) : Addr := He.ma K (He.ga K C) "__init__"
def fnSW (K : PySem.W.Frag) (C : Str) : FnSW := match K.lookup (initAd K C) with
  | some ⟨_, _, .func fd, _⟩ => some (fd.name, fd.qualname, fd.params, fd.body, fd.scope, fd.globals, fd.closure.map (·.1), fd.builtins)
  | _ => none
def DefS.val (d : DefS) : FnSW := some ("__init__", d.qual, d.params, .stmts d.body, d.scope, mainGlobals, ["__class__"], builtinsNs)
open PySem.W in
/-- what such an __init__ of the class C wants of the written part, the module's file given -/
def supB (file : Str) (K : Frag) (C : Str) (qual : Str) : Bool :=
  He.eqO (findIn K (.ref (He.ga K C)) "__init__") (some (some (.ref (initAd K C)))) && (decide (typeIn K (.ref (initAd K C)) = some (.type "function")) &&
  ((match K.lookup (initAd K C) with
    | some ⟨_, _, .func fd, _⟩ => (match fd.closure, fd.code with
      | [(_, cc)], .ref cda => (match K.lookup cc with
          | some ⟨_, _, .cell (some (.ref D)), _⟩ => D == He.ga K C
          | _ => false) && (codeIn K (.ref cda) qual && (match K.lookup cda with
          | some ⟨_, _, .fields vs, _⟩ => (match vs[2]? with
            | some (Value.str f _) => file == f
            | _ => false)
          | _ => false))
      | _, _ => false)
    | _ => false) && (decide (mroIn K (He.ga K C) (.ref (He.ga K C)) = some true) && (He.eqO (nsIn K cStatics "thirdparty.any") (some none) && (decide (subIn K (.ref (He.ga K C)) (.type "ValueError") = some true) &&
    (match clsIn K (He.ga K C) with
    | some cd => He.eqO (alongIn K "__init__" ((cd.mro.dropWhile (· != .ref (He.ga K C))).drop 1)) (some (some (.builtin "ValueError.__init__")))
    | none => false))))))
theorem supB_ok {P : Program} {K : PySem.W.Frag} {mg : Str → Option Value} {d : DefS} (hw : fnSW K d.cls = d.val) (h : supB P.main.file K d.cls d.qual = true) (top : (P.main.scope.names.lookup ("super" : Str)).isSome = false) (su : mg "super" = none) :
    PySem.W.findIn K (.ref (He.ga K d.cls)) "__init__" = some (some (.ref (initAd K d.cls))) ∧ PySem.W.typeIn K (.ref (initAd K d.cls)) = some (.type "function") ∧
    ∃ (cc cda : Addr) (fd : FuncData), SupF P K mg (He.ga K d.cls) (initAd K d.cls) cc cda d.qual d.params d.body d.scope fd := by
  obtain ⟨h1, h⟩ := He.ba h
  obtain ⟨h2, h⟩ := He.ba h
  obtain ⟨h3, h⟩ := He.ba h
  obtain ⟨h4, h⟩ := He.ba h
  obtain ⟨h5, h⟩ := He.ba h
  obtain ⟨h6, h7⟩ := He.ba h
  refine ⟨He.eqO_ok h1, of_decide_eq_true h2, ?_⟩
  unfold fnSW at hw
  split at h3
  · rename_i oc od fd osl lk
    rw [lk] at hw
    split at h3
    · rename_i nm cc cda hclo hcod
      obtain ⟨h8, h3⟩ := He.ba h3
      obtain ⟨h9, h10⟩ := He.ba h3
      have e2 : (some (fd.name, fd.qualname, fd.params, fd.body, fd.scope, fd.globals, fd.closure.map (·.1), fd.builtins) : FnSW) = d.val := hw
      unfold DefS.val at e2
      simp only [Option.some.injEq, Prod.mk.injEq] at e2
      obtain ⟨g1, g2, g3, g4, g5, g6, g7, g8⟩ := e2
      rw [hclo] at g7
      have g7 : nm = "__class__" := by simpa using g7
      refine ⟨cc, cda, fd, ?_⟩
      have hcell : ∃ oc : Obj, K.lookup cc = some oc ∧ oc.data = .cell (some (.ref (He.ga K d.cls))) := by
        split at h8
        · rename_i a b D c hl
          have e : D = He.ga K d.cls := eq_of_beq h8
          exact ⟨_, hl, by rw [← e]⟩
        · cases h8
      have hco : ∃ (oc : Obj) (vs : Array Value) (file : Str) (tf : Tok), K.lookup cda = some oc ∧ oc.data = .fields vs ∧ vs[2]? = some (.str file tf) ∧ ((P.main.file : Str) == file) = true := by
        split at h10
        · rename_i a b vs c hl
          split at h10
          · rename_i f t hv
            exact ⟨_, vs, f, t, hl, rfl, hv, h10⟩
          · cases h10
        · cases h10
      have hal : ∃ cd, PySem.W.clsIn K (He.ga K d.cls) = some cd ∧ PySem.W.alongIn K "__init__" ((cd.mro.dropWhile (· != .ref (He.ga K d.cls))).drop 1) = some (some (.builtin "ValueError.__init__")) := by
        split at h7
        · rename_i cd hc
          exact ⟨cd, hc, He.eqO_ok h7⟩
        · cases h7
      obtain ⟨n1, n2, n3, n4, n5, n6, n7, n8, n9, n10, n11, n12, n13, n14, n15⟩ := fd
      dsimp only at g1 g2 g3 g4 g5 g6 g8 hclo hcod
      subst g1 g2 g3 g4 g5 g6 g8 hclo hcod g7
      exact ⟨⟨oc, od, n8, n9, n10, n11, n14, n12, osl, rfl, lk⟩, h9, hco, hcell, top, of_decide_eq_true h4, He.eqO_ok h5, hal, of_decide_eq_true h6, su⟩
    · cases h3
  · cases h3
/-! ### the Hook -/
abbrev AlZ : Type := Bool × List He.FnW × List FnSW
def obsZ (fb : List (PySem.W.Frag → Bool)) (fn : List He.DefD) (cs : List DefS) (K : PySem.W.Frag) : AlZ := ((fb.all fun f => f K) && fn.all fun d => d.ok K, fn.map fun d => He.fnW K d.at_, cs.map fun d => fnSW K d.cls)
def valZ (fn : List He.DefD) (cs : List DefS) : AlZ := (true, fn.map He.DefD.val, cs.map DefS.val)
def SaysZ (fb : List (PySem.W.Frag → Bool)) (fn : List He.DefD) (cs : List DefS) (K : PySem.W.Frag) : Prop := obsZ fb fn cs K = valZ fn cs
/-- a def whose lambdas are made: its code object, the table in it -/
def tabB (g : Addr → Option Obj) (K : PySem.W.Frag) (p : He.Defn) : Bool := (match g (He.cT K p).2 with
  | some o => He.emptyTab o
  | none => false) && (match K.lookup (He.cT K p).1 with
  | some ⟨.type c, _, .fields vs, _⟩ => decide (c = "code") && (decide (vs[11]? = some (.ref (He.cT K p).2)) && ((match vs.getD 18 .none, vs.getD 7 .none, vs.getD 9 .none, vs.getD 10 .none with
      | .str _ _, .int _ _, .bool _, .int _ _ => true
      | _, _, _, _ => false) && decide ((He.cT K p).1 ≠ (He.cT K p).2)))
  | _ => false)
theorem tabB_ok {h : Heap} {K : PySem.W.Frag} (X : K.In h) {p : He.Defn} (e : tabB h.get? K p = true) : h.get? (He.cT K p).2 = some { cls := .none, data := .fields #[] } ∧ PySem.W.CodeHd h (He.cT K p).1 (He.cT K p).2 := by
  obtain ⟨h1, h2⟩ := He.ba e
  refine ⟨?_, ?_⟩
  · split at h1
    · rename_i o ho
      rw [ho, He.emptyTab_eq h1]
    · cases h1
  · split at h2
    · rename_i c dd vs sl lk
      obtain ⟨q1, h2⟩ := He.ba h2
      obtain ⟨q2, h2⟩ := He.ba h2
      obtain ⟨q3, q4⟩ := He.ba h2
      have e2 := of_decide_eq_true q2
      have e3 : vs.getD 11 .none = .ref (He.cT K p).2 := by
        rw [Array.getD_eq_getD_getElem?, e2] <;> rfl
      split at q3
      · rename_i f tf fl tg b i tt z1 z2 z3 z4
        exact ⟨_, vs, f, tf, fl, tg, b, i, tt, X _ _ lk, congrArg Value.type (of_decide_eq_true q1), rfl, e2, e3, z1, z2, z3, z4, of_decide_eq_true q4⟩
      · cases q3
    · cases h2
def obsZG (n : Nat) (fb : List (PySem.W.Frag → Bool)) (fn : List He.DefD) (cs : List DefS) (ts : List He.Defn) (g : Addr → Option Obj) : Bool × AlZ := (ts.all fun p => tabB g (He.frT g (He.asD g n ++ [cStatics, sysModules])) p, obsZ fb fn cs (He.frT g (He.asD g n ++ [cStatics, sysModules])))
def TabsZ (ts : List He.Defn) (K : PySem.W.Frag) (h : Heap) : Prop := ∀ p ∈ ts, h.get? (He.cT K p).2 = some { cls := .none, data := .fields #[] } ∧ K.lookup (He.cT K p).2 = none ∧ PySem.W.CodeHd h (He.cT K p).1 (He.cT K p).2
def hookZ (n : Nat) (fb : List (PySem.W.Frag → Bool)) (fn : List He.DefD) (cs : List DefS) (ts : List He.Defn) : PySem.W.Hook where
  α := Bool × AlZ
  obs := fun s => obsZG n fb fn cs ts s.heap.get?
  val := fun _ => (true, valZ fn cs)
  says := fun _ h => ∃ K : PySem.W.Frag, K.In h ∧ SaysZ fb fn cs K ∧ TabsZ ts K h
  of := fun _ s e => by
    refine ⟨_, He.frT_in, congrArg Prod.snd e, fun p hp => ?_⟩
    have q := List.all_eq_true.mp (show (ts.all fun p => tabB s.heap.get? (He.frT s.heap.get? (He.asD s.heap.get? n ++ [cStatics, sysModules])) p) = true from congrArg Prod.fst e) p hp
    obtain ⟨h1, h2⟩ := tabB_ok He.frT_in q
    exact ⟨h1, He.frT_none h1 rfl, h2⟩
  keeps := fun _ _ _ ⟨K, hK, c, t⟩ k => ⟨K, PySem.W.Frag.In.keeps hK k, c, fun p hp => ⟨k _ _ (t p hp).1, (t p hp).2.1, (t p hp).2.2.keeps k⟩⟩
theorem obsZG_eq {n : Nat} {fb : List (PySem.W.Frag → Bool)} {fn : List He.DefD} {cs : List DefS} {ts : List He.Defn} {g : Addr → Option Obj} {s : Shared} (h : ∀ a, g a = s.heap.get? a) : obsZG n fb fn cs ts g = (hookZ n fb fn cs ts).obs s := by
  have e : g = s.heap.get? := funext h
  rw [e] <;> rfl
section
variable {fb : List (PySem.W.Frag → Bool)} {fn : List He.DefD} {cs : List DefS} {K : PySem.W.Frag}
theorem SaysZ.all (c : SaysZ fb fn cs K) : ∀ f ∈ fb, f K = true :=
  List.all_eq_true.mp (He.ba (show ((fb.all fun f => f K) && fn.all fun d => d.ok K) = true from congrArg (fun z : AlZ => z.1) c)).1
theorem SaysZ.fact (c : SaysZ fb fn cs K) (i : Nat) {f : PySem.W.Frag → Bool} (h : fb[i]? = some f := by rfl) : f K = true := c.all f (List.mem_of_getElem? h)
theorem SaysZ.def_ (c : SaysZ fb fn cs K) (i : Nat) {d : He.DefD} (h : fn[i]? = some d := by rfl) : ∃ fd, FunD K d.name d.qual d.params d.body d.scope (d.dvs K) (d.kws K) (He.fAd K d.at_) fd := by
  have c2 := (He.ba (show ((fb.all fun f => f K) && fn.all fun d => d.ok K) = true from congrArg (fun z : AlZ => z.1) c)).2
  have e : fn.map (fun d => He.fnW K d.at_) = fn.map He.DefD.val := congrArg (fun z : AlZ => z.2.1) c
  have e2 : (fn.map fun d => He.fnW K d.at_)[i]? = (fn.map He.DefD.val)[i]? := by rw [e]
  rw [List.getElem?_map, List.getElem?_map, h] at e2
  exact He.DefD.funD (Option.some.inj e2) (List.all_eq_true.mp c2 d (List.mem_of_getElem? h))
theorem SaysZ.ini (c : SaysZ fb fn cs K) {d : DefS} (h : d ∈ cs) : fnSW K d.cls = d.val := by
  have e : cs.map (fun d => fnSW K d.cls) = cs.map DefS.val := congrArg (fun z : AlZ => z.2.2) c
  obtain ⟨i, hi⟩ := List.mem_iff_getElem?.mp h
  have e2 : (cs.map fun d => fnSW K d.cls)[i]? = (cs.map DefS.val)[i]? := by rw [e]
  rw [List.getElem?_map, List.getElem?_map, hi] at e2
  exact Option.some.inj e2
end
abbrev Rw : PySem.W.OpenRow := PySem.W.OpenLaw.row PySem.Challenge.rw_stopanywhere_k84_bits_read_or_refused
def d_is_name : He.DefD := ⟨("is_name", none), "is_name", "is_name", defArgs s_is_name, defBody s_is_name, defScope s_is_name, [], []⟩
def d_is_number : He.DefD := ⟨("is_number", none), "is_number", "is_number", defArgs s_is_number, defBody s_is_number, defScope s_is_number, [], []⟩
def d_sort_of_place : He.DefD := ⟨("sort_of_place", none), "sort_of_place", "sort_of_place", defArgs s_sort_of_place, defBody s_sort_of_place, defScope s_sort_of_place, [], []⟩
def d_number_of : He.DefD := ⟨("number_of", none), "number_of", "number_of", defArgs s_number_of, defBody s_number_of, defScope s_number_of, [], []⟩
def d_is_register : He.DefD := ⟨("is_register", none), "is_register", "is_register", defArgs s_is_register, defBody s_is_register, defScope s_is_register, [], []⟩
def d_is_slot : He.DefD := ⟨("is_slot", none), "is_slot", "is_slot", defArgs s_is_slot, defBody s_is_slot, defScope s_is_slot, [], []⟩
def d_need_registers : He.DefD := ⟨("need_registers", none), "need_registers", "need_registers", defArgs s_need_registers, defBody s_need_registers, defScope s_need_registers, [], []⟩
def d_digits : He.DefD := ⟨("digits", none), "digits", "digits", defArgs s_digits, defBody s_digits, defScope s_digits, [], []⟩
def d_count_of : He.DefD := ⟨("count_of", none), "count_of", "count_of", defArgs s_count_of, defBody s_count_of, defScope s_count_of, [], []⟩
def d_number_written : He.DefD := ⟨("number_written", none), "number_written", "number_written", defArgs s_number_written, defBody s_number_written, defScope s_number_written, [], []⟩
def d_is_bits : He.DefD := ⟨("is_bits", none), "is_bits", "is_bits", defArgs s_is_bits, defBody s_is_bits, defScope s_is_bits, [], []⟩
def d_need_bits : He.DefD := ⟨("need_bits", none), "need_bits", "need_bits", defArgs s_need_bits, defBody s_need_bits, defScope s_need_bits, [], []⟩
def d_count_at : He.DefD := ⟨("count_at", none), "count_at", "count_at", defArgs s_count_at, defBody s_count_at, defScope s_count_at, [], []⟩
def d_number_at : He.DefD := ⟨("number_at", none), "number_at", "number_at", defArgs s_number_at, defBody s_number_at, defScope s_number_at, [], []⟩
def d_digits_at : He.DefD := ⟨("digits_at", none), "digits_at", "digits_at", defArgs s_digits_at, defBody s_digits_at, defScope s_digits_at, [], []⟩
def d_name_at : He.DefD := ⟨("name_at", none), "name_at", "name_at", defArgs s_name_at, defBody s_name_at, defScope s_name_at, [], []⟩
def d_register_at : He.DefD := ⟨("register_at", none), "register_at", "register_at", defArgs s_register_at, defBody s_register_at, defScope s_register_at, [], []⟩
def d_place_at : He.DefD := ⟨("place_at", none), "place_at", "place_at", defArgs s_place_at, defBody s_place_at, defScope s_place_at, [], []⟩
def d_index_at : He.DefD := ⟨("index_at", none), "index_at", "index_at", defArgs s_index_at, defBody s_index_at, defScope s_index_at, [], []⟩
def d_parts_at : He.DefD := ⟨("parts_at", none), "parts_at", "parts_at", defArgs s_parts_at, defBody s_parts_at, defScope s_parts_at, [], []⟩
def d_leap_at : He.DefD := ⟨("leap_at", none), "leap_at", "leap_at", defArgs s_leap_at, defBody s_leap_at, defScope s_leap_at, [], []⟩
def d_read_one : He.DefD := ⟨("read_one", none), "read_one", "read_one", defArgs s_read_one, defBody s_read_one, defScope s_read_one, [], []⟩
def d_is_leap : He.DefD := ⟨("is_leap", none), "is_leap", "is_leap", defArgs s_is_leap, defBody s_is_leap, defScope s_is_leap, [], []⟩
def d_is_part : He.DefD := ⟨("is_part", none), "is_part", "is_part", defArgs s_is_part, defBody s_is_part, defScope s_is_part, [], []⟩
def d_is_instruction : He.DefD := ⟨("is_instruction", none), "is_instruction", "is_instruction", defArgs s_is_instruction, defBody s_is_instruction, defScope s_is_instruction, [], []⟩
def d_place_bits : He.DefD := ⟨("place_bits", none), "place_bits", "place_bits", defArgs s_place_bits, defBody s_place_bits, defScope s_place_bits, [], []⟩
def d_name_bits : He.DefD := ⟨("name_bits", none), "name_bits", "name_bits", defArgs s_name_bits, defBody s_name_bits, defScope s_name_bits, [], []⟩
def d_leap_bits : He.DefD := ⟨("leap_bits", none), "leap_bits", "leap_bits", defArgs s_leap_bits, defBody s_leap_bits, defScope s_leap_bits, [], []⟩
def d_part_bits : He.DefD := ⟨("part_bits", none), "part_bits", "part_bits", defArgs s_part_bits, defBody s_part_bits, defScope s_part_bits, [], []⟩
def d_head_bits : He.DefD := ⟨("head_bits", none), "head_bits", "head_bits", defArgs s_head_bits, defBody s_head_bits, defScope s_head_bits, [], []⟩
def d_bits_of : He.DefD := ⟨("bits_of", none), "bits_of", "bits_of", defArgs s_bits_of, defBody s_bits_of, defScope s_bits_of, [], []⟩
def d_all_read : He.DefD := ⟨("all_read", none), "all_read", "all_read", defArgs s_all_read, defBody s_all_read, defScope s_all_read, [], []⟩
def d_read_bits : He.DefD := ⟨("read_bits", none), "read_bits", "read_bits", defArgs s_read_bits, defBody s_read_bits, defScope s_read_bits, [], []⟩
def d_instruction_at : He.DefD := ⟨("instruction_at", none), "instruction_at", "instruction_at", defArgs s_instruction_at, defBody s_instruction_at, defScope s_instruction_at, [], []⟩
def d__law_begun : He.DefD := ⟨("_law_begun", none), "_law_begun", "_law_begun", defArgs s_law_begun, defBody s_law_begun, defScope s_law_begun, [], []⟩
def d__law_mixed : He.DefD := ⟨("_law_mixed", none), "_law_mixed", "_law_mixed", defArgs s_law_mixed, defBody s_law_mixed, defScope s_law_mixed, [], []⟩
def d__law_take : He.DefD := ⟨("_law_take", none), "_law_take", "_law_take", defArgs s_law_take, defBody s_law_take, defScope s_law_take, [], []⟩
def d__law_pick : He.DefD := ⟨("_law_pick", none), "_law_pick", "_law_pick", defArgs s_law_pick, defBody s_law_pick, defScope s_law_pick, [], []⟩
def d__law_names : He.DefD := ⟨("_law_names", none), "_law_names", "_law_names", defArgs s_law_names, defBody s_law_names, defScope s_law_names, [], []⟩
def d__law_figure : He.DefD := ⟨("_law_figure", none), "_law_figure", "_law_figure", defArgs s_law_figure, defBody s_law_figure, defScope s_law_figure, [], []⟩
def d__law_digits : He.DefD := ⟨("_law_digits", none), "_law_digits", "_law_digits", defArgs s_law_digits, defBody s_law_digits, defScope s_law_digits, [], []⟩
def d__law_count : He.DefD := ⟨("_law_count", none), "_law_count", "_law_count", defArgs s_law_count, defBody s_law_count, defScope s_law_count, [], []⟩
def d__law_signed : He.DefD := ⟨("_law_signed", none), "_law_signed", "_law_signed", defArgs s_law_signed, defBody s_law_signed, defScope s_law_signed, [], []⟩
def d__law_spelt : He.DefD := ⟨("_law_spelt", none), "_law_spelt", "_law_spelt", defArgs s_law_spelt, defBody s_law_spelt, defScope s_law_spelt, [], []⟩
def d__law_registers : He.DefD := ⟨("_law_registers", none), "_law_registers", "_law_registers", defArgs s_law_registers, defBody s_law_registers, defScope s_law_registers, [], []⟩
def d__law_copied : He.DefD := ⟨("_law_copied", none), "_law_copied", "_law_copied", defArgs s_law_copied, defBody s_law_copied, defScope s_law_copied, [], []⟩
def d__law_first : He.DefD := ⟨("_law_first", none), "_law_first", "_law_first", defArgs s_law_first, defBody s_law_first, defScope s_law_first, [], []⟩
def d__law_bits : He.DefD := ⟨("_law_bits", none), "_law_bits", "_law_bits", defArgs s_law_bits, defBody s_law_bits, defScope s_law_bits, [], []⟩
def d__law_shapes : He.DefD := ⟨("_law_shapes", none), "_law_shapes", "_law_shapes", defArgs s_law_shapes, defBody s_law_shapes, defScope s_law_shapes, [], []⟩
def d__law_part : He.DefD := ⟨("_law_part", none), "_law_part", "_law_part", defArgs s_law_part, defBody s_law_part, defScope s_law_part, [], []⟩
def d__law_instruction : He.DefD := ⟨("_law_instruction", none), "_law_instruction", "_law_instruction", defArgs s_law_instruction, defBody s_law_instruction, defScope s_law_instruction, [], []⟩
def d__law_leap_bits : He.DefD := ⟨("_law_leap_bits", none), "_law_leap_bits", "_law_leap_bits", defArgs s_law_leap_bits, defBody s_law_leap_bits, defScope s_law_leap_bits, [], []⟩
def d__law_part_bits : He.DefD := ⟨("_law_part_bits", none), "_law_part_bits", "_law_part_bits", defArgs s_law_part_bits, defBody s_law_part_bits, defScope s_law_part_bits, [], []⟩
def d__law_told_bits : He.DefD := ⟨("_law_told_bits", none), "_law_told_bits", "_law_told_bits", defArgs s_law_told_bits, defBody s_law_told_bits, defScope s_law_told_bits, [], []⟩
def d__law_is_name : He.DefD := ⟨("_law_is_name", none), "_law_is_name", "_law_is_name", defArgs s_law_is_name, defBody s_law_is_name, defScope s_law_is_name, [], []⟩
def d__law_read : He.DefD := ⟨("_law_read", none), "_law_read", "_law_read", defArgs s_law_read, defBody s_law_read, defScope s_law_read, [], []⟩
def d__law_value : He.DefD := ⟨("_law_value", none), "_law_value", "_law_value", defArgs s_law_value, defBody s_law_value, defScope s_law_value, [], []⟩
def d__law_refusal : He.DefD := ⟨("_law_refusal", none), "_law_refusal", "_law_refusal", defArgs s_law_refusal, defBody s_law_refusal, defScope s_law_refusal, [], []⟩
def d__law_name_at : He.DefD := ⟨("_law_name_at", none), "_law_name_at", "_law_name_at", defArgs s_law_name_at, defBody s_law_name_at, defScope s_law_name_at, [], []⟩
def d__law_register_at : He.DefD := ⟨("_law_register_at", none), "_law_register_at", "_law_register_at", defArgs s_law_register_at, defBody s_law_register_at, defScope s_law_register_at, [], []⟩
def d__law_copied_at : He.DefD := ⟨("_law_copied_at", none), "_law_copied_at", "_law_copied_at", defArgs s_law_copied_at, defBody s_law_copied_at, defScope s_law_copied_at, [], []⟩
def d__law_signed_at : He.DefD := ⟨("_law_signed_at", none), "_law_signed_at", "_law_signed_at", defArgs s_law_signed_at, defBody s_law_signed_at, defScope s_law_signed_at, [], []⟩
def d__law_some_at : He.DefD := ⟨("_law_some_at", none), "_law_some_at", "_law_some_at", defArgs s_law_some_at, defBody s_law_some_at, defScope s_law_some_at, [], []⟩
def d__law_leap_at : He.DefD := ⟨("_law_leap_at", none), "_law_leap_at", "_law_leap_at", defArgs s_law_leap_at, defBody s_law_leap_at, defScope s_law_leap_at, [], []⟩
def d__law_part_at : He.DefD := ⟨("_law_part_at", none), "_law_part_at", "_law_part_at", defArgs s_law_part_at, defBody s_law_part_at, defScope s_law_part_at, [], []⟩
def d__law_one_at : He.DefD := ⟨("_law_one_at", none), "_law_one_at", "_law_one_at", defArgs s_law_one_at, defBody s_law_one_at, defScope s_law_one_at, [], []⟩
def d__law_due : He.DefD := ⟨("_law_due", none), "_law_due", "_law_due", defArgs s_law_due, defBody s_law_due, defScope s_law_due, [], []⟩
def d__law_changed : He.DefD := ⟨("_law_changed", none), "_law_changed", "_law_changed", defArgs s_law_changed, defBody s_law_changed, defScope s_law_changed, [], []⟩
def d_law : He.DefD := ⟨("law", none), "law", "law", defArgs s_law, defBody s_law, defScope s_law, [], []⟩
def i_BadBits : DefS := ⟨"BadBits", "BadBits.__init__", defArgs s_BadBits___init__, defBody s_BadBits___init__, defScope s_BadBits___init__⟩
def i_BadInstruction : DefS := ⟨"BadInstruction", "BadInstruction.__init__", defArgs s_BadInstruction___init__, defBody s_BadInstruction___init__, defScope s_BadInstruction___init__⟩
def fnL : List He.DefD := [d_is_name, d_is_number, d_sort_of_place, d_number_of, d_is_register, d_is_slot, d_need_registers, d_digits, d_count_of, d_number_written, d_is_bits, d_need_bits, d_count_at, d_number_at, d_digits_at, d_name_at, d_register_at, d_place_at, d_index_at, d_parts_at, d_leap_at, d_read_one, d_is_leap, d_is_part, d_is_instruction, d_place_bits, d_name_bits, d_leap_bits, d_part_bits, d_head_bits, d_bits_of, d_all_read, d_read_bits, d_instruction_at, d__law_begun, d__law_mixed, d__law_take, d__law_pick, d__law_names, d__law_figure, d__law_digits, d__law_count, d__law_signed, d__law_spelt, d__law_registers, d__law_copied, d__law_first, d__law_bits, d__law_shapes, d__law_part, d__law_instruction, d__law_leap_bits, d__law_part_bits, d__law_told_bits, d__law_is_name, d__law_read, d__law_value, d__law_refusal, d__law_name_at, d__law_register_at, d__law_copied_at, d__law_signed_at, d__law_some_at, d__law_leap_at, d__law_part_at, d__law_one_at, d__law_due, d__law_changed, d_law]
def csL : List DefS := [i_BadBits, i_BadInstruction]
abbrev gloB (x : Str) (K : PySem.W.Frag) : Bool := (He.Fa.glo x).ok K
abbrev freeB (x : Str) (K : PySem.W.Frag) : Bool := (He.Fa.free x).ok K
abbrev strB (x z : Str) (K : PySem.W.Frag) : Bool := (He.Fa.str x z).ok K
abbrev intB (x : Str) (z : Int) (K : PySem.W.Frag) : Bool := (He.Fa.int x z).ok K
abbrev exmB (x y : Str) (K : PySem.W.Frag) : Bool := (He.Fa.exm x y true).ok K
abbrev noatB (x f : Str) (K : PySem.W.Frag) : Bool := (He.Fa.noat x f).ok K
abbrev kitB (x y : Str) (K : PySem.W.Frag) : Bool := decide (PySem.W.kitOne K (.ref (He.ga K x)) (.ref (He.ga K y)) = some true)
abbrev kitF (x y : Str) (K : PySem.W.Frag) : Bool := decide (PySem.W.kitOne K (.ref (He.ga K x)) (.ref (He.ga K y)) = some false)
def mainFile : Str := PySem.Challenge.pw_stopanywhere_k84_bits_read_or_refused.main.file
def smdB (K : PySem.W.Frag) : Bool := match K.lookup sysModules with | some ⟨.type n, _, _, _⟩ => decide (n = "dict") | _ => false
theorem smdB_ok {K : PySem.W.Frag} (h : smdB K = true) : SmD K := by
  unfold smdB at h
  split at h
  · rename_i n a b c e
    exact ⟨_, e, congrArg Value.type (of_decide_eq_true h)⟩
  · cases h
abbrev excN (x : Str) (K : PySem.W.Frag) : Bool := PySem.W.excIn K (He.ga K x) He.veBase "ValueError.__new__"
abbrev oexN (x : Str) (K : PySem.W.Frag) : Bool := oexB K (He.ga K x)
abbrev excR (x : Str) (K : PySem.W.Frag) : Bool := excRB K (He.ga K x)
abbrev supN (d : DefS) (K : PySem.W.Frag) : Bool := supB mainFile K d.cls d.qual
def dflB (x : Str) (K : PySem.W.Frag) : Bool := match K.lookup (initAd K x) with | some ⟨_, _, .func fd, _⟩ => (match fd.defaults with | .none => true | _ => false) | _ => false
theorem dflB_ok {K : PySem.W.Frag} {x : Str} (h : dflB x K = true) {oc : Value} {od : Option Addr} {fd : FuncData} {osl : Array (Option Value)} (lk : K.lookup (initAd K x) = some ⟨oc, od, .func fd, osl⟩) : fd.defaults = .none := by
  unfold dflB at h
  rw [lk] at h
  dsimp only at h
  split at h
  · assumption
  · cases h
theorem SupF.binds {P : Program} {K : PySem.W.Frag} {mg : Str → Option Value} {C cc cda : Addr} {x qual : Str} {params : Arguments} {body : List Stmt} {scope : Scope} {fd : FuncData} {ps : List Str} (F : SupF P K mg C (initAd K x) cc cda qual params body scope fd) (hd : dflB x K = true)
    (h : ∀ (kV doc pm ct : Value) (an : Option Addr) (us : List Value), us.length = ps.length → bindArgs (PySem.W.ksFn "__init__" qual params body scope .none kV doc pm an (.ref cda) ct cc) ⟨us, []⟩ = pure (ps.zip us)) : Binds K fd ps [] := by
  obtain ⟨oc, od, dV, kV, doc, pm, ct, an, osl, rfl, lk⟩ := F.ex
  have e : dV = .none := dflB_ok hd lk
  subst e
  exact .all (h kV doc pm ct an)
def strOf : Value → Option Str
  | .str z _ => some z
  | _ => none
def tupB (x : Str) (ss : List Str) (K : PySem.W.Frag) : Bool := match K.lookup (He.ga K x) with | some ⟨.type c, _, .seq its _, _⟩ => decide (c = "tuple") && (decide (its.size ≤ sizeLine) && decide (its.toList.map strOf = ss.map some)) | _ => false
theorem strOf_vals : ∀ {us : List Value} {ss : List Str}, us.map strOf = ss.map some → Vals (ss.map V.str) us
  | [], [], _ => .nil
  | [], _ :: _, h => by cases h
  | _ :: _, [], h => by cases h
  | u :: us, z :: ss, h => by
    simp only [List.map_cons, List.cons.injEq] at h
    refine .cons ?_ (strOf_vals h.2)
    cases u with
    | str y t =>
      have e : y = z := by injection h.1
      subst e
      exact ⟨t, rfl⟩
    | _ => cases h.1
theorem tupB_ok {x : Str} {ss : List Str} {K : PySem.W.Frag} (h : tupB x ss K = true) (H : Hp) : SqT K H (He.ga K x) (ss.map V.str) := by
  unfold tupB at h
  split at h
  · rename_i c d its n sl lk
    obtain ⟨h1, h⟩ := He.ba h
    obtain ⟨h2, h3⟩ := He.ba h
    exact .inr ⟨_, its, n, lk, congrArg Value.type (of_decide_eq_true h1), rfl, of_decide_eq_true h2, strOf_vals (of_decide_eq_true h3)⟩
  · cases h
/-- the address under a text key of a dict of the top -/
def dad (x z : Str) (K : PySem.W.Frag) : Addr := match PySem.W.nsIn K (He.ga K x) z with | some (some (.ref a)) => a | _ => 0
def intOf : Value → Option Int
  | .int z _ => some z
  | _ => none
def tupI (a : Addr) (ss : List Int) (K : PySem.W.Frag) : Bool := match K.lookup a with | some ⟨.type c, _, .seq its _, _⟩ => decide (c = "tuple") && (decide (its.size ≤ sizeLine) && decide (its.toList.map intOf = ss.map some)) | _ => false
theorem intOf_vals : ∀ {us : List Value} {ss : List Int}, us.map intOf = ss.map some → Vals (ss.map V.int) us
  | [], [], _ => .nil
  | [], _ :: _, h => by cases h
  | _ :: _, [], h => by cases h
  | u :: us, z :: ss, h => by
    simp only [List.map_cons, List.cons.injEq] at h
    refine .cons ?_ (intOf_vals h.2)
    cases u with
    | int y t =>
      have e : y = z := by injection h.1
      subst e
      exact ⟨t, rfl⟩
    | _ => cases h.1
theorem tupI_ok {a : Addr} {ss : List Int} {K : PySem.W.Frag} (h : tupI a ss K = true) (H : Hp) : SqT K H a (ss.map V.int) := by
  unfold tupI at h
  split at h
  · rename_i c d its n sl lk
    obtain ⟨h1, h⟩ := He.ba h
    obtain ⟨h2, h3⟩ := He.ba h
    exact .inr ⟨_, its, n, lk, congrArg Value.type (of_decide_eq_true h1), rfl, of_decide_eq_true h2, intOf_vals (of_decide_eq_true h3)⟩
  · cases h
def tupD (x z : Str) (ss : List Int) (K : PySem.W.Frag) : Bool := tupI (dad x z K) ss K
def tupN (x : Str) (K : PySem.W.Frag) : Bool := match K.lookup (He.ga K x) with | some ⟨.type c, none, _, _⟩ => decide (c = "tuple") | _ => false
theorem tupN_ok {x : Str} {K : PySem.W.Frag} (h : tupN x K = true) : ∃ o, K.lookup (He.ga K x) = some o ∧ o.cls = .type "tuple" ∧ o.dict = none := by
  unfold tupN at h
  split at h
  · rename_i c dt sl lk
    exact ⟨_, lk, congrArg Value.type (of_decide_eq_true h), rfl⟩
  · cases h
abbrev tabV (x : Str) (kvs : List (Str × He.Dv)) (K : PySem.W.Frag) : Bool := He.valsB K (He.ga K x) kvs
/-- which texts are keys, all of them asked -/
theorem kmem_keys {P : Params} : ∀ {l : List DictEntry} {ks : List Str}, l.map He.keyOf = He.keysIn P ks → (l.any (·.refKey)) = false ∧ ∀ z : Str, (l.find? (·.key.isStr z)).isSome = decide (z ∈ ks)
  | [], [], _ => ⟨rfl, fun z => rfl⟩
  | [], _ :: _, h => by cases h
  | _ :: _, [], h => by cases h
  | e :: l, k :: ks, h => by
    have h1 : He.keyOf e :: l.map He.keyOf = some (k, PyData.keyHash P k) :: He.keysIn P ks := h
    injection h1 with h2 h3
    obtain ⟨i1, i2⟩ := kmem_keys h3
    obtain ⟨t, ht⟩ : ∃ t, e.key = .str k t := by
      unfold He.keyOf at h2
      split at h2
      · rename_i x t q
        have h4 := Option.some.inj h2
        obtain ⟨h5, h6⟩ := Prod.mk.inj h4
        exact ⟨t, by rw [q, h5]⟩
      · cases h2
    refine ⟨?_, fun z => ?_⟩
    · rw [List.any_cons, i1, Bool.or_false]
      unfold DictEntry.refKey
      rw [ht]
    · rw [List.find?_cons]
      have e1 : e.key.isStr z = (k == z) := by rw [ht]; rfl
      rw [e1]
      cases hkz : (k == z) with
      | true =>
        have : k = z := eq_of_beq hkz
        subst this
        exact (decide_eq_true (List.mem_cons_self ..)).symm
      | false =>
        show (l.find? (·.key.isStr z)).isSome = _
        rw [i2 z]
        refine decide_eq_decide.mpr ⟨fun h => List.mem_cons_of_mem _ h, fun h => ?_⟩
        rcases List.mem_cons.mp h with h | h
        · subst h
          rw [beq_self_eq_true] at hkz
          cases hkz
        · exact h
theorem kdct_ok {K : PySem.W.Frag} {w : World} {a : Addr} {ks : List Str} {kvs : List (Str × He.Dv)} (h : He.dicW K a = some (He.keysIn w.params ks)) (hv : He.valsB K a kvs = true) {p : Str × He.Dv} (hp : p ∈ kvs) : KDct K w a p.1 (p.2.v K) := by
  obtain ⟨es, n, hd⟩ := He.dicW_ok h
  obtain ⟨u, h1, h2⟩ := He.valsB_ok hv hp
  exact ⟨es, n, u, hd.1, hd.lit, h1, h2⟩
def fb0 : List (PySem.W.Frag → Bool) := [smdB, gloB "is_name", gloB "is_number", gloB "sort_of_place", gloB "number_of", gloB "is_register", gloB "is_slot", gloB "need_registers", gloB "digits", gloB "count_of", gloB "number_written", gloB "is_bits", gloB "need_bits", gloB "count_at", gloB "number_at", gloB "digits_at", gloB "name_at", gloB "register_at", gloB "place_at", gloB "index_at", gloB "parts_at", gloB "leap_at", gloB "read_one", gloB "is_leap", gloB "is_part", gloB "is_instruction", gloB "place_bits", gloB "name_bits", gloB "leap_bits", gloB "part_bits", gloB "head_bits", gloB "bits_of", gloB "all_read", gloB "read_bits", gloB "instruction_at", gloB "_law_begun", gloB "_law_mixed", gloB "_law_take", gloB "_law_pick", gloB "_law_names", gloB "_law_figure", gloB "_law_digits", gloB "_law_count", gloB "_law_signed", gloB "_law_spelt", gloB "_law_registers", gloB "_law_copied", gloB "_law_first", gloB "_law_bits", gloB "_law_shapes", gloB "_law_part", gloB "_law_instruction", gloB "_law_leap_bits", gloB "_law_part_bits", gloB "_law_told_bits", gloB "_law_is_name", gloB "_law_read", gloB "_law_value", gloB "_law_refusal", gloB "_law_name_at", gloB "_law_register_at", gloB "_law_copied_at", gloB "_law_signed_at", gloB "_law_some_at", gloB "_law_leap_at", gloB "_law_part_at", gloB "_law_one_at", gloB "_law_due", gloB "_law_changed", gloB "law", gloB "StopError", gloB "BadRegisters", gloB "BadBits", gloB "BadInstruction", gloB "BadAddress", freeB "ValueError", freeB "abs", freeB "all", freeB "bool", freeB "enumerate", freeB "int", freeB "isinstance", freeB "len", freeB "list", freeB "range", freeB "repr", freeB "sorted", freeB "str", freeB "super", freeB "tuple", freeB "zip", gloB "KEPT", gloB "WORDS", gloB "SHAPES", gloB "LEAPS", gloB "READERS", intB "MOST_NUMBER" 9999, intB "MOST_SLOT" 999, intB "MOST_REGISTER" 8, intB "LEAST_REGISTERS" 6, intB "MOST_REGISTERS" 9, intB "MOST_LETTERS" 8, intB "LETTER_DIGITS" 5, intB "REGISTER_DIGITS" 4, intB "INSTRUCTION_DIGITS" 5, intB "MANY_DIGITS" 2, strB "SMALL" "abcdefghijklmnopqrstuvwxyz", strB "LETTERS" "abcdefghijklmnopqrstuvwxyz", tupB "KEPT" ["and", "at", "choice", "else", "fail", "false", "function", "if", "let", "long", "make", "match", "new", "not", "number", "of", "or", "over", "put", "rest", "return", "row", "set", "show", "true", "truth", "try", "unit", "uses", "while"], tupB "WORDS" ["const", "copy", "plus", "minus", "times", "over", "rest", "less", "atmost", "same", "not", "make", "tag", "part", "long", "new", "at", "put", "show", "call", "jump", "branch", "unless", "try", "return", "fail"], tupN "WORDS", tabV "SHAPES" [("const", He.Dv.str "rn"), ("copy", He.Dv.str "cc"), ("plus", He.Dv.str "rrr"), ("minus", He.Dv.str "rrr"), ("times", He.Dv.str "rrr"), ("over", He.Dv.str "rrr"), ("rest", He.Dv.str "rrr"), ("less", He.Dv.str "rrr"), ("atmost", He.Dv.str "rrr"), ("same", He.Dv.str "rrr"), ("not", He.Dv.str "rr"), ("make", He.Dv.str "wrl"), ("tag", He.Dv.str "rr"), ("part", He.Dv.str "wkrr"), ("long", He.Dv.str "wrr"), ("new", He.Dv.str "wrrr"), ("at", He.Dv.str "wrrr"), ("put", He.Dv.str "wrrr"), ("show", He.Dv.str "r"), ("call", He.Dv.str "j"), ("jump", He.Dv.str "j"), ("branch", He.Dv.str "rj"), ("unless", He.Dv.str "rj"), ("try", He.Dv.str "jj"), ("return", He.Dv.str ""), ("fail", He.Dv.str "r")], tabV "READERS" [("r", He.Dv.glo "register_at"), ("n", He.Dv.glo "number_at"), ("c", He.Dv.glo "place_at"), ("w", He.Dv.glo "name_at"), ("k", He.Dv.glo "index_at"), ("l", He.Dv.glo "parts_at"), ("j", He.Dv.glo "leap_at")], tabV "LEAPS" [("short", He.Dv.adr (dad "LEAPS" "short")), ("long", He.Dv.adr (dad "LEAPS" "long"))], tupD "LEAPS" "short" [8, 128], tupD "LEAPS" "long" [32, 2147483648]]
def fb1 : List (PySem.W.Frag → Bool) := [oexN "BadRegisters", oexN "BadBits", oexN "BadInstruction", oexN "BadAddress", excR "BadRegisters", excR "BadBits", excR "BadInstruction", excR "BadAddress", exmB "BadRegisters" "StopError", exmB "BadBits" "StopError", exmB "BadInstruction" "StopError", exmB "BadAddress" "StopError", excN "BadRegisters", excN "BadAddress", noatB "BadBits" "at", noatB "BadInstruction" "at", supN i_BadBits, dflB "BadBits", supN i_BadInstruction, dflB "BadInstruction", kitB "BadRegisters" "BadRegisters", kitF "BadRegisters" "BadBits", kitF "BadRegisters" "BadInstruction", kitF "BadRegisters" "BadAddress", kitF "BadBits" "BadRegisters", kitB "BadBits" "BadBits", kitF "BadBits" "BadInstruction", kitF "BadBits" "BadAddress", kitF "BadInstruction" "BadRegisters", kitF "BadInstruction" "BadBits", kitB "BadInstruction" "BadInstruction", kitF "BadInstruction" "BadAddress", kitF "BadAddress" "BadRegisters", kitF "BadAddress" "BadBits", kitF "BadAddress" "BadInstruction", kitB "BadAddress" "BadAddress"]
def fbL : List (PySem.W.Frag → Bool) := fb0 ++ fb1
def tbL : List He.Tab := [(fun K => He.ga K "LEAPS", ["short", "long"]), (fun K => He.ga K "SHAPES", ["const", "copy", "plus", "minus", "times", "over", "rest", "less", "atmost", "same", "not", "make", "tag", "part", "long", "new", "at", "put", "show", "call", "jump", "branch", "unless", "try", "return", "fail"]), (fun K => He.ga K "READERS", ["r", "n", "c", "w", "k", "l", "j"])]
abbrev AlY : Type := AlZ × List (Option (List (Option (Str × Int))))
def obsY (K : PySem.W.Frag) : AlY := (obsZ fbL fnL csL K, tbL.map fun t => He.dicW K (t.1 K))
def valY (w : World) : AlY := (valZ fnL csL, tbL.map fun t => some (He.keysIn w.params t.2))
def frY (g : Addr → Option Obj) : PySem.W.Frag := He.frT g (He.asD g 4 ++ [cStatics, sysModules])
abbrev hk : PySem.W.Hook where
  α := AlY
  obs := fun s => obsY (frY s.heap.get?)
  val := fun w => valY w
  says := fun w h => ∃ K : PySem.W.Frag, K.In h ∧ (SaysZ fbL fnL csL K ∧ ∀ (i : Nat) (t : He.Tab), tbL[i]? = some t → He.dicW K (t.1 K) = some (He.keysIn w.params t.2))
  of := fun w _ e => ⟨_, He.frT_in, congrArg (fun z : AlY => z.1) e, fun i t h => by
    have e2 := congrArg (fun z : AlY => z.2[i]?) e
    unfold obsY valY at e2
    dsimp only at e2
    rw [List.getElem?_map, List.getElem?_map, h] at e2
    exact Option.some.inj e2⟩
  keeps := fun _ _ _ ⟨K, hK, c⟩ k => ⟨K, PySem.W.Frag.In.keeps hK k, c⟩
def looseL : List PySem.Str := (["StopError", "BadRegisters", "BadBits", "BadInstruction", "BadAddress", "KEPT", "SMALL", "is_name", "MOST_NUMBER", "MOST_SLOT", "MOST_REGISTER", "is_number", "sort_of_place", "number_of", "is_register", "is_slot", "LEAST_REGISTERS", "MOST_REGISTERS", "need_registers", "LETTERS", "MOST_LETTERS", "LETTER_DIGITS", "REGISTER_DIGITS", "INSTRUCTION_DIGITS", "MANY_DIGITS", "LEAPS", "WORDS", "SHAPES", "digits", "count_of"] : List PySem.Str) ++ (["number_written", "is_bits", "need_bits", "count_at", "number_at", "digits_at", "name_at", "register_at", "place_at", "index_at", "parts_at", "leap_at", "READERS", "read_one", "is_leap", "is_part", "is_instruction", "place_bits", "name_bits", "leap_bits", "part_bits", "head_bits", "bits_of", "all_read", "read_bits", "instruction_at", "_law_begun", "_law_mixed", "_law_take", "_law_pick"] : List PySem.Str) ++ (["_law_names", "_law_figure", "_law_digits", "_law_count", "_law_signed", "_law_spelt", "_law_registers", "_law_copied", "_law_first", "_law_bits", "_law_shapes", "_law_part", "_law_instruction", "_law_leap_bits", "_law_part_bits", "_law_told_bits", "_law_is_name", "_law_read", "_law_value", "_law_refusal", "_law_name_at", "_law_register_at", "_law_copied_at", "_law_signed_at", "_law_some_at", "_law_leap_at", "_law_part_at", "_law_one_at", "_law_due", "_law_changed"] : List PySem.Str)
noncomputable abbrev EndS (w : World) (os : OsState) : Option PySem.W.SharedT := HandSHeadRun.endF (HandSHeadRun.stepQ (HandSHeadRun.denQ HandSHeadRun.tabQ) Rw.prog w) 6000 Rw.prog w os
def KS (s : PySem.W.SharedT) : PySem.W.Frag := frY (HandSHeadRun.getT s)
def ob (s : PySem.W.SharedT) : AlY := obsY (KS s)
theorem ob_eq (s : PySem.W.SharedT) : ob s = hk.obs s.abs := by
  show obsY (frY (HandSHeadRun.getT s)) = obsY (frY s.abs.heap.get?)
  rw [show HandSHeadRun.getT s = s.abs.heap.get? from funext (HandSHeadRun.getT_eq s)]
/-! one kernel run for each group of the tests, for both answers of the row: the memory of a run is given back before the next -/
abbrev RunN (w : World) : Prop := HandSHeadRun.RunEq Rw (PySem.W.view Rw.prog [96]) PySem.W.Hook.none (fun _ => ()) 6000 looseL w
abbrev RunX (w : World) : Prop := ∀ os : OsState, (EndS w os).map (fun s => ((fun K : PySem.W.Frag => ((fnL.all (fun d => d.ok K), fnL.map (fun d => He.fnW K d.at_), csL.map fun d => fnSW K d.cls), tbL.map fun t => He.dicW K (t.1 K), fb0.all fun f => f K, fb1.all fun f => f K)) (KS s))) = some ((true, fnL.map He.DefD.val, csL.map DefS.val), tbL.map (fun t => some (He.keysIn w.params t.2)), true, true)
set_option maxHeartbeats 0 in
theorem run0_N (w : World) : RunN (w.withFollow "special-get-raises" false) := by
  intro os
  kernel_rfl
set_option maxHeartbeats 0 in
theorem run1_N (w : World) : RunN (w.withFollow "special-get-raises" true) := by
  intro os
  kernel_rfl
theorem run_N (w : World) : RunN w := PySem.W.byRow2 "special-get-raises" run0_N run1_N w
set_option maxHeartbeats 0 in
theorem run0_X (w : World) : RunX (w.withFollow "special-get-raises" false) := by
  intro os
  kernel_rfl
set_option maxHeartbeats 0 in
theorem run1_X (w : World) : RunX (w.withFollow "special-get-raises" true) := by
  intro os
  kernel_rfl
theorem run_X (w : World) : RunX w := PySem.W.byRow2 "special-get-raises" run0_X run1_X w
theorem run (w : World) : HandSHeadRun.RunEq Rw (PySem.W.view Rw.prog [96]) hk ob 6000 looseL w := by
  intro os
  have h0 : Option.map _ (EndS w os) = _ := run_N w os
  have hx := run_X w os
  show Option.map _ (EndS w os) = _
  revert h0 hx
  generalize EndS w os = E
  intro h0 hx
  cases E with
  | none => cases hx
  | some s =>
    simp only [Option.map_some] at h0
    replace h0 := Option.some.inj h0
    simp only [Option.map_some, Option.some.injEq, Prod.mk.injEq] at hx ⊢
    obtain ⟨hn, ht, f0, f1⟩ := hx
    refine ⟨congrArg (fun z => z.1) h0, congrArg (fun z => z.2.1) h0, ?_⟩
    have e : (fbL.all fun f => f (KS s)) = true := by
      unfold fbL
      simp only [List.all_append, Bool.and_eq_true]
      exact ⟨f0, f1⟩
    show ((((fbL.all fun f => f (KS s)) && fnL.all fun d => d.ok (KS s), fnL.map fun d => He.fnW (KS s) d.at_, csL.map fun d => fnSW (KS s) d.cls), tbL.map fun t => He.dicW (KS s) (t.1 (KS s))) : AlY) = valY w
    rw [e, hn.1, hn.2.1, hn.2.2, ht]
    rfl
section
variable {K : PySem.W.Frag}
theorem fact_smd (c : SaysZ fbL fnL csL K) : (smdB) K = true := c.fact 0
theorem fact_g_is_name (c : SaysZ fbL fnL csL K) : (gloB "is_name") K = true := c.fact 1
theorem fact_g_is_number (c : SaysZ fbL fnL csL K) : (gloB "is_number") K = true := c.fact 2
theorem fact_g_sort_of_place (c : SaysZ fbL fnL csL K) : (gloB "sort_of_place") K = true := c.fact 3
theorem fact_g_number_of (c : SaysZ fbL fnL csL K) : (gloB "number_of") K = true := c.fact 4
theorem fact_g_is_register (c : SaysZ fbL fnL csL K) : (gloB "is_register") K = true := c.fact 5
theorem fact_g_is_slot (c : SaysZ fbL fnL csL K) : (gloB "is_slot") K = true := c.fact 6
theorem fact_g_need_registers (c : SaysZ fbL fnL csL K) : (gloB "need_registers") K = true := c.fact 7
theorem fact_g_digits (c : SaysZ fbL fnL csL K) : (gloB "digits") K = true := c.fact 8
theorem fact_g_count_of (c : SaysZ fbL fnL csL K) : (gloB "count_of") K = true := c.fact 9
theorem fact_g_number_written (c : SaysZ fbL fnL csL K) : (gloB "number_written") K = true := c.fact 10
theorem fact_g_is_bits (c : SaysZ fbL fnL csL K) : (gloB "is_bits") K = true := c.fact 11
theorem fact_g_need_bits (c : SaysZ fbL fnL csL K) : (gloB "need_bits") K = true := c.fact 12
theorem fact_g_count_at (c : SaysZ fbL fnL csL K) : (gloB "count_at") K = true := c.fact 13
theorem fact_g_number_at (c : SaysZ fbL fnL csL K) : (gloB "number_at") K = true := c.fact 14
theorem fact_g_digits_at (c : SaysZ fbL fnL csL K) : (gloB "digits_at") K = true := c.fact 15
theorem fact_g_name_at (c : SaysZ fbL fnL csL K) : (gloB "name_at") K = true := c.fact 16
theorem fact_g_register_at (c : SaysZ fbL fnL csL K) : (gloB "register_at") K = true := c.fact 17
theorem fact_g_place_at (c : SaysZ fbL fnL csL K) : (gloB "place_at") K = true := c.fact 18
theorem fact_g_index_at (c : SaysZ fbL fnL csL K) : (gloB "index_at") K = true := c.fact 19
theorem fact_g_parts_at (c : SaysZ fbL fnL csL K) : (gloB "parts_at") K = true := c.fact 20
theorem fact_g_leap_at (c : SaysZ fbL fnL csL K) : (gloB "leap_at") K = true := c.fact 21
theorem fact_g_read_one (c : SaysZ fbL fnL csL K) : (gloB "read_one") K = true := c.fact 22
theorem fact_g_is_leap (c : SaysZ fbL fnL csL K) : (gloB "is_leap") K = true := c.fact 23
theorem fact_g_is_part (c : SaysZ fbL fnL csL K) : (gloB "is_part") K = true := c.fact 24
theorem fact_g_is_instruction (c : SaysZ fbL fnL csL K) : (gloB "is_instruction") K = true := c.fact 25
theorem fact_g_place_bits (c : SaysZ fbL fnL csL K) : (gloB "place_bits") K = true := c.fact 26
theorem fact_g_name_bits (c : SaysZ fbL fnL csL K) : (gloB "name_bits") K = true := c.fact 27
theorem fact_g_leap_bits (c : SaysZ fbL fnL csL K) : (gloB "leap_bits") K = true := c.fact 28
theorem fact_g_part_bits (c : SaysZ fbL fnL csL K) : (gloB "part_bits") K = true := c.fact 29
theorem fact_g_head_bits (c : SaysZ fbL fnL csL K) : (gloB "head_bits") K = true := c.fact 30
theorem fact_g_bits_of (c : SaysZ fbL fnL csL K) : (gloB "bits_of") K = true := c.fact 31
theorem fact_g_all_read (c : SaysZ fbL fnL csL K) : (gloB "all_read") K = true := c.fact 32
theorem fact_g_read_bits (c : SaysZ fbL fnL csL K) : (gloB "read_bits") K = true := c.fact 33
theorem fact_g_instruction_at (c : SaysZ fbL fnL csL K) : (gloB "instruction_at") K = true := c.fact 34
theorem fact_g__law_begun (c : SaysZ fbL fnL csL K) : (gloB "_law_begun") K = true := c.fact 35
theorem fact_g__law_mixed (c : SaysZ fbL fnL csL K) : (gloB "_law_mixed") K = true := c.fact 36
theorem fact_g__law_take (c : SaysZ fbL fnL csL K) : (gloB "_law_take") K = true := c.fact 37
theorem fact_g__law_pick (c : SaysZ fbL fnL csL K) : (gloB "_law_pick") K = true := c.fact 38
theorem fact_g__law_names (c : SaysZ fbL fnL csL K) : (gloB "_law_names") K = true := c.fact 39
theorem fact_g__law_figure (c : SaysZ fbL fnL csL K) : (gloB "_law_figure") K = true := c.fact 40
theorem fact_g__law_digits (c : SaysZ fbL fnL csL K) : (gloB "_law_digits") K = true := c.fact 41
theorem fact_g__law_count (c : SaysZ fbL fnL csL K) : (gloB "_law_count") K = true := c.fact 42
theorem fact_g__law_signed (c : SaysZ fbL fnL csL K) : (gloB "_law_signed") K = true := c.fact 43
theorem fact_g__law_spelt (c : SaysZ fbL fnL csL K) : (gloB "_law_spelt") K = true := c.fact 44
theorem fact_g__law_registers (c : SaysZ fbL fnL csL K) : (gloB "_law_registers") K = true := c.fact 45
theorem fact_g__law_copied (c : SaysZ fbL fnL csL K) : (gloB "_law_copied") K = true := c.fact 46
theorem fact_g__law_first (c : SaysZ fbL fnL csL K) : (gloB "_law_first") K = true := c.fact 47
theorem fact_g__law_bits (c : SaysZ fbL fnL csL K) : (gloB "_law_bits") K = true := c.fact 48
theorem fact_g__law_shapes (c : SaysZ fbL fnL csL K) : (gloB "_law_shapes") K = true := c.fact 49
theorem fact_g__law_part (c : SaysZ fbL fnL csL K) : (gloB "_law_part") K = true := c.fact 50
theorem fact_g__law_instruction (c : SaysZ fbL fnL csL K) : (gloB "_law_instruction") K = true := c.fact 51
theorem fact_g__law_leap_bits (c : SaysZ fbL fnL csL K) : (gloB "_law_leap_bits") K = true := c.fact 52
theorem fact_g__law_part_bits (c : SaysZ fbL fnL csL K) : (gloB "_law_part_bits") K = true := c.fact 53
theorem fact_g__law_told_bits (c : SaysZ fbL fnL csL K) : (gloB "_law_told_bits") K = true := c.fact 54
theorem fact_g__law_is_name (c : SaysZ fbL fnL csL K) : (gloB "_law_is_name") K = true := c.fact 55
theorem fact_g__law_read (c : SaysZ fbL fnL csL K) : (gloB "_law_read") K = true := c.fact 56
theorem fact_g__law_value (c : SaysZ fbL fnL csL K) : (gloB "_law_value") K = true := c.fact 57
theorem fact_g__law_refusal (c : SaysZ fbL fnL csL K) : (gloB "_law_refusal") K = true := c.fact 58
theorem fact_g__law_name_at (c : SaysZ fbL fnL csL K) : (gloB "_law_name_at") K = true := c.fact 59
theorem fact_g__law_register_at (c : SaysZ fbL fnL csL K) : (gloB "_law_register_at") K = true := c.fact 60
theorem fact_g__law_copied_at (c : SaysZ fbL fnL csL K) : (gloB "_law_copied_at") K = true := c.fact 61
theorem fact_g__law_signed_at (c : SaysZ fbL fnL csL K) : (gloB "_law_signed_at") K = true := c.fact 62
theorem fact_g__law_some_at (c : SaysZ fbL fnL csL K) : (gloB "_law_some_at") K = true := c.fact 63
theorem fact_g__law_leap_at (c : SaysZ fbL fnL csL K) : (gloB "_law_leap_at") K = true := c.fact 64
theorem fact_g__law_part_at (c : SaysZ fbL fnL csL K) : (gloB "_law_part_at") K = true := c.fact 65
theorem fact_g__law_one_at (c : SaysZ fbL fnL csL K) : (gloB "_law_one_at") K = true := c.fact 66
theorem fact_g__law_due (c : SaysZ fbL fnL csL K) : (gloB "_law_due") K = true := c.fact 67
theorem fact_g__law_changed (c : SaysZ fbL fnL csL K) : (gloB "_law_changed") K = true := c.fact 68
theorem fact_g_law (c : SaysZ fbL fnL csL K) : (gloB "law") K = true := c.fact 69
theorem fact_g_StopError (c : SaysZ fbL fnL csL K) : (gloB "StopError") K = true := c.fact 70
theorem fact_g_BadRegisters (c : SaysZ fbL fnL csL K) : (gloB "BadRegisters") K = true := c.fact 71
theorem fact_g_BadBits (c : SaysZ fbL fnL csL K) : (gloB "BadBits") K = true := c.fact 72
theorem fact_g_BadInstruction (c : SaysZ fbL fnL csL K) : (gloB "BadInstruction") K = true := c.fact 73
theorem fact_g_BadAddress (c : SaysZ fbL fnL csL K) : (gloB "BadAddress") K = true := c.fact 74
theorem fact_f_ValueError (c : SaysZ fbL fnL csL K) : (freeB "ValueError") K = true := c.fact 75
theorem fact_f_abs (c : SaysZ fbL fnL csL K) : (freeB "abs") K = true := c.fact 76
theorem fact_f_all (c : SaysZ fbL fnL csL K) : (freeB "all") K = true := c.fact 77
theorem fact_f_bool (c : SaysZ fbL fnL csL K) : (freeB "bool") K = true := c.fact 78
theorem fact_f_enumerate (c : SaysZ fbL fnL csL K) : (freeB "enumerate") K = true := c.fact 79
theorem fact_f_int (c : SaysZ fbL fnL csL K) : (freeB "int") K = true := c.fact 80
theorem fact_f_isinstance (c : SaysZ fbL fnL csL K) : (freeB "isinstance") K = true := c.fact 81
theorem fact_f_len (c : SaysZ fbL fnL csL K) : (freeB "len") K = true := c.fact 82
theorem fact_f_list (c : SaysZ fbL fnL csL K) : (freeB "list") K = true := c.fact 83
theorem fact_f_range (c : SaysZ fbL fnL csL K) : (freeB "range") K = true := c.fact 84
theorem fact_f_repr (c : SaysZ fbL fnL csL K) : (freeB "repr") K = true := c.fact 85
theorem fact_f_sorted (c : SaysZ fbL fnL csL K) : (freeB "sorted") K = true := c.fact 86
theorem fact_f_str (c : SaysZ fbL fnL csL K) : (freeB "str") K = true := c.fact 87
theorem fact_f_super (c : SaysZ fbL fnL csL K) : (freeB "super") K = true := c.fact 88
theorem fact_f_tuple (c : SaysZ fbL fnL csL K) : (freeB "tuple") K = true := c.fact 89
theorem fact_f_zip (c : SaysZ fbL fnL csL K) : (freeB "zip") K = true := c.fact 90
theorem fact_g_KEPT (c : SaysZ fbL fnL csL K) : (gloB "KEPT") K = true := c.fact 91
theorem fact_g_WORDS (c : SaysZ fbL fnL csL K) : (gloB "WORDS") K = true := c.fact 92
theorem fact_g_SHAPES (c : SaysZ fbL fnL csL K) : (gloB "SHAPES") K = true := c.fact 93
theorem fact_g_LEAPS (c : SaysZ fbL fnL csL K) : (gloB "LEAPS") K = true := c.fact 94
theorem fact_g_READERS (c : SaysZ fbL fnL csL K) : (gloB "READERS") K = true := c.fact 95
theorem fact_n_MOST_NUMBER (c : SaysZ fbL fnL csL K) : (intB "MOST_NUMBER" 9999) K = true := c.fact 96
theorem fact_n_MOST_SLOT (c : SaysZ fbL fnL csL K) : (intB "MOST_SLOT" 999) K = true := c.fact 97
theorem fact_n_MOST_REGISTER (c : SaysZ fbL fnL csL K) : (intB "MOST_REGISTER" 8) K = true := c.fact 98
theorem fact_n_LEAST_REGISTERS (c : SaysZ fbL fnL csL K) : (intB "LEAST_REGISTERS" 6) K = true := c.fact 99
theorem fact_n_MOST_REGISTERS (c : SaysZ fbL fnL csL K) : (intB "MOST_REGISTERS" 9) K = true := c.fact 100
theorem fact_n_MOST_LETTERS (c : SaysZ fbL fnL csL K) : (intB "MOST_LETTERS" 8) K = true := c.fact 101
theorem fact_n_LETTER_DIGITS (c : SaysZ fbL fnL csL K) : (intB "LETTER_DIGITS" 5) K = true := c.fact 102
theorem fact_n_REGISTER_DIGITS (c : SaysZ fbL fnL csL K) : (intB "REGISTER_DIGITS" 4) K = true := c.fact 103
theorem fact_n_INSTRUCTION_DIGITS (c : SaysZ fbL fnL csL K) : (intB "INSTRUCTION_DIGITS" 5) K = true := c.fact 104
theorem fact_n_MANY_DIGITS (c : SaysZ fbL fnL csL K) : (intB "MANY_DIGITS" 2) K = true := c.fact 105
theorem fact_s_SMALL (c : SaysZ fbL fnL csL K) : (strB "SMALL" "abcdefghijklmnopqrstuvwxyz") K = true := c.fact 106
theorem fact_s_LETTERS (c : SaysZ fbL fnL csL K) : (strB "LETTERS" "abcdefghijklmnopqrstuvwxyz") K = true := c.fact 107
theorem fact_t_KEPT (c : SaysZ fbL fnL csL K) : (tupB "KEPT" ["and", "at", "choice", "else", "fail", "false", "function", "if", "let", "long", "make", "match", "new", "not", "number", "of", "or", "over", "put", "rest", "return", "row", "set", "show", "true", "truth", "try", "unit", "uses", "while"]) K = true := c.fact 108
theorem fact_t_WORDS (c : SaysZ fbL fnL csL K) : (tupB "WORDS" ["const", "copy", "plus", "minus", "times", "over", "rest", "less", "atmost", "same", "not", "make", "tag", "part", "long", "new", "at", "put", "show", "call", "jump", "branch", "unless", "try", "return", "fail"]) K = true := c.fact 109
theorem fact_w_WORDS (c : SaysZ fbL fnL csL K) : (tupN "WORDS") K = true := c.fact 110
theorem fact_v_SHAPES (c : SaysZ fbL fnL csL K) : (tabV "SHAPES" [("const", He.Dv.str "rn"), ("copy", He.Dv.str "cc"), ("plus", He.Dv.str "rrr"), ("minus", He.Dv.str "rrr"), ("times", He.Dv.str "rrr"), ("over", He.Dv.str "rrr"), ("rest", He.Dv.str "rrr"), ("less", He.Dv.str "rrr"), ("atmost", He.Dv.str "rrr"), ("same", He.Dv.str "rrr"), ("not", He.Dv.str "rr"), ("make", He.Dv.str "wrl"), ("tag", He.Dv.str "rr"), ("part", He.Dv.str "wkrr"), ("long", He.Dv.str "wrr"), ("new", He.Dv.str "wrrr"), ("at", He.Dv.str "wrrr"), ("put", He.Dv.str "wrrr"), ("show", He.Dv.str "r"), ("call", He.Dv.str "j"), ("jump", He.Dv.str "j"), ("branch", He.Dv.str "rj"), ("unless", He.Dv.str "rj"), ("try", He.Dv.str "jj"), ("return", He.Dv.str ""), ("fail", He.Dv.str "r")]) K = true := c.fact 111
theorem fact_v_READERS (c : SaysZ fbL fnL csL K) : (tabV "READERS" [("r", He.Dv.glo "register_at"), ("n", He.Dv.glo "number_at"), ("c", He.Dv.glo "place_at"), ("w", He.Dv.glo "name_at"), ("k", He.Dv.glo "index_at"), ("l", He.Dv.glo "parts_at"), ("j", He.Dv.glo "leap_at")]) K = true := c.fact 112
theorem fact_v_LEAPS (c : SaysZ fbL fnL csL K) : (tabV "LEAPS" [("short", He.Dv.adr (dad "LEAPS" "short")), ("long", He.Dv.adr (dad "LEAPS" "long"))]) K = true := c.fact 113
theorem fact_l_short (c : SaysZ fbL fnL csL K) : (tupD "LEAPS" "short" [8, 128]) K = true := c.fact 114
theorem fact_l_long (c : SaysZ fbL fnL csL K) : (tupD "LEAPS" "long" [32, 2147483648]) K = true := c.fact 115
theorem fact_o_BadRegisters (c : SaysZ fbL fnL csL K) : (oexN "BadRegisters") K = true := c.fact 116
theorem fact_o_BadBits (c : SaysZ fbL fnL csL K) : (oexN "BadBits") K = true := c.fact 117
theorem fact_o_BadInstruction (c : SaysZ fbL fnL csL K) : (oexN "BadInstruction") K = true := c.fact 118
theorem fact_o_BadAddress (c : SaysZ fbL fnL csL K) : (oexN "BadAddress") K = true := c.fact 119
theorem fact_r_BadRegisters (c : SaysZ fbL fnL csL K) : (excR "BadRegisters") K = true := c.fact 120
theorem fact_r_BadBits (c : SaysZ fbL fnL csL K) : (excR "BadBits") K = true := c.fact 121
theorem fact_r_BadInstruction (c : SaysZ fbL fnL csL K) : (excR "BadInstruction") K = true := c.fact 122
theorem fact_r_BadAddress (c : SaysZ fbL fnL csL K) : (excR "BadAddress") K = true := c.fact 123
theorem fact_x_BadRegisters (c : SaysZ fbL fnL csL K) : (exmB "BadRegisters" "StopError") K = true := c.fact 124
theorem fact_x_BadBits (c : SaysZ fbL fnL csL K) : (exmB "BadBits" "StopError") K = true := c.fact 125
theorem fact_x_BadInstruction (c : SaysZ fbL fnL csL K) : (exmB "BadInstruction" "StopError") K = true := c.fact 126
theorem fact_x_BadAddress (c : SaysZ fbL fnL csL K) : (exmB "BadAddress" "StopError") K = true := c.fact 127
theorem fact_p_BadRegisters (c : SaysZ fbL fnL csL K) : (excN "BadRegisters") K = true := c.fact 128
theorem fact_p_BadAddress (c : SaysZ fbL fnL csL K) : (excN "BadAddress") K = true := c.fact 129
theorem fact_a_BadBits (c : SaysZ fbL fnL csL K) : (noatB "BadBits" "at") K = true := c.fact 130
theorem fact_a_BadInstruction (c : SaysZ fbL fnL csL K) : (noatB "BadInstruction" "at") K = true := c.fact 131
theorem fact_sup_BadBits (c : SaysZ fbL fnL csL K) : (supN i_BadBits) K = true := c.fact 132
theorem fact_dfl_BadBits (c : SaysZ fbL fnL csL K) : (dflB "BadBits") K = true := c.fact 133
theorem fact_sup_BadInstruction (c : SaysZ fbL fnL csL K) : (supN i_BadInstruction) K = true := c.fact 134
theorem fact_dfl_BadInstruction (c : SaysZ fbL fnL csL K) : (dflB "BadInstruction") K = true := c.fact 135
theorem fact_k_BadRegisters_BadRegisters (c : SaysZ fbL fnL csL K) : (kitB "BadRegisters" "BadRegisters") K = true := c.fact 136
theorem fact_k_BadRegisters_BadBits (c : SaysZ fbL fnL csL K) : (kitF "BadRegisters" "BadBits") K = true := c.fact 137
theorem fact_k_BadRegisters_BadInstruction (c : SaysZ fbL fnL csL K) : (kitF "BadRegisters" "BadInstruction") K = true := c.fact 138
theorem fact_k_BadRegisters_BadAddress (c : SaysZ fbL fnL csL K) : (kitF "BadRegisters" "BadAddress") K = true := c.fact 139
theorem fact_k_BadBits_BadRegisters (c : SaysZ fbL fnL csL K) : (kitF "BadBits" "BadRegisters") K = true := c.fact 140
theorem fact_k_BadBits_BadBits (c : SaysZ fbL fnL csL K) : (kitB "BadBits" "BadBits") K = true := c.fact 141
theorem fact_k_BadBits_BadInstruction (c : SaysZ fbL fnL csL K) : (kitF "BadBits" "BadInstruction") K = true := c.fact 142
theorem fact_k_BadBits_BadAddress (c : SaysZ fbL fnL csL K) : (kitF "BadBits" "BadAddress") K = true := c.fact 143
theorem fact_k_BadInstruction_BadRegisters (c : SaysZ fbL fnL csL K) : (kitF "BadInstruction" "BadRegisters") K = true := c.fact 144
theorem fact_k_BadInstruction_BadBits (c : SaysZ fbL fnL csL K) : (kitF "BadInstruction" "BadBits") K = true := c.fact 145
theorem fact_k_BadInstruction_BadInstruction (c : SaysZ fbL fnL csL K) : (kitB "BadInstruction" "BadInstruction") K = true := c.fact 146
theorem fact_k_BadInstruction_BadAddress (c : SaysZ fbL fnL csL K) : (kitF "BadInstruction" "BadAddress") K = true := c.fact 147
theorem fact_k_BadAddress_BadRegisters (c : SaysZ fbL fnL csL K) : (kitF "BadAddress" "BadRegisters") K = true := c.fact 148
theorem fact_k_BadAddress_BadBits (c : SaysZ fbL fnL csL K) : (kitF "BadAddress" "BadBits") K = true := c.fact 149
theorem fact_k_BadAddress_BadInstruction (c : SaysZ fbL fnL csL K) : (kitF "BadAddress" "BadInstruction") K = true := c.fact 150
theorem fact_k_BadAddress_BadAddress (c : SaysZ fbL fnL csL K) : (kitB "BadAddress" "BadAddress") K = true := c.fact 151
theorem def_is_name (c : SaysZ fbL fnL csL K) : ∃ fd, FunD K "is_name" "is_name" (defArgs s_is_name) (defBody s_is_name) (defScope s_is_name) [] [] (He.ga K "is_name") fd := c.def_ 0 (d := d_is_name) rfl
theorem def_is_number (c : SaysZ fbL fnL csL K) : ∃ fd, FunD K "is_number" "is_number" (defArgs s_is_number) (defBody s_is_number) (defScope s_is_number) [] [] (He.ga K "is_number") fd := c.def_ 1 (d := d_is_number) rfl
theorem def_sort_of_place (c : SaysZ fbL fnL csL K) : ∃ fd, FunD K "sort_of_place" "sort_of_place" (defArgs s_sort_of_place) (defBody s_sort_of_place) (defScope s_sort_of_place) [] [] (He.ga K "sort_of_place") fd := c.def_ 2 (d := d_sort_of_place) rfl
theorem def_number_of (c : SaysZ fbL fnL csL K) : ∃ fd, FunD K "number_of" "number_of" (defArgs s_number_of) (defBody s_number_of) (defScope s_number_of) [] [] (He.ga K "number_of") fd := c.def_ 3 (d := d_number_of) rfl
theorem def_is_register (c : SaysZ fbL fnL csL K) : ∃ fd, FunD K "is_register" "is_register" (defArgs s_is_register) (defBody s_is_register) (defScope s_is_register) [] [] (He.ga K "is_register") fd := c.def_ 4 (d := d_is_register) rfl
theorem def_is_slot (c : SaysZ fbL fnL csL K) : ∃ fd, FunD K "is_slot" "is_slot" (defArgs s_is_slot) (defBody s_is_slot) (defScope s_is_slot) [] [] (He.ga K "is_slot") fd := c.def_ 5 (d := d_is_slot) rfl
theorem def_need_registers (c : SaysZ fbL fnL csL K) : ∃ fd, FunD K "need_registers" "need_registers" (defArgs s_need_registers) (defBody s_need_registers) (defScope s_need_registers) [] [] (He.ga K "need_registers") fd := c.def_ 6 (d := d_need_registers) rfl
theorem def_digits (c : SaysZ fbL fnL csL K) : ∃ fd, FunD K "digits" "digits" (defArgs s_digits) (defBody s_digits) (defScope s_digits) [] [] (He.ga K "digits") fd := c.def_ 7 (d := d_digits) rfl
theorem def_count_of (c : SaysZ fbL fnL csL K) : ∃ fd, FunD K "count_of" "count_of" (defArgs s_count_of) (defBody s_count_of) (defScope s_count_of) [] [] (He.ga K "count_of") fd := c.def_ 8 (d := d_count_of) rfl
theorem def_number_written (c : SaysZ fbL fnL csL K) : ∃ fd, FunD K "number_written" "number_written" (defArgs s_number_written) (defBody s_number_written) (defScope s_number_written) [] [] (He.ga K "number_written") fd := c.def_ 9 (d := d_number_written) rfl
theorem def_is_bits (c : SaysZ fbL fnL csL K) : ∃ fd, FunD K "is_bits" "is_bits" (defArgs s_is_bits) (defBody s_is_bits) (defScope s_is_bits) [] [] (He.ga K "is_bits") fd := c.def_ 10 (d := d_is_bits) rfl
theorem def_need_bits (c : SaysZ fbL fnL csL K) : ∃ fd, FunD K "need_bits" "need_bits" (defArgs s_need_bits) (defBody s_need_bits) (defScope s_need_bits) [] [] (He.ga K "need_bits") fd := c.def_ 11 (d := d_need_bits) rfl
theorem def_count_at (c : SaysZ fbL fnL csL K) : ∃ fd, FunD K "count_at" "count_at" (defArgs s_count_at) (defBody s_count_at) (defScope s_count_at) [] [] (He.ga K "count_at") fd := c.def_ 12 (d := d_count_at) rfl
theorem def_number_at (c : SaysZ fbL fnL csL K) : ∃ fd, FunD K "number_at" "number_at" (defArgs s_number_at) (defBody s_number_at) (defScope s_number_at) [] [] (He.ga K "number_at") fd := c.def_ 13 (d := d_number_at) rfl
theorem def_digits_at (c : SaysZ fbL fnL csL K) : ∃ fd, FunD K "digits_at" "digits_at" (defArgs s_digits_at) (defBody s_digits_at) (defScope s_digits_at) [] [] (He.ga K "digits_at") fd := c.def_ 14 (d := d_digits_at) rfl
theorem def_name_at (c : SaysZ fbL fnL csL K) : ∃ fd, FunD K "name_at" "name_at" (defArgs s_name_at) (defBody s_name_at) (defScope s_name_at) [] [] (He.ga K "name_at") fd := c.def_ 15 (d := d_name_at) rfl
theorem def_register_at (c : SaysZ fbL fnL csL K) : ∃ fd, FunD K "register_at" "register_at" (defArgs s_register_at) (defBody s_register_at) (defScope s_register_at) [] [] (He.ga K "register_at") fd := c.def_ 16 (d := d_register_at) rfl
theorem def_place_at (c : SaysZ fbL fnL csL K) : ∃ fd, FunD K "place_at" "place_at" (defArgs s_place_at) (defBody s_place_at) (defScope s_place_at) [] [] (He.ga K "place_at") fd := c.def_ 17 (d := d_place_at) rfl
theorem def_index_at (c : SaysZ fbL fnL csL K) : ∃ fd, FunD K "index_at" "index_at" (defArgs s_index_at) (defBody s_index_at) (defScope s_index_at) [] [] (He.ga K "index_at") fd := c.def_ 18 (d := d_index_at) rfl
theorem def_parts_at (c : SaysZ fbL fnL csL K) : ∃ fd, FunD K "parts_at" "parts_at" (defArgs s_parts_at) (defBody s_parts_at) (defScope s_parts_at) [] [] (He.ga K "parts_at") fd := c.def_ 19 (d := d_parts_at) rfl
theorem def_leap_at (c : SaysZ fbL fnL csL K) : ∃ fd, FunD K "leap_at" "leap_at" (defArgs s_leap_at) (defBody s_leap_at) (defScope s_leap_at) [] [] (He.ga K "leap_at") fd := c.def_ 20 (d := d_leap_at) rfl
theorem def_read_one (c : SaysZ fbL fnL csL K) : ∃ fd, FunD K "read_one" "read_one" (defArgs s_read_one) (defBody s_read_one) (defScope s_read_one) [] [] (He.ga K "read_one") fd := c.def_ 21 (d := d_read_one) rfl
theorem def_is_leap (c : SaysZ fbL fnL csL K) : ∃ fd, FunD K "is_leap" "is_leap" (defArgs s_is_leap) (defBody s_is_leap) (defScope s_is_leap) [] [] (He.ga K "is_leap") fd := c.def_ 22 (d := d_is_leap) rfl
theorem def_is_part (c : SaysZ fbL fnL csL K) : ∃ fd, FunD K "is_part" "is_part" (defArgs s_is_part) (defBody s_is_part) (defScope s_is_part) [] [] (He.ga K "is_part") fd := c.def_ 23 (d := d_is_part) rfl
theorem def_is_instruction (c : SaysZ fbL fnL csL K) : ∃ fd, FunD K "is_instruction" "is_instruction" (defArgs s_is_instruction) (defBody s_is_instruction) (defScope s_is_instruction) [] [] (He.ga K "is_instruction") fd := c.def_ 24 (d := d_is_instruction) rfl
theorem def_place_bits (c : SaysZ fbL fnL csL K) : ∃ fd, FunD K "place_bits" "place_bits" (defArgs s_place_bits) (defBody s_place_bits) (defScope s_place_bits) [] [] (He.ga K "place_bits") fd := c.def_ 25 (d := d_place_bits) rfl
theorem def_name_bits (c : SaysZ fbL fnL csL K) : ∃ fd, FunD K "name_bits" "name_bits" (defArgs s_name_bits) (defBody s_name_bits) (defScope s_name_bits) [] [] (He.ga K "name_bits") fd := c.def_ 26 (d := d_name_bits) rfl
theorem def_leap_bits (c : SaysZ fbL fnL csL K) : ∃ fd, FunD K "leap_bits" "leap_bits" (defArgs s_leap_bits) (defBody s_leap_bits) (defScope s_leap_bits) [] [] (He.ga K "leap_bits") fd := c.def_ 27 (d := d_leap_bits) rfl
theorem def_part_bits (c : SaysZ fbL fnL csL K) : ∃ fd, FunD K "part_bits" "part_bits" (defArgs s_part_bits) (defBody s_part_bits) (defScope s_part_bits) [] [] (He.ga K "part_bits") fd := c.def_ 28 (d := d_part_bits) rfl
theorem def_head_bits (c : SaysZ fbL fnL csL K) : ∃ fd, FunD K "head_bits" "head_bits" (defArgs s_head_bits) (defBody s_head_bits) (defScope s_head_bits) [] [] (He.ga K "head_bits") fd := c.def_ 29 (d := d_head_bits) rfl
theorem def_bits_of (c : SaysZ fbL fnL csL K) : ∃ fd, FunD K "bits_of" "bits_of" (defArgs s_bits_of) (defBody s_bits_of) (defScope s_bits_of) [] [] (He.ga K "bits_of") fd := c.def_ 30 (d := d_bits_of) rfl
theorem def_all_read (c : SaysZ fbL fnL csL K) : ∃ fd, FunD K "all_read" "all_read" (defArgs s_all_read) (defBody s_all_read) (defScope s_all_read) [] [] (He.ga K "all_read") fd := c.def_ 31 (d := d_all_read) rfl
theorem def_read_bits (c : SaysZ fbL fnL csL K) : ∃ fd, FunD K "read_bits" "read_bits" (defArgs s_read_bits) (defBody s_read_bits) (defScope s_read_bits) [] [] (He.ga K "read_bits") fd := c.def_ 32 (d := d_read_bits) rfl
theorem def_instruction_at (c : SaysZ fbL fnL csL K) : ∃ fd, FunD K "instruction_at" "instruction_at" (defArgs s_instruction_at) (defBody s_instruction_at) (defScope s_instruction_at) [] [] (He.ga K "instruction_at") fd := c.def_ 33 (d := d_instruction_at) rfl
theorem def__law_begun (c : SaysZ fbL fnL csL K) : ∃ fd, FunD K "_law_begun" "_law_begun" (defArgs s_law_begun) (defBody s_law_begun) (defScope s_law_begun) [] [] (He.ga K "_law_begun") fd := c.def_ 34 (d := d__law_begun) rfl
theorem def__law_mixed (c : SaysZ fbL fnL csL K) : ∃ fd, FunD K "_law_mixed" "_law_mixed" (defArgs s_law_mixed) (defBody s_law_mixed) (defScope s_law_mixed) [] [] (He.ga K "_law_mixed") fd := c.def_ 35 (d := d__law_mixed) rfl
theorem def__law_take (c : SaysZ fbL fnL csL K) : ∃ fd, FunD K "_law_take" "_law_take" (defArgs s_law_take) (defBody s_law_take) (defScope s_law_take) [] [] (He.ga K "_law_take") fd := c.def_ 36 (d := d__law_take) rfl
theorem def__law_pick (c : SaysZ fbL fnL csL K) : ∃ fd, FunD K "_law_pick" "_law_pick" (defArgs s_law_pick) (defBody s_law_pick) (defScope s_law_pick) [] [] (He.ga K "_law_pick") fd := c.def_ 37 (d := d__law_pick) rfl
theorem def__law_names (c : SaysZ fbL fnL csL K) : ∃ fd, FunD K "_law_names" "_law_names" (defArgs s_law_names) (defBody s_law_names) (defScope s_law_names) [] [] (He.ga K "_law_names") fd := c.def_ 38 (d := d__law_names) rfl
theorem def__law_figure (c : SaysZ fbL fnL csL K) : ∃ fd, FunD K "_law_figure" "_law_figure" (defArgs s_law_figure) (defBody s_law_figure) (defScope s_law_figure) [] [] (He.ga K "_law_figure") fd := c.def_ 39 (d := d__law_figure) rfl
theorem def__law_digits (c : SaysZ fbL fnL csL K) : ∃ fd, FunD K "_law_digits" "_law_digits" (defArgs s_law_digits) (defBody s_law_digits) (defScope s_law_digits) [] [] (He.ga K "_law_digits") fd := c.def_ 40 (d := d__law_digits) rfl
theorem def__law_count (c : SaysZ fbL fnL csL K) : ∃ fd, FunD K "_law_count" "_law_count" (defArgs s_law_count) (defBody s_law_count) (defScope s_law_count) [] [] (He.ga K "_law_count") fd := c.def_ 41 (d := d__law_count) rfl
theorem def__law_signed (c : SaysZ fbL fnL csL K) : ∃ fd, FunD K "_law_signed" "_law_signed" (defArgs s_law_signed) (defBody s_law_signed) (defScope s_law_signed) [] [] (He.ga K "_law_signed") fd := c.def_ 42 (d := d__law_signed) rfl
theorem def__law_spelt (c : SaysZ fbL fnL csL K) : ∃ fd, FunD K "_law_spelt" "_law_spelt" (defArgs s_law_spelt) (defBody s_law_spelt) (defScope s_law_spelt) [] [] (He.ga K "_law_spelt") fd := c.def_ 43 (d := d__law_spelt) rfl
theorem def__law_registers (c : SaysZ fbL fnL csL K) : ∃ fd, FunD K "_law_registers" "_law_registers" (defArgs s_law_registers) (defBody s_law_registers) (defScope s_law_registers) [] [] (He.ga K "_law_registers") fd := c.def_ 44 (d := d__law_registers) rfl
theorem def__law_copied (c : SaysZ fbL fnL csL K) : ∃ fd, FunD K "_law_copied" "_law_copied" (defArgs s_law_copied) (defBody s_law_copied) (defScope s_law_copied) [] [] (He.ga K "_law_copied") fd := c.def_ 45 (d := d__law_copied) rfl
theorem def__law_first (c : SaysZ fbL fnL csL K) : ∃ fd, FunD K "_law_first" "_law_first" (defArgs s_law_first) (defBody s_law_first) (defScope s_law_first) [] [] (He.ga K "_law_first") fd := c.def_ 46 (d := d__law_first) rfl
theorem def__law_bits (c : SaysZ fbL fnL csL K) : ∃ fd, FunD K "_law_bits" "_law_bits" (defArgs s_law_bits) (defBody s_law_bits) (defScope s_law_bits) [] [] (He.ga K "_law_bits") fd := c.def_ 47 (d := d__law_bits) rfl
theorem def__law_shapes (c : SaysZ fbL fnL csL K) : ∃ fd, FunD K "_law_shapes" "_law_shapes" (defArgs s_law_shapes) (defBody s_law_shapes) (defScope s_law_shapes) [] [] (He.ga K "_law_shapes") fd := c.def_ 48 (d := d__law_shapes) rfl
theorem def__law_part (c : SaysZ fbL fnL csL K) : ∃ fd, FunD K "_law_part" "_law_part" (defArgs s_law_part) (defBody s_law_part) (defScope s_law_part) [] [] (He.ga K "_law_part") fd := c.def_ 49 (d := d__law_part) rfl
theorem def__law_instruction (c : SaysZ fbL fnL csL K) : ∃ fd, FunD K "_law_instruction" "_law_instruction" (defArgs s_law_instruction) (defBody s_law_instruction) (defScope s_law_instruction) [] [] (He.ga K "_law_instruction") fd := c.def_ 50 (d := d__law_instruction) rfl
theorem def__law_leap_bits (c : SaysZ fbL fnL csL K) : ∃ fd, FunD K "_law_leap_bits" "_law_leap_bits" (defArgs s_law_leap_bits) (defBody s_law_leap_bits) (defScope s_law_leap_bits) [] [] (He.ga K "_law_leap_bits") fd := c.def_ 51 (d := d__law_leap_bits) rfl
theorem def__law_part_bits (c : SaysZ fbL fnL csL K) : ∃ fd, FunD K "_law_part_bits" "_law_part_bits" (defArgs s_law_part_bits) (defBody s_law_part_bits) (defScope s_law_part_bits) [] [] (He.ga K "_law_part_bits") fd := c.def_ 52 (d := d__law_part_bits) rfl
theorem def__law_told_bits (c : SaysZ fbL fnL csL K) : ∃ fd, FunD K "_law_told_bits" "_law_told_bits" (defArgs s_law_told_bits) (defBody s_law_told_bits) (defScope s_law_told_bits) [] [] (He.ga K "_law_told_bits") fd := c.def_ 53 (d := d__law_told_bits) rfl
theorem def__law_is_name (c : SaysZ fbL fnL csL K) : ∃ fd, FunD K "_law_is_name" "_law_is_name" (defArgs s_law_is_name) (defBody s_law_is_name) (defScope s_law_is_name) [] [] (He.ga K "_law_is_name") fd := c.def_ 54 (d := d__law_is_name) rfl
theorem def__law_read (c : SaysZ fbL fnL csL K) : ∃ fd, FunD K "_law_read" "_law_read" (defArgs s_law_read) (defBody s_law_read) (defScope s_law_read) [] [] (He.ga K "_law_read") fd := c.def_ 55 (d := d__law_read) rfl
theorem def__law_value (c : SaysZ fbL fnL csL K) : ∃ fd, FunD K "_law_value" "_law_value" (defArgs s_law_value) (defBody s_law_value) (defScope s_law_value) [] [] (He.ga K "_law_value") fd := c.def_ 56 (d := d__law_value) rfl
theorem def__law_refusal (c : SaysZ fbL fnL csL K) : ∃ fd, FunD K "_law_refusal" "_law_refusal" (defArgs s_law_refusal) (defBody s_law_refusal) (defScope s_law_refusal) [] [] (He.ga K "_law_refusal") fd := c.def_ 57 (d := d__law_refusal) rfl
theorem def__law_name_at (c : SaysZ fbL fnL csL K) : ∃ fd, FunD K "_law_name_at" "_law_name_at" (defArgs s_law_name_at) (defBody s_law_name_at) (defScope s_law_name_at) [] [] (He.ga K "_law_name_at") fd := c.def_ 58 (d := d__law_name_at) rfl
theorem def__law_register_at (c : SaysZ fbL fnL csL K) : ∃ fd, FunD K "_law_register_at" "_law_register_at" (defArgs s_law_register_at) (defBody s_law_register_at) (defScope s_law_register_at) [] [] (He.ga K "_law_register_at") fd := c.def_ 59 (d := d__law_register_at) rfl
theorem def__law_copied_at (c : SaysZ fbL fnL csL K) : ∃ fd, FunD K "_law_copied_at" "_law_copied_at" (defArgs s_law_copied_at) (defBody s_law_copied_at) (defScope s_law_copied_at) [] [] (He.ga K "_law_copied_at") fd := c.def_ 60 (d := d__law_copied_at) rfl
theorem def__law_signed_at (c : SaysZ fbL fnL csL K) : ∃ fd, FunD K "_law_signed_at" "_law_signed_at" (defArgs s_law_signed_at) (defBody s_law_signed_at) (defScope s_law_signed_at) [] [] (He.ga K "_law_signed_at") fd := c.def_ 61 (d := d__law_signed_at) rfl
theorem def__law_some_at (c : SaysZ fbL fnL csL K) : ∃ fd, FunD K "_law_some_at" "_law_some_at" (defArgs s_law_some_at) (defBody s_law_some_at) (defScope s_law_some_at) [] [] (He.ga K "_law_some_at") fd := c.def_ 62 (d := d__law_some_at) rfl
theorem def__law_leap_at (c : SaysZ fbL fnL csL K) : ∃ fd, FunD K "_law_leap_at" "_law_leap_at" (defArgs s_law_leap_at) (defBody s_law_leap_at) (defScope s_law_leap_at) [] [] (He.ga K "_law_leap_at") fd := c.def_ 63 (d := d__law_leap_at) rfl
theorem def__law_part_at (c : SaysZ fbL fnL csL K) : ∃ fd, FunD K "_law_part_at" "_law_part_at" (defArgs s_law_part_at) (defBody s_law_part_at) (defScope s_law_part_at) [] [] (He.ga K "_law_part_at") fd := c.def_ 64 (d := d__law_part_at) rfl
theorem def__law_one_at (c : SaysZ fbL fnL csL K) : ∃ fd, FunD K "_law_one_at" "_law_one_at" (defArgs s_law_one_at) (defBody s_law_one_at) (defScope s_law_one_at) [] [] (He.ga K "_law_one_at") fd := c.def_ 65 (d := d__law_one_at) rfl
theorem def__law_due (c : SaysZ fbL fnL csL K) : ∃ fd, FunD K "_law_due" "_law_due" (defArgs s_law_due) (defBody s_law_due) (defScope s_law_due) [] [] (He.ga K "_law_due") fd := c.def_ 66 (d := d__law_due) rfl
theorem def__law_changed (c : SaysZ fbL fnL csL K) : ∃ fd, FunD K "_law_changed" "_law_changed" (defArgs s_law_changed) (defBody s_law_changed) (defScope s_law_changed) [] [] (He.ga K "_law_changed") fd := c.def_ 67 (d := d__law_changed) rfl
theorem def_law (c : SaysZ fbL fnL csL K) : ∃ fd, FunD K "law" "law" (defArgs s_law) (defBody s_law) (defScope s_law) [] [] (He.ga K "law") fd := c.def_ 68 (d := d_law) rfl
theorem ini_BadBits (c : SaysZ fbL fnL csL K) : fnSW K "BadBits" = (i_BadBits).val := c.ini (d := i_BadBits) (List.mem_of_getElem? (i := 0) rfl)
theorem ini_BadInstruction (c : SaysZ fbL fnL csL K) : fnSW K "BadInstruction" = (i_BadInstruction).val := c.ini (d := i_BadInstruction) (List.mem_of_getElem? (i := 1) rfl)
end
abbrev FnP (K : PySem.W.Frag) (x : Str) (st : Stmt) (f : Addr) (fd : FuncData) : Prop := FunD K x x (defArgs st) (defBody st) (defScope st) [] [] f fd
section
variable {P : Program} {w : World} {K : PySem.W.Frag} {mg : Str → Option Value} {base : Heap}
theorem getI {ns : List Int} {i : Nat} {y : V} (h : (ns.map V.int)[i]? = some y) : ∃ z, ns[i]? = some z ∧ y = .int z := by
  rw [List.getElem?_map] at h
  cases e : ns[i]? with
  | none => rw [e] at h; cases h
  | some z => rw [e] at h; exact ⟨z, rfl, (Option.some.inj h).symm⟩
theorem sl_of {n : Nat} (h : n ≤ 100000) : n ≤ sizeLine := Nat.le_trans h (by decide)
theorem sc_mixed : FnScope ["_law_draw", "_law_turn", "_law_found", "_law_prime", "_law_blend", "_law_cell"] ["_law_draw"] (defScope s_law_mixed) := ⟨rfl, rfl, rfl, by decide +kernel, rfl, by decide +kernel, by decide +kernel⟩
theorem primes_ok {i : Nat} {y : V} (h : ([V.int 2147483629, V.int 2147483587, V.int 2147483579, V.int 2147483563] : List V)[i]? = some y) : ∃ z : Int, y = .int z ∧ 2147483563 ≤ z ∧ z ≤ 2147483629 := by
  match i, h with
  | 0, h => cases h; exact ⟨_, rfl, by decide, by decide⟩
  | 1, h => cases h; exact ⟨_, rfl, by decide, by decide⟩
  | 2, h => cases h; exact ⟨_, rfl, by decide, by decide⟩
  | 3, h => cases h; exact ⟨_, rfl, by decide, by decide⟩
  | n + 4, h => cases h
theorem ok_mixed {f : Addr} {fd : FuncData} (F : FnP K "_law_mixed" s_law_mixed f fd) (gI : mg "int" = none) : FnOk P w K mg base CX0 1 f fd ["_law_draw"] spMixed := by
  refine F.ok sc_mixed (fun vs H Q E h => ?_) (fun cdv A outer s H vs Q E hr h => ?_)
  · obtain ⟨d, w, c, ws, cs, rest, turn, rfl, _⟩ := h
    rfl
  · obtain ⟨d, w, c, ws, cs, rest, turn, rfl, hT, D, k⟩ := h
    have hu := hu_of hr
    have nd := sc_mixed.nd
    refine ⟨_, PSs.nox (pss_cons (ps_par (i := 1) (j := 2) rfl nd rfl rfl (by decide) rfl rfl (pa_cons (pe_op op_add (pe_dget hu (pv 0) pe_str (fun _ _ => rfl)) pe_int) (pa_cons pe_int pa_nil)) (by rfl))
      (pss_cons (ps_dput hu (pv 0) pe_str (pv 1) rfl)
      (pss_cons (ps_for PassesOwn.never rfl (pi_list (pe_lst (pa_cons pe_int (pa_cons pe_int (pa_cons pe_int (pa_cons pe_int pa_nil)))))) (pg_name (i := 3) nd rfl (Or.inl rfl))
        (pss_cons (ps_set (i := 4) nd rfl (Or.inl rfl) (pe_op op_add (pe_op op_mul pe_int (pv 1)) (pe_op op_fdivN (pv 3) pe_int)))
        (pss_cons (ps_for PassesOwn.never rfl (pi_list (pe_dget hu (pv 0) pe_str (fun _ _ => rfl))) (pg_name (i := 5) nd rfl (Or.inl rfl))
          (pss_one (ps_set (i := 4) nd rfl (Or.inl rfl) (pe_op op_modN (pe_callTy call_int1 (by rfl) gI (by decide +kernel) (pa_cons (pe_op op_add (pe_op op_add (pe_op op_mul (pv 4) pe_int) (pv 5)) (pv 1)) pa_nil)) (pv 3)))))
        (pss_one (ps_set (i := 2) nd rfl (Or.inl rfl) (pe_op op_add (pe_op op_mul (pv 2) pe_int) (pe_op op_modN (pe_callTy call_int1 (by rfl) gI (by decide +kernel) (pa_cons (pe_op op_pow (pv 4) pe_int) pa_nil)) (pv 3))))))))
      (pss_one (ps_ret (pv 2)))))), ?_⟩
    have T0 := D.tn
    refine ⟨_, rfl, d, _, rfl, dget_turn D.hd, _, _, rfl, rfl, _, _, rfl, ?_⟩
    refine ⟨_, rfl, _, rfl, d, _, rfl, dput_turn _ D.hd, ?_⟩
    have D1 := D.setD (t2 := turn + 1) D.rn (by omega)
    have K1 : ∀ b o, H b = some o → b ≠ d → (upd H d (.dK (drK w c rest (turn + 1)))) b = some o := fun b o e n => by rw [upd_ne n]; exact e
    generalize upd H d (.dK (drK w c rest (turn + 1))) = H1 at D1 K1
    refine ⟨sl_of (by decide), fun p hp => ⟨p, rfl, ⟨_, SqL.of upd_same⟩, ?_⟩⟩
    have ndp : d ≠ p := ne_of_none D1.hd hp
    have nwp : w ≠ p := ne_of_none D1.hw hp
    have ncp : c ≠ p := ne_of_none D1.hc hp
    refine for_list (K := K) (a := p) (xs := [V.int 2147483629, V.int 2147483587, V.int 2147483579, V.int 2147483563]) (fun i σ H' => ∃ (fnd : Int) (v3 v4 v5 : Option V), σ = [some (.ref d), some (.int (turn + 1)), some (.int fnd), v3, v4, v5] ∧ 0 ≤ fnd ∧ H' = upd H1 p (.lst [V.int 2147483629, V.int 2147483587, V.int 2147483579, V.int 2147483563]))
      ⟨0, none, none, none, rfl, by decide, rfl⟩ (fun i σ H' _ ⟨_, _, _, _, _, _, e⟩ => by rw [e]; exact SqL.of upd_same) ?_ ?_
    · rintro i y σ H' hi ⟨fnd, v3, v4, v5, rfl, hf, rfl⟩
      obtain ⟨z, rfl, z1, z2⟩ := primes_ok hi
      have z0 : z ≠ 0 := by omega
      have D2 := D1.updo (o := .lst [V.int 2147483629, V.int 2147483587, V.int 2147483579, V.int 2147483563]) ndp.symm nwp.symm ncp.symm
      refine ⟨_, rfl, _, _, rfl, rfl, .inl ⟨by decide, by decide⟩, _, rfl, _, _, rfl, rfl, ⟨by decide, by decide⟩, _, _, rfl, rfl, ?_⟩
      refine ⟨_, rfl, d, _, rfl, dget_cells D2.hd, c, rfl, ⟨_, SqL.of D2.hc⟩, ?_⟩
      have b0 : 0 ≤ 61441 * (turn + 1) + z.fdiv 19 := by
        rw [Int.fdiv_eq_ediv_of_nonneg _ (by decide)]
        omega
      have b1 : 61441 * (turn + 1) + z.fdiv 19 < 2 ^ 63 := by
        rw [Int.fdiv_eq_ediv_of_nonneg _ (by decide)]
        have : turn < 1099511627776 := hT
        omega
      refine for_list (K := K) (a := c) (xs := cs.map V.int) (fun j σ H' => ∃ (bl : Int) (v5 : Option V), σ = [some (.ref d), some (.int (turn + 1)), some (.int fnd), some (.int z), some (.int bl), v5] ∧ 0 ≤ bl ∧ bl < 2 ^ 63 ∧ H' = upd H1 p (.lst [V.int 2147483629, V.int 2147483587, V.int 2147483579, V.int 2147483563]))
        ⟨_, v5, rfl, b0, b1, rfl⟩ (fun j σ H' _ ⟨_, _, _, _, _, e⟩ => by rw [e]; exact SqL.of D2.hc) ?_ ?_
      · rintro j y σ H' hj ⟨bl, v6, rfl, h0, h1, rfl⟩
        obtain ⟨q, _, rfl⟩ := getI hj
        refine ⟨_, rfl, _, _, rfl, rfl, .inr ⟨by decide, by decide⟩, _, rfl, _, _, rfl, rfl, _, rfl, _, _, rfl, rfl, .inl ⟨_, rfl, ?_⟩⟩
        refine ⟨_, rfl, _, _, rfl, rfl, z0, ?_⟩
        have m0 := Int.fmod_nonneg_of_pos (bl * 48271 + q + (turn + 1)) (b := z) (by omega)
        have m1 := Int.fmod_lt_of_pos (bl * 48271 + q + (turn + 1)) (b := z) (by omega)
        exact ⟨_, _, rfl, m0, by omega, rfl⟩
      · rintro σ H' ⟨bl, v6, rfl, h0, h1, rfl⟩
        refine ⟨_, rfl, _, _, rfl, rfl, .inr ⟨by decide, by decide⟩, _, rfl, _, _, rfl, rfl, ⟨by decide, by decide, by omega⟩, .inl ⟨_, rfl, ?_⟩⟩
        refine ⟨_, rfl, _, _, rfl, rfl, z0, _, _, rfl, rfl, ?_⟩
        have m0 := Int.fmod_nonneg_of_pos (bl ^ Int.toNat 5) (b := z) (by omega)
        exact ⟨_, _, _, _, rfl, by omega, rfl⟩
    · rintro σ H' ⟨fnd, v3, v4, v5, rfl, hf, rfl⟩
      refine ⟨_, rfl, ?_⟩
      refine k _ _ hf (D1.updo ndp.symm nwp.symm ncp.symm) fun b o e n => ?_
      have e1 := K1 b o e n
      rw [upd_ne (ne_of_none e1 hp)]
      exact e1
end
section
variable {P : Program} {w : World} {K : PySem.W.Frag} {mg : Str → Option Value} {base : Heap}
theorem sc_take : FnScope ["_law_draw", "_law_many", "_law_found"] ["_law_draw", "_law_many"] (defScope s_law_take) := ⟨rfl, rfl, rfl, by decide +kernel, rfl, by decide +kernel, by decide +kernel⟩
theorem dpAll_ints {K : PySem.W.Frag} {H : Hp} : ∀ ns : List Int, DpAll K H (ns.map V.int) (ns.map PyData.int)
  | [] => .nil
  | n :: ns => .cons (.int n) (dpAll_ints ns)
theorem shaped_lst (ns : List Int) : SeqAt.shaped (.list (ns.map PyData.int)) = true := PySem.W.ke_shaped_ints ns
theorem eqv_nil (ns : List Int) : PyData.eqv (.list (ns.map PyData.int)) (.list []) = ns.isEmpty := by
  cases ns <;> simp [PyData.eqv, PyData.eqvAll]
theorem ok_take {f fM : Addr} {fd fdM : FuncData} (F : FnP K "_law_take" s_law_take f fd) (FM : FnP K "_law_mixed" s_law_mixed fM fdM) (gM : mg "_law_mixed" = some (.ref fM)) (gI : mg "int" = none) : FnOk P w K mg base CX0 2 f fd ["_law_draw", "_law_many"] spTake := by
  have GM : FnOk P w K mg base CX0 1 fM fdM ["_law_draw"] spMixed := ok_mixed FM gI
  have bM : Binds K fdM ["_law_draw"] [] := FM.bindsN fun _ _ _ _ _ _ us hl => match us, hl with | [_], _ => rfl
  refine F.ok sc_take (fun vs H Q E h => ?_) (fun cdv A outer s H vs Q E hr h => ?_)
  · obtain ⟨t, H0, d, n, rfl, _⟩ := h
    rfl
  · obtain ⟨t, H0, d, n, rfl, hD, ht, n0, n1, k⟩ := h
    have hu := hu_of hr
    have nd := sc_take.nd
    obtain ⟨sm, w, c, ws, cs, rest, turn, h1, h2, h3, htu, D⟩ := hD
    refine ⟨_, PSs.nox (pss_cons (ps_if (pt_cmpR op_eq (pe_dget hu (pv 0) pe_str (fun _ _ => rfl)) pe_int (nomark _))
       (pss_one (ps_dput hu (pv 0) pe_str (pe_ifExp (pt_cmpR (op_neD hr.units) (pe_dget hu (pv 0) pe_str (fun _ _ => rfl)) (pe_lst pa_nil) (nomark _))
          (pe_bm PySem.F.plainAttrs_list PySem.F.slot_list_pop PySem.F.type_list_pop mt_popAt (pe_dget hu (pv 0) pe_str (fun _ _ => rfl)) (pa_cons pe_int pa_nil))
          (pe_call GM hr rfl gM FM.kp bM .nil pass0 (pa_cons (pv 0) pa_nil))) rfl)) pss_nil)
      (pss_cons (ps_set (i := 2) nd rfl (.inl rfl) (pe_op op_modN (pe_callTy call_int1 (by rfl) gI (by decide +kernel) (pa_cons (pe_dget hu (pv 0) pe_str (fun _ _ => rfl)) pa_nil)) (pv 1)))
      (pss_cons (ps_dput hu (pv 0) pe_str (pe_op op_fdivW (pe_dget hu (pv 0) pe_str (fun _ _ => rfl)) (pv 1)) rfl)
      (pss_one (ps_ret (pv 2)))))), ?_⟩
    -- what follows the if
    have fin : ∀ (ws : List Int) (rest turn : Int) (H1 : Hp), turn ≤ (t + 1 : Nat) → Same H0 H1 → DrD H1 d w c ws cs rest turn →
        tSeq (tAsg (tOp (rI (fun _ j => j ≠ 0) fun i j => .int (i.fmod j)) (tCB (fun xs H Q => (∃ i, xs = [.int i] ∧ Q (.int i) H) ∨ ∃ k, xs = [.bl k] ∧ Q (.int (if k then 1 else 0)) H) (tCons (tDGet (tVar 0) (tC (.str "rest"))) tNil)) (tVar 1)) (gName 2))
          (tSeq (sDPut (tVar 0) (tC (.str "rest")) (tOp (rI CDivW fun i j => .int (i / j)) (tDGet (tVar 0) (tC (.str "rest"))) (tVar 1))) (tRet (tVar 2))) { nx := fun _ H' => Q .non H', rt := Q } [some (.ref d), some (.int n), none] H1 := by
      intro ws rest turn H1 hle sm1 D1
      refine ⟨_, rfl, d, _, rfl, dget_rest D1.hd, .inl ⟨_, rfl, _, rfl, _, _, rfl, rfl, by omega, ?_⟩⟩
      have r0 := D1.rn
      have q0 : 0 ≤ rest / n := Int.ediv_nonneg r0 (by omega)
      refine ⟨_, rfl, d, _, rfl, dget_rest D1.hd, _, rfl, _, _, rfl, rfl, wide_div n0 (b := 60) (by omega) (by decide) (by decide), _, rfl, d, _, rfl, dput_rest _ D1.hd, _, rfl, ?_⟩
      refine k _ _ (Int.fmod_nonneg_of_pos _ n0) (Int.fmod_lt_of_pos _ n0) ⟨same_sub sm1 h1, w, c, ws, cs, _, turn, h1, h2, h3, hle, D1.setD q0 D1.tn⟩
    refine ⟨_, rfl, d, _, rfl, dget_rest D.hd, rfl, _, rfl, ?_⟩
    by_cases e : rest = 0
    · subst e
      refine iteT ?_
      refine ⟨_, rfl, d, _, rfl, dget_wide D.hd, Nat.zero_le _, fun p hp => ?_⟩
      have ndp : d ≠ p := ne_of_none D.hd hp
      have nwp : w ≠ p := ne_of_none D.hw hp
      have ncp : c ≠ p := ne_of_none D.hc hp
      have D2 := D.updo (o := .lst []) ndp.symm nwp.symm ncp.symm
      refine ⟨_, _, .lst (SqL.of D2.hw) (dpAll_ints ws), .lst (SqL.of upd_same) .nil, shaped_lst ws, shaped_lst [], _, rfl, ?_⟩
      rw [eqv_nil]
      have sm2 : Same H0 (upd H p (.lst [])) := same_sub sm (sm.free hp)
      generalize upd H p (.lst []) = H2 at D2 sm2
      cases ws with
      | nil =>
        refine iteF ?_
        refine ⟨_, rfl, ?_⟩
        refine ⟨d, w, c, [], cs, 0, turn, rfl, by have : t < 1099511627776 := ht; show turn < 1099511627776; omega, D2, fun m H3 m0 D3 k3 => ?_⟩
        refine ⟨_, rfl, d, _, rfl, dput_rest _ D3.hd, ?_⟩
        have sm3 : Same H0 H3 := fun b o e => k3 b o (sm2 b o e) (ne_of_none e h1)
        exact fin _ _ _ _ (by omega) (same_sub sm3 h1) (D3.setD m0 D3.tn)
      | cons m ws =>
        refine iteT ?_
        refine ⟨_, rfl, d, _, rfl, dget_wide D2.hd, .inl ⟨rfl, _, SqL.of D2.hw⟩, w, _, 0, 0, .int m, rfl, rfl, D2.hw, by decide, by decide, ?_, rfl, ?_⟩
        · simp [seqIndex?]
        · have nwd := D2.ne_dw
          refine ⟨_, rfl, d, _, rfl, dput_rest _ (by rw [upd_ne nwd]; exact D2.hd), ?_⟩
          have m0 := D2.wn m (List.mem_cons_self ..)
          have l0 := D2.wl
          rw [List.length_cons] at l0
          have D3 : DrD (upd H2 w (.lst (ws.map V.int))) d w c ws cs 0 turn := ⟨by rw [upd_ne nwd]; exact D2.hd, upd_same, by rw [upd_ne D2.wc.symm]; exact D2.hc, D2.wc, by omega, fun x hx => D2.wn x (List.mem_cons_of_mem _ hx), D2.cl, by decide, D2.tn⟩
          exact fin _ _ _ _ (by omega) (same_sub (same_sub sm2 h2) h1) (D3.setD m0 D3.tn)
    · have e2 : decide (V.int rest = V.int 0) = false := decide_eq_false fun z => e (by injection z)
      rw [e2]
      refine iteF ?_
      exact fin _ _ _ _ (by omega) sm D
end
theorem Same.seqT {K : PySem.W.Frag} {H H' : Hp} {a : Addr} {xs : List V} (e : Same H H') (h : SqT K H a xs) : SqT K H' a xs := by
  rcases h with (h | ⟨o, h⟩) | h
  · exact .inl (.inl (e _ _ h))
  · exact .inl (.inr ⟨o, e _ _ h⟩)
  · exact .inr h
theorem yesIf {σ : L2.St} {H : Hp} {A B : Hp → Prop} (h : A H) : tYes σ H (fun b H3 => if b = true then A H3 else B H3) := by
  show if true = true then A H else B H
  exact iteT h
section
variable {P : Program} {w : World} {K : PySem.W.Frag} {mg : Str → Option Value} {base : Heap}
theorem sc_pick : FnScope ["_law_draw", "_law_some"] ["_law_draw", "_law_some"] (defScope s_law_pick) := ⟨rfl, rfl, rfl, by decide +kernel, rfl, by decide +kernel, by decide +kernel⟩
theorem toNat_get {xs : List V} {k : Int} (h0 : 0 ≤ k) (h1 : k < (xs.length : Int)) : ∃ v, v ∈ xs ∧ xs[k.toNat]? = some v := by
  have h : k.toNat < xs.length := by omega
  exact ⟨xs[k.toNat], List.getElem_mem h, List.getElem?_eq_getElem h⟩
theorem atI_int {α : Type} {xs : List α} {k : Int} {v : α} (h0 : 0 ≤ k) (h : xs[k.toNat]? = some v) : atI xs k = some v := by
  have e : ((k.toNat : Nat) : Int) = k := by omega
  rw [← e]
  exact atI_nat h
theorem ok_pick {f fT : Addr} {fd fdT : FuncData} (F : FnP K "_law_pick" s_law_pick f fd) (gT : mg "_law_take" = some (.ref fT)) (kT : PySem.W.keepIn K (.ref fT) = true) (bT : Binds K fdT ["_law_draw", "_law_many"] []) (GT : FnOk P w K mg base CX0 2 fT fdT ["_law_draw", "_law_many"] spTake) (gL : mg "len" = none) :
    FnOk P w K mg base CX0 3 f fd ["_law_draw", "_law_some"] (spPick K) := by
  refine F.ok sc_pick (fun vs H Q E h => ?_) (fun cdv A outer s H vs Q E hr h => ?_)
  · obtain ⟨t, H0, d, x, xs, rfl, _⟩ := h
    rfl
  · obtain ⟨t, H0, d, x, xs, rfl, hD, ht, hx, l0, l1, k⟩ := h
    refine ⟨_, PSs.nox (pss_one (ps_ret (pe_ix ix_seq (pv 1) (pe_call GT hr rfl gT kT bT .nil pass0 (pa_cons (pv 0) (pa_cons (pe_callB call_len (by rfl) gL PySem.boot_len (pa_cons (pv 1) pa_nil)) pa_nil))) (fun _ _ => rfl)))), ?_⟩
    have hl : LenV K x H xs.length := by
      cases hx with
      | lst h => exact .inl ⟨_, hD.same.seq h, rfl⟩
      | tup h => exact .inr ⟨_, Same.seqT hD.same h, rfl⟩
      | str h =>
        rw [List.length_map]
        exact ⟨sl_of h, rfl⟩
    refine ⟨_, rfl, _, rfl, _, rfl, _, _, rfl, hl, ?_⟩
    refine ⟨t, H0, d, xs.length, rfl, hD, ht, by omega, by omega, fun i H' i0 i1 hD' => ?_⟩
    obtain ⟨v, hv, hg⟩ := toNat_get i0 i1
    have q := k v H' hv hD'
    cases hx with
    | lst h => exact .inl ⟨_, _, _, _, rfl, rfl, hD'.same.seq h, atI_int i0 hg, q⟩
    | tup h => exact .inr (.inl ⟨_, _, _, _, rfl, rfl, Same.seqT hD'.same h, atI_int i0 hg, q⟩)
    | @str z h =>
      rw [List.getElem?_map] at hg
      cases e : z.cps.toList[i.toNat]? with
      | none => rw [e] at hg; cases hg
      | some c =>
        rw [e] at hg
        cases (Option.some.inj hg)
        exact .inr (.inr ⟨_, _, _, rfl, rfl, sl_of h, atI_int i0 e, q⟩)
theorem sc_begun : FnScope ["_law_script", "_law_wide", "_law_cell"] ["_law_script"] (defScope s_law_begun) := ⟨rfl, rfl, rfl, by decide +kernel, rfl, by decide +kernel, by decide +kernel⟩
theorem ok_begun {f : Addr} {fd : FuncData} (F : FnP K "_law_begun" s_law_begun f fd) (gI : mg "int" = none) (gA : mg "abs" = none) : FnOk P w K mg base CX0 1 f fd ["_law_script"] (spBegun K) := by
  refine F.ok sc_begun (fun vs H Q E h => ?_) (fun cdv A outer s H vs Q E hr h => ?_)
  · obtain ⟨a, ns, rfl, _⟩ := h
    rfl
  · obtain ⟨a, ns, rfl, hS, hl, k⟩ := h
    have hu := hu_of hr
    have nd := sc_begun.nd
    refine ⟨_, PSs.nox (pss_cons (ps_setLc (i := 1) (own := [("_law_cell", 2)]) (g := gName 2) rfl nd rfl rfl (sw_true rfl rfl rfl (by decide +kernel)) (pi_list (pv 0)) (blkOk_by (own := [("_law_cell", 2)]) (N := ["_law_script", "_law_wide", "_law_cell"]) (sc := defScope s_law_begun) (by decide +kernel))
        (fun _ _ _ _ _ => pg_name (i := 2) nd rfl (Or.inl rfl))
        (fun _ _ _ _ _ => pts_one (pt_cmpR op_ge (pe_callB call_abs (by rfl) gA (by decide +kernel) (pa_cons (pv 2) pa_nil)) (pe_op op_pow pe_int pe_int) (nomark _)))
        (fun _ _ _ _ _ => pe_op op_sub (pe_callB call_abs (by rfl) gA (by decide +kernel) (pa_cons (pv 2) pa_nil)) (pe_op op_pow pe_int pe_int)))
      (pss_one (ps_ret (pe_disp (pps_cons pe_str (pv 1) (pps_cons pe_str
        (pe_lc (own := [("_law_cell", 2)]) (g := gName 2) rfl nd (pi_list (pv 0)) (blkOk_by (own := [("_law_cell", 2)]) (N := ["_law_script", "_law_wide", "_law_cell"]) (sc := defScope s_law_begun) (by decide +kernel))
          (fun _ _ _ _ _ => pg_name (i := 2) nd rfl (Or.inl rfl)) (fun _ _ _ _ _ => pts_nil)
          (fun _ _ _ _ _ => pe_op op_modN (pe_callTy call_int1 (by rfl) gI (by decide +kernel) (pa_cons (pe_callB call_abs (by rfl) gA (by decide +kernel) (pa_cons (pv 2) pa_nil)) pa_nil)) pe_int))
        (pps_cons pe_str pe_int (pps_cons pe_str pe_int pps_nil)))) (by rfl) (by rfl) (fun z => by cases z) (by decide))))), ?_⟩
    refine ⟨_, rfl, a, rfl, ⟨_, hS⟩, fun D hD => ?_⟩
    have sD : ∀ o, Same H (upd H D o) := fun o => same_new hD
    refine lc_list (K := K) (a := a) (xs := ns.map V.int) (fun i H' => ∃ acc : List Int, H' = upd H D (.lst (acc.map V.int)) ∧ acc.length ≤ i ∧ ∀ x ∈ acc, 0 ≤ x) ⟨[], rfl, Nat.le_refl _, by simp⟩ (fun i H' _ ⟨acc, e, _⟩ => by rw [e]; exact (sD _).seq hS) ?_ ?_
    · rintro i x H' hi ⟨acc, rfl, hal, ha⟩
      obtain ⟨z, hz, rfl⟩ := getI hi
      have hil : i < ns.length := (List.getElem?_eq_some_iff.mp hz).1
      refine ⟨rfl, ?_⟩
      refine ⟨_, rfl, _, rfl, _, _, rfl, rfl, ⟨by decide, by decide, by decide⟩, _, _, rfl, rfl, _, rfl, ?_⟩
      refine ite2 (fun c => ?_) (fun c => ?_)
      · have c1 := of_decide_eq_true c
        refine ⟨_, rfl, _, rfl, _, _, rfl, rfl, ⟨by decide, by decide, by decide⟩, _, _, rfl, rfl, _, upd_same, ?_, acc ++ [(if z < 0 then -z else z) - 10 ^ Int.toNat 18], ?_, ?_, ?_⟩
        · rw [List.length_map]
          exact Nat.lt_of_lt_of_le (show acc.length < 64 by omega) (by decide)
        · rw [upd_upd, List.map_append]
          rfl
        · rw [List.length_append]
          exact Nat.succ_le_succ hal
        · intro x hx
          rcases List.mem_append.mp hx with h | h
          · exact ha x h
          · rw [List.mem_singleton.mp h]
            omega
      · exact ⟨acc, rfl, by omega, ha⟩
    · rintro H' ⟨ws, rfl, hwl, hw⟩
      rw [List.length_map] at hwl
      intro p hp
      have npD : p ≠ D := fun z => by rw [z, upd_same] at hp; cases hp
      have s1 : Same H (upd (upd H D (.lst (ws.map V.int))) p (.dK [])) := (sD _).trans (same_new hp)
      refine ⟨_, rfl, ?_⟩
      refine ⟨_, rfl, a, rfl, ⟨_, s1.seq hS⟩, fun D2 hD2 => ?_⟩
      have nDD : D ≠ D2 := fun z => by rw [← z, upd_ne npD.symm, upd_same] at hD2; cases hD2
      have npD2 : p ≠ D2 := fun z => by rw [← z, upd_same] at hD2; cases hD2
      refine lc_list (K := K) (a := a) (xs := ns.map V.int) (fun i H' => ∃ acc : List Int, H' = upd (upd (upd H D (.lst (ws.map V.int))) p (.dK [])) D2 (.lst (acc.map V.int)) ∧ acc.length ≤ i) ⟨[], rfl, Nat.le_refl _⟩ (fun i H' _ ⟨acc, e, _⟩ => by rw [e]; exact (s1.trans (same_new hD2)).seq hS) ?_ ?_
      · rintro i x H' hi ⟨acc, rfl, hal⟩
        obtain ⟨z, hz, rfl⟩ := getI hi
        have hil : i < ns.length := (List.getElem?_eq_some_iff.mp hz).1
        refine ⟨rfl, yesIf ?_⟩
        refine ⟨_, rfl, _, rfl, .inl ⟨_, rfl, _, _, rfl, rfl, (show (2147483629 : Int) ≠ 0 by decide), ?_⟩⟩
        refine ⟨_, upd_same, ?_, acc ++ [(if z < 0 then -z else z).fmod 2147483629], ?_, ?_⟩
        · rw [List.length_map]
          exact Nat.lt_of_lt_of_le (show acc.length < 64 by omega) (by decide)
        · rw [upd_upd, List.map_append]
          rfl
        · rw [List.length_append]
          exact Nat.succ_le_succ hal
      · rintro H' ⟨cs, rfl, hcl⟩
        rw [List.length_map] at hcl
        refine ⟨by rw [upd_ne npD2, upd_same], drK D D2 0 0, rfl, (show 4 ≤ 15 by decide), ?_⟩
        rw [dr_made]
        have hpn : H p = none := (sD _).free hp
        have hD2n : H D2 = none := s1.free hD2
        refine k _ p ⟨fun b o e => ?_, D, D2, ws, cs, 0, 0, hpn, hD, hD2n, Int.le_refl _, ⟨upd_same, ?_, ?_, nDD, by omega, hw, by omega, Int.le_refl _, Int.le_refl _⟩⟩ hpn
        · rw [upd_ne (ne_of_none e hpn), upd_ne (ne_of_none e hD2n), upd_ne (ne_of_none e hpn), upd_ne (ne_of_none e hD)]
          exact e
        · rw [upd_ne npD.symm, upd_ne nDD, upd_ne npD.symm, upd_same]
        · rw [upd_ne npD2.symm, upd_same]
end
/-! ## texts as lists of codes -/
def sT (t : List Nat) : Str := ⟨t.toArray⟩
theorem sT_len (t : List Nat) : (sT t).length = t.length := by show t.toArray.size = t.length; simp
theorem sT_cps (t : List Nat) : (sT t).cps.toList = t := by show t.toArray.toList = t; simp
theorem sT_of (z : Str) : sT z.cps.toList = z := by cases z; simp [sT]
theorem sT_inj {a b : List Nat} (h : sT a = sT b) : a = b := by rw [← sT_cps a, ← sT_cps b, h]
def chV (c : Nat) : V := .str ⟨#[c]⟩
theorem chV_sT (c : Nat) : chV c = .str (sT [c]) := rfl
theorem cut_nat (t : List Nat) (a b : Nat) : cutS (sT t) (some (a : Int)) (some (b : Int)) = sT ((t.drop a).take (b - a)) := by
  unfold cutS
  rw [sT_len, sT_cps, HT.sIx_nat, HT.sIx_nat]
  unfold sT
  congr 2
  apply List.ext_getElem?
  intro i
  simp only [List.getElem?_take, List.getElem?_drop]
  by_cases h : a ≤ t.length
  · rw [Nat.min_eq_left h]
    by_cases h2 : b ≤ t.length
    · rw [Nat.min_eq_left h2]
    · rw [Nat.min_eq_right (by omega)]
      by_cases h3 : i < t.length - a
      · rw [if_pos h3, if_pos (by omega)]
      · rw [if_neg h3]
        by_cases h4 : i < b - a
        · rw [if_pos h4, List.getElem?_eq_none (by omega)]
        · rw [if_neg h4]
  · rw [Nat.min_eq_right (show t.length ≤ a by omega), if_neg (by omega)]
    by_cases h4 : i < b - a
    · rw [if_pos h4, List.getElem?_eq_none (by omega)]
    · rw [if_neg h4]
theorem cut_from (t : List Nat) (a : Nat) : cutS (sT t) (some (a : Int)) none = sT (t.drop a) := by
  unfold cutS
  rw [sT_len, sT_cps, HT.sIx_nat, HT.sIx_none]
  unfold sT
  congr 2
  apply List.ext_getElem?
  intro i
  simp only [List.getElem?_take, List.getElem?_drop]
  by_cases h : a ≤ t.length
  · rw [Nat.min_eq_left h]
    by_cases h3 : i < t.length - a
    · rw [if_pos h3]
    · rw [if_neg h3, List.getElem?_eq_none (by omega)]
  · rw [Nat.min_eq_right (by omega), if_neg (by omega), List.getElem?_eq_none (by omega)]
theorem cut_to (t : List Nat) (b : Nat) : cutS (sT t) none (some (b : Int)) = sT (t.take b) := by
  have h := cut_nat t 0 b
  rw [List.drop_zero, Nat.sub_zero] at h
  rw [← h]
  unfold cutS
  rw [HT.sIx_none]
  rfl
def isSmall (c : Nat) : Bool := decide (97 ≤ c) && decide (c ≤ 122)
def isBig (c : Nat) : Bool := decide (65 ≤ c) && decide (c ≤ 90)
def isFig (c : Nat) : Bool := decide (48 ≤ c) && decide (c ≤ 57)
def isInner (c : Nat) : Bool := isSmall c || isBig c || isFig c || decide (c = 95)
def isGood (c : Nat) : Bool := decide (c = 10) || (decide (32 ≤ c) && decide (c ≤ 126) && !decide (c = 37))
theorem cps_small : ("abcdefghijklmnopqrstuvwxyz" : Str).cps.toList = [97, 98, 99, 100, 101, 102, 103, 104, 105, 106, 107, 108, 109, 110, 111, 112, 113, 114, 115, 116, 117, 118, 119, 120, 121, 122] := by decide +kernel
theorem cps_fig : ("0123456789" : Str).cps.toList = [48, 49, 50, 51, 52, 53, 54, 55, 56, 57] := by decide +kernel
theorem cps_inner : ("abcdefghijklmnopqrstuvwxyzABCDEFGHIJKLMNOPQRSTUVWXYZ0123456789_" : Str).cps.toList = [97, 98, 99, 100, 101, 102, 103, 104, 105, 106, 107, 108, 109, 110, 111, 112, 113, 114, 115, 116, 117, 118, 119, 120, 121, 122, 65, 66, 67, 68, 69, 70, 71, 72, 73, 74, 75, 76, 77, 78, 79, 80, 81, 82, 83, 84, 85, 86, 87, 88, 89, 90, 48, 49, 50, 51, 52, 53, 54, 55, 56, 57, 95] := by decide +kernel
theorem cps_blank : (" \n" : Str).cps.toList = [32, 10] := by decide +kernel
theorem mem_small (c : Nat) : decide (c ∈ ("abcdefghijklmnopqrstuvwxyz" : Str).cps.toList) = isSmall c := by
  rw [cps_small]
  unfold isSmall
  rw [← Bool.decide_and]
  apply decide_eq_decide.mpr
  simp only [List.mem_cons, List.not_mem_nil, or_false]
  omega
theorem mem_fig (c : Nat) : decide (c ∈ ("0123456789" : Str).cps.toList) = isFig c := by
  rw [cps_fig]
  unfold isFig
  rw [← Bool.decide_and]
  apply decide_eq_decide.mpr
  simp only [List.mem_cons, List.not_mem_nil, or_false]
  omega
theorem mem_inner (c : Nat) : decide (c ∈ ("abcdefghijklmnopqrstuvwxyzABCDEFGHIJKLMNOPQRSTUVWXYZ0123456789_" : Str).cps.toList) = isInner c := by
  rw [cps_inner]
  unfold isInner isSmall isBig isFig
  rw [← Bool.decide_and, ← Bool.decide_and, ← Bool.decide_and, ← Bool.decide_or, ← Bool.decide_or, ← Bool.decide_or]
  apply decide_eq_decide.mpr
  simp only [List.mem_cons, List.not_mem_nil, or_false]
  omega
theorem mem_blank (c : Nat) : decide (c ∈ (" \n" : Str).cps.toList) = (decide (c = 32) || decide (c = 10)) := by
  rw [cps_blank, ← Bool.decide_or]
  apply decide_eq_decide.mpr
  simp only [List.mem_cons, List.not_mem_nil, or_false]
/-- c between two signs, as the law says it -/
theorem le_sign (a c : Nat) : (!decide ([c] < [a])) = decide (a ≤ c) := by
  rw [← decide_not]
  apply decide_eq_decide.mpr
  rw [List.cons_lt_cons_iff]
  simp
/-! the longest word that begins a rest -/
def isLong : List Nat → Bool
  | [] => false
  | c :: r => isInner c || (decide (c = 45) && (match r with | [] => false | d :: _ => isFig d))
theorem isLong_cons (c : Nat) (r : List Nat) : isLong (c :: r) = (isInner c || (decide (c = 45) && (match r with | [] => false | d :: _ => isFig d))) := rfl
def wl (t : List Nat) : Nat := if isLong t = true then 1 + ((t.drop 1).takeWhile isInner).length else if t.take 2 = [60, 61] ∨ t.take 2 = [61, 61] then 2 else 1
theorem take_prefix_tw (p : Nat → Bool) : ∀ t : List Nat, (t.takeWhile p).length ≤ t.length
  | [] => Nat.le_refl _
  | c :: r => by
    unfold List.takeWhile
    split
    · exact Nat.succ_le_succ (take_prefix_tw p r)
    · exact Nat.zero_le _
theorem wl_pos (t : List Nat) : 1 ≤ wl t := by unfold wl; split <;> try split <;> omega
                                               all_goals omega
theorem wl_le {t : List Nat} (h : t ≠ []) : wl t ≤ t.length := by
  obtain ⟨c, r, rfl⟩ := List.exists_cons_of_ne_nil h
  unfold wl
  split
  · have := take_prefix_tw isInner r
    simp only [List.drop_one, List.tail_cons, List.length_cons]
    omega
  · split
    · rename_i q
      have : ((c :: r).take 2).length = 2 := by rcases q with q | q <;> rw [q] <;> rfl
      rw [List.length_take] at this
      omega
    · simp
theorem tw_take (p : Nat → Bool) : ∀ t : List Nat, (t.take (t.takeWhile p).length).takeWhile p = t.takeWhile p
  | [] => rfl
  | c :: r => by
    by_cases h : p c = true
    · have e : (c :: r).takeWhile p = c :: r.takeWhile p := by simp [List.takeWhile, h]
      rw [e, List.length_cons, List.take_succ_cons]
      simp only [List.takeWhile, h]
      rw [tw_take p r]
    · have e : (c :: r).takeWhile p = [] := by simp [List.takeWhile, h]
      rw [e]
      rfl
theorem wl_take {t : List Nat} (h : t ≠ []) : wl (t.take (wl t)) = wl t := by
  obtain ⟨c, r, rfl⟩ := List.exists_cons_of_ne_nil h
  by_cases hl : isLong (c :: r) = true
  · have e : wl (c :: r) = 1 + (r.takeWhile isInner).length := by unfold wl; rw [if_pos hl]; rfl
    rw [e, Nat.add_comm, List.take_succ_cons]
    have hl2 : isLong (c :: r.take (r.takeWhile isInner).length) = true := by
      rw [isLong_cons] at hl ⊢
      cases hi : isInner c with
      | true => rfl
      | false =>
        rw [hi, Bool.false_or] at hl
        rw [Bool.false_or]
        cases r with
        | nil => simpa using hl
        | cons d q =>
          simp only [Bool.and_eq_true] at hl
          have hd : isInner d = true := by unfold isInner; rw [hl.2]; simp
          simp only [List.takeWhile, hd, List.length_cons, List.take_succ_cons, Bool.and_eq_true]
          exact hl
    unfold wl
    rw [if_pos hl2]
    simp only [List.drop_one, List.tail_cons]
    rw [tw_take, Nat.add_comm]
  · have hlf : isLong (c :: r) = false := by simpa using hl
    by_cases q : (c :: r).take 2 = [60, 61] ∨ (c :: r).take 2 = [61, 61]
    · have e : wl (c :: r) = 2 := by unfold wl; rw [if_neg hl, if_pos q]
      rw [e]
      rcases q with q | q <;> rw [q] <;> rfl
    · have e : wl (c :: r) = 1 := by unfold wl; rw [if_neg hl, if_neg q]
      rw [e]
      have h1 : ([c] : List Nat).take 2 ≠ [60, 61] ∧ ([c] : List Nat).take 2 ≠ [61, 61] := ⟨by simp, by simp⟩
      show wl [c] = 1
      unfold wl
      split
      · rfl
      · rw [if_neg (by simp)]
/-- a text's words with their places -/
def cutF : Nat → List Nat → Nat → Nat → List (List Nat × Nat × Nat)
  | 0, _, _, _ => []
  | _ + 1, [], _, _ => []
  | n + 1, c :: r, l, k => if c = 10 then cutF n r (l + 1) 1 else if c = 32 then cutF n r l (k + 1) else ((c :: r).take (wl (c :: r)), l, k) :: cutF n ((c :: r).drop (wl (c :: r))) l (k + wl (c :: r))
abbrev cutT (t : List Nat) : List (List Nat × Nat × Nat) := cutF t.length t 1 1
theorem cutF_nil (n l k : Nat) : cutF n [] l k = [] := by cases n <;> rfl
theorem cutF_mem {n : Nat} : ∀ {t : List Nat} {l k : Nat} {x : List Nat × Nat × Nat}, x ∈ cutF n t l k → (∀ c ∈ x.1, c ∈ t) ∧ x.1 ≠ [] ∧ x.1.length ≤ t.length ∧ cutT x.1 = [(x.1, 1, 1)] := by
  induction n with
  | zero => intro t l k x h; cases h
  | succ n ih =>
    intro t l k x h
    cases t with
    | nil => cases h
    | cons c r =>
      unfold cutF at h
      split at h
      · obtain ⟨h1, h2, h3, h4⟩ := ih h
        exact ⟨fun d hd => List.mem_cons_of_mem _ (h1 d hd), h2, by simp only [List.length_cons]; omega, h4⟩
      · split at h
        · obtain ⟨h1, h2, h3, h4⟩ := ih h
          exact ⟨fun d hd => List.mem_cons_of_mem _ (h1 d hd), h2, by simp only [List.length_cons]; omega, h4⟩
        · rename_i n1 n2
          rcases List.mem_cons.mp h with h | h
          · subst h
            have p1 := wl_pos (c :: r)
            have p2 := wl_le (t := c :: r) (by simp)
            have ht := wl_take (t := c :: r) (by simp)
            have e : (c :: r).take (wl (c :: r)) = c :: r.take (wl (c :: r) - 1) := by
              obtain ⟨m, hm⟩ : ∃ m, wl (c :: r) = m + 1 := ⟨wl (c :: r) - 1, by omega⟩
              rw [hm, List.take_succ_cons]; rfl
            refine ⟨fun d hd => List.mem_of_mem_take hd, by simp only [e]; simp, by simp only [List.length_take]; omega, ?_⟩
            have hlen : ((c :: r).take (wl (c :: r))).length = wl (c :: r) := by rw [List.length_take]; omega
            show cutF ((c :: r).take (wl (c :: r))).length _ 1 1 = _
            obtain ⟨m, hm⟩ : ∃ m, ((c :: r).take (wl (c :: r))).length = m + 1 := ⟨wl (c :: r) - 1, by omega⟩
            rw [hm]
            generalize hw : (c :: r).take (wl (c :: r)) = w at *
            rw [e]
            unfold cutF
            rw [if_neg n1, if_neg n2, ← e, ht, List.take_of_length_le (by omega), List.drop_of_length_le (by omega), cutF_nil]
          · obtain ⟨h1, h2, h3, h4⟩ := ih h
            refine ⟨fun d hd => List.mem_of_mem_drop (h1 d hd), h2, ?_, h4⟩
            rw [List.length_drop] at h3
            omega
theorem cutF_len {n : Nat} : ∀ {t : List Nat} {l k : Nat}, (cutF n t l k).length ≤ t.length := by
  induction n with
  | zero => intro t l k; exact Nat.zero_le _
  | succ n ih =>
    intro t l k
    cases t with
    | nil => exact Nat.zero_le _
    | cons c r =>
      unfold cutF
      split
      · exact Nat.le_succ_of_le ih
      · split
        · exact Nat.le_succ_of_le ih
        · have h := ih (t := (c :: r).drop (wl (c :: r))) (l := l) (k := k + wl (c :: r))
          rw [List.length_drop] at h
          have := wl_pos (c :: r)
          have := wl_le (t := c :: r) (by simp)
          simp only [List.length_cons] at *
          omega
/-! sorts -/
def keptV : List V := [V.str "and", V.str "at", V.str "choice", V.str "else", V.str "fail", V.str "false", V.str "function", V.str "if", V.str "let", V.str "long", V.str "make", V.str "match", V.str "new", V.str "not", V.str "number", V.str "of", V.str "or", V.str "over", V.str "put", V.str "rest", V.str "return", V.str "row", V.str "set", V.str "show", V.str "true", V.str "truth", V.str "try", V.str "unit", V.str "uses", V.str "while"]
def signsV : List V := [V.str "(", V.str ")", V.str "{", V.str "}", V.str ",", V.str ":", V.str "=", V.str "|", V.str "+", V.str "-", V.str "*", V.str "<", V.str "<=", V.str "=="]
def keptB (t : List Nat) : Bool := inV (.str (sT t)) keptV
def signB (t : List Nat) : Bool := inV (.str (sT t)) signsV
def nameB (t : List Nat) : Bool := decide (1 ≤ t.length) && decide (t.length ≤ 8) && !keptB t && t.all isSmall
def figsOf (t : List Nat) : List Nat := if t.take 1 = [45] then t.drop 1 else t
def numB (t : List Nat) : Bool := !decide (figsOf t = []) && (figsOf t).all isFig && (decide (t = [48]) || !decide ((figsOf t).take 1 = [48]))
def goodB (t : List Nat) : Bool := t.all isGood
def sortF (t : List Nat) : Str := if keptB t = true ∨ signB t = true then sT t else if numB t = true then "figures" else if nameB t = true then "name" else "strange"
theorem name_num {t : List Nat} (h : nameB t = true) : numB t = false := by
  unfold nameB at h
  simp only [Bool.and_eq_true, decide_eq_true_eq, List.all_eq_true] at h
  obtain ⟨⟨⟨h1, _⟩, _⟩, h2⟩ := h
  cases t with
  | nil => simp at h1
  | cons c r =>
    have hc := h2 c (List.mem_cons_self ..)
    unfold isSmall at hc
    simp only [Bool.and_eq_true, decide_eq_true_eq] at hc
    unfold numB figsOf
    rw [if_neg (by simp; omega)]
    have : isFig c = false := by unfold isFig; simp; omega
    simp [this]
/-! ## f'{n:b}', int(t, 2), repr of data of any kind -/
/-- signs 0 and 1 -/
def bit (b : Bool) : Nat := if b then 49 else 48
def bT (l : List Bool) : List Nat := l.map bit
def bv (b : Bool) : Nat := if b then 1 else 0
def valB (l : List Bool) : Nat := l.foldl (fun a b => a * 2 + bv b) 0
namespace Bq
open PySem PyProof.Rows
def specB : Builtin.Float.FormatSpec := { align := 62, type := some 98 }
theorem fmt_tree (a : Nat) (t u : Tok) : Builtin.«int.__format__» ⟨[.int (.ofNat a) t, .str "b" u], []⟩ = retStr (intField' specB false [] ((Nat.toDigits 2 a).map Char.toNat) [] 4) := by
  kernel_rfl
theorem field_plain (ds : List Nat) (h : ds ≠ []) : intField' specB false [] ds [] 4 = ⟨ds.toArray⟩ := by
  obtain ⟨d, r, rfl⟩ := List.exists_cons_of_ne_nil h
  unfold intField' specB
  simp
  omega
theorem digits_ne (a : Nat) : (Nat.toDigits 2 a).map Char.toNat ≠ [] := by
  intro z
  have h := Nat.length_toDigits_pos (b := 2) (n := a)
  rw [List.map_eq_nil_iff] at z
  rw [z] at h
  exact Nat.lt_irrefl 0 h
theorem gives_bin (a : Nat) (t u : Tok) : Gives (Builtin.«int.__format__» ⟨[.int (a : Int) t, .str "b" u], []⟩) (.str ⟨((Nat.toDigits 2 a).map Char.toNat).toArray⟩) := by
  refine .of_eq ((fmt_tree a t u).trans ?_)
  rw [field_plain _ (digits_ne a)]
  rfl
open PySem.NumText Hx
theorem dig2 (b : Bool) : digit? (bit b) = some (bv b) := by cases b <;> rfl
theorem stp2 (ds : Array Nat) (z : Bool) (b : Bool) : PySem.NumText.step 2 (ds, z) (bit b) = some (ds.push (bv b), true) := by cases b <;> rfl
theorem run2 : ∀ (l : List Bool) (ds : Array Nat), (bT l).foldlM (PySem.NumText.step 2) (ds, true) = some (l.foldl (fun z b => z.push (bv b)) ds, true)
  | [], _ => rfl
  | b :: l, ds => by
    show (bit b :: bT l).foldlM _ _ = _
    rw [List.foldlM_cons, stp2]
    exact run2 l _
theorem sum2 : ∀ (l : List Bool) (ds : Array Nat), (l.foldl (fun z b => z.push (bv b)) ds).foldl (fun a d => a * 2 + d) 0 = l.foldl (fun a b => a * 2 + bv b) (ds.foldl (fun a d => a * 2 + d) 0)
  | [], _ => rfl
  | b :: l, ds => by
    rw [List.foldl_cons, List.foldl_cons, sum2 l]
    simp
theorem bit_rng (b : Bool) : 33 ≤ bit b ∧ bit b ≠ 45 ∧ bit b ≠ 43 ∧ bit b ≤ 49 := by cases b <;> decide
theorem drop2 : ∀ l : List Bool, (bT l).dropWhile blank = bT l
  | [] => rfl
  | b :: _ => dropWhile_of (bit_rng b).1
theorem sgn2 : ∀ l : List Bool, sign (bT l) = (false, bT l)
  | [] => rfl
  | b :: _ => sign_of (bit_rng b).2.1 (bit_rng b).2.2.1
theorem bas2 : ∀ l : List Bool, based 2 (bT l) = (2, false, bT l)
  | [] => rfl
  | [b] => by cases b <;> rfl
  | b :: c :: l => by cases b <;> cases c <;> rfl
theorem rev2 (l : List Bool) : (bT l).reverse = bT l.reverse := (List.map_reverse ..).symm
theorem dgs2 (l : List Bool) (h : l ≠ []) : digits? 2 (bT l) = some (l.foldl (fun z b => z.push (bv b)) #[]) := by
  obtain ⟨b, r, rfl⟩ := List.exists_cons_of_ne_nil h
  unfold digits?
  rw [show bT (b :: r) = bit b :: bT r from rfl, List.foldlM_cons, stp2]
  show Option.bind ((bT r).foldlM (PySem.NumText.step 2) ((#[] : Array Nat).push (bv b), true)) _ = _
  rw [run2]
  rfl
theorem num2 (l : List Bool) (h : l ≠ []) : (int_private% "readNumeral") 0 2 (bT l) = (int_private% "Numeral.value") ((valB l : Nat) : Int) := by
  rw [readNumeral_eq, drop2, sgn2, bas2]
  show judge 0 false 2 false (digits? 2 (((bT l).reverse.dropWhile blank).reverse)) = _
  rw [rev2, drop2, ← rev2, List.reverse_reverse, dgs2 l h]
  show (int_private% "Numeral.value") (((l.foldl (fun z b => z.push (bv b)) (#[] : Array Nat)).foldl (fun a d => a * 2 + d) 0 : Nat) : Int) = _
  rw [sum2]
  rfl
end Bq
section
variable {X : Cx}
/-- f'{e:b}', e not negative -/
def tBin (te : TE) : TE := fun σ H Q => te σ H fun x H1 => ∃ a : Nat, x = .int (a : Int) ∧ (Nat.toDigits 2 a).length ≤ sizeLine ∧ Q (.str (sT ((Nat.toDigits 2 a).map Char.toNat))) H1
theorem pe_bin {e : Expr} {te : TE} {j : Nat} {p1 p2 p3 p4 : Pos} (he : PE X e te) : PE X (.JoinedStr [.FormattedValue e (-1) (some (.JoinedStr [.Constant (.str "b") j p1] p2)) p3] p4) (tBin te) := by
  refine ⟨fun pins s σ H Q I h => wpAny_JoinedStr_one (wpAny_FormattedValue_spec (thn (he.run pins s σ H _ I h) fun v s1 ⟨x, H1, I1, r1, a, ex, hl, q⟩ => ?_))⟩
  subst ex
  obtain ⟨t, rfl⟩ := r1
  refine wpAny_JoinedStr_one (Calls.Constant_str ⟨_, _, rfl, ?_⟩)
  refine wpAny_formatField_spec (by decide) (fun s' => typeIs_int s' _ t) F.slot_int_format F.entry_int_format F.args_int_format_2 (fun u => Bq.gives_bin a t u) ?_ (by decide) (by show (_ : List Nat).toArray.size ≤ _; simpa using hl)
  exact ⟨.str (sT ((Nat.toDigits 2 a).map Char.toNat)), H1, (I1.tok _).tok _, ⟨_, rfl⟩, q⟩
def rInt2 : List V → Hp → VK → Prop := fun xs H Q => ∃ l : List Bool, xs = [.str (sT (bT l)), .int 2] ∧ l ≠ [] ∧ l.length ≤ 640 ∧ Q (.int ((valB l : Nat) : Int)) H
end
namespace Bq
open PySem PySem.Calls PyProof.Rows Hx
theorem hexs (l : List Bool) : ∀ c ∈ (sT (bT l)).cps.toList, IsHex c := by
  intro c hc
  rw [sT_cps] at hc
  obtain ⟨b, _, rfl⟩ := List.mem_map.mp hc
  refine .inl ?_
  cases b <;> decide
set_option maxHeartbeats 4000000 in
theorem gives_int2 {u t : Tok} (l : List Bool) (hl : l.length ≤ 640) (hne : l ≠ []) : Gives (Builtin.«int.__new__» ⟨[.type "int", .str (sT (bT l)) u, .int 2 t], []⟩) (.int ((valB l : Nat) : Int)) := by
  refine .of_wp fun M A E s Q hQ => ?_
  have g1 := F.conv_sub_int
  have g2 := F.madeHere_int
  have g6 : typeOf (.str (sT (bT l)) u) = pure (.type "str") := rfl
  have kk : Hid ((numSeenOf (sT (bT l))).length ≤ 640 ∧ (int_private% "readNumeral") 0 2 (numSeenOf (sT (bT l))) = (int_private% "Numeral.value") ((valB l : Nat) : Int) ∧ ((numSeenOf (sT (bT l))).length == (numTextOf (sT (bT l))).length) = true) := by
    obtain ⟨e1, e2⟩ := seen_hex (hexs l)
    rw [e1, e2, sT_cps]
    exact ⟨by unfold bT; rw [List.length_map]; exact hl, num2 l hne, beq_self_eq_true _⟩
  obtain ⟨hp, g, d, tk, os⟩ := s
  clear hl hne
  repeat (any_goals (first
    | assumption
    | ((with_reducible show wpAny _ _ ((int_private% "intFromText") _ _ _) _ _ _); refine wp_textB kk.out.1 kk.out.2.1 kk.out.2.2 ?_)
    | wp_step))
  all_goals first | exact ⟨_, rfl, hQ⟩ | skip
end Bq
section
variable {X : Cx}
theorem call_int2 : CallR X (.type "int") rInt2 := by
  intro pins s σ H xs us Q I r h
  obtain ⟨l, rfl, hne, hl, q⟩ := h
  obtain ⟨u, w', rfl, ⟨t1, rfl⟩, t2, rfl⟩ := vals2 r
  exact PySem.callType_new F.called_int F.newNe_int (Hx.typeCall_int_2 _ _) (Hx.newCall_int_2 _ _) (fun obj => F.initArgs_range_2 obj _ _) F.entry_int_new (Bq.gives_int2 l hl hne).meets
    (show (Made.int ((valB l : Nat) : Int)).post _ s from ⟨rfl, .int ((valB l : Nat) : Int), H, I.tok _, ⟨_, rfl⟩, q⟩)
/-- repr of data of any kind -/
def rReprA (K : PySem.W.Frag) : List V → Hp → VK → Prop := fun xs H Q => ∃ (x : V) (d : PyData), xs = [x] ∧ Dx K H x d ∧ d.showable = true ∧ d.depth ≤ 100 ∧ d.shown.length ≤ sizeLine ∧ Q (.str d.shown) H
theorem call_reprA (hg : X.A.guards = some []) (hu : X.A.units + 101 < cLine) (S : SmD X.K) : CallR X (.builtin "repr") (rReprA X.K) := by
  intro pins s σ H xs us Q I r h
  obtain ⟨x, d, rfl, hd, hs, hdp, hz, q⟩ := h
  have any : ∀ a, x = .ref a → wpAny (model X.prog X.w) X.A (call (.builtin "repr") us) (EP X pins σ Q) X.xe s := fun a e => by
    subst e
    exact call_reprX hg hu S pins s σ H _ us Q I r ⟨a, d, rfl, hd, hs, hdp, hz, q⟩
  obtain ⟨u, rfl, ru⟩ := vals1 r
  cases hd with
  | non =>
    cases (show u = Value.none from ru)
    exact call_repr_gives (typeIs_none s) F.slot_NoneType_repr F.entry_NoneType_repr (F.args_NoneType_repr_1 _) gives_none_repr ⟨.str "None", H, I.tok _, ⟨_, rfl⟩, by simpa only [PyData.shown] using q⟩ rfl (by decide)
  | bl b =>
    cases (show u = Value.bool b from ru)
    refine call_repr_gives (typeIs_bool s b) F.slot_bool_repr F.entry_bool_repr (F.args_bool_repr_1 _) (gives_bool_repr b) ⟨.str (if b then ("True" : Str) else ("False" : Str)), H, I.tok _, ⟨s.toks, ?_⟩, by simpa only [PyData.shown] using q⟩ rfl (by cases b <;> decide)
    cases b <;> rfl
  | int i =>
    obtain ⟨t, rfl⟩ := ru
    exact PySem.P.repr_of_int (by simpa [PyData.showable] using hs) ⟨.str _, H, I.tok _, ⟨_, rfl⟩, by simpa only [PyData.shown] using q⟩
  | str z =>
    obtain ⟨t, rfl⟩ := ru
    exact call_repr_gives (typeIs_str s z t) F.slot_str_repr F.entry_str_repr (F.args_str_repr_1 _) (gives_str_repr z t) ⟨.str (reprText z), H, I.tok _, ⟨_, rfl⟩, by simpa only [PyData.shown] using q⟩ rfl (by simpa only [PyData.shown] using hz)
  | lst _ _ => exact any _ rfl
  | tup _ _ => exact any _ rfl
  | dic _ _ => exact any _ rfl
end
/-! ## numbers in bits: the mathematics -/
def binB (n : Nat) : List Bool := if h : n < 2 then [n == 1] else binB (n / 2) ++ [n % 2 == 1]
termination_by n
decreasing_by omega
theorem binB_lt {n : Nat} (h : n < 2) : binB n = [n == 1] := by rw [binB, dif_pos h]
theorem binB_ge {n : Nat} (h : ¬ n < 2) : binB n = binB (n / 2) ++ [n % 2 == 1] := by rw [binB, dif_neg h]
theorem bT_app (a b : List Bool) : bT (a ++ b) = bT a ++ bT b := List.map_append
theorem bT_len (l : List Bool) : (bT l).length = l.length := List.length_map ..
theorem digit_bit {n : Nat} (h : n < 2) : n.digitChar.toNat = bit (n == 1) := by
  match n, h with
  | 0, _ => rfl
  | 1, _ => rfl
theorem toDigits2 (n : Nat) : (Nat.toDigits 2 n).map Char.toNat = bT (binB n) := by
  induction n using Nat.strongRecOn with
  | _ n ih =>
    by_cases h : n < 2
    · rw [Nat.toDigits_of_lt_base h, binB_lt h]
      show [n.digitChar.toNat] = [bit (n == 1)]
      rw [digit_bit h]
    · rw [Nat.toDigits_of_base_le (by decide) (by omega), binB_ge h, List.map_append, ih (n / 2) (by omega), bT_app]
      show _ ++ [(n % 2).digitChar.toNat] = _ ++ [bit (n % 2 == 1)]
      rw [digit_bit (Nat.mod_lt _ (by decide))]
theorem valB_app (l : List Bool) (b : Bool) : valB (l ++ [b]) = valB l * 2 + bv b := by
  unfold valB
  rw [List.foldl_append]
  rfl
theorem bv_eq {n : Nat} (h : n < 2) : bv (n == 1) = n := by
  match n, h with
  | 0, _ => rfl
  | 1, _ => rfl
theorem valB_bin (n : Nat) : valB (binB n) = n := by
  induction n using Nat.strongRecOn with
  | _ n ih =>
    by_cases h : n < 2
    · rw [binB_lt h]
      show 0 * 2 + bv (n == 1) = n
      rw [bv_eq h]
      omega
    · rw [binB_ge h, valB_app, ih (n / 2) (by omega), bv_eq (Nat.mod_lt _ (by decide))]
      omega
theorem binB_head (n : Nat) (h : 1 ≤ n) : ∃ r, binB n = true :: r := by
  induction n using Nat.strongRecOn with
  | _ n ih =>
    by_cases h2 : n < 2
    · have : n = 1 := by omega
      subst this
      exact ⟨[], binB_lt h2⟩
    · obtain ⟨r, e⟩ := ih (n / 2) (by omega) (by omega)
      exact ⟨r ++ [n % 2 == 1], by rw [binB_ge h2, e]; rfl⟩
def lg (n : Nat) : Nat := (binB n).length - 1
theorem binB_len (n : Nat) : (binB n).length = lg n + 1 := by
  have : 1 ≤ (binB n).length := by
    rw [binB]
    split <;> simp
  unfold lg
  omega
theorem lg_lt {n : Nat} (h : n < 2) : lg n = 0 := by unfold lg; rw [binB_lt h]; rfl
theorem lg_ge {n : Nat} (h : ¬ n < 2) : lg n = lg (n / 2) + 1 := by
  have e := binB_len n
  rw [binB_ge h, List.length_append, binB_len] at e
  simp only [List.length_cons, List.length_nil] at e
  omega
theorem lg_pow : ∀ (k n : Nat), n < 2 ^ k → lg n ≤ k
  | 0, n, h => by rw [lg_lt (by omega)]; omega
  | k + 1, n, h => by
    by_cases h2 : n < 2
    · rw [lg_lt h2]; omega
    · rw [lg_ge h2]
      have := lg_pow k (n / 2) (by rw [Nat.pow_succ] at h; omega)
      omega
/-- the m low bits -/
def digs : Nat → Nat → List Bool
  | _, 0 => []
  | n, m + 1 => digs (n / 2) m ++ [n % 2 == 1]
theorem digs_len : ∀ n m, (digs n m).length = m
  | _, 0 => rfl
  | n, m + 1 => by rw [digs, List.length_append, digs_len]; rfl
theorem digs_bin (n : Nat) : digs n (lg n + 1) = binB n := by
  induction n using Nat.strongRecOn with
  | _ n ih =>
    by_cases h : n < 2
    · rw [lg_lt h, binB_lt h]
      show [] ++ [n % 2 == 1] = _
      rw [Nat.mod_eq_of_lt h]
      rfl
    · rw [binB_ge h, ← ih (n / 2) (by omega), lg_ge h]
      rfl
/-- the writing of a count -/
def gam (n : Nat) : List Bool := List.replicate (lg (n + 1)) false ++ binB (n + 1)
theorem gam_len (n : Nat) : (gam n).length = 2 * lg (n + 1) + 1 := by
  unfold gam
  rw [List.length_append, List.length_replicate, binB_len]
  omega
/-- what stands at an index -/
def zer (l : List Bool) : Nat := (l.takeWhile not).length
def rd (l : List Bool) (i : Nat) : Option (Nat × Nat) :=
  if l.length < i + 2 * zer (l.drop i) + 1 then none else some (valB ((l.drop (i + zer (l.drop i))).take (zer (l.drop i) + 1)) - 1, i + 2 * zer (l.drop i) + 1)
theorem zer_rep (k : Nat) (r : List Bool) : zer (List.replicate k false ++ true :: r) = k := by
  unfold zer
  induction k with
  | zero => rfl
  | succ k ih =>
    rw [List.replicate_succ, List.cons_append, List.takeWhile_cons, show (!false) = true from rfl, if_pos rfl, List.length_cons, ih]
theorem zer_all (k : Nat) : zer (List.replicate k false) = k := by
  unfold zer
  induction k with
  | zero => rfl
  | succ k ih => rw [List.replicate_succ, List.takeWhile_cons, show (!false) = true from rfl, if_pos rfl, List.length_cons, ih]
theorem rd_gam (pre suf : List Bool) (n : Nat) : rd (pre ++ (gam n ++ suf)) pre.length = some (n, pre.length + (gam n).length) := by
  obtain ⟨r, er⟩ := binB_head (n + 1) (by omega)
  have ez : zer (gam n ++ suf) = lg (n + 1) := by
    unfold gam
    rw [List.append_assoc, er, List.cons_append]
    exact zer_rep _ _
  unfold rd
  rw [List.drop_left, ez, if_neg (by rw [List.length_append, List.length_append, gam_len]; omega), gam_len]
  have ed : (pre ++ (gam n ++ suf)).drop (pre.length + lg (n + 1)) = binB (n + 1) ++ suf := by
    rw [← List.drop_drop, List.drop_left]
    unfold gam
    rw [List.append_assoc, List.drop_left' (by simp)]
  rw [ed, List.take_left' (binB_len _), valB_bin]
  simp
  omega
theorem rd_cut (pre : List Bool) (n c : Nat) (h : c < (gam n).length) : rd (pre ++ (gam n).take c) pre.length = none := by
  obtain ⟨r, er⟩ := binB_head (n + 1) (by omega)
  have hl := gam_len n
  have hlen : ((gam n).take c).length = c := by rw [List.length_take]; omega
  unfold rd
  rw [List.drop_left, if_pos]
  rw [List.length_append, hlen]
  by_cases hc : c ≤ lg (n + 1)
  · have e : (gam n).take c = List.replicate c false := by
      unfold gam
      rw [List.take_append_of_le_length (by simpa using hc), List.take_replicate, Nat.min_eq_left hc]
    rw [e, zer_all]
    omega
  · have e : ∃ q, (gam n).take c = List.replicate (lg (n + 1)) false ++ true :: q := by
      unfold gam
      rw [er, List.take_append, List.length_replicate, List.take_of_length_le (by simp; omega)]
      obtain ⟨k, hk⟩ : ∃ k, c - lg (n + 1) = k + 1 := ⟨c - lg (n + 1) - 1, by omega⟩
      rw [hk, List.take_succ_cons]
      exact ⟨_, rfl⟩
    obtain ⟨q, e⟩ := e
    rw [e, zer_rep]
    omega
/-- signed numbers as counts -/
def sgn (z : Int) : Nat := if 0 ≤ z then (2 * z).toNat else (-2 * z - 1).toNat
def uns (m : Nat) : Int := if m % 2 = 0 then ((m / 2 : Nat) : Int) else -(((m + 1) / 2 : Nat) : Int)
theorem uns_sgn (z : Int) : uns (sgn z) = z := by
  unfold sgn uns
  split <;> split <;> omega
def rdS (l : List Bool) (i : Nat) : Option (Int × Nat) := (rd l i).map fun x => (uns x.1, x.2)
theorem rdS_gam (pre suf : List Bool) (z : Int) : rdS (pre ++ (gam (sgn z) ++ suf)) pre.length = some (z, pre.length + (gam (sgn z)).length) := by
  unfold rdS
  rw [rd_gam]
  show some (uns (sgn z), _) = _
  rw [uns_sgn]
theorem rdS_cut (pre : List Bool) (z : Int) (c : Nat) (h : c < (gam (sgn z)).length) : rdS (pre ++ (gam (sgn z)).take c) pre.length = none := by
  unfold rdS
  rw [rd_cut _ _ _ h]
  rfl
/-! ## texts: times, count, find -/
theorem rep_fold (c : Nat) : ∀ (k : Nat) (a : Array Nat), (List.replicate k (#[c] : Array Nat)).foldl (· ++ ·) a = a ++ (List.replicate k c).toArray
  | 0, a => by simp
  | k + 1, a => by
    rw [List.replicate_succ, List.foldl_cons, rep_fold c k, List.replicate_succ]
    apply Array.ext'
    simp
section
variable {X : Cx}
theorem op_repc : OpR X (binaryOp .Mult) (fun x y H Q => ∃ c k : Nat, x = .str ⟨#[c]⟩ ∧ y = .int (k : Int) ∧ k ≤ 100000 ∧ Q (.str (sT (List.replicate k c))) H) := by
  intro pins s σ H x y v u Q I rx ry h
  obtain ⟨c, k, rfl, rfl, hk, q⟩ := h
  obtain ⟨t, rfl⟩ := rx
  obtain ⟨t2, rfl⟩ := ry
  have z1 : (⟨#[c]⟩ : Str).length = 1 := rfl
  refine PySem.P.mul_str (by rw [decide_eq_false (by omega), decide_eq_false (by omega)]; rfl) (fun h1 _ => ?_) (fun _ _ => ?_) ?_
  · rw [z1]
    have : (1 : Int) ≤ (2 ^ 63 - 1) / (k : Int) := by
      rw [Int.le_ediv_iff_mul_le (by omega)]
      omega
    omega
  · rw [z1, Nat.one_mul]
    unfold Builtin.Str.tooLong
    have : 100000 < sizeLine := by decide
    exact decide_eq_false (by simp; omega)
  · match k, hk, q with
    | 0, _, q =>
      rw [if_pos (by decide)]
      exact ⟨by decide, .str (sT (List.replicate 0 c)), H, I.tok _, ⟨_, rfl⟩, q⟩
    | 1, _, q =>
      rw [if_neg (by decide), if_pos (by rfl)]
      exact ⟨.str (sT (List.replicate 1 c)), H, I, ⟨t, rfl⟩, q⟩
    | k + 2, hk, q =>
      rw [if_neg (by omega), if_neg (by rw [z1]; simp; omega)]
      have e : (⟨(List.replicate (((k + 2 : Nat) : Int)).toNat (⟨#[c]⟩ : Str).cps).foldl (· ++ ·) #[]⟩ : Str) = sT (List.replicate (k + 2) c) := by
        rw [Int.toNat_natCast]
        show (⟨(List.replicate (k + 2) (#[c] : Array Nat)).foldl (· ++ ·) #[]⟩ : Str) = _
        rw [rep_fold]
        simp [sT]
      rw [e]
      exact ⟨by rw [sT_len, List.length_replicate]; exact sl_of hk, .str (sT (List.replicate (k + 2) c)), H, I.tok _, ⟨_, rfl⟩, q⟩
end
def cntC (c : Nat) (t : List Nat) : Nat := (t.filter fun d => decide (d = c)).length
theorem sum_cnt (c : Nat) : ∀ t : List Nat, (t.map fun n => if decide (n = c) = true then (1 : Int) else 0).sum = (cntC c t : Int)
  | [] => rfl
  | d :: t => by
    rw [List.map_cons, List.sum_cons, sum_cnt c t]
    unfold cntC
    rw [List.filter_cons]
    split <;> simp <;> omega
theorem count_char (c : Nat) (t : List Nat) : Txt.count (sT t) ⟨#[c]⟩ = (cntC c t : Int) := by
  rw [PyProof.Rows.count_is, sT_cps, PyProof.Rows.countIn_signs_sum, sum_cnt]
def isB (t : List Nat) : Bool := t.all fun c => decide (c = 48) || decide (c = 49)
theorem cntC_cons (c d : Nat) (t : List Nat) : cntC c (d :: t) = (if d = c then 1 else 0) + cntC c t := by
  unfold cntC
  rw [List.filter_cons]
  by_cases h : d = c
  · rw [if_pos (decide_eq_true h), if_pos h, List.length_cons]
    omega
  · rw [if_neg (fun z => h (of_decide_eq_true z)), if_neg h]
    omega
theorem isB_cons (c : Nat) (t : List Nat) : isB (c :: t) = true ↔ (c = 48 ∨ c = 49) ∧ isB t = true := by
  unfold isB
  simp
theorem cnt_le : ∀ t : List Nat, cntC 48 t + cntC 49 t ≤ t.length ∧ (cntC 48 t + cntC 49 t = t.length ↔ isB t = true)
  | [] => ⟨Nat.le_refl _, fun _ => rfl, fun _ => rfl⟩
  | c :: t => by
    obtain ⟨h1, h2⟩ := cnt_le t
    rw [cntC_cons, cntC_cons, List.length_cons, isB_cons, ← h2]
    by_cases a : c = 48
    · rw [if_pos a, if_neg (show ¬ c = 49 by omega)]
      exact ⟨by omega, fun z => ⟨.inl a, by omega⟩, fun z => by have := z.2; omega⟩
    · rw [if_neg a]
      by_cases b : c = 49
      · rw [if_pos b]
        exact ⟨by omega, fun z => ⟨.inr b, by omega⟩, fun z => by have := z.2; omega⟩
      · rw [if_neg b]
        exact ⟨by omega, fun z => by omega, fun z => z.1.elim (fun q => absurd q a) fun q => absurd q b⟩
theorem isB_bT : ∀ t : List Nat, isB t = true → ∃ l, t = bT l
  | [], _ => ⟨[], rfl⟩
  | c :: t, h => by
    unfold isB at h
    rw [List.all_cons, Bool.and_eq_true] at h
    obtain ⟨l, e⟩ := isB_bT t h.2
    simp only [Bool.or_eq_true, decide_eq_true_eq] at h
    rcases h.1 with z | z
    · exact ⟨false :: l, by rw [e, z]; rfl⟩
    · exact ⟨true :: l, by rw [e, z]; rfl⟩
theorem bT_isB (l : List Bool) : isB (bT l) = true := by
  unfold isB
  rw [List.all_eq_true]
  intro c hc
  obtain ⟨b, _, rfl⟩ := List.mem_map.mp hc
  cases b <;> rfl
theorem bT_tx {l : List Bool} (h : l.length ≤ 100000) : (bT l).length ≤ 100000 := by rw [bT_len]; exact h
/-! find -/
theorem zer_le (l : List Bool) : zer l ≤ l.length := by
  unfold zer
  induction l with
  | nil => exact Nat.le_refl _
  | cons b l ih =>
    rw [List.takeWhile_cons]
    split <;> simp <;> omega
theorem zer_in : ∀ {l : List Bool} {j : Nat}, j < zer l → l[j]? = some false
  | [], j, h => by simp [zer] at h
  | true :: l, j, h => by simp [zer, List.takeWhile_cons] at h
  | false :: l, 0, h => rfl
  | false :: l, j + 1, h => by
    have : zer (false :: l) = zer l + 1 := by unfold zer; rw [List.takeWhile_cons]; rfl
    rw [List.getElem?_cons_succ]
    exact zer_in (by omega)
theorem zer_at : ∀ {l : List Bool}, zer l < l.length → l[zer l]? = some true
  | [], h => by simp at h
  | true :: l, h => by
    have : zer (true :: l) = 0 := by unfold zer; rw [List.takeWhile_cons]; rfl
    rw [this]
    rfl
  | false :: l, h => by
    have e : zer (false :: l) = zer l + 1 := by unfold zer; rw [List.takeWhile_cons]; rfl
    rw [e] at h ⊢
    rw [List.getElem?_cons_succ]
    exact zer_at (by simpa using h)
theorem getD_bits (l : List Bool) (v : Nat) (b : Bool) (h : l[v]? = some b) : (sT (bT l)).cps.getD v 0 = bit b := by
  show (bT l).toArray.getD v 0 = bit b
  rw [Array.getD_eq_getD_getElem?]
  simp [bT, h]
theorem find_bits (l : List Bool) (i : Nat) (hi : i ≤ l.length) : Txt.find3 (sT (bT l)) ⟨#[49]⟩ (i : Int) = if i + zer (l.drop i) < l.length then ((i + zer (l.drop i) : Nat) : Int) else -1 := by
  have hl : (sT (bT l)).length = l.length := by rw [sT_len, bT_len]
  have hf : fromIndex (sT (bT l)).length (i : Int) = i := by
    unfold fromIndex
    rw [if_neg (by omega), Int.max_eq_right (by omega)]
    omega
  have zl := zer_le (l.drop i)
  rw [List.length_drop] at zl
  have inz : ∀ v, i ≤ v → v < i + zer (l.drop i) → (sT (bT l)).cps.getD v 0 ≠ 49 := by
    intro v h1 h2
    have h := zer_in (l := l.drop i) (j := v - i) (by omega)
    rw [List.getElem?_drop, show i + (v - i) = v by omega] at h
    rw [getD_bits l v false h]
    decide
  have atz : i + zer (l.drop i) < l.length → (sT (bT l)).cps.getD (i + zer (l.drop i)) 0 = 49 := by
    intro h
    have h := zer_at (l := l.drop i) (by rw [List.length_drop]; omega)
    rw [List.getElem?_drop] at h
    rw [getD_bits l _ true h]
    rfl
  rcases StrLaws.find3_spec (sT (bT l)) 49 (i : Int) with ⟨h, hn⟩ | ⟨k, h, h1, h2, h3, hn⟩
  · rw [h, if_neg]
    intro c
    rw [hf, hl] at hn
    exact hn _ (Nat.le_add_right _ _) c (atz c)
  · rw [hf] at h1 hn
    rw [hl] at h2
    have e1 : ¬ k < i + zer (l.drop i) := fun z => inz k h1 z h3
    have e2 : ¬ i + zer (l.drop i) < k := fun z => hn _ (Nat.le_add_right _ _) z (atz (by omega))
    rw [h, if_pos (by omega)]
    congr 1
    omega
/-! ## the program's functions of bits -/
theorem cps_1 : ("1" : Str).cps.toList = [49] := by decide +kernel
theorem cps_0' : ("0" : Str).cps.toList = [48] := by decide +kernel
theorem one_eq : ("1" : Str) = ⟨#[49]⟩ := by
  have h := sT_of "1"
  rw [cps_1] at h
  exact h.symm
theorem zero_eq : ("0" : Str) = ⟨#[48]⟩ := by
  have h := sT_of "0"
  rw [cps_0'] at h
  exact h.symm
theorem sT_ap (a b : List Nat) : sT a ++ sT b = sT (a ++ b) := by
  show (⟨a.toArray ++ b.toArray⟩ : Str) = ⟨(a ++ b).toArray⟩
  simp
/-- values that are no numbers -/
inductive OtV (H : Hp) : V → Prop where
  | non : OtV H .non
  | bl (b : Bool) : OtV H (.bl b)
  | str (z : Str) : OtV H (.str z)
  | lst {a : Addr} {xs : List V} (e : H a = some (.lst xs)) : OtV H (.ref a)
  | tup {a : Addr} {xs : List V} (e : H a = some (.tup xs)) : OtV H (.ref a)
  | dic {a : Addr} {kvs : List (Key × V)} (e : H a = some (.dK kvs)) : OtV H (.ref a)
theorem OtV.same {H H' : Hp} {v : V} (s : Same H H') (h : OtV H v) : OtV H' v := by
  cases h with
  | non => exact .non
  | bl b => exact .bl b
  | str z => exact .str z
  | lst e => exact .lst (s _ _ e)
  | tup e => exact .tup (s _ _ e)
  | dic e => exact .dic (s _ _ e)
/-- values that are no texts -/
inductive NtV (H : Hp) : V → Prop where
  | non : NtV H .non
  | bl (b : Bool) : NtV H (.bl b)
  | int (i : Int) : NtV H (.int i)
  | lst {a : Addr} {xs : List V} (e : H a = some (.lst xs)) : NtV H (.ref a)
  | tup {a : Addr} {xs : List V} (e : H a = some (.tup xs)) : NtV H (.ref a)
  | dic {a : Addr} {kvs : List (Key × V)} (e : H a = some (.dK kvs)) : NtV H (.ref a)
theorem NtV.same {H H' : Hp} {v : V} (s : Same H H') (h : NtV H v) : NtV H' v := by
  cases h with
  | non => exact .non
  | bl b => exact .bl b
  | int i => exact .int i
  | lst e => exact .lst (s _ _ e)
  | tup e => exact .tup (s _ _ e)
  | dic e => exact .dic (s _ _ e)
theorem NtV.ty {K : PySem.W.Frag} {H : Hp} {v : V} (h : NtV H v) : ∃ t, TyX K H v t ∧ PySem.W.kitOne K t (.type "str") = some false := by
  cases h with
  | non => exact ⟨_, .base .non, kit_ty (by decide +kernel)⟩
  | bl b => exact ⟨_, .base (.bl b), kit_ty (by decide +kernel)⟩
  | int i => exact ⟨_, .base (.int i), kit_ty (by decide +kernel)⟩
  | lst e => exact ⟨_, .base (.lst e), kit_ty (by decide +kernel)⟩
  | tup e => exact ⟨_, .base (.tup e), kit_ty (by decide +kernel)⟩
  | dic e => exact ⟨_, .base (.dK e), kit_ty (by decide +kernel)⟩
/-- values that are no bits -/
def NbV (H : Hp) (v : V) : Prop := (∃ t : List Nat, v = .str (sT t) ∧ t.length ≤ 100000 ∧ isB t = false) ∨ NtV H v
structure NkF (K : PySem.W.Frag) (mg : Str → Option Value) : Prop where
  isi : mg "isinstance" = none
  int : mg "int" = none
  str : mg "str" = none
  len : mg "len" = none
  bool : mg "bool" = none
def spNum : Sp := fun vs H Q _ => ∃ x, vs = [x] ∧ ((∃ i, x = .int i ∧ Q (.bl true) H) ∨ (OtV H x ∧ Q (.bl false) H))
def spCnt : Sp := fun vs H Q _ => ∃ n : Nat, vs = [.int (n : Int)] ∧ n < 2 ^ 62 ∧ Q (.str (sT (bT (gam n)))) H
def spWrit : Sp := fun vs H Q _ => ∃ z : Int, vs = [.int z] ∧ z.natAbs < 2 ^ 60 ∧ Q (.str (sT (bT (gam (sgn z))))) H
def spCB (C : Addr) : Sp := fun vs H Q E => ∃ x, vs = [x] ∧ ((∃ n : Nat, x = .int (n : Int) ∧ n < 2 ^ 62 ∧ Q (.str (sT (bT (gam n)))) H) ∨ (((∃ i : Int, x = .int i ∧ i < 0) ∨ OtV H x) ∧ E (.ref C) none H))
def spNB (C : Addr) : Sp := fun vs H Q E => ∃ x, vs = [x] ∧ ((∃ z : Int, x = .int z ∧ z.natAbs < 2 ^ 60 ∧ Q (.str (sT (bT (gam (sgn z))))) H) ∨ (OtV H x ∧ E (.ref C) none H))
def spIsB (K : PySem.W.Frag) : Sp := fun vs H Q _ => ∃ x, vs = [x] ∧ ((∃ t : List Nat, x = .str (sT t) ∧ t.length ≤ 100000 ∧ Q (.bl (isB t)) H) ∨ (NtV H x ∧ Q (.bl false) H))
theorem gam_small {n : Nat} (h : n < 2 ^ 62) : lg (n + 1) ≤ 63 ∧ (gam n).length ≤ 127 := by
  have := lg_pow 63 (n + 1) (by omega)
  rw [gam_len]
  omega
section
variable {P : Program} {w : World} {K : PySem.W.Frag} {mg : Str → Option Value} {base : Heap}
theorem sc_is_number : FnScope ["thing"] ["thing"] (defScope s_is_number) := ⟨rfl, rfl, rfl, by decide +kernel, rfl, by decide +kernel, by decide +kernel⟩
theorem ok_is_number {CX : CXT} {f : Addr} {fd : FuncData} (F : FnP K "is_number" s_is_number f fd) (G : NkF K mg) : FnOk P w K mg base CX 1 f fd ["thing"] spNum := by
  refine F.ok sc_is_number (fun vs H Q E h => ?_) (fun cdv A outer s H vs Q E hr h => ?_)
  · obtain ⟨x, rfl, _⟩ := h
    rfl
  · obtain ⟨x, rfl, h⟩ := h
    refine ⟨_, PSs.nox (pss_one (ps_ret (pe_and (pe_callB call_isi (by rfl) G.isi (by decide +kernel) (pa_cons (pv 0) (pa_cons (pe_bltn (v := .ty "int") (by rfl) G.int (by decide +kernel) rfl) pa_nil)))
      (pe_one (pe_not (pe_callB call_isi (by rfl) G.isi (by decide +kernel) (pa_cons (pv 0) (pa_cons (pe_bltn (v := .ty "bool") (by rfl) G.bool (by decide +kernel) rfl) pa_nil)))))))), ?_⟩
    rcases h with ⟨i, rfl, q⟩ | ⟨h, q⟩
    · exact ⟨_, rfl, _, _, _, _, true, rfl, .ty "int", .base (.int i), kit_ty (by decide +kernel), _, rfl, iteT ⟨_, rfl, _, _, _, _, false, rfl, .ty "bool", .base (.int i), kit_ty (by decide +kernel), _, rfl, q⟩⟩
    · have no : ∀ t, TyX K H x t → PySem.W.kitOne K t (.type "int") = some false → tRet (tAndV (tCB (rIsi K) (tCons (tVar 0) (tCons (tC (.ty "int")) tNil))) (tNotV (tCB (rIsi K) (tCons (tVar 0) (tCons (tC (.ty "bool")) tNil))))) { nx := fun _ H' => Q .non H', rt := Q } (start ["thing"] [x]) H :=
        fun t h1 h2 => ⟨_, rfl, _, _, _, _, false, rfl, .ty "int", h1, h2, _, rfl, iteF q⟩
      cases h with
      | non => exact no _ (.base .non) (kit_ty (by decide +kernel))
      | bl b => exact ⟨_, rfl, _, _, _, _, true, rfl, .ty "int", .base (.bl b), kit_ty (by decide +kernel), _, rfl, iteT ⟨_, rfl, _, _, _, _, true, rfl, .ty "bool", .base (.bl b), kit_ty (by decide +kernel), _, rfl, q⟩⟩
      | str z => exact no _ (.base (.str z)) (kit_ty (by decide +kernel))
      | lst e => exact no _ (.base (.lst e)) (kit_ty (by decide +kernel))
      | tup e => exact no _ (.base (.tup e)) (kit_ty (by decide +kernel))
      | dic e => exact no _ (.base (.dK e)) (kit_ty (by decide +kernel))
theorem sc_count_of : FnScope ["number", "writing"] ["number"] (defScope s_count_of) := ⟨rfl, rfl, rfl, by decide +kernel, rfl, by decide +kernel, by decide +kernel⟩
theorem ok_count_of {CX : CXT} {f : Addr} {fd : FuncData} (F : FnP K "count_of" s_count_of f fd) (G : NkF K mg) : FnOk P w K mg base CX 1 f fd ["number"] spCnt := by
  refine F.ok sc_count_of (fun vs H Q E h => ?_) (fun cdv A outer s H vs Q E hr h => ?_)
  · obtain ⟨x, rfl, _⟩ := h
    rfl
  · obtain ⟨n, rfl, hn, q⟩ := h
    have nd := sc_count_of.nd
    refine ⟨_, PSs.nox (pss_cons (ps_set (i := 1) nd rfl (.inl rfl) (pe_bin (pe_op op_add (pv 0) pe_int)))
      (pss_one (ps_ret (pe_op op_add_str (pe_op op_repc pe_str (pe_op op_sub (pe_callB call_len (by rfl) G.len PySem.boot_len (pa_cons (pv 1) pa_nil)) pe_int)) (pv 1))))), ?_⟩
    obtain ⟨l1, l2⟩ := gam_small hn
    have hd : (Nat.toDigits 2 (n + 1)).length ≤ 64 := by
      have e := congrArg List.length (toDigits2 (n + 1))
      rw [List.length_map, bT_len, binB_len] at e
      omega
    refine ⟨_, rfl, _, _, rfl, rfl, n + 1, by rfl, sl_of (by omega), ?_⟩
    rw [toDigits2]
    have hb : (sT (bT (binB (n + 1)))).length = lg (n + 1) + 1 := by rw [sT_len, bT_len, binB_len]
    refine ⟨_, rfl, _, _, rfl, ⟨sl_of (by omega), rfl⟩, _, _, rfl, rfl, 48, lg (n + 1), congrArg V.str zero_eq, ?_, by omega, _, rfl, _, _, rfl, rfl, ?_, ?_⟩
    · show V.int (((sT (bT (binB (n + 1)))).length : Int) - 1) = _
      rw [hb]
      congr 1
      omega
    · rw [sT_len, List.length_replicate, hb]
      exact sl_of (by omega)
    · rw [sT_ap]
      have e : List.replicate (lg (n + 1)) 48 ++ bT (binB (n + 1)) = bT (gam n) := by
        unfold gam
        rw [bT_app]
        congr 1
        unfold bT
        rw [List.map_replicate]
        rfl
      rw [e]
      exact q
end
section
variable {P : Program} {w : World} {K : PySem.W.Frag} {mg : Str → Option Value} {base : Heap}
structure PlnX (K : PySem.W.Frag) (mg : Str → Option Value) (x : Str) (C : Addr) : Prop where
  g : mg x = some (.ref C)
  x : PySem.W.excIn K C He.veBase "ValueError.__new__" = true
  o : OexC K C
/-- an own __init__ of one parameter -/
def spI1 (C : Addr) (a : Str) : Sp := fun vs H Q _ => ∃ (e : Addr) (l : V), vs = [.ref e, l] ∧ H e = some (exo e C none) ∧ ∀ dx, H dx = none → Q .non (upd (upd H dx (exd dx [(a, l)])) e (exo e C (some dx)))
theorem raise_i1 {C : Addr} {a : Str} {H : Hp} {l : V} {Q : XK} (k : ∀ H' d, Same H H' → H' d = some (.xd [(a, l)]) → H d = none → Q (.ref C) (some d) H') :
    ([l] : List V).length ≤ 1000 ∧ ∀ e, H e = none → spI1 C a (.ref e :: ([l] ++ [])) (upd H e (exo e C none)) (fun v H2 => v = .non ∧ ∃ (d : Addr) (fs : List (Str × V)), H2 e = some (exo e C (some d)) ∧ H2 d = some (exd d fs) ∧ H d = none ∧ Q (.ref C) (some d) (upd (del H2 e) d (.xd fs))) (fun _ _ _ => False) := by
  refine ⟨by show 1 ≤ 1000; decide, fun e he => ⟨e, l, rfl, upd_same, fun dx hd => ?_⟩⟩
  have hne : dx ≠ e := fun z => by rw [z, upd_same] at hd; cases hd
  have hd0 : H dx = none := by rw [upd_ne hne] at hd; exact hd
  refine ⟨rfl, dx, _, upd_same, by rw [upd_ne hne, upd_same], hd0, k _ _ (fun b o q => ?_) upd_same hd0⟩
  have n1 : b ≠ dx := ne_of_none q hd0
  have n2 : b ≠ e := ne_of_none q he
  rw [upd_ne n1, del_ne n2, upd_ne n2, upd_ne n1, upd_ne n2]
  exact q
structure Ix1 (P : Program) (w : World) (K : PySem.W.Frag) (mg : Str → Option Value) (base : Heap) (x : Str) (C : Addr) (a : Str) : Prop where
  g : mg x = some (.ref C)
  o : OexC K C
  i : ∃ (f : Addr) (fd : FuncData), PySem.W.findIn K (.ref C) "__init__" = some (some (.ref f)) ∧ PySem.W.typeIn K (.ref f) = some (.type "function") ∧ FnOk P w K mg base CX0 1 f fd ["self", a] (spI1 C a) ∧ Binds K fd ["self", a] []
theorem sc_bb : ScopeS ["self", "at"] (defScope s_BadBits___init__) := ⟨rfl, rfl, rfl, by decide +kernel, by decide +kernel, by decide +kernel, rfl, rfl⟩
theorem ok_bb {f cc cda C : Addr} {fd : FuncData} (F : SupF P K mg C f cc cda "BadBits.__init__" (defArgs s_BadBits___init__) (defBody s_BadBits___init__) (defScope s_BadBits___init__) fd) (T : OexC K C) (n1 : PySem.W.findIn K (.ref C) "at" = some none) :
    FnOk P w K mg base CX0 1 f fd ["self", "at"] (spI1 C "at") := by
  refine fn_super F T sc_bb ⟨fun _ _ _ _ => rfl, fun _ _ _ _ => rfl, ⟨_, fun _ _ _ _ => rfl⟩⟩ rfl rfl (fun vs H Q E h => ?_) (fun vs H Q E h => ?_) (fun A outer s H vs Q E h => ?_)
  · obtain ⟨e, l, rfl, _⟩ := h
    rfl
  · obtain ⟨e, l, rfl, he, _⟩ := h
    exact ⟨e, _, rfl, he⟩
  · obtain ⟨e, l, rfl, he, k⟩ := h
    refine ⟨_, PSs.nox (pss_one (ps_ost (pv 0) (pv 1))), ?_⟩
    exact ⟨_, rfl, _, rfl, e, C, rfl, T, n1, .inl ⟨he, fun dx hd _ => k dx hd⟩⟩
theorem sc_written : FnScope ["number"] ["number"] (defScope s_number_written) := ⟨rfl, rfl, rfl, by decide +kernel, rfl, by decide +kernel, by decide +kernel⟩
theorem ok_written {CX : CXT} {f fC : Addr} {fd fdC : FuncData} (F : FnP K "number_written" s_number_written f fd) (FC : FnP K "count_of" s_count_of fC fdC) (gC : mg "count_of" = some (.ref fC)) (G : NkF K mg) :
    FnOk P w K mg base CX 2 f fd ["number"] spWrit := by
  have GC : FnOk P w K mg base CX0 1 fC fdC ["number"] spCnt := ok_count_of FC G
  have bC : Binds K fdC ["number"] [] := FC.bindsN fun _ _ _ _ _ _ us hl => match us, hl with | [_], _ => rfl
  refine F.ok sc_written (fun vs H Q E h => ?_) (fun cdv A outer s H vs Q E hr h => ?_)
  · obtain ⟨x, rfl, _⟩ := h
    rfl
  · obtain ⟨z, rfl, hz, q⟩ := h
    refine ⟨_, PSs.nox (pss_one (ps_ret (pe_call GC hr rfl gC FC.kp bC .nil pass0 (pa_cons (pe_ifExp (pt_cmpR op_ge (pv 0) pe_int (nomark _)) (pe_op op_mul pe_int (pv 0)) (pe_op op_sub (pe_op op_mul (pe_un un_neg pe_int) (pv 0)) pe_int)) pa_nil)))), ?_⟩
    refine ⟨_, rfl, _, _, rfl, rfl, _, rfl, ?_⟩
    refine ite2 (fun c => ?_) (fun c => ?_)
    · have c : 0 ≤ z := by have := of_decide_eq_true c; omega
      have e : ((sgn z : Nat) : Int) = 2 * z := by unfold sgn; rw [if_pos c]; omega
      exact ⟨_, rfl, _, _, rfl, rfl, .inl ⟨by decide, by decide⟩, sgn z, by rw [e]; rfl, by omega, q⟩
    · have c : ¬ 0 ≤ z := fun y => c (decide_eq_true (by omega))
      have e : ((sgn z : Nat) : Int) = -2 * z - 1 := by unfold sgn; rw [if_neg c]; omega
      exact ⟨_, rfl, _, rfl, _, _, rfl, rfl, .inl ⟨by decide, by decide⟩, _, _, rfl, rfl, sgn z, by rw [e]; rfl, by omega, q⟩
theorem sc_is_bits : FnScope ["thing"] ["thing"] (defScope s_is_bits) := ⟨rfl, rfl, rfl, by decide +kernel, rfl, by decide +kernel, by decide +kernel⟩
theorem ok_is_bits {CX : CXT} {f : Addr} {fd : FuncData} (F : FnP K "is_bits" s_is_bits f fd) (G : NkF K mg) : FnOk P w K mg base CX 1 f fd ["thing"] (spIsB K) := by
  refine F.ok sc_is_bits (fun vs H Q E h => ?_) (fun cdv A outer s H vs Q E hr h => ?_)
  · obtain ⟨x, rfl, _⟩ := h
    rfl
  · obtain ⟨x, rfl, h⟩ := h
    refine ⟨_, PSs.nox (pss_one (ps_ret (pe_and (pe_callB call_isi (by rfl) G.isi (by decide +kernel) (pa_cons (pv 0) (pa_cons (pe_bltn (v := .ty "str") (by rfl) G.str (by decide +kernel) rfl) pa_nil)))
      (pe_one (pe_cmpR op_eq (pe_op op_add (pe_bm PySem.F.plainAttrs_str PySem.F.slot_str_count PySem.F.type_str_count mt_count (pv 0) (pa_cons pe_str pa_nil)) (pe_bm PySem.F.plainAttrs_str PySem.F.slot_str_count PySem.F.type_str_count mt_count (pv 0) (pa_cons pe_str pa_nil)))
        (pe_callB call_len (by rfl) G.len PySem.boot_len (pa_cons (pv 0) pa_nil)) (nomark _)))))), ?_⟩
    rcases h with ⟨t, rfl, hl, q⟩ | ⟨h, q⟩
    · refine ⟨_, rfl, _, _, _, _, true, rfl, .ty "str", .base (.str _), kit_ty (by decide +kernel), _, rfl, iteT ?_⟩
      refine ⟨_, rfl, rfl, _, _, rfl, rfl, _, rfl, rfl, _, _, rfl, rfl, _, _, rfl, rfl, _, rfl, _, _, rfl, ⟨sl_of (by rw [sT_len]; exact hl), rfl⟩, rfl, ?_⟩
      rw [zero_eq, one_eq, count_char, count_char, sT_len]
      obtain ⟨h1, h2⟩ := cnt_le t
      have e : decide (V.int ((cntC 48 t : Int) + (cntC 49 t : Int)) = V.int (t.length : Int)) = isB t := by
        rw [Bool.eq_iff_iff, decide_eq_true_eq, ← h2]
        constructor
        · intro z
          injection z with z
          omega
        · intro z
          congr 1
          omega
      show Q (.bl (decide (V.int ((cntC 48 t : Int) + (cntC 49 t : Int)) = V.int (t.length : Int)))) H
      rw [e]
      exact q
    · obtain ⟨ty, h1, h2⟩ := h.ty (K := K)
      exact ⟨_, rfl, _, _, _, _, false, rfl, .ty "str", h1, h2, _, rfl, iteF q⟩
end
/-- what the readers return -/
def ResV (H : Hp) (v : V) : Option (Int × Nat) → Prop
  | none => v = .non
  | some (a, b) => ∃ p, v = .ref p ∧ H p = some (.tup [.int a, .int (b : Int)])
def rdI (l : List Bool) (i : Nat) : Option (Int × Nat) := (rd l i).map fun x => ((x.1 : Int), x.2)
def spNeedB (C : Addr) (K : PySem.W.Frag) : Sp := fun vs H Q E => ∃ x, vs = [x] ∧ ((∃ t : List Nat, x = .str (sT t) ∧ t.length ≤ 100000 ∧ isB t = true ∧ Q .non H) ∨ (NbV H x ∧ ∀ H' d, Same H H' → H' d = some (.xd [("at", .non)]) → H d = none → E (.ref C) (some d) H'))
def BadIx (H : Hp) (n : Nat) (y : V) : Prop := (∃ i : Int, y = .int i ∧ (i < 0 ∨ (n : Int) < i)) ∨ OtV H y
def spNeedI (C : Addr) : Sp := fun vs H Q E => ∃ (t : List Nat) (y : V), vs = [.str (sT t), y] ∧ t.length ≤ 100000 ∧ ((∃ i : Nat, y = .int (i : Int) ∧ i ≤ t.length ∧ Q .non H) ∨ (BadIx H t.length y ∧ E (.ref C) none H))
def spAt (g : List Bool → Nat → Option (Int × Nat)) : Sp := fun vs H Q _ => ∃ (r : V) (l : List Bool) (i : Nat), vs = [r, .str (sT (bT l)), .int (i : Int)] ∧ l.length ≤ 600 ∧ i ≤ l.length ∧ ∀ v H', Same H H' → ResV H' v (g l i) → Q v H'
def spRead (CB CN : Addr) (g : List Bool → Nat → Option (Int × Nat)) : Sp := fun vs H Q E => ∃ (x y : V), vs = [x, y] ∧
  ((∃ (l : List Bool) (i : Nat), x = .str (sT (bT l)) ∧ y = .int (i : Int) ∧ l.length ≤ 600 ∧ i ≤ l.length ∧ ∀ v H', Same H H' → ResV H' v (g l i) → Q v H') ∨
   (∃ l : List Bool, x = .str (sT (bT l)) ∧ l.length ≤ 600 ∧ BadIx H l.length y ∧ E (.ref CN) none H) ∨
   (NbV H x ∧ ∀ H' d, Same H H' → H' d = some (.xd [("at", .non)]) → H d = none → E (.ref CB) (some d) H'))
theorem valB_ge : ∀ (l : List Bool) (a : Nat), a ≤ l.foldl (fun a b => a * 2 + bv b) a
  | [], a => Nat.le_refl _
  | b :: l, a => Nat.le_trans (by omega) (valB_ge l (a * 2 + bv b))
theorem valB_pos (l : List Bool) : 1 ≤ valB (true :: l) := valB_ge l 1
section
variable {P : Program} {w : World} {K : PySem.W.Frag} {mg : Str → Option Value} {base : Heap}
theorem sc_need_bits : FnScope ["bits"] ["bits"] (defScope s_need_bits) := ⟨rfl, rfl, rfl, by decide +kernel, rfl, by decide +kernel, by decide +kernel⟩
theorem ok_need_bits {f fI C : Addr} {fd fdI : FuncData} (F : FnP K "need_bits" s_need_bits f fd) (FI : FnP K "is_bits" s_is_bits fI fdI) (gI : mg "is_bits" = some (.ref fI)) (G : NkF K mg) (B : Ix1 P w K mg base "BadBits" C "at") :
    FnOk P w K mg base (L2.CX P w) 3 f fd ["bits"] (spNeedB C K) := by
  have GI : FnOk P w K mg base CX0 1 fI fdI ["thing"] (spIsB K) := ok_is_bits FI G
  have bI : Binds K fdI ["thing"] [] := FI.bindsN fun _ _ _ _ _ _ us hl => match us, hl with | [_], _ => rfl
  obtain ⟨fi, fdi, iC, tI, OI, bi⟩ := B.i
  refine F.ok sc_need_bits (fun vs H Q E h => ?_) (fun cdv A outer s H vs Q E hr h => ?_)
  · obtain ⟨x, rfl, _⟩ := h
    rfl
  · obtain ⟨x, rfl, h⟩ := h
    refine ⟨_, pss_one (ps_if (pt_not (pt_val (pe_call GI (hr.mono (by decide)) rfl gI FI.kp bI .nil pass0 (pa_cons (pv 0) pa_nil))))
        (pss_one (ps_raise rfl (takes_of rfl rfl rfl rfl) (pmk_oex B.o iC tI OI hr bi .nil pass0 rfl B.g (pa_cons pe_non pa_nil)))) pss_nil), ?_⟩
    rcases h with ⟨t, rfl, hl, hb, q⟩ | ⟨⟨t, rfl, hl, hb⟩ | hN, k⟩
    · exact ⟨_, rfl, _, rfl, .inl ⟨t, rfl, hl, _, rfl, by rw [hb]; exact iteF q⟩⟩
    · exact ⟨_, rfl, _, rfl, .inl ⟨t, rfl, hl, _, rfl, by rw [hb]; exact iteT (raise_i1 k)⟩⟩
    · exact ⟨_, rfl, _, rfl, .inr ⟨hN, _, rfl, iteT (raise_i1 k)⟩⟩
theorem sc_count_at : FnScope ["registers", "bits", "at", "first", "behind"] ["registers", "bits", "at"] (defScope s_count_at) := ⟨rfl, rfl, rfl, by decide +kernel, rfl, by decide +kernel, by decide +kernel⟩
theorem ok_count_at {CX : CXT} {f : Addr} {fd : FuncData} (F : FnP K "count_at" s_count_at f fd) (G : NkF K mg) : FnOk P w K mg base CX 1 f fd ["registers", "bits", "at"] (spAt rdI) := by
  refine F.ok sc_count_at (fun vs H Q E h => ?_) (fun cdv A outer s H vs Q E hr h => ?_)
  · obtain ⟨r, l, i, rfl, _⟩ := h
    rfl
  · obtain ⟨r, l, i, rfl, hl, hi, k⟩ := h
    have nd := sc_count_at.nd
    refine ⟨_, PSs.nox (pss_cons (ps_set (i := 3) nd rfl (.inl rfl) (pe_bm PySem.F.plainAttrs_str PySem.F.slot_str_find PySem.F.type_str_find mt_find3 (pv 1) (pa_cons pe_str (pa_cons (pv 2) pa_nil))))
      (C8.pss_cut (ps_set (i := 4) nd rfl (.inl rfl) (pe_op op_add (pe_op op_sub (pe_op op_mul pe_int (pv 3)) (pv 2)) pe_int))
      (pss_cons (ps_if (PW.pt (pw_or (pt_cmpR op_lt (pv 3) pe_int (nomark _)) (pw_or1 (pt_cmpR op_gt (pv 4) (pe_callB call_len (by rfl) G.len PySem.boot_len (pa_cons (pv 1) pa_nil)) (nomark _))))) (pss_one (ps_ret pe_non)) pss_nil)
      (pss_one (ps_ret (pe_tup (pa_cons (pe_op op_sub (pe_callTy call_int2 (by rfl) G.int (by decide +kernel) (pa_cons (pe_slice sl_str (pv 1) (po_some (pv 3)) (po_some (pv 4))) (pa_cons pe_int pa_nil))) pe_int) (pa_cons (pv 4) pa_nil)))))))), ?_⟩
    have sl : (sT (bT l)).length ≤ sizeLine := sl_of (by rw [sT_len, bT_len]; omega)
    refine ⟨_, rfl, rfl, _, rfl, _, _, _, rfl, rfl, ?_⟩
    rw [one_eq, find_bits l i hi]
    have zl := zer_le (l.drop i)
    rw [List.length_drop] at zl
    obtain ⟨z, ez⟩ : ∃ z, z = zer (l.drop i) := ⟨_, rfl⟩
    rw [← ez] at zl ⊢
    have er : rdI l i = if l.length < i + 2 * z + 1 then none else some (((valB ((l.drop (i + z)).take (z + 1)) - 1 : Nat) : Int), i + 2 * z + 1) := by
      unfold rdI rd
      rw [← ez]
      split <;> rfl
    refine ⟨fun σ H' => H' = H ∧ ((i + z < l.length ∧ σ = [some r, some (.str (sT (bT l))), some (.int (i : Int)), some (.int ((i + z : Nat) : Int)), some (.int ((i + 2 * z + 1 : Nat) : Int))]) ∨ (¬ i + z < l.length ∧ ∃ b, σ = [some r, some (.str (sT (bT l))), some (.int (i : Int)), some (.int (-1)), some (.int b)])), ?_, ?_⟩
    · refine ⟨_, rfl, _, _, rfl, rfl, .inl ⟨by decide, by decide⟩, _, rfl, _, _, rfl, rfl, _, _, rfl, rfl, rfl, ?_⟩
      by_cases c : i + z < l.length
      · rw [if_pos c]
        refine .inl ⟨c, ?_⟩
        show [some r, some (.str (sT (bT l))), some (.int (i : Int)), some (.int ((i + z : Nat) : Int)), some (.int ((2 : Int) * ((i + z : Nat) : Int) - (i : Int) + 1))] = _
        rw [show (2 : Int) * ((i + z : Nat) : Int) - (i : Int) + 1 = ((i + 2 * z + 1 : Nat) : Int) by omega]
      · rw [if_neg c]
        exact .inr ⟨c, _, rfl⟩
    rintro σ H' ⟨rfl, ⟨c, rfl⟩ | ⟨c, b, rfl⟩⟩
    · refine ⟨_, rfl, _, _, rfl, rfl, _, rfl, ?_⟩
      rw [decide_eq_false (show ¬ (((i + z : Nat) : Int) < 0) by omega)]
      refine iteF ⟨_, rfl, _, rfl, _, _, rfl, ⟨sl, rfl⟩, _, _, rfl, rfl, _, rfl, ?_⟩
      rw [sT_len, bT_len]
      by_cases c2 : l.length < i + 2 * z + 1
      · rw [if_pos c2] at er
        rw [decide_eq_true (show (l.length : Int) < ((i + 2 * z + 1 : Nat) : Int) by omega)]
        exact iteT (k _ _ (Same.refl _) (by rw [er]; rfl))
      · rw [if_neg c2] at er
        rw [decide_eq_false (show ¬ (l.length : Int) < ((i + 2 * z + 1 : Nat) : Int) by omega)]
        have ne : (l.drop (i + z)).take (z + 1) ≠ [] := fun q => by
          have := congrArg List.length q
          rw [List.length_take, List.length_drop] at this
          simp at this
          omega
        have le : ((l.drop (i + z)).take (z + 1)).length ≤ 640 := by rw [List.length_take]; omega
        refine iteF ⟨_, rfl, _, rfl, _, rfl, _, rfl, _, rfl, _, rfl, sl, (l.drop (i + z)).take (z + 1), ?_, ne, le, _, _, rfl, rfl, _, rfl, (show 2 ≤ sizeLine by decide), fun p hp => ?_⟩
        · show [V.str (cutS (sT (bT l)) (some ((i + z : Nat) : Int)) (some ((i + 2 * z + 1 : Nat) : Int))), V.int 2] = _
          rw [cut_nat, show i + 2 * z + 1 - (i + z) = z + 1 by omega]
          unfold bT
          rw [List.map_take, List.map_drop]
        · refine k _ _ (same_new hp) ?_
          rw [er]
          refine ⟨p, rfl, ?_⟩
          rw [upd_same]
          have h1 : 1 ≤ valB ((l.drop (i + z)).take (z + 1)) := by
            have ha := zer_at (l := l.drop i) (by rw [List.length_drop]; omega)
            rw [← ez, List.getElem?_drop] at ha
            have e2 : l.drop (i + z) = true :: l.drop (i + z + 1) := by
              rw [List.drop_eq_getElem_cons c]
              congr 1
              rw [List.getElem?_eq_getElem c] at ha
              exact Option.some.inj ha
            rw [e2, List.take_succ_cons]
            exact valB_pos _
          rw [show ((valB ((l.drop (i + z)).take (z + 1)) - 1 : Nat) : Int) = ((valB ((l.drop (i + z)).take (z + 1)) : Nat) : Int) - 1 by omega]
    · rw [if_pos (by omega)] at er
      exact ⟨_, rfl, _, _, rfl, rfl, _, rfl, iteT (iteT (k _ _ (Same.refl _) (by rw [er]; rfl)))⟩
end
section
variable {P : Program} {w : World} {K : PySem.W.Frag} {mg : Str → Option Value} {base : Heap}
theorem sc_number_at : FnScope ["registers", "bits", "at", "told", "count", "behind"] ["registers", "bits", "at"] (defScope s_number_at) := ⟨rfl, rfl, rfl, by decide +kernel, rfl, by decide +kernel, by decide +kernel⟩
theorem ok_number_at {CX : CXT} {f fC : Addr} {fd fdC : FuncData} (F : FnP K "number_at" s_number_at f fd) (FC : FnP K "count_at" s_count_at fC fdC) (gC : mg "count_at" = some (.ref fC)) (G : NkF K mg) : FnOk P w K mg base CX 2 f fd ["registers", "bits", "at"] (spAt rdS) := by
  have GC : FnOk P w K mg base CX0 1 fC fdC ["registers", "bits", "at"] (spAt rdI) := ok_count_at FC G
  have bC : Binds K fdC ["registers", "bits", "at"] [] := FC.bindsN fun _ _ _ _ _ _ us hl => match us, hl with | [_, _, _], _ => rfl
  refine F.ok sc_number_at (fun vs H Q E h => ?_) (fun cdv A outer s H vs Q E hr h => ?_)
  · obtain ⟨r, l, i, rfl, _⟩ := h
    rfl
  · obtain ⟨r, l, i, rfl, hl, hi, k⟩ := h
    have nd := sc_number_at.nd
    refine ⟨_, PSs.nox (pss_cons (ps_set (i := 3) nd rfl (.inl rfl) (pe_call GC hr rfl gC FC.kp bC .nil pass0 (pa_cons (pv 0) (pa_cons (pv 1) (pa_cons (pv 2) pa_nil)))))
      (pss_cons (ps_if (pt_cmpR op_isN (pv 3) pe_non (nomark _)) (pss_one (ps_ret pe_non)) pss_nil)
      (pss_cons (ps_asg (pv 3) (pg_tup rfl (pgs_cons (pg_name (i := 4) nd rfl (Or.inl rfl)) (pgs_cons (pg_name (i := 5) nd rfl (Or.inl rfl)) pgs_nil))))
      (pss_one (ps_ret (pe_tup (pa_cons (pe_ifExp (pt_cmpR op_eq (pe_op op_modN (pv 4) pe_int) pe_int (nomark _)) (pe_op op_fdivN (pv 4) pe_int) (pe_un un_neg (pe_op op_fdivN (pe_op op_add (pv 4) pe_int) pe_int))) (pa_cons (pv 5) pa_nil)))))))), ?_⟩
    refine ⟨_, rfl, _, rfl, _, rfl, r, l, i, rfl, hl, hi, fun v H1 s1 hv => ?_⟩
    unfold rdI at hv
    unfold rdS at k
    cases e : rd l i with
    | none =>
      rw [e] at hv k
      have hv : v = .non := hv
      subst hv
      refine ⟨_, rfl, rfl, _, rfl, ?_⟩
      rw [decide_eq_true rfl]
      exact iteT (k _ _ s1 rfl)
    | some x =>
      obtain ⟨n, b⟩ := x
      rw [e] at hv k
      obtain ⟨p, rfl, hp⟩ := hv
      refine ⟨_, rfl, rfl, _, rfl, ?_⟩
      rw [decide_eq_false (fun z => by cases z)]
      refine iteF ⟨_, rfl, p, _, rfl, SqT.of hp, rfl, _, _, rfl, _, _, rfl, rfl, ?_⟩
      refine ⟨_, rfl, _, _, rfl, rfl, (show (2 : Int) ≠ 0 by decide), rfl, _, rfl, ?_⟩
      have hm : decide (V.int ((n : Int).fmod 2) = V.int 0) = decide (n % 2 = 0) := by
        rw [Int.fmod_eq_emod_of_nonneg _ (by decide)]
        apply decide_eq_decide.mpr
        constructor
        · intro z
          injection z with z
          omega
        · intro z
          congr 1
          omega
      show (if decide (V.int ((n : Int).fmod 2) = V.int 0) = true then _ else _)
      rw [hm]
      have fin : ∀ z : Int, z = uns n → ∀ q, H1 q = none → Q (.ref q) (upd H1 q (.tup [.int z, .int (b : Int)])) := by
        rintro z rfl q hq
        exact k _ _ (s1.trans (same_new hq)) ⟨q, rfl, upd_same⟩
      refine ite2 (fun c => ?_) (fun c => ?_)
      · have c := of_decide_eq_true c
        refine ⟨_, rfl, _, _, rfl, rfl, ⟨by decide, by decide⟩, _, rfl, (show 2 ≤ sizeLine by decide), fin _ ?_⟩
        unfold uns
        rw [if_pos c, Int.fdiv_eq_ediv_of_nonneg _ (by decide)]
        omega
      · have c : ¬ n % 2 = 0 := fun z => c (decide_eq_true z)
        refine ⟨_, rfl, _, _, rfl, rfl, _, _, rfl, rfl, ⟨by decide, by decide⟩, _, rfl, _, rfl, (show 2 ≤ sizeLine by decide), fin _ ?_⟩
        unfold uns
        rw [if_neg c]
        show -(((n : Int) + 1).fdiv 2) = _
        rw [Int.fdiv_eq_ediv_of_nonneg _ (by decide)]
        omega
end
/-! ## the law's functions of bits -/
theorem digs_cons : ∀ (j n : Nat), digs n (j + 1) = ((n / 2 ^ j) % 2 == 1) :: digs n j
  | 0, n => by
    show [] ++ [n % 2 == 1] = _
    rw [Nat.pow_zero, Nat.div_one]
    rfl
  | j + 1, n => by
    show digs (n / 2) (j + 1) ++ [n % 2 == 1] = _
    rw [digs_cons j (n / 2), List.cons_append, Nat.div_div_eq_div_mul, ← Nat.pow_succ']
    rfl
theorem str_bit (n : Nat) : (toString ((n : Int).fmod 2) : Str) = sT [bit (n % 2 == 1)] := by
  rw [Int.fmod_eq_emod_of_nonneg _ (by decide)]
  rcases Nat.mod_two_eq_zero_or_one n with h | h
  · rw [show (n : Int) % 2 = 0 by omega, h]
    decide +kernel
  · rw [show (n : Int) % 2 = 1 by omega, h]
    decide +kernel
def spFig : Sp := fun vs H Q _ => ∃ (t : Nat) (V0 : Hp) (d : Addr), vs = [.ref d] ∧ Dw t V0 H d ∧ t + 10 < T40 ∧ ∀ (z : Int) (H' : Hp), z.natAbs < 2 ^ 41 → Dw (t + 2) V0 H' d → Q (.int z) H'
def spDigs : Sp := fun vs H Q _ => ∃ n m : Nat, vs = [.int (n : Int), .int (m : Int)] ∧ m ≤ 600 ∧ Q (.str (sT (bT (digs n m)))) H
def spLCnt : Sp := fun vs H Q _ => ∃ n : Nat, vs = [.int (n : Int)] ∧ n < 2 ^ 62 ∧ Q (.str (sT (bT (gam n)))) H
def spBits : Sp := fun vs H Q _ => ∃ (t : Nat) (V0 : Hp) (d : Addr) (m : Nat), vs = [.ref d, .int (m : Int)] ∧ Dw t V0 H d ∧ t + 200 < T40 ∧ m ≤ 100 ∧ ∀ (l : List Bool) (H' : Hp), l.length ≤ m → Dw (t + m + 2) V0 H' d → Q (.str (sT (bT l))) H'
def spLRead (g : List Bool → Nat → Option (Int × Nat)) : Sp := fun vs H Q _ => ∃ (l : List Bool) (i : Nat), vs = [.str (sT (bT l)), .int (i : Int)] ∧ l.length ≤ 600 ∧ i ≤ l.length ∧ ∀ v H', Same H H' → ResV H' v (g l i) → Q v H'
def spVal : Sp := fun vs H Q _ => ∃ l : List Bool, vs = [.str (sT (bT l))] ∧ l.length ≤ 600 ∧ Q (.int ((valB l : Nat) : Int)) H
structure DrF (P : Program) (w : World) (K : PySem.W.Frag) (mg : Str → Option Value) (base : Heap) : Prop where
  take : ∃ (f : Addr) (fd : FuncData), mg "_law_take" = some (.ref f) ∧ PySem.W.keepIn K (.ref f) = true ∧ Binds K fd ["_law_draw", "_law_many"] [] ∧ FnOk P w K mg base CX0 2 f fd ["_law_draw", "_law_many"] spTake
  pick : ∃ (f : Addr) (fd : FuncData), mg "_law_pick" = some (.ref f) ∧ PySem.W.keepIn K (.ref f) = true ∧ Binds K fd ["_law_draw", "_law_some"] [] ∧ FnOk P w K mg base CX0 3 f fd ["_law_draw", "_law_some"] (spPick K)
  rng : mg "range" = none
section
variable {P : Program} {w : World} {K : PySem.W.Frag} {mg : Str → Option Value} {base : Heap}
theorem sc_figure : FnScope ["_law_draw", "_law_way"] ["_law_draw"] (defScope s_law_figure) := ⟨rfl, rfl, rfl, by decide +kernel, rfl, by decide +kernel, by decide +kernel⟩
theorem ok_figure {CX : CXT} {f : Addr} {fd : FuncData} (F : FnP K "_law_figure" s_law_figure f fd) (D : DrF P w K mg base) : FnOk P w K mg base CX 3 f fd ["_law_draw"] spFig := by
  obtain ⟨fT, fdT, gT, kT, bT', GT⟩ := D.take
  refine F.ok sc_figure (fun vs H Q E h => ?_) (fun cdv A outer s H vs Q E hr h => ?_)
  · obtain ⟨t, V0, d, rfl, _⟩ := h
    rfl
  · obtain ⟨t, V0, d, rfl, hD, ht, k⟩ := h
    have ht : t + 10 < 1099511627776 := ht
    have nd := sc_figure.nd
    have ct : ∀ m : Int, True := fun _ => trivial
    refine ⟨_, PSs.nox (pss_cons (ps_set (i := 1) nd rfl (.inl rfl) (pe_call GT hr rfl gT kT bT' .nil pass0 (pa_cons (pv 0) (pa_cons pe_int pa_nil))))
      (pss_cons (ps_if (pt_cmpR op_eq (pv 1) pe_int (nomark _)) (pss_one (ps_ret (pe_op op_sub (pe_call GT hr rfl gT kT bT' .nil pass0 (pa_cons (pv 0) (pa_cons pe_int pa_nil))) pe_int))) pss_nil)
      (pss_one (ps_ret (pe_ifExp (pt_cmpR op_lt (pv 1) pe_int (nomark _)) (pe_call GT hr rfl gT kT bT' .nil pass0 (pa_cons (pv 0) (pa_cons pe_int pa_nil))) (pe_op op_sub (pe_call GT hr rfl gT kT bT' .nil pass0 (pa_cons (pv 0) (pa_cons pe_int pa_nil))) pe_int)))))), ?_⟩
    refine ⟨_, rfl, t, V0, d, 8, rfl, hD, by show t < 1099511627776; omega, by decide, by decide, fun a H1 a0 a1 D1 => ?_⟩
    refine ⟨_, rfl, rfl, _, rfl, ?_⟩
    refine ite2 (fun c => ?_) (fun c => ?_)
    · exact ⟨_, rfl, t + 1, V0, d, _, rfl, D1, by show t + 1 < 1099511627776; omega, by decide, by decide, fun b H2 b0 b1 D2 => ⟨_, _, rfl, rfl, k _ _ (by omega) D2⟩⟩
    · refine ⟨_, rfl, _, _, rfl, rfl, _, rfl, ?_⟩
      refine ite2 (fun c => ?_) (fun c => ?_)
      · exact ⟨_, rfl, t + 1, V0, d, _, rfl, D1, by show t + 1 < 1099511627776; omega, by decide, by decide, fun b H2 b0 b1 D2 => k _ _ (by omega) D2⟩
      · exact ⟨_, rfl, t + 1, V0, d, _, rfl, D1, by show t + 1 < 1099511627776; omega, by decide, by decide, fun b H2 b0 b1 D2 => ⟨_, _, rfl, rfl, k _ _ (by omega) D2⟩⟩
theorem sc_digits : FnScope ["_law_number", "_law_many", "_law_found", "_law_left", "_law_k"] ["_law_number", "_law_many"] (defScope s_law_digits) := ⟨rfl, rfl, rfl, by decide +kernel, rfl, by decide +kernel, by decide +kernel⟩
theorem ok_digits {CX : CXT} {f : Addr} {fd : FuncData} (F : FnP K "_law_digits" s_law_digits f fd) (G : NkF K mg) (rng : mg "range" = none) : FnOk P w K mg base CX 1 f fd ["_law_number", "_law_many"] spDigs := by
  refine F.ok sc_digits (fun vs H Q E h => ?_) (fun cdv A outer s H vs Q E hr h => ?_)
  · obtain ⟨n, m, rfl, _⟩ := h
    rfl
  · obtain ⟨n, m, rfl, hm, q⟩ := h
    have nd := sc_digits.nd
    refine ⟨_, PSs.nox (pss_cons (ps_par (i := 2) (j := 3) rfl nd rfl rfl (by decide) rfl rfl (pa_cons pe_str (pa_cons (pv 0) pa_nil)) (by rfl))
      (pss_cons (ps_for PassesOwn.never rfl (pi_range1 (by rfl) rng (pa_cons (pv 1) pa_nil)) (pg_name (i := 4) nd rfl (Or.inl rfl))
        (pss_cons (ps_set (i := 2) nd rfl (.inl rfl) (pe_op op_add_str (pe_callTy call_str_int (by rfl) G.str (by decide +kernel) (pa_cons (pe_op op_modN (pe_callTy call_int1 (by rfl) G.int (by decide +kernel) (pa_cons (pv 3) pa_nil)) pe_int) pa_nil)) (pv 2)))
        (pss_one (ps_set (i := 3) nd rfl (.inl rfl) (pe_op op_fdivN (pv 3) pe_int)))))
      (pss_one (ps_ret (pv 2))))), ?_⟩
    refine ⟨_, rfl, _, _, rfl, _, rfl, _, rfl, by omega, by omega, ?_⟩
    refine for_range (lo := 0) (n := m) (fun j σ H' => H' = H ∧ ∃ v4, σ = [some (.int (n : Int)), some (.int (m : Int)), some (.str (sT (bT (digs n j)))), some (.int ((n / 2 ^ j : Nat) : Int)), v4]) ⟨rfl, none, by rw [Nat.pow_zero, Nat.div_one]; rfl⟩ ?_ ?_
    · rintro j σ H' hj ⟨rfl, v4, rfl⟩
      refine ⟨_, rfl, .inl ⟨_, rfl, _, _, rfl, rfl, (show (2 : Int) ≠ 0 by decide), _, rfl, ?_, _, rfl, _, _, rfl, rfl, ?_, _, rfl, _, _, rfl, rfl, ⟨by decide, by decide⟩, rfl, some (.int (0 + (j : Int))), ?_⟩⟩
      · rw [Int.fmod_eq_emod_of_nonneg _ (by decide)]
        rcases Nat.mod_two_eq_zero_or_one (n / 2 ^ j) with h | h
        · rw [show ((n / 2 ^ j : Nat) : Int) % 2 = 0 by omega]; decide
        · rw [show ((n / 2 ^ j : Nat) : Int) % 2 = 1 by omega]; decide
      · rw [str_bit, sT_len, sT_len, bT_len, digs_len]
        exact sl_of (by simp; omega)
      · show [some (V.int (n : Int)), some (V.int (m : Int)), some (V.str ((toString (((n / 2 ^ j : Nat) : Int).fmod 2) : Str) ++ sT (bT (digs n j)))), some (V.int (((n / 2 ^ j : Nat) : Int).fdiv 2)), some (V.int (0 + (j : Int)))] = _
        rw [str_bit, sT_ap, digs_cons, Int.fdiv_eq_ediv_of_nonneg _ (by decide), show ((n / 2 ^ j : Nat) : Int) / 2 = ((n / 2 ^ (j + 1) : Nat) : Int) by rw [Nat.pow_succ, ← Nat.div_div_eq_div_mul]; omega]
        rfl
    · rintro σ H' ⟨rfl, v4, rfl⟩
      exact ⟨_, rfl, q⟩
theorem sc_lcount : FnScope ["_law_number", "_law_many", "_law_left"] ["_law_number"] (defScope s_law_count) := ⟨rfl, rfl, rfl, by decide +kernel, rfl, by decide +kernel, by decide +kernel⟩
theorem ok_lcount {CX : CXT} {f fD : Addr} {fd fdD : FuncData} (F : FnP K "_law_count" s_law_count f fd) (FD : FnP K "_law_digits" s_law_digits fD fdD) (gD : mg "_law_digits" = some (.ref fD)) (G : NkF K mg) (rng : mg "range" = none) : FnOk P w K mg base CX 2 f fd ["_law_number"] spLCnt := by
  have GD : FnOk P w K mg base CX0 1 fD fdD ["_law_number", "_law_many"] spDigs := ok_digits FD G rng
  have bD : Binds K fdD ["_law_number", "_law_many"] [] := FD.bindsN fun _ _ _ _ _ _ us hl => match us, hl with | [_, _], _ => rfl
  refine F.ok sc_lcount (fun vs H Q E h => ?_) (fun cdv A outer s H vs Q E hr h => ?_)
  · obtain ⟨n, rfl, _⟩ := h
    rfl
  · obtain ⟨n, rfl, hn, q⟩ := h
    have nd := sc_lcount.nd
    refine ⟨_, PSs.nox (pss_cons (ps_par (i := 1) (j := 2) rfl nd rfl rfl (by decide) rfl rfl (pa_cons pe_int (pa_cons (pe_op op_add (pv 0) pe_int) pa_nil)) (by rfl))
      (pss_cons (ps_while PassesOwn.never (pt_cmpR op_gt (pv 2) pe_int (nomark _)) (pss_one (ps_par (i := 1) (j := 2) rfl nd rfl rfl (by decide) rfl rfl (pa_cons (pe_op op_add (pv 1) pe_int) (pa_cons (pe_op op_fdivN (pv 2) pe_int) pa_nil)) (by rfl))))
      (pss_one (ps_ret (pe_op op_add_str (pe_op op_repc pe_str (pv 1)) (pe_call GD hr rfl gD FD.kp bD .nil pass0 (pa_cons (pe_op op_add (pv 0) pe_int) (pa_cons (pe_op op_add (pv 1) pe_int) pa_nil)))))))), ?_⟩
    obtain ⟨l1, l2⟩ := gam_small hn
    refine ⟨_, rfl, _, _, rfl, rfl, _, _, rfl, ?_⟩
    refine ⟨fun x σ H' => H' = H ∧ ∃ j left : Nat, x = left ∧ 1 ≤ left ∧ j + lg left = lg (n + 1) ∧ σ = [some (.int (n : Int)), some (.int (j : Int)), some (.int (left : Int))], ⟨n + 1, rfl, 0, n + 1, rfl, by omega, by omega, rfl⟩, ?_⟩
    rintro left σ H' ⟨rfl, j, lf, rfl, h1, h2, rfl⟩
    refine ⟨_, rfl, _, _, rfl, rfl, _, rfl, ?_⟩
    refine ite2 (fun c => ?_) (fun c => ?_)
    · have c : 1 < left := by have := of_decide_eq_true c; omega
      refine ⟨fun σ' H2 => H2 = H' ∧ ∃ j left2 : Nat, left2 < left ∧ 1 ≤ left2 ∧ j + lg left2 = lg (n + 1) ∧ σ' = [some (.int (n : Int)), some (.int (j : Int)), some (.int (left2 : Int))], fun _ _ h => ?_, ?_⟩
      · obtain ⟨e, j2, l2, a1, a2, a3, a4⟩ := h
        exact ⟨l2, a1, e, j2, l2, rfl, a2, a3, a4⟩
      · refine ⟨_, rfl, _, _, rfl, rfl, _, rfl, _, _, rfl, rfl, ⟨by decide, by decide⟩, _, _, rfl, rfl, j + 1, left / 2, by omega, by omega, ?_, ?_⟩
        · rw [lg_ge (show ¬ left < 2 by omega)] at h2
          omega
        · show [some (V.int (n : Int)), some (V.int ((j : Int) + 1)), some (V.int ((left : Int).fdiv 2))] = _
          rw [Int.fdiv_eq_ediv_of_nonneg _ (by decide)]
          rfl
    · have c : left = 1 := by
        have : ¬ (1 : Int) < (left : Int) := fun z => c (decide_eq_true z)
        omega
      subst c
      rw [lg_lt (by decide)] at h2
      have h2 : j = lg (n + 1) := by omega
      subst h2
      refine ⟨_, rfl, 48, lg (n + 1), congrArg V.str zero_eq, rfl, by omega, _, rfl, _, _, rfl, rfl, _, rfl, _, _, rfl, rfl, n + 1, lg (n + 1) + 1, rfl, by omega, _, _, rfl, rfl, ?_, ?_⟩
      · rw [sT_len, sT_len, List.length_replicate, bT_len, digs_len]
        exact sl_of (by omega)
      · rw [sT_ap, digs_bin]
        have e : List.replicate (lg (n + 1)) 48 ++ bT (binB (n + 1)) = bT (gam n) := by
          unfold gam
          rw [bT_app]
          congr 1
          unfold bT
          rw [List.map_replicate]
          rfl
        rw [e]
        exact q
theorem sc_lsigned : FnScope ["_law_number"] ["_law_number"] (defScope s_law_signed) := ⟨rfl, rfl, rfl, by decide +kernel, rfl, by decide +kernel, by decide +kernel⟩
theorem ok_lsigned {CX : CXT} {f fC : Addr} {fd fdC : FuncData} (F : FnP K "_law_signed" s_law_signed f fd) (kC : PySem.W.keepIn K (.ref fC) = true) (gC : mg "_law_count" = some (.ref fC)) (bC : Binds K fdC ["_law_number"] []) (GC : FnOk P w K mg base CX0 2 fC fdC ["_law_number"] spLCnt) :
    FnOk P w K mg base CX 3 f fd ["_law_number"] spWrit := by
  refine F.ok sc_lsigned (fun vs H Q E h => ?_) (fun cdv A outer s H vs Q E hr h => ?_)
  · obtain ⟨x, rfl, _⟩ := h
    rfl
  · obtain ⟨z, rfl, hz, q⟩ := h
    refine ⟨_, PSs.nox (pss_one (ps_ret (pe_call GC hr rfl gC kC bC .nil pass0 (pa_cons (pe_ifExp (pt_cmpR op_ge (pv 0) pe_int (nomark _)) (pe_op op_mul pe_int (pv 0)) (pe_op op_sub (pe_op op_mul (pe_un un_neg pe_int) (pv 0)) pe_int)) pa_nil)))), ?_⟩
    refine ⟨_, rfl, _, _, rfl, rfl, _, rfl, ?_⟩
    refine ite2 (fun c => ?_) (fun c => ?_)
    · have c : 0 ≤ z := by have := of_decide_eq_true c; omega
      have e : ((sgn z : Nat) : Int) = 2 * z := by unfold sgn; rw [if_pos c]; omega
      exact ⟨_, rfl, _, _, rfl, rfl, .inl ⟨by decide, by decide⟩, sgn z, by rw [e]; rfl, by omega, q⟩
    · have c : ¬ 0 ≤ z := fun y => c (decide_eq_true (by omega))
      have e : ((sgn z : Nat) : Int) = -2 * z - 1 := by unfold sgn; rw [if_neg c]; omega
      exact ⟨_, rfl, _, rfl, _, _, rfl, rfl, .inl ⟨by decide, by decide⟩, _, _, rfl, rfl, sgn z, by rw [e]; rfl, by omega, q⟩
theorem sc_value : FnScope ["_law_bits_here", "_law_found", "_law_sign"] ["_law_bits_here"] (defScope s_law_value) := ⟨rfl, rfl, rfl, by decide +kernel, rfl, by decide +kernel, by decide +kernel⟩
theorem take_snoc {α : Type} {l : List α} {j : Nat} {b : α} (h : l[j]? = some b) : l.take (j + 1) = l.take j ++ [b] := by
  rw [List.take_succ, h]
  rfl
theorem int_bit (b : Bool) : PySem.intText? (sT [bit b]) = some ((bv b : Nat) : Int) := by cases b <;> decide +kernel
theorem ok_value {CX : CXT} {f : Addr} {fd : FuncData} (F : FnP K "_law_value" s_law_value f fd) (G : NkF K mg) : FnOk P w K mg base CX 1 f fd ["_law_bits_here"] spVal := by
  refine F.ok sc_value (fun vs H Q E h => ?_) (fun cdv A outer s H vs Q E hr h => ?_)
  · obtain ⟨l, rfl, _⟩ := h
    rfl
  · obtain ⟨l, rfl, hl, q⟩ := h
    have nd := sc_value.nd
    refine ⟨_, PSs.nox (pss_cons (ps_set (i := 1) nd rfl (.inl rfl) pe_int)
      (pss_cons (ps_for PassesOwn.never rfl (pi_str (pv 0)) (pg_name (i := 2) nd rfl (Or.inl rfl)) (pss_one (ps_set (i := 1) nd rfl (.inl rfl) (pe_op op_add (pe_op op_mul pe_int (pv 1)) (pe_callTy call_int_str (by rfl) G.int (by decide +kernel) (pa_cons (pv 2) pa_nil))))))
      (pss_one (ps_ret (pv 1))))), ?_⟩
    refine ⟨_, rfl, _, rfl, ?_⟩
    refine for_it walk_str (fun j σ H' => H' = H ∧ ∃ v2, σ = [some (.str (sT (bT l))), some (.int ((valB (l.take j) : Nat) : Int)), v2]) ⟨rfl, none, rfl⟩ (fun _ _ _ _ _ => trivial) ?_ ?_
    · rintro j x σ H' H2 hj ⟨rfl, v2, rfl⟩ ⟨rfl, c, hc, rfl⟩
      obtain ⟨b, hb, rfl⟩ : ∃ b, l[j]? = some b ∧ c = bit b := by
        have hc : ((bT l).toArray)[j]? = some c := hc
        rw [List.getElem?_toArray] at hc
        unfold bT at hc
        rw [List.getElem?_map] at hc
        cases e : l[j]? with
        | none => rw [e] at hc; cases hc
        | some b => rw [e] at hc; exact ⟨b, rfl, (Option.some.inj hc).symm⟩
      refine ⟨_, rfl, _, _, rfl, rfl, .inl ⟨by decide, by decide⟩, _, rfl, _, _, rfl, int_bit b, (show 1 ≤ 640 by decide), _, _, rfl, rfl, rfl, some (.str (sT [bit b])), ?_⟩
      show [some (V.str (sT (bT l))), some (V.int ((2 : Int) * ((valB (l.take j) : Nat) : Int) + ((bv b : Nat) : Int))), some (V.str (sT [bit b]))] = _
      rw [take_snoc hb, valB_app, show (2 : Int) * ((valB (l.take j) : Nat) : Int) + ((bv b : Nat) : Int) = ((valB (l.take j) * 2 + bv b : Nat) : Int) by omega]
    · rintro σ H' ⟨rfl, v2, rfl⟩
      refine ⟨_, rfl, ?_⟩
      have e : (sT (bT l)).cps.size = l.length := by rw [← bT_len l]; exact sT_len _
      rw [e, List.take_length]
      exact q
end
/-! ## digits: the mathematics -/
theorem lg_low : ∀ (k n : Nat), n < 2 ^ (k + 1) → lg n ≤ k
  | 0, n, h => by rw [lg_lt (by omega)]; omega
  | k + 1, n, h => by
    by_cases h2 : n < 2
    · rw [lg_lt h2]; omega
    · rw [lg_ge h2]
      have := lg_low k (n / 2) (by rw [Nat.pow_succ] at h; omega)
      omega
theorem lt_lg (n : Nat) : n < 2 ^ (lg n + 1) := by
  induction n using Nat.strongRecOn with
  | _ n ih =>
    by_cases h : n < 2
    · rw [lg_lt h]; omega
    · have := ih (n / 2) (by omega)
      rw [lg_ge h, Nat.pow_succ]
      omega
theorem digs_pad (n : Nat) : ∀ j, digs n (j + (lg n + 1)) = List.replicate j false ++ binB n
  | 0 => by rw [Nat.zero_add, digs_bin]; rfl
  | j + 1 => by
    rw [show j + 1 + (lg n + 1) = (j + (lg n + 1)) + 1 by omega, digs_cons, digs_pad n j, List.replicate_succ, List.cons_append]
    congr 1
    have : n / 2 ^ (j + (lg n + 1)) = 0 := Nat.div_eq_of_lt (Nat.lt_of_lt_of_le (lt_lg n) (Nat.pow_le_pow_right (by decide) (by omega)))
    rw [this]
    rfl
theorem valB_digs : ∀ (m n : Nat), n < 2 ^ m → valB (digs n m) = n
  | 0, n, h => by
    have : n = 0 := by omega
    subst this
    rfl
  | m + 1, n, h => by
    rw [Nat.pow_succ] at h
    show valB (digs (n / 2) m ++ [n % 2 == 1]) = n
    rw [valB_app, valB_digs m (n / 2) (by omega), bv_eq (Nat.mod_lt _ (by decide))]
    omega
theorem digs_valB (l : List Bool) : digs (valB l) l.length = l := by
  obtain ⟨n, hn⟩ : ∃ n, l.length = n := ⟨_, rfl⟩
  induction n generalizing l with
  | zero =>
    have : l = [] := List.length_eq_zero_iff.mp hn
    subst this
    rfl
  | succ n ih =>
    rcases List.eq_nil_or_concat l with rfl | ⟨r, b, rfl⟩
    · cases hn
    · rw [List.concat_eq_append] at hn ⊢
      rw [List.length_append] at hn
      have hr : r.length = n := by simpa using hn
      have e := ih r hr
      rw [valB_app, List.length_append]
      show digs ((valB r * 2 + bv b) / 2) r.length ++ [(valB r * 2 + bv b) % 2 == 1] = _
      have h1 : (valB r * 2 + bv b) / 2 = valB r := by cases b <;> simp [bv] <;> omega
      have h2 : ((valB r * 2 + bv b) % 2 == 1) = b := by cases b <;> simp [bv]
      rw [h1, h2, e]
theorem valB_lt' (l : List Bool) : valB l < 2 ^ l.length := by
  have go : ∀ (l : List Bool) (a k : Nat), a < 2 ^ k → l.foldl (fun a b => a * 2 + bv b) a < 2 ^ (k + l.length) := by
    intro l
    induction l with
    | nil => exact fun a k h => h
    | cons b l ih =>
      intro a k h
      have := ih (a * 2 + bv b) (k + 1) (by
        have : bv b ≤ 1 := by cases b <;> decide
        rw [Nat.pow_succ]
        omega)
      rw [List.length_cons, show k + (l.length + 1) = k + 1 + l.length by omega]
      exact this
  have := go l 0 0 (by decide)
  rw [Nat.zero_add] at this
  exact this
/-- a cut of many bits at an index -/
def at_ (l : List Bool) (i m : Nat) : Option Nat := if i + m ≤ l.length then some (valB ((l.drop i).take m)) else none
theorem at_digs (pre suf : List Bool) {n m : Nat} (h : n < 2 ^ m) : at_ (pre ++ (digs n m ++ suf)) pre.length m = some n := by
  unfold at_
  rw [if_pos (by simp [digs_len]), List.drop_left, List.take_left' (digs_len _ _), valB_digs _ _ h]
theorem at_back {l : List Bool} {i m n : Nat} (h : at_ l i m = some n) : l.take i ++ (digs n m ++ l.drop (i + m)) = l ∧ i + m ≤ l.length ∧ n < 2 ^ m := by
  unfold at_ at h
  split at h
  · rename_i c
    injection h with h
    subst h
    have hl : ((l.drop i).take m).length = m := by rw [List.length_take, List.length_drop]; omega
    have e := digs_valB ((l.drop i).take m)
    rw [hl] at e
    refine ⟨?_, c, ?_⟩
    · rw [e, ← List.drop_drop, List.take_append_drop, List.take_append_drop]
    · have := valB_lt' ((l.drop i).take m)
      rw [hl] at this
      exact this
  · cases h
theorem zf_bits {l : List Bool} (h : l ≠ []) (k : Nat) : PySem.zfilled (sT (bT l)) k = sT (List.replicate k 48 ++ bT l) := by
  match l, h with
  | b :: r, _ =>
    unfold PySem.zfilled
    have e : (sT (bT (b :: r))).cps[0]? = some (bit b) := by
      show ((bT (b :: r)).toArray)[0]? = _
      rw [List.getElem?_toArray]
      rfl
    rw [e]
    have fin : Builtin.Str.padded (sT (bT (b :: r))) k 0 48 = sT (List.replicate k 48 ++ bT (b :: r)) := by
      unfold Builtin.Str.padded sT
      simp
    cases b
    · exact fin
    · exact fin
theorem zfill_digs {n m : Nat} (h : n < 2 ^ m) (hm : 1 ≤ m) : Txt.zfill (sT (bT (binB n))) (m : Int) = sT (bT (digs n m)) := by
  have hl : lg n + 1 ≤ m := by
    have := lg_low (m - 1) n (by rw [show m - 1 + 1 = m by omega]; exact h)
    omega
  have e : digs n m = List.replicate (m - (lg n + 1)) false ++ binB n := by
    have := digs_pad n (m - (lg n + 1))
    rw [show m - (lg n + 1) + (lg n + 1) = m by omega] at this
    exact this
  rw [e, bT_app]
  unfold Txt.zfill
  rw [sT_len, bT_len, binB_len]
  split
  · rename_i c
    have : m = lg n + 1 := by omega
    rw [this, Nat.sub_self]
    rfl
  · rename_i c
    have e2 : ((m : Int).toNat - (lg n + 1)) = m - (lg n + 1) := by rw [Int.toNat_natCast]
    rw [e2, zf_bits (by have := binB_len n; intro z; rw [z] at this; cases this)]
    show sT (List.replicate (m - (lg n + 1)) 48 ++ bT (binB n)) = _
    unfold bT
    rw [List.map_replicate]
    rfl
/-! ## data told by the heap, with a guard on the addresses -/
mutual
inductive Dt (G : Addr → Prop) (H : Hp) : V → PyData → Prop
  | non : Dt G H .non .none
  | bl (b : Bool) : Dt G H (.bl b) (.bool b)
  | int (i : Int) : Dt G H (.int i) (.int i)
  | str (x : Str) : Dt G H (.str x) (.str x)
  | lst {a : Addr} {xs : List V} {ds : List PyData} : G a → H a = some (.lst xs) → DtA G H xs ds → Dt G H (.ref a) (.list ds)
  | tup {a : Addr} {xs : List V} {ds : List PyData} : G a → H a = some (.tup xs) → DtA G H xs ds → Dt G H (.ref a) (.tuple ds)
  | dic {a : Addr} : G a → H a = some (.dK []) → Dt G H (.ref a) (.dict [])
inductive DtA (G : Addr → Prop) (H : Hp) : List V → List PyData → Prop
  | nil : DtA G H [] []
  | cons {v : V} {vs : List V} {d : PyData} {ds : List PyData} : Dt G H v d → DtA G H vs ds → DtA G H (v :: vs) (d :: ds)
end
mutual
theorem Dt.to {G G' : Addr → Prop} {H H' : Hp} (t : ∀ b o, G b → H b = some o → H' b = some o ∧ G' b) : ∀ {d : PyData} {v : V}, Dt G H v d → Dt G' H' v d
  | _, _, .non => .non
  | _, _, .bl b => .bl b
  | _, _, .int i => .int i
  | _, _, .str x => .str x
  | _, _, .lst g e h => .lst (t _ _ g e).2 (t _ _ g e).1 (DtA.to t h)
  | _, _, .tup g e h => .tup (t _ _ g e).2 (t _ _ g e).1 (DtA.to t h)
  | _, _, .dic g e => .dic (t _ _ g e).2 (t _ _ g e).1
theorem DtA.to {G G' : Addr → Prop} {H H' : Hp} (t : ∀ b o, G b → H b = some o → H' b = some o ∧ G' b) : ∀ {ds : List PyData} {vs : List V}, DtA G H vs ds → DtA G' H' vs ds
  | _, _, .nil => .nil
  | _, _, .cons h1 h2 => .cons (Dt.to t h1) (DtA.to t h2)
end
theorem Dt.same {G : Addr → Prop} {H H' : Hp} {d : PyData} {v : V} (h : Dt G H v d) (s : Same H H') : Dt G H' v d := h.to fun b o g e => ⟨s b o e, g⟩
theorem DtA.same {G : Addr → Prop} {H H' : Hp} {ds : List PyData} {vs : List V} (h : DtA G H vs ds) (s : Same H H') : DtA G H' vs ds := h.to fun b o g e => ⟨s b o e, g⟩
theorem DtA.app {G : Addr → Prop} {H : Hp} : ∀ {as bs : List V} {ds es : List PyData}, DtA G H as ds → DtA G H bs es → DtA G H (as ++ bs) (ds ++ es)
  | [], _, _, _, .nil, h => h
  | _ :: _, _, _, _, .cons h1 h2, h => .cons h1 (h2.app h)
theorem DtA.length {G : Addr → Prop} {H : Hp} : ∀ {vs : List V} {ds : List PyData}, DtA G H vs ds → vs.length = ds.length
  | _, _, .nil => rfl
  | _, _, .cons _ h => congrArg Nat.succ h.length
/-- what a reader gives: None, or a part and the place behind it; what it made is new -/
def ResD (H H' : Hp) (v : V) : Option (PyData × Nat) → Prop
  | none => v = .non
  | some (d, b) => ∃ p x, v = .ref p ∧ H' p = some (.tup [x, .int (b : Int)]) ∧ Dt (fun c => H c = none) H' x d
def optV : Option Nat → V
  | none => .non
  | some n => .int (n : Int)
def rT (n : Nat) : Str := sT [114, 48 + n]
def regA (r : Nat) (l : List Bool) (i : Nat) : Option (PyData × Nat) :=
  match at_ l i 4 with
  | none => none
  | some n => if n < r then some (.str (rT n), i + 4) else none
def ixA (_ : Nat) (l : List Bool) (i : Nat) : Option (PyData × Nat) :=
  match at_ l i 2 with
  | none => none
  | some n => if n ≤ 2 then some (.int (n : Int), i + 2) else none
def numA (_ : Nat) (l : List Bool) (i : Nat) : Option (PyData × Nat) := (rdS l i).map fun x => (.int x.1, x.2)
def leapNum (n : Nat) (half : Nat) : Int := if n < half then (n : Int) else (n : Int) - 2 * half
def leapA (_ : Nat) (l : List Bool) (i : Nat) : Option (PyData × Nat) :=
  if (l.drop i).take 1 = [true] then
    match at_ l (i + 1) 32 with
    | none => none
    | some n => some (.tuple [.str "long", .int (leapNum n 2147483648)], i + 33)
  else
    match at_ l (i + 1) 8 with
    | none => none
    | some n => some (.tuple [.str "short", .int (leapNum n 128)], i + 9)
def spRd (e : Nat) (g : Nat → List Bool → Nat → Option (PyData × Nat)) : Sp := fun vs H Q _ => ∃ (r : Nat) (l : List Bool) (i : Nat), vs = [.int (r : Int), .str (sT (bT l)), .int (i : Int)] ∧ l.length ≤ 600 ∧ i ≤ l.length + e ∧ r ≤ 9 ∧ ∀ v H', Same H H' → ResD H H' v (g r l i) → Q v H'
def spDg : Sp := fun vs H Q _ => ∃ n m : Nat, vs = [.int (n : Int), .int (m : Int)] ∧ n < 2 ^ m ∧ 1 ≤ m ∧ m ≤ 64 ∧ Q (.str (sT (bT (digs n m)))) H
def spDAt : Sp := fun vs H Q _ => ∃ (l : List Bool) (i m : Nat), vs = [.str (sT (bT l)), .int (i : Int), .int (m : Int)] ∧ l.length ≤ 600 ∧ 1 ≤ m ∧ m ≤ 64 ∧ Q (optV (at_ l i m)) H
/-- the module's numbers -/
structure CsF (mg : Str → Option Value) : Prop where
  rd : ∃ t, mg "REGISTER_DIGITS" = some (.int 4 t)
  ld : ∃ t, mg "LETTER_DIGITS" = some (.int 5 t)
  idg : ∃ t, mg "INSTRUCTION_DIGITS" = some (.int 5 t)
  md : ∃ t, mg "MANY_DIGITS" = some (.int 2 t)
  ml : ∃ t, mg "MOST_LETTERS" = some (.int 8 t)
  ms : ∃ t, mg "MOST_SLOT" = some (.int 999 t)
  lt : ∃ t, mg "LETTERS" = some (.str "abcdefghijklmnopqrstuvwxyz" t)
theorem dec1 (n : Nat) (h : n < 10) : (toString ((n : Nat) : Int) : Str) = sT [48 + n] := by
  match n, h with
  | 0, _ => decide +kernel
  | 1, _ => decide +kernel
  | 2, _ => decide +kernel
  | 3, _ => decide +kernel
  | 4, _ => decide +kernel
  | 5, _ => decide +kernel
  | 6, _ => decide +kernel
  | 7, _ => decide +kernel
  | 8, _ => decide +kernel
  | 9, _ => decide +kernel
theorem cps_r : ("r" : Str) = sT [114] := by
  have h := sT_of "r"
  rw [show ("r" : Str).cps.toList = [114] by decide +kernel] at h
  exact h.symm
section
variable {P : Program} {w : World} {K : PySem.W.Frag} {mg : Str → Option Value} {base : Heap}
theorem sc_dg : FnScope ["number", "many"] ["number", "many"] (defScope s_digits) := ⟨rfl, rfl, rfl, by decide +kernel, rfl, by decide +kernel, by decide +kernel⟩
theorem ok_dg {CX : CXT} {f : Addr} {fd : FuncData} (F : FnP K "digits" s_digits f fd) : FnOk P w K mg base CX 1 f fd ["number", "many"] spDg := by
  refine F.ok sc_dg (fun vs H Q E h => ?_) (fun cdv A outer s H vs Q E hr h => ?_)
  · obtain ⟨n, m, rfl, _⟩ := h
    rfl
  · obtain ⟨n, m, rfl, hn, h1, h2, q⟩ := h
    refine ⟨_, PSs.nox (pss_one (ps_ret (pe_bm PySem.F.plainAttrs_str PySem.F.slot_str_zfill PySem.F.type_str_zfill mt_zfill (pe_bin (pv 0)) (pa_cons (pv 1) pa_nil)))), ?_⟩
    have hl : lg n ≤ 64 := by
      have := lg_pow m n hn
      omega
    have hd : (Nat.toDigits 2 n).length ≤ 65 := by
      have e := congrArg List.length (toDigits2 n)
      rw [List.length_map, bT_len, binB_len] at e
      omega
    refine ⟨_, rfl, n, by rfl, sl_of (by omega), ?_⟩
    rw [toDigits2]
    have pad : ∀ m : Nat, m ≤ 64 → PadOk (m : Int) = true := by decide +kernel
    refine ⟨rfl, _, rfl, _, _, rfl, rfl, pad m h2, ?_⟩
    rw [zfill_digs hn h1]
    exact q
theorem sc_dat : FnScope ["bits", "at", "many"] ["bits", "at", "many"] (defScope s_digits_at) := ⟨rfl, rfl, rfl, by decide +kernel, rfl, by decide +kernel, by decide +kernel⟩
theorem ok_dat {CX : CXT} {f : Addr} {fd : FuncData} (F : FnP K "digits_at" s_digits_at f fd) (G : NkF K mg) : FnOk P w K mg base CX 1 f fd ["bits", "at", "many"] spDAt := by
  refine F.ok sc_dat (fun vs H Q E h => ?_) (fun cdv A outer s H vs Q E hr h => ?_)
  · obtain ⟨l, i, m, rfl, _⟩ := h
    rfl
  · obtain ⟨l, i, m, rfl, hl, h1, h2, q⟩ := h
    refine ⟨_, PSs.nox (pss_one (ps_ret (pe_ifExp (pt_cmpR op_le (pe_op op_add (pv 1) (pv 2)) (pe_callB call_len_str (by rfl) G.len PySem.boot_len (pa_cons (pv 0) pa_nil)) (nomark _)) (pe_callTy call_int2 (by rfl) G.int (by decide +kernel) (pa_cons (pe_slice sl_str (pv 0) (po_some (pv 1)) (po_some (pe_op op_add (pv 1) (pv 2)))) (pa_cons pe_int pa_nil))) pe_non))), ?_⟩
    have sl : (sT (bT l)).length ≤ sizeLine := sl_of (by rw [sT_len, bT_len]; omega)
    refine ⟨_, rfl, _, rfl, _, _, rfl, rfl, _, rfl, _, rfl, sl, _, _, rfl, rfl, _, rfl, ?_⟩
    rw [sT_len, bT_len]
    unfold at_ at q
    by_cases c : i + m ≤ l.length
    · rw [if_pos c] at q
      rw [decide_eq_true (show (i : Int) + (m : Int) ≤ (l.length : Int) by omega)]
      have ne : (l.drop i).take m ≠ [] := fun z => by
        have := congrArg List.length z
        rw [List.length_take, List.length_drop] at this
        simp at this
        omega
      refine iteT ⟨_, rfl, _, rfl, _, rfl, _, rfl, _, rfl, _, _, rfl, rfl, _, rfl, _, rfl, sl, (l.drop i).take m, ?_, ne, by rw [List.length_take]; omega, q⟩
      show [V.str (cutS (sT (bT l)) (some (i : Int)) (some (((i + m : Nat)) : Int))), V.int 2] = _
      rw [cut_nat, show i + m - i = m by omega]
      unfold bT
      rw [List.map_take, List.map_drop]
    · rw [if_neg c] at q
      rw [decide_eq_false (show ¬ (i : Int) + (m : Int) ≤ (l.length : Int) by omega)]
      exact iteF q
end
/-! ## registers, indexes, leaps, places read -/
def sTx (n : Int) : Str := "s" ++ (toString n : Str)
def placeA (r : Nat) (l : List Bool) (i : Nat) : Option (PyData × Nat) :=
  if (l.drop i).take 1 = [true] then
    match rdI l (i + 1) with
    | none => none
    | some (n, b) => if 999 < n then none else some (.str (sTx n), b)
  else regA r l (i + 1)
theorem bT_one {u : List Bool} (h : bT u = [49]) : u = [true] := by
  have hl := congrArg List.length h
  rw [bT_len] at hl
  match u, hl, h with
  | [true], _, _ => rfl
  | [false], _, h => exact absurd h (by decide)
theorem log_small {n : Nat} (h : n < 2 ^ 700) : ((n : Nat) : Int).natAbs.log2 < 1920 := by
  rw [Int.natAbs_natCast]
  by_cases h0 : n = 0
  · rw [h0]; decide
  · exact (Nat.log2_lt h0).2 (Nat.lt_of_lt_of_le h (Nat.pow_le_pow_right (by decide) (by decide)))
theorem cut1 (l : List Bool) (i : Nat) : decide (V.str (cutS (sT (bT l)) (some (i : Int)) (some ((i : Int) + 1))) = V.str "1") = decide ((l.drop i).take 1 = [true]) := by
  have e : cutS (sT (bT l)) (some (i : Int)) (some ((i : Int) + 1)) = sT (bT ((l.drop i).take 1)) := by
    have := cut_nat (bT l) i (i + 1)
    rw [show i + 1 - i = 1 by omega] at this
    rw [show ((i : Int) + 1) = ((i + 1 : Nat) : Int) by omega, this]
    unfold bT
    rw [List.map_take, List.map_drop]
  rw [e, one_eq]
  apply decide_eq_decide.mpr
  constructor
  · intro h
    injection h with h
    have h := sT_inj (b := [49]) h
    exact bT_one h
  · intro h
    rw [h]
    rfl
structure LpF (K : PySem.W.Frag) (w : World) (mg : Str → Option Value) : Prop where
  lp : ∃ p t1 t2, mg "LEAPS" = some (.ref p) ∧ KDct K w p "short" (.ref t1) ∧ KDct K w p "long" (.ref t2) ∧ (∀ H, SqT K H t1 [.int 8, .int 128]) ∧ ∀ H, SqT K H t2 [.int 32, .int 2147483648]
section
variable {P : Program} {w : World} {K : PySem.W.Frag} {mg : Str → Option Value} {base : Heap}
theorem sc_regat : FnScope ["registers", "bits", "at", "told"] ["registers", "bits", "at"] (defScope s_register_at) := ⟨rfl, rfl, rfl, by decide +kernel, rfl, by decide +kernel, by decide +kernel⟩
theorem ok_regat {CX : CXT} {e : Nat} {f fD : Addr} {fd fdD : FuncData} (F : FnP K "register_at" s_register_at f fd) (FD : FnP K "digits_at" s_digits_at fD fdD) (gD : mg "digits_at" = some (.ref fD)) (G : NkF K mg) (C : CsF mg) : FnOk P w K mg base CX 2 f fd ["registers", "bits", "at"] (spRd e regA) := by
  have GD : FnOk P w K mg base CX0 1 fD fdD ["bits", "at", "many"] spDAt := ok_dat FD G
  have bD : Binds K fdD ["bits", "at", "many"] [] := FD.bindsN fun _ _ _ _ _ _ us hl => match us, hl with | [_, _, _], _ => rfl
  obtain ⟨t4, g4⟩ := C.rd
  refine F.ok sc_regat (fun vs H Q E h => ?_) (fun cdv A outer s H vs Q E hr h => ?_)
  · obtain ⟨r, l, i, rfl, _⟩ := h
    rfl
  · obtain ⟨r, l, i, rfl, hl, hi, h9, k⟩ := h
    have nd := sc_regat.nd
    refine ⟨_, PSs.nox (pss_cons (ps_set (i := 3) nd rfl (.inl rfl) (pe_call GD hr rfl gD FD.kp bD .nil pass0 (pa_cons (pv 1) (pa_cons (pv 2) (pa_cons (pe_glob (v := .int 4) (by rfl) g4 ⟨_, rfl⟩) pa_nil)))))
      (pss_cons (ps_if (PW.pt (pw_or (pt_cmpR op_isN (pv 3) pe_non (nomark _)) (pw_or1 (pt_cmpR op_ge (pv 3) (pv 0) (nomark _))))) (pss_one (ps_ret pe_non)) pss_nil)
      (pss_one (ps_ret (pe_tup (pa_cons (pe_op op_add_str pe_str (pe_callTy call_str_int (by rfl) G.str (by decide +kernel) (pa_cons (pv 3) pa_nil))) (pa_cons (pe_op op_add (pv 2) (pe_glob (v := .int 4) (by rfl) g4 ⟨_, rfl⟩)) pa_nil))))))), ?_⟩
    refine ⟨_, rfl, _, rfl, l, i, 4, rfl, hl, by decide, by decide, ?_⟩
    unfold regA at k
    cases e4 : at_ l i 4 with
    | none =>
      rw [e4] at k
      refine ⟨_, rfl, rfl, _, rfl, ?_⟩
      show (if decide (V.non = V.non) = true then _ else _)
      rw [decide_eq_true rfl]
      exact iteT (iteT (k _ _ (Same.refl _) rfl))
    | some n =>
      rw [e4] at k
      refine ⟨_, rfl, rfl, _, rfl, ?_⟩
      show (if decide (V.int (n : Int) = V.non) = true then _ else _)
      rw [decide_eq_false (fun z => by cases z)]
      refine iteF ⟨_, rfl, _, rfl, _, _, rfl, rfl, _, rfl, ?_⟩
      by_cases c : n < r
      · have k : ∀ v H', Same H H' → ResD H H' v (if n < r then some (.str (rT n), i + 4) else none) → Q v H' := k
        rw [if_pos c] at k
        rw [decide_eq_false (show ¬ ((r : Int) ≤ (n : Int)) by omega)]
        have en : ("r" : Str) ++ (toString ((n : Nat) : Int) : Str) = rT n := by
          rw [cps_r, dec1 n (by omega), sT_ap]
          rfl
        refine iteF ⟨_, rfl, _, rfl, log_small (Nat.lt_of_lt_of_le (show n < 2 ^ 4 by omega) (Nat.pow_le_pow_right (by decide) (by decide))), _, _, rfl, rfl, ?_, _, rfl, _, _, rfl, rfl, (show 2 ≤ sizeLine by decide), fun p hp => k _ _ (same_new hp) ⟨p, _, rfl, upd_same, ?_⟩⟩
        · rw [cps_r, dec1 n (by omega), sT_len, sT_len]
          exact sl_of (show 2 ≤ 100000 by decide)
        · rw [en]
          exact .str _
      · have k : ∀ v H', Same H H' → ResD H H' v (if n < r then some (.str (rT n), i + 4) else none) → Q v H' := k
        rw [if_neg c] at k
        rw [decide_eq_true (show ((r : Int) ≤ (n : Int)) by omega)]
        exact iteT (k _ _ (Same.refl _) rfl)
theorem sc_ixat : FnScope ["registers", "bits", "at", "told"] ["registers", "bits", "at"] (defScope s_index_at) := ⟨rfl, rfl, rfl, by decide +kernel, rfl, by decide +kernel, by decide +kernel⟩
theorem ok_ixat {CX : CXT} {e : Nat} {f fD : Addr} {fd fdD : FuncData} (F : FnP K "index_at" s_index_at f fd) (FD : FnP K "digits_at" s_digits_at fD fdD) (gD : mg "digits_at" = some (.ref fD)) (G : NkF K mg) (C : CsF mg) : FnOk P w K mg base CX 2 f fd ["registers", "bits", "at"] (spRd e ixA) := by
  have GD : FnOk P w K mg base CX0 1 fD fdD ["bits", "at", "many"] spDAt := ok_dat FD G
  have bD : Binds K fdD ["bits", "at", "many"] [] := FD.bindsN fun _ _ _ _ _ _ us hl => match us, hl with | [_, _, _], _ => rfl
  obtain ⟨t4, g4⟩ := C.md
  refine F.ok sc_ixat (fun vs H Q E h => ?_) (fun cdv A outer s H vs Q E hr h => ?_)
  · obtain ⟨r, l, i, rfl, _⟩ := h
    rfl
  · obtain ⟨r, l, i, rfl, hl, hi, h9, k⟩ := h
    have nd := sc_ixat.nd
    refine ⟨_, PSs.nox (pss_cons (ps_set (i := 3) nd rfl (.inl rfl) (pe_call GD hr rfl gD FD.kp bD .nil pass0 (pa_cons (pv 1) (pa_cons (pv 2) (pa_cons (pe_glob (v := .int 2) (by rfl) g4 ⟨_, rfl⟩) pa_nil)))))
      (pss_one (ps_ret (pe_ifExp (PW.pt (pw_or (pt_cmpR op_isN (pv 3) pe_non (nomark _)) (pw_or1 (pt_cmpR op_gt (pv 3) pe_int (nomark _))))) pe_non (pe_tup (pa_cons (pv 3) (pa_cons (pe_op op_add (pv 2) (pe_glob (v := .int 2) (by rfl) g4 ⟨_, rfl⟩)) pa_nil))))))), ?_⟩
    refine ⟨_, rfl, _, rfl, l, i, 2, rfl, hl, by decide, by decide, ?_⟩
    unfold ixA at k
    cases e4 : at_ l i 2 with
    | none =>
      rw [e4] at k
      refine ⟨_, rfl, rfl, _, rfl, ?_⟩
      show (if decide (V.non = V.non) = true then _ else _)
      rw [decide_eq_true rfl]
      exact iteT (iteT (k _ _ (Same.refl _) rfl))
    | some n =>
      rw [e4] at k
      refine ⟨_, rfl, rfl, _, rfl, ?_⟩
      show (if decide (V.int (n : Int) = V.non) = true then _ else _)
      rw [decide_eq_false (fun z => by cases z)]
      refine iteF ⟨_, rfl, _, _, rfl, rfl, _, rfl, ?_⟩
      by_cases c : n ≤ 2
      · have k : ∀ v H', Same H H' → ResD H H' v (if n ≤ 2 then some (.int (n : Int), i + 2) else none) → Q v H' := k
        rw [if_pos c] at k
        rw [decide_eq_false (show ¬ ((2 : Int) < (n : Int)) by omega)]
        exact iteF ⟨_, rfl, _, rfl, _, _, rfl, rfl, (show 2 ≤ sizeLine by decide), fun p hp => k _ _ (same_new hp) ⟨p, _, rfl, upd_same, .int _⟩⟩
      · have k : ∀ v H', Same H H' → ResD H H' v (if n ≤ 2 then some (.int (n : Int), i + 2) else none) → Q v H' := k
        rw [if_neg c] at k
        rw [decide_eq_true (show ((2 : Int) < (n : Int)) by omega)]
        exact iteT (k _ _ (Same.refl _) rfl)
theorem sc_plat : FnScope ["registers", "bits", "at", "told"] ["registers", "bits", "at"] (defScope s_place_at) := ⟨rfl, rfl, rfl, by decide +kernel, rfl, by decide +kernel, by decide +kernel⟩
theorem ok_plat {CX : CXT} {f fR fC : Addr} {fd fdR fdC : FuncData} (F : FnP K "place_at" s_place_at f fd) (kR : PySem.W.keepIn K (.ref fR) = true) (gR : mg "register_at" = some (.ref fR)) (bR : Binds K fdR ["registers", "bits", "at"] []) (GR : FnOk P w K mg base CX0 2 fR fdR ["registers", "bits", "at"] (spRd 1 regA))
    (FC : FnP K "count_at" s_count_at fC fdC) (gC : mg "count_at" = some (.ref fC)) (G : NkF K mg) (C : CsF mg) : FnOk P w K mg base CX 3 f fd ["registers", "bits", "at"] (spRd 0 placeA) := by
  have GC : FnOk P w K mg base CX0 1 fC fdC ["registers", "bits", "at"] (spAt rdI) := ok_count_at FC G
  have bC : Binds K fdC ["registers", "bits", "at"] [] := FC.bindsN fun _ _ _ _ _ _ us hl => match us, hl with | [_, _, _], _ => rfl
  obtain ⟨tm, gm⟩ := C.ms
  refine F.ok sc_plat (fun vs H Q E h => ?_) (fun cdv A outer s H vs Q E hr h => ?_)
  · obtain ⟨r, l, i, rfl, _⟩ := h
    rfl
  · obtain ⟨r, l, i, rfl, hl, hi, h9, k⟩ := h
    have nd := sc_plat.nd
    have hr1 := hr.mono (show 1 ≤ 2 by decide)
    refine ⟨_, PSs.nox (pss_cons (ps_if (pt_cmpR op_ne (pe_slice sl_str (pv 1) (po_some (pv 2)) (po_some (pe_op op_add (pv 2) pe_int))) pe_str (nomark _)) (pss_one (ps_ret (pe_call GR hr rfl gR kR bR .nil pass0 (pa_cons (pv 0) (pa_cons (pv 1) (pa_cons (pe_op op_add (pv 2) pe_int) pa_nil)))))) pss_nil)
      (pss_cons (ps_set (i := 3) nd rfl (.inl rfl) (pe_call GC hr1 rfl gC FC.kp bC .nil pass0 (pa_cons (pv 0) (pa_cons (pv 1) (pa_cons (pe_op op_add (pv 2) pe_int) pa_nil)))))
      (pss_cons (ps_if (PW.pt (pw_or (pt_cmpR op_isN (pv 3) pe_non (nomark _)) (pw_or1 (pt_cmpR op_gt (pe_ix ix_seq (pv 3) pe_int (fun _ _ => rfl)) (pe_glob (v := .int 999) (by rfl) gm ⟨_, rfl⟩) (nomark _))))) (pss_one (ps_ret pe_non)) pss_nil)
      (pss_one (ps_ret (pe_tup (pa_cons (pe_op op_add_str pe_str (pe_callTy call_str_int (by rfl) G.str (by decide +kernel) (pa_cons (pe_ix ix_seq (pv 3) pe_int (fun _ _ => rfl)) pa_nil))) (pa_cons (pe_ix ix_seq (pv 3) pe_int (fun _ _ => rfl)) pa_nil)))))))), ?_⟩
    have sl : (sT (bT l)).length ≤ sizeLine := sl_of (by rw [sT_len, bT_len]; omega)
    refine ⟨_, rfl, _, rfl, _, rfl, _, rfl, _, _, rfl, rfl, _, rfl, _, rfl, sl, rfl, _, rfl, ?_⟩
    rw [cut1]
    unfold placeA at k
    by_cases c : (l.drop i).take 1 = [true]
    · rw [if_pos c] at k
      rw [decide_eq_true c]
      have hi1 : i + 1 ≤ l.length := by
        have := congrArg List.length c
        rw [List.length_take, List.length_drop] at this
        simp at this
        omega
      refine iteF ⟨_, rfl, _, rfl, _, rfl, _, _, rfl, rfl, .int (r : Int), l, i + 1, rfl, hl, hi1, fun v H1 s1 hv => ?_⟩
      cases e : rdI l (i + 1) with
      | none =>
        rw [e] at hv k
        have hv : v = .non := hv
        subst hv
        refine ⟨_, rfl, rfl, _, rfl, ?_⟩
        rw [decide_eq_true rfl]
        exact iteT (iteT (k _ _ s1 rfl))
      | some x =>
        obtain ⟨n, b⟩ := x
        rw [e] at hv k
        obtain ⟨p, rfl, hp⟩ := hv
        have q0 : SqT K H1 p [V.int n, V.int (b : Int)] := SqT.of hp
        refine ⟨_, rfl, rfl, _, rfl, ?_⟩
        rw [decide_eq_false (fun z => by cases z)]
        refine iteF ⟨_, rfl, .inr (.inl ⟨_, _, _, _, rfl, rfl, q0, rfl, _, _, rfl, rfl, _, rfl, ?_⟩)⟩
        have k : ∀ v H', Same H H' → ResD H H' v (if 999 < n then none else some (.str (sTx n), b)) → Q v H' := k
        by_cases c2 : 999 < n
        · rw [if_pos c2] at k
          rw [decide_eq_true c2]
          exact iteT (k _ _ s1 rfl)
        · rw [if_neg c2] at k
          rw [decide_eq_false c2]
          have n0 : 0 ≤ n := by
            unfold rdI at e
            cases e2 : rd l (i + 1) with
            | none => rw [e2] at e; cases e
            | some x => rw [e2] at e; injection e with e; injection e with e1 e2; omega
          have ln : n.natAbs.log2 < 1920 := by
            have := log_small (n := n.toNat) (Nat.lt_of_lt_of_le (show n.toNat < 2 ^ 10 by omega) (Nat.pow_le_pow_right (by decide) (by decide)))
            rw [show ((n.toNat : Nat) : Int) = n by omega] at this
            exact this
          have lt : (toString n : Str).length ≤ 100 := by
            have := PyProof.Rows.toString_length_le n0 (show 0 < 4 by decide) (show n < 10 ^ 4 by omega)
            omega
          refine iteF ⟨_, rfl, .inr (.inl ⟨_, _, _, _, rfl, rfl, q0, rfl, _, rfl, ln, _, _, rfl, rfl, ?_, _, rfl, .inr (.inl ⟨_, _, _, _, rfl, rfl, q0, rfl, (show 2 ≤ sizeLine by decide), fun p2 hp2 => k _ _ (s1.trans (same_new hp2)) ⟨p2, _, rfl, upd_same, .str _⟩⟩)⟩)⟩
          rw [show ("s" : Str).length = 1 by decide +kernel]
          exact sl_of (by omega)
    · rw [if_neg c] at k
      rw [decide_eq_false c]
      refine iteT ⟨_, rfl, _, rfl, _, rfl, _, _, rfl, rfl, r, l, i + 1, rfl, hl, by omega, h9, k⟩
end
/-! ## leaps and parts read -/
def regsA (r : Nat) (l : List Bool) : Nat → Nat → List PyData → Option (PyData × Nat)
  | j, 0, acc => some (.tuple acc, j)
  | j, n + 1, acc =>
    match regA r l j with
    | none => none
    | some (d, b) => regsA r l b n (acc ++ [d])
def partsA (r : Nat) (l : List Bool) (i : Nat) : Option (PyData × Nat) :=
  match at_ l i 2 with
  | none => none
  | some n => regsA r l (i + 2) n []
theorem at_lt {l : List Bool} {i m n : Nat} (h : at_ l i m = some n) : i + m ≤ l.length := (at_back h).2.1
theorem regA_str {r : Nat} {l : List Bool} {i b : Nat} {d : PyData} (h : regA r l i = some (d, b)) : (∃ n, d = .str (rT n) ∧ n < r) ∧ b ≤ l.length := by
  unfold regA at h
  cases e : at_ l i 4 with
  | none => rw [e] at h; cases h
  | some n =>
    rw [e] at h
    have h : (if n < r then some (PyData.str (rT n), i + 4) else none) = some (d, b) := h
    split at h
    · injection h with h
      injection h with h1 h2
      exact ⟨⟨n, h1.symm, by assumption⟩, by have := at_lt e; omega⟩
    · cases h
section
variable {P : Program} {w : World} {K : PySem.W.Frag} {mg : Str → Option Value} {base : Heap}
theorem sc_leapat : FnScope ["registers", "bits", "at", "word", "many", "half", "told"] ["registers", "bits", "at"] (defScope s_leap_at) := ⟨rfl, rfl, rfl, by decide +kernel, rfl, by decide +kernel, by decide +kernel⟩
theorem ok_leapat {CX : CXT} {e : Nat} {f fD : Addr} {fd fdD : FuncData} (F : FnP K "leap_at" s_leap_at f fd) (FD : FnP K "digits_at" s_digits_at fD fdD) (gD : mg "digits_at" = some (.ref fD)) (G : NkF K mg) (L : LpF K w mg) : FnOk P w K mg base CX 2 f fd ["registers", "bits", "at"] (spRd e leapA) := by
  have GD : FnOk P w K mg base CX0 1 fD fdD ["bits", "at", "many"] spDAt := ok_dat FD G
  have bD : Binds K fdD ["bits", "at", "many"] [] := FD.bindsN fun _ _ _ _ _ _ us hl => match us, hl with | [_, _, _], _ => rfl
  obtain ⟨q, t1, t2, gq, d1, d2, q1, q2⟩ := L.lp
  refine F.ok sc_leapat (fun vs H Q E h => ?_) (fun cdv A outer s H vs Q E hr h => ?_)
  · obtain ⟨r, l, i, rfl, _⟩ := h
    rfl
  · obtain ⟨r, l, i, rfl, hl, hi, h9, k⟩ := h
    have nd := sc_leapat.nd
    refine ⟨_, PSs.nox (C8.pss_cut (ps_set (i := 3) nd rfl (.inl rfl) (pe_ifExp (pt_cmpR op_eq (pe_slice sl_str (pv 1) (po_some (pv 2)) (po_some (pe_op op_add (pv 2) pe_int))) pe_str (nomark _)) pe_str pe_str))
      (pss_cons (ps_asg (pe_ix ix_kdict (pe_glob (v := .ref q) (by rfl) gq rfl) (pv 3) (fun _ _ => rfl)) (pg_tup rfl (pgs_cons (pg_name (i := 4) nd rfl (Or.inl rfl)) (pgs_cons (pg_name (i := 5) nd rfl (Or.inl rfl)) pgs_nil))))
      (pss_cons (ps_set (i := 6) nd rfl (.inl rfl) (pe_call GD hr rfl gD FD.kp bD .nil pass0 (pa_cons (pv 1) (pa_cons (pe_op op_add (pv 2) pe_int) (pa_cons (pv 4) pa_nil)))))
      (pss_cons (ps_if (pt_cmpR op_isN (pv 6) pe_non (nomark _)) (pss_one (ps_ret pe_non)) pss_nil)
      (pss_one (ps_ret (pe_tup (pa_cons (pe_tup (pa_cons (pv 3) (pa_cons (pe_ifExp (pt_cmpR op_lt (pv 6) (pv 5) (nomark _)) (pv 6) (pe_op op_sub (pv 6) (pe_op op_mul pe_int (pv 5)))) pa_nil))) (pa_cons (pe_op op_add (pe_op op_add (pv 2) pe_int) (pv 4)) pa_nil))))))))), ?_⟩
    have sl : (sT (bT l)).length ≤ sizeLine := sl_of (by rw [sT_len, bT_len]; omega)
    refine ⟨fun σ H' => H' = H ∧ ∃ (wd : Str) (m hf : Nat) (t : Addr), KDct K w q wd (.ref t) ∧ (∀ H, SqT K H t [.int (m : Int), .int (hf : Int)]) ∧ 1 ≤ m ∧ m ≤ 64 ∧ leapA r l i = (match at_ l (i + 1) m with | none => none | some n => some (.tuple [.str wd, .int (leapNum n hf)], i + 1 + m)) ∧ σ = [some (.int (r : Int)), some (.str (sT (bT l))), some (.int (i : Int)), some (.str wd), none, none, none], ?_, ?_⟩
    · refine ⟨_, rfl, _, rfl, _, rfl, _, rfl, _, _, rfl, rfl, _, rfl, _, rfl, sl, rfl, _, rfl, ?_⟩
      rw [cut1]
      refine ite2 (fun c => ?_) (fun c => ?_)
      · have c := of_decide_eq_true c
        exact ⟨rfl, "long", 32, 2147483648, t2, d2, q2, by decide, by decide, by unfold leapA; rw [if_pos c] <;> rfl, rfl⟩
      · have c : ¬ (l.drop i).take 1 = [true] := fun z => c (decide_eq_true z)
        exact ⟨rfl, "short", 8, 128, t1, d1, q1, by decide, by decide, by unfold leapA; rw [if_neg c] <;> rfl, rfl⟩
    · rintro σ H' ⟨rfl, wd, m, hf, t, hd, hq, m1, m2, he, rfl⟩
      rw [he] at k
      refine ⟨_, rfl, q, wd, _, rfl, rfl, hd, t, _, rfl, hq _, rfl, _, _, rfl, _, _, rfl, rfl, ?_⟩
      refine ⟨_, rfl, _, rfl, _, _, rfl, rfl, _, rfl, l, i + 1, m, rfl, hl, m1, m2, ?_⟩
      cases e4 : at_ l (i + 1) m with
      | none =>
        rw [e4] at k
        refine ⟨_, rfl, rfl, _, rfl, ?_⟩
        show (if decide (V.non = V.non) = true then _ else _)
        rw [decide_eq_true rfl]
        exact iteT (k _ _ (Same.refl _) rfl)
      | some n =>
        rw [e4] at k
        refine ⟨_, rfl, rfl, _, rfl, ?_⟩
        show (if decide (V.int (n : Int) = V.non) = true then _ else _)
        rw [decide_eq_false (fun z => by cases z)]
        refine iteF ⟨_, rfl, _, rfl, _, rfl, _, _, rfl, rfl, _, rfl, ?_⟩
        have fin : ∀ z : Int, z = leapNum n hf → ∀ u, H' u = none → ∀ v, upd H' u (.tup [.str wd, .int z]) v = none → Q (.ref v) (upd (upd H' u (.tup [.str wd, .int z])) v (.tup [.ref u, .int ((i : Int) + 1 + (m : Int))])) := by
          rintro z rfl u hu v hv
          exact k _ _ ((same_new hu).trans (same_new hv)) ⟨v, _, rfl, upd_same, .tup hu ((same_new hv) _ _ upd_same) (.cons (.str _) (.cons (.int _) .nil))⟩
        refine ite2 (fun c => ?_) (fun c => ?_)
        · have c := of_decide_eq_true c
          exact ⟨_, rfl, (show 2 ≤ sizeLine by decide), fun u hu => ⟨_, rfl, _, _, rfl, rfl, _, rfl, _, _, rfl, rfl, (show 2 ≤ sizeLine by decide), fun v hv => fin _ (by unfold leapNum; rw [if_pos (by omega)]) u hu v hv⟩⟩
        · have c : ¬ (n : Int) < (hf : Int) := fun z => c (decide_eq_true z)
          refine ⟨_, rfl, _, rfl, _, _, rfl, rfl, .inl ⟨by decide, by decide⟩, _, _, rfl, rfl, (show 2 ≤ sizeLine by decide), fun u hu => ⟨_, rfl, _, _, rfl, rfl, _, rfl, _, _, rfl, rfl, (show 2 ≤ sizeLine by decide), fun v hv => fin _ (by unfold leapNum; rw [if_neg (by omega)]) u hu v hv⟩⟩
end
/-! ## the program's functions of words -/
/-- a comprehension over a text's signs that keeps those of p -/
theorem lc_chars {t : List Nat} {g : TG} {tt : TT} {te : TE} {vs : List Nat} {σ : L2.St} {H1 : Hp} {D : Addr} {Qd : Hp → Prop} (p : Nat → Bool) (hl : t.length ≤ 100000) (hD : H1 D = none)
    (hs : ∀ (c : Nat) (H' : Hp) (A : VK) (B : Hp → Prop), c ∈ t → Same H1 H' → (p c = true → A (chV c) H') → (p c = false → B H') → g (chV c) (wipe σ vs) H' fun σ2 H2 => wipe σ2 vs = wipe σ vs ∧ tt σ2 H2 fun b H3 => if b = true then te σ2 H3 A else B H3)
    (hd : Qd (upd H1 D (.lst ((t.filter p).map chV)))) :
    ∃ W : Nat → Nat → Hp → Prop, (∃ m, W 0 m (upd H1 D (.lst []))) ∧ ∀ i m H, W i m H →
      ((Its (sT t)).stop i H ∧ Qd H) ∨ ((Its (sT t)).go i H ∧ ∃ Nx : Hp → Prop, (∀ H', Nx H' → ∃ m', m' < m ∧ W (i + 1) m' H') ∧ ∀ x H', (Its (sT t)).yld i H x H' → g x (wipe σ vs) H' fun σ2 H2 => wipe σ2 vs = wipe σ vs ∧ tt σ2 H2 fun b H3 =>
        if b = true then te σ2 H3 fun y H4 => ∃ acc, H4 D = some (.lst acc) ∧ acc.length < sizeLine ∧ Nx (upd H4 D (.lst (acc ++ [y]))) else Nx H3) := by
  refine lc_it walk_str (fun i H => H = upd H1 D (.lst (((t.take i).filter p).map chV))) rfl (fun _ _ _ _ => trivial) ?_ ?_
  · rintro i x H H' hi rfl ⟨rfl, c, hc, rfl⟩
    have hc2 : t[i]? = some c := by
      rw [← sT_cps t, Array.getElem?_toList]; exact hc
    have e : t.take (i + 1) = t.take i ++ [c] := by
      have hlt := (List.getElem?_eq_some_iff.mp hc2).1
      rw [List.take_succ, hc2]; rfl
    refine hs c _ _ _ (List.mem_of_getElem? hc2) (same_new hD) (fun h => ⟨_, upd_same, ?_, ?_⟩) (fun h => ?_)
    · rw [List.length_map]
      refine Nat.lt_of_lt_of_le (Nat.lt_succ_of_le (Nat.le_trans (List.length_filter_le _ _) (Nat.le_trans (List.length_take_le' _ _) hl))) (by decide)
    · rw [upd_upd, e, List.filter_append, List.map_append]
      simp [h]
    · rw [e, List.filter_append]
      simp [h]
  · rintro H rfl
    have e : t.take (sT t).cps.size = t := by
      have : (sT t).cps.size = t.length := sT_len t
      rw [this, List.take_length]
    rw [e]
    exact hd
theorem dpAll_strs {K : PySem.W.Frag} {H : Hp} : ∀ l : List Nat, DpAll K H (l.map chV) (l.map fun c => PyData.str ⟨#[c]⟩)
  | [] => .nil
  | c :: l => .cons (.str ⟨#[c]⟩) (dpAll_strs l)
/-- texts of plain signs, of any length that is in reach -/
def tx (t : List Nat) : Prop := t.length ≤ 100000 ∧ ∀ c ∈ t, c < 128
theorem tx_sub {t u : List Nat} (h : tx t) (hl : u.length ≤ t.length) (hm : ∀ c ∈ u, c ∈ t) : tx u := ⟨Nat.le_trans hl h.1, fun c hc => h.2 c (hm c hc)⟩
theorem tx_take {t : List Nat} (h : tx t) (n : Nat) : tx (t.take n) := tx_sub h (List.length_take_le' _ _) fun c hc => List.mem_of_mem_take hc
theorem tx_drop {t : List Nat} (h : tx t) (n : Nat) : tx (t.drop n) := tx_sub h (by rw [List.length_drop]; omega) fun c hc => List.mem_of_mem_drop hc
theorem strOk_tx {t : List Nat} (h : ∀ c ∈ t, c < 128) : PyData.strOk (sT t) = true := by
  unfold PyData.strOk
  show (t.toArray).all _ = true
  rw [List.all_toArray, List.all_eq_true]
  intro c hc
  have := h c hc
  exact decide_eq_true (by omega)
theorem shaped_strs (l : List Nat) (h : ∀ c ∈ l, c < 128) : SeqAt.shaped (.list (l.map fun c => PyData.str ⟨#[c]⟩)) = true := by
  have h1 : PyData.canLayAll0 (l.map fun c => PyData.str ⟨#[c]⟩) = true := by
    induction l with
    | nil => rfl
    | cons c l ih =>
      show (PyData.strOk (sT [c]) && PyData.canLayAll0 (l.map fun c => PyData.str ⟨#[c]⟩)) = true
      rw [ih fun d hd => h d (List.mem_cons_of_mem _ hd), strOk_tx fun d hd => by rw [List.mem_singleton.mp hd]; exact h c (List.mem_cons_self ..)]
      rfl
  have h2 : PyData.depthAll (l.map fun c => PyData.str ⟨#[c]⟩) = 0 := by
    clear h h1
    induction l with
    | nil => rfl
    | cons c l ih => simp [PyData.depthAll, PyData.depth, ih]
  simp [SeqAt.shaped, PyData.canLay0, PyData.depth, h1, h2]
theorem eqv_nilS (l : List Nat) : PyData.eqv (.list (l.map fun c => PyData.str ⟨#[c]⟩)) (.list []) = l.isEmpty := by
  cases l <;> simp [PyData.eqv, PyData.eqvAll]
abbrev Wd := List Nat × Nat × Nat
def wordD (x : Wd) : PyData := .tuple [.str (sT x.1), .int (x.2.1 : Int), .int (x.2.2 : Int)]
def wordV (x : Wd) : List V := [.str (sT x.1), .int (x.2.1 : Int), .int (x.2.2 : Int)]
theorem eqv_word (x y : Wd) : PyData.eqv (wordD x) (wordD y) = decide (x = y) := by
  obtain ⟨a, l, k⟩ := x
  obtain ⟨b, m, n⟩ := y
  simp only [wordD, PyData.eqv, PyData.eqvAll, Bool.and_true]
  rw [Bool.eq_iff_iff]
  simp only [Bool.and_eq_true, beq_iff_eq, decide_eq_true_eq, Prod.mk.injEq]
  constructor
  · rintro ⟨h1, h2, h3⟩
    exact ⟨sT_inj h1, by omega, by omega⟩
  · rintro ⟨h1, h2, h3⟩
    exact ⟨by rw [h1], by omega, by omega⟩
theorem eqv_words : ∀ xs ys : List Wd, PyData.eqvAll (xs.map wordD) (ys.map wordD) = decide (xs = ys)
  | [], [] => by simp [PyData.eqvAll]
  | [], _ :: _ => by simp [PyData.eqvAll]
  | _ :: _, [] => by simp [PyData.eqvAll]
  | x :: xs, y :: ys => by
    simp only [List.map_cons, PyData.eqvAll, eqv_words xs ys, eqv_word]
    by_cases h : x = y <;> by_cases h' : xs = ys <;> simp [h, h']
def txw (xs : List Wd) : Prop := ∀ x ∈ xs, tx x.1
theorem shaped_words (xs : List Wd) (h : txw xs) : SeqAt.shaped (.list (xs.map wordD)) = true := by
  have h1 : PyData.canLayAll0 (xs.map wordD) = true := by
    induction xs with
    | nil => rfl
    | cons x l ih =>
      show ((PyData.strOk (sT x.1) && true) && PyData.canLayAll0 (l.map wordD)) = true
      rw [ih fun d hd => h d (List.mem_cons_of_mem _ hd), strOk_tx (h x (List.mem_cons_self ..)).2]
      rfl
  have h2 : PyData.depthAll (xs.map wordD) ≤ 1 := by
    clear h h1
    induction xs with
    | nil => exact Nat.zero_le _
    | cons x l ih => simp [PyData.depthAll, PyData.depth, wordD, ih]
  simp [SeqAt.shaped, PyData.canLay0, PyData.depth, h1]
  omega
/-- the words' list at a -/
def WordsAt (H : Hp) (a : Addr) (xs : List Wd) : Prop := ∃ ps : List Addr, H a = some (.lst (ps.map V.ref)) ∧ ps.length = xs.length ∧ ∀ (i : Nat) (p : Addr) (x : Wd), ps[i]? = some p → xs[i]? = some x → H p = some (.tup (wordV x))
theorem WordsAt.same {H H' : Hp} {a : Addr} {xs : List Wd} (s : Same H H') (h : WordsAt H a xs) : WordsAt H' a xs := by
  obtain ⟨ps, h1, h2, h3⟩ := h
  exact ⟨ps, s _ _ h1, h2, fun i p x e1 e2 => s _ _ (h3 i p x e1 e2)⟩
theorem dp_word {K : PySem.W.Frag} {H : Hp} {p : Addr} {x : Wd} (h : H p = some (.tup (wordV x))) : Dp K H (.ref p) (wordD x) :=
  .tup (SqT.of h) (.cons (.str _) (.cons (.int _) (.cons (.int _) .nil)))
theorem dp_wordsAll {K : PySem.W.Frag} {H : Hp} : ∀ {ps : List Addr} {xs : List Wd}, ps.length = xs.length → (∀ (i : Nat) (p : Addr) (x : Wd), ps[i]? = some p → xs[i]? = some x → H p = some (.tup (wordV x))) → DpAll K H (ps.map V.ref) (xs.map wordD)
  | [], [], _, _ => .nil
  | [], _ :: _, e, _ => by simp at e
  | _ :: _, [], e, _ => by simp at e
  | p :: ps, x :: xs, e, h => .cons (dp_word (h 0 p x rfl rfl)) (dp_wordsAll (Nat.succ.inj e) fun i p x e1 e2 => h (i + 1) p x e1 e2)
theorem WordsAt.dp {K : PySem.W.Frag} {H : Hp} {a : Addr} {xs : List Wd} (h : WordsAt H a xs) : Dp K H (.ref a) (.list (xs.map wordD)) := by
  obtain ⟨ps, h1, h2, h3⟩ := h
  exact .lst (SqL.of h1) (dp_wordsAll h2 h3)
/-- .. all of it new -/
def WordsNew (H H' : Hp) (a : Addr) (xs : List Wd) : Prop := ∃ ps : List Addr, (H' a = some (.lst (ps.map V.ref)) ∧ H a = none) ∧ ps.length = xs.length ∧ ∀ (i : Nat) (p : Addr) (x : Wd), ps[i]? = some p → xs[i]? = some x → H' p = some (.tup (wordV x)) ∧ H p = none
theorem WordsNew.at {H H' : Hp} {a : Addr} {xs : List Wd} (h : WordsNew H H' a xs) : WordsAt H' a xs := by
  obtain ⟨ps, h1, h2, h3⟩ := h
  exact ⟨ps, h1.1, h2, fun i p x e1 e2 => (h3 i p x e1 e2).1⟩
/-- what is seen, with all that is new -/
def seen (H0 H H' : Hp) : Hp := fun b => match H b with | none => H' b | some _ => H0 b
theorem seen_vs {H0 H H' : Hp} (s : Same H0 H) (s2 : Same H H') : Vs H0 H (seen H0 H H') H' := by
  refine ⟨fun b o e => ?_, fun b o e => ?_, fun b o e => ?_⟩
  · unfold seen; rw [s _ _ e]; exact e
  · unfold seen at e
    cases h : H b with
    | none => rw [h] at e; exact e
    | some u => rw [h] at e; exact s2 _ _ (s _ _ e)
  · unfold seen at e
    cases h : H b with
    | none => exact .inr rfl
    | some u => rw [h] at e; exact .inl e
theorem seen_new {H0 H H' : Hp} {b : Addr} (h : H b = none) : seen H0 H H' b = H' b := by unfold seen; rw [h]
theorem WordsNew.seen {H0 H H' : Hp} {a : Addr} {xs : List Wd} (h : WordsNew H H' a xs) : WordsAt (seen H0 H H') a xs := by
  obtain ⟨ps, h1, h2, h3⟩ := h
  exact ⟨ps, by rw [seen_new h1.2]; exact h1.1, h2, fun i p x e1 e2 => by rw [seen_new (h3 i p x e1 e2).2]; exact (h3 i p x e1 e2).1⟩
theorem WordsNew.same {H H' H'' : Hp} {a : Addr} {xs : List Wd} (h : WordsNew H H' a xs) (s : Same H' H'') : WordsNew H H'' a xs := by
  obtain ⟨ps, h1, h2, h3⟩ := h
  exact ⟨ps, ⟨s _ _ h1.1, h1.2⟩, h2, fun i p x e1 e2 => ⟨s _ _ (h3 i p x e1 e2).1, (h3 i p x e1 e2).2⟩⟩
/-! promises -/
def NotStr (K : PySem.W.Frag) (H : Hp) (x : V) : Prop := ∃ t, TyX K H x t ∧ PySem.W.kitOne K t (.type "str") = some false
def spTx (g : List Nat → V) : Sp := fun vs H Q _ => ∃ t, vs = [.str (sT t)] ∧ tx t ∧ ∀ H', Same H H' → Q (g t) H'
def spTxO (K : PySem.W.Frag) (g : List Nat → Bool) : Sp := fun vs H Q _ => ∃ x, vs = [x] ∧ ((∃ t, x = .str (sT t) ∧ tx t ∧ ∀ H', Same H H' → Q (.bl (g t)) H') ∨ (NotStr K H x ∧ ∀ H', Same H H' → Q (.bl false) H'))
def spSize : Sp := fun vs H Q _ => ∃ (t : List Nat) (i : Nat), vs = [.str (sT t), .int (i : Int)] ∧ tx t ∧ i < t.length ∧ ∀ H', Same H H' → Q (.int (wl (t.drop i) : Nat)) H'
def spCut : Sp := fun vs H Q _ => ∃ t, vs = [.str (sT t)] ∧ tx t ∧ ∀ H' a, Same H H' → WordsNew H H' a (cutT t) → Q (.ref a) H'
abbrev sSmall : Str := "abcdefghijklmnopqrstuvwxyz"
abbrev sFigs : Str := "0123456789"
abbrev sInner : Str := "abcdefghijklmnopqrstuvwxyzABCDEFGHIJKLMNOPQRSTUVWXYZ0123456789_"
/-- the module's constants -/
structure GkF (K : PySem.W.Frag) (mg : Str → Option Value) : Prop where
  kept : ∃ a, mg "KEPT" = some (.ref a) ∧ ∀ H, SqT K H a keptV
  small : ∃ t, mg "SMALL" = some (.str "abcdefghijklmnopqrstuvwxyz" t)
  isi : mg "isinstance" = none
  str : mg "str" = none
  len : mg "len" = none
section
variable {P : Program} {w : World} {K : PySem.W.Frag} {mg : Str → Option Value} {base : Heap}
theorem flat_kept : keptV.all flatV = true := rfl
theorem flat_signs : signsV.all flatV = true := rfl
theorem sc_is_name : FnScope ["thing", "letter"] ["thing"] (defScope s_is_name) := ⟨rfl, rfl, rfl, by decide +kernel, rfl, by decide +kernel, by decide +kernel⟩
theorem kit_str_str : PySem.W.kitOne K (.type "str") (.type "str") = some true := kit_ty (by decide +kernel)
theorem isEmpty_filter_not (p : Nat → Bool) (t : List Nat) : (t.filter fun c => !p c).isEmpty = t.all p := by
  induction t with
  | nil => rfl
  | cons c t ih => cases h : p c <;> simp [h, List.filter_cons, ih]
theorem ok_is_name {CX : CXT} {f : Addr} {fd : FuncData} (F : FnP K "is_name" s_is_name f fd) (G : GkF K mg) : FnOk P w K mg base CX 1 f fd ["thing"] (spTxO K nameB) := by
  refine F.ok sc_is_name (fun vs H Q E h => ?_) (fun cdv A outer s H vs Q E hr h => ?_)
  · obtain ⟨x, rfl, _⟩ := h
    rfl
  · obtain ⟨x, rfl, h⟩ := h
    have hu := hu_of hr
    have nd := sc_is_name.nd
    obtain ⟨kA, gK, sK⟩ := G.kept
    obtain ⟨tS, gS⟩ := G.small
    refine ⟨_, PSs.nox (pss_cons (ps_if (PW.pt (pw_or (pt_not (pt_val (pe_callB call_isi (by rfl) G.isi (by decide +kernel) (pa_cons (pv 0) (pa_cons (pe_bltn (v := .ty "str") (by rfl) G.str (by decide +kernel) rfl) pa_nil)))))
        (pw_or (pt_not (pt_chain op_le op_le pe_int (pe_callB call_len (by rfl) G.len PySem.boot_len (pa_cons (pv 0) pa_nil)) pe_int)) (pw_or1 (pt_cmpR op_in_seq (pv 0) (pe_glob (v := .ref kA) (by rfl) gK rfl) (by rfl)))))) (pss_one (ps_ret pe_bl)) pss_nil)
      (pss_one (ps_ret (pe_cmpR (op_eqD hr.units) (pe_lc (own := [("letter", 1)]) (g := gName 1) rfl nd (pi_str (pv 0)) (blkOk_by (own := [("letter", 1)]) (N := ["thing", "letter"]) (sc := defScope s_is_name) (by decide +kernel))
          (fun _ _ _ _ _ => pg_name (i := 1) nd rfl (Or.inl rfl)) (fun _ _ _ _ _ => pts_one (pt_cmpR op_notIn_sign (pv 1) (pe_glob (v := .str sSmall) (by rfl) gS ⟨_, rfl⟩) (by rfl))) (fun _ _ _ _ _ => pv 1)) (pe_lst pa_nil) (nomark _))))), ?_⟩
    rcases h with ⟨t, rfl, ht, k⟩ | ⟨⟨ty, h1, h2⟩, k⟩
    · refine ⟨_, rfl, _, _, _, _, true, rfl, .ty "str", .base (.str _), kit_str_str, true, rfl, iteF ?_⟩
      refine ⟨_, rfl, _, _, rfl, ⟨sl_of ht.1, rfl⟩, _, _, rfl, rfl, _, rfl, ?_⟩
      rw [sT_len]
      have out : nameB t = false → Q (.bl false) H := fun e => by
        have q := k H (Same.refl _)
        rw [e] at q
        exact q
      refine ite2 (fun c1 => ?_) (fun c1 => ?_)
      · have c1 := of_decide_eq_true c1
        refine ⟨_, _, rfl, rfl, _, rfl, ?_⟩
        by_cases c2 : t.length ≤ 8
        · rw [show decide ((t.length : Int) ≤ 8) = true from decide_eq_true (by omega)]
          refine iteF ⟨_, rfl, kA, keptV, rfl, .inr (sK H), rfl, flat_kept, _, rfl, ?_⟩
          refine ite2 (fun c3 => ?_) (fun c3 => ?_)
          · have c3 : keptB t = true := c3
            exact out (by unfold nameB; rw [c3]; simp)
          · have c3 : keptB t = false := by
              cases e : keptB t with
              | true => exact absurd e c3
              | false => rfl
            refine ⟨_, rfl, _, rfl, fun D hD => lc_chars (fun c => !isSmall c) ht.1 hD (fun c H' A B hc s h1 h2 => ⟨rfl, _, rfl, _, _, rfl, rfl, _, rfl, ?_⟩) ?_⟩
            · rw [mem_small]
              exact ite2 (fun e => ⟨_, rfl, h1 e⟩) (fun e => h2 (by simpa using e))
            · refine ⟨sl_of (by decide), fun p hp => ⟨_, _, .lst (SqL.of ((same_new hp) _ _ upd_same)) (dpAll_strs _), .lst (SqL.of upd_same) .nil, shaped_strs _ (fun c hc => ht.2 c (List.mem_filter.mp hc).1), rfl, ?_⟩⟩
              rw [eqv_nilS, isEmpty_filter_not, ← show nameB t = t.all isSmall by unfold nameB; rw [c3]; simp; omega]
              exact k _ ((same_new hD).trans (same_new hp))
        · rw [show decide ((t.length : Int) ≤ 8) = false from decide_eq_false (by omega)]
          refine iteT (iteT ?_)
          exact out (by unfold nameB; simp; omega)
      · have c1 : ¬ (1 : Int) ≤ t.length := fun z => c1 (decide_eq_true z)
        refine ⟨_, rfl, iteT (iteT ?_)⟩
        exact out (by unfold nameB; simp; omega)
    · refine ⟨_, rfl, _, _, _, _, false, rfl, .ty "str", h1, h2, false, rfl, iteT (iteT ?_)⟩
      exact k _ (Same.refl _)
end
/-! ## the visible heap grows -/
theorem Dw.mk {t : Nat} {V0 H : Hp} {d p : Addr} {o : HO} (h : Dw t V0 H d) (hp : H p = none) : ∃ V', Dw t V' (upd H p o) d ∧ Same V0 V' ∧ V' p = some o :=
  ⟨upd V0 p o, h.new hp, same_new (h.same.free hp), upd_same⟩
theorem Dw.grow {t : Nat} {V0 H H1 : Hp} {d : Addr} (h : Dw t V0 H d) (e : Same H H1) : ∃ V', Dw t V' H1 d ∧ Same V0 V' ∧ ∀ b o, H b = none → H1 b = some o → V' b = some o := by
  obtain ⟨s, w, c, ws, cs, rest, turn, h1, h2, h3, ht, D⟩ := h
  have D1 := D.same e
  have hid : ∀ b, H b = none → ¬ (b = d ∨ b = w ∨ b = c) := fun b q => by
    rintro (z | z | z) <;> subst z
    · rw [D.hd] at q; cases q
    · rw [D.hw] at q; cases q
    · rw [D.hc] at q; cases q
  have sm : Same V0 (fun b => if b = d ∨ b = w ∨ b = c then none else H1 b) := fun b o q => by
    have hb : ¬ (b = d ∨ b = w ∨ b = c) := by
      rintro (z | z | z) <;> subst z
      · rw [h1] at q; cases q
      · rw [h2] at q; cases q
      · rw [h3] at q; cases q
    simp only [if_neg hb]
    exact e _ _ (s _ _ q)
  refine ⟨fun b => if b = d ∨ b = w ∨ b = c then none else H1 b, ⟨fun b o q => ?_, w, c, ws, cs, rest, turn, if_pos (.inl rfl), if_pos (.inr (.inl rfl)), if_pos (.inr (.inr rfl)), ht, D1⟩, sm, fun b o q n => ?_⟩
  · by_cases hb : b = d ∨ b = w ∨ b = c
    · simp only [if_pos hb] at q
      cases q
    · simp only [if_neg hb] at q
      exact q
  · simp only [if_neg (hid b q)]
    exact n
theorem cat_sT (a : List Nat) (z : Str) : sT a ++ z = sT (a ++ z.cps.toList) := by
  have h : z = sT z.cps.toList := (sT_of z).symm
  rw [h, sT_cps]
  show (⟨a.toArray ++ z.cps.toList.toArray⟩ : Str) = ⟨(a ++ z.cps.toList).toArray⟩
  simp
theorem cps_nil : ("" : Str).cps.toList = [] := by decide +kernel
theorem join_sT : ∀ ys : List (List Nat), Txt.join "" (ys.map sT) = sT ys.flatten := fun ys => (TL.join_eq _ _).trans (go ys)
where
  go : ∀ ys : List (List Nat), Str.join "" (ys.map sT) = sT ys.flatten
  | [] => rfl
  | [x] => by simp [Str.join]
  | x :: y :: r => by
    show (sT x ++ "") ++ Str.join "" ((y :: r).map sT) = sT ((x :: y :: r).flatten)
    rw [go (y :: r), cat_sT, cat_sT, cps_nil, sT_cps, List.append_nil]
    simp
/-! ## parts and names read -/
def nameG (l : List Bool) : Nat → Nat → List Nat → Option (PyData × Nat)
  | _, 0, _ => none
  | j, n + 1, acc =>
    match at_ l j 5 with
    | none => none
    | some c => if 26 < c then none else if c = 0 then (if nameB acc = true then some (.str (sT acc), j + 5) else none) else nameG l (j + 5) n (acc ++ [96 + c])
def nameA (_ : Nat) (l : List Bool) (i : Nat) : Option (PyData × Nat) := nameG l i 9 []
theorem letter_at : ∀ c : Nat, c < 27 → 1 ≤ c → atI ("abcdefghijklmnopqrstuvwxyz" : Str).cps.toList ((c : Int) - 1) = some (96 + c : Nat) := by decide +kernel
theorem flat_one (l : List Nat) : (l.map fun b => [b]).flatten = l := by
  induction l with
  | nil => rfl
  | cons b l ih =>
    rw [List.map_cons, List.flatten_cons, ih]
    rfl
theorem sum_one (l : List Nat) : ((l.map fun b => sT [b]).map (·.length)).sum = l.length := by
  induction l with
  | nil => rfl
  | cons b l ih =>
    rw [List.map_cons, List.map_cons, List.sum_cons, ih, sT_len, List.length_cons]
    exact Nat.add_comm 1 _
theorem join_one (l : List Nat) : Txt.join "" (l.map fun b => sT [b]) = sT l := by
  have := join_sT (l.map fun b => [b])
  rw [flat_one, List.map_map] at this
  exact this
section
variable {P : Program} {w : World} {K : PySem.W.Frag} {mg : Str → Option Value} {base : Heap}
theorem sc_partsat : FnScope ["registers", "bits", "at", "many", "found", "place", "turn", "told"] ["registers", "bits", "at"] (defScope s_parts_at) := ⟨rfl, rfl, rfl, by decide +kernel, rfl, by decide +kernel, by decide +kernel⟩
theorem ok_partsat {CX : CXT} {e : Nat} {f fD fR : Addr} {fd fdD fdR : FuncData} (F : FnP K "parts_at" s_parts_at f fd) (FD : FnP K "digits_at" s_digits_at fD fdD) (gD : mg "digits_at" = some (.ref fD)) (kR : PySem.W.keepIn K (.ref fR) = true) (gR : mg "register_at" = some (.ref fR)) (bR : Binds K fdR ["registers", "bits", "at"] []) (GR : FnOk P w K mg base CX0 2 fR fdR ["registers", "bits", "at"] (spRd 1 regA))
    (G : NkF K mg) (C : CsF mg) (rng : mg "range" = none) (tup : mg "tuple" = none) : FnOk P w K mg base CX 3 f fd ["registers", "bits", "at"] (spRd e partsA) := by
  have GD : FnOk P w K mg base CX0 1 fD fdD ["bits", "at", "many"] spDAt := ok_dat FD G
  have bD : Binds K fdD ["bits", "at", "many"] [] := FD.bindsN fun _ _ _ _ _ _ us hl => match us, hl with | [_, _, _], _ => rfl
  obtain ⟨t4, g4⟩ := C.md
  refine F.ok sc_partsat (fun vs H Q E h => ?_) (fun cdv A outer s H vs Q E hr h => ?_)
  · obtain ⟨r, l, i, rfl, _⟩ := h
    rfl
  · obtain ⟨r, l, i, rfl, hl, hi, h9, k⟩ := h
    have nd := sc_partsat.nd
    have hr1 := hr.mono (show 1 ≤ 2 by decide)
    apply Exists.intro
    apply And.intro
    case left =>
     apply PSs.nox
     apply pss_cons
     · exact ps_set (i := 3) nd rfl (.inl rfl) (pe_call GD hr1 rfl gD FD.kp bD .nil pass0 (pa_cons (pv 1) (pa_cons (pv 2) (pa_cons (pe_glob (v := .int 2) (by rfl) g4 ⟨_, rfl⟩) pa_nil))))
     apply pss_cons
     · exact ps_if (pt_cmpR op_isN (pv 3) pe_non (nomark _)) (pss_one (ps_ret pe_non)) pss_nil
     apply pss_cons
     · exact ps_par (X := (cxOf CX P w K mg base ["registers", "bits", "at", "many", "found", "place", "turn", "told"] "parts_at" (defScope s_parts_at) f cdv A outer s H E).nox) (i := 4) (j := 5) rfl nd rfl rfl (by decide) rfl rfl (pa_cons (pe_lst pa_nil) (pa_cons (pe_op op_add (pv 2) (pe_glob (v := .int 2) (by rfl) g4 ⟨_, rfl⟩)) pa_nil)) (by rfl)
     apply pss_cons
     · apply ps_for PassesOwn.never rfl
       · exact pi_range1 (by rfl) rng (pa_cons (pv 3) pa_nil)
       · exact pg_name (i := 6) nd rfl (Or.inl rfl)
       · apply pss_cons
         · exact ps_set (i := 7) nd rfl (.inl rfl) (pe_call GR hr rfl gR kR bR .nil pass0 (pa_cons (pv 0) (pa_cons (pv 1) (pa_cons (pv 5) pa_nil))))
         apply pss_cons
         · exact ps_if (pt_cmpR op_isN (pv 7) pe_non (nomark _)) (pss_one (ps_ret pe_non)) pss_nil
         apply pss_cons
         · exact ps_expr (pe_bm PySem.F.plainAttrs_list PySem.F.slot_list_append PySem.F.type_list_append mt_append (pv 4) (pa_cons (pe_ix ix_seq (pv 7) pe_int (fun _ _ => rfl)) pa_nil))
         apply pss_one
         exact ps_set (i := 5) nd rfl (.inl rfl) (pe_ix ix_seq (pv 7) pe_int (fun _ _ => rfl))
     apply pss_one
     exact ps_ret (pe_tup (pa_cons (pe_callTy call_tuple_of (by rfl) tup (by decide +kernel) (pa_cons (pv 4) pa_nil)) (pa_cons (pv 5) pa_nil)))
    case right =>
      refine ⟨_, rfl, _, rfl, l, i, 2, rfl, hl, by decide, by decide, ?_⟩
      unfold partsA at k
      cases e4 : at_ l i 2 with
      | none =>
        rw [e4] at k
        refine ⟨_, rfl, rfl, _, rfl, ?_⟩
        show (if decide (V.non = V.non) = true then _ else _)
        rw [decide_eq_true rfl]
        exact iteT (k _ _ (Same.refl _) rfl)
      | some n =>
        rw [e4] at k
        have k : ∀ v H', Same H H' → ResD H H' v (regsA r l (i + 2) n []) → Q v H' := k
        obtain ⟨_, hin, hn4⟩ := at_back e4
        refine ⟨_, rfl, rfl, _, rfl, ?_⟩
        show (if decide (V.int (n : Int) = V.non) = true then _ else _)
        rw [decide_eq_false (fun z => by cases z)]
        refine iteF ⟨(show 0 ≤ sizeLine by decide), fun D hD => ⟨_, rfl, _, _, rfl, rfl, _, _, rfl, ?_⟩⟩
        refine ⟨_, rfl, (n : Int), rfl, by omega, by omega, ?_⟩
        refine for_range (lo := 0) (n := (n : Int).toNat) (fun j σ H' => ∃ (ts : List Str) (b : Nat) (v6 v7 : Option V), σ = [some (.int (r : Int)), some (.str (sT (bT l))), some (.int (i : Int)), some (.int (n : Int)), some (.ref D), some (.int (b : Int)), v6, v7] ∧ Same H H' ∧ H' D = some (.lst (ts.map V.str)) ∧ ts.length = j ∧ b ≤ l.length ∧ regsA r l (i + 2) n [] = regsA r l b (n - j) (ts.map PyData.str)) ⟨[], i + 2, none, none, rfl, same_new hD, upd_same, rfl, hin, rfl⟩ ?_ ?_
        · rintro j σ H' hj ⟨ts, b, v6, v7, rfl, sj, eD, el, hb, he⟩
          obtain ⟨m, hm⟩ : ∃ m, n - j = m + 1 := ⟨n - j - 1, by omega⟩
          rw [hm] at he
          refine ⟨_, rfl, _, rfl, _, rfl, r, l, b, rfl, hl, by omega, h9, fun v H2 s2 hv => ?_⟩
          cases e : regA r l b with
          | none =>
            rw [e] at hv
            have hv : v = .non := hv
            subst hv
            refine ⟨_, rfl, rfl, _, rfl, ?_⟩
            rw [decide_eq_true rfl]
            exact iteT (k _ _ (sj.trans s2) (by rw [he]; unfold regsA; rw [e]; rfl))
          | some x =>
            obtain ⟨dd, b2⟩ := x
            rw [e] at hv
            obtain ⟨⟨n1, rfl, hn1⟩, hb2⟩ := regA_str e
            obtain ⟨p, x, rfl, hp, hx⟩ := hv
            cases hx
            have q0 : SqT K H2 p [V.str (rT n1), V.int (b2 : Int)] := SqT.of hp
            refine ⟨_, rfl, rfl, _, rfl, ?_⟩
            rw [decide_eq_false (fun z => by cases z)]
            have e2 : H2 D = some (.lst (ts.map V.str)) := s2 _ _ eD
            refine iteF ⟨_, rfl, .inl ⟨rfl, _, SqL.of e2⟩, _, rfl, .inr (.inl ⟨_, _, _, _, rfl, rfl, q0, rfl, D, _, _, rfl, rfl, e2, ?_, ?_⟩)⟩
            · rw [List.length_map]
              exact Nat.lt_of_lt_of_le (show ts.length < 1000 by omega) (by decide)
            · have npD : p ≠ D := fun z => by rw [z, e2] at hp; cases hp
              refine ⟨_, rfl, .inr (.inl ⟨p, _, _, _, rfl, rfl, SqT.of (by rw [upd_ne npD]; exact hp), rfl, ts ++ [rT n1], b2, _, _, rfl, same_sub (sj.trans s2) hD, ?_, ?_, hb2, ?_⟩)⟩
              · rw [upd_same, List.map_append]
                rfl
              · rw [List.length_append, el]
                rfl
              · rw [he, show n - (j + 1) = m by omega, List.map_append]
                show (match regA r l b with | none => none | some (d, b) => regsA r l b m (ts.map PyData.str ++ [d])) = _
                rw [e]
                rfl
        · rintro σ H' ⟨ts, b, v6, v7, rfl, sj, eD, el, hb, he⟩
          rw [show n - (n : Int).toNat = 0 by omega] at he
          refine ⟨_, rfl, D, _, rfl, .inl ⟨SqL.of eD, fun T hT => ⟨_, rfl, (show 2 ≤ sizeLine by decide), fun v hv => k _ _ ((sj.trans (same_new hT)).trans (same_new hv)) ?_⟩⟩⟩
          rw [he]
          have allS : ∀ (G : Addr → Prop) (H : Hp) (ts : List Str), DtA G H (ts.map V.str) (ts.map PyData.str) := fun G H ts => by
            induction ts with
            | nil => exact .nil
            | cons z ts ih => exact .cons (.str z) ih
          exact ⟨v, _, rfl, upd_same, .tup (sj.free hT) ((same_new hv) _ _ upd_same) (allS _ _ _)⟩
end
section
variable {P : Program} {w : World} {K : PySem.W.Frag} {mg : Str → Option Value} {base : Heap}
theorem sc_nameat : FnScope ["registers", "bits", "at", "letters", "place", "turn", "code", "name"] ["registers", "bits", "at"] (defScope s_name_at) := ⟨rfl, rfl, rfl, by decide +kernel, rfl, by decide +kernel, by decide +kernel⟩
theorem ok_nameat {CX : CXT} {e : Nat} {f fD fN : Addr} {fd fdD fdN : FuncData} (F : FnP K "name_at" s_name_at f fd) (FD : FnP K "digits_at" s_digits_at fD fdD) (gD : mg "digits_at" = some (.ref fD)) (FN : FnP K "is_name" s_is_name fN fdN) (gN : mg "is_name" = some (.ref fN)) (GK : GkF K mg)
    (G : NkF K mg) (C : CsF mg) (rng : mg "range" = none) : FnOk P w K mg base CX 2 f fd ["registers", "bits", "at"] (spRd 0 nameA) := by
  have GD : FnOk P w K mg base CX0 1 fD fdD ["bits", "at", "many"] spDAt := ok_dat FD G
  have bD : Binds K fdD ["bits", "at", "many"] [] := FD.bindsN fun _ _ _ _ _ _ us hl => match us, hl with | [_, _, _], _ => rfl
  have GN : FnOk P w K mg base CX0 1 fN fdN ["thing"] (spTxO K nameB) := ok_is_name FN GK
  have bN : Binds K fdN ["thing"] [] := FN.bindsN fun _ _ _ _ _ _ us hl => match us, hl with | [_], _ => rfl
  obtain ⟨t5, g5⟩ := C.ld
  obtain ⟨t8, g8⟩ := C.ml
  obtain ⟨tL, gL⟩ := C.lt
  refine F.ok sc_nameat (fun vs H Q E h => ?_) (fun cdv A outer s H vs Q E hr h => ?_)
  · obtain ⟨r, l, i, rfl, _⟩ := h
    rfl
  · obtain ⟨r, l, i, rfl, hl, hi, h9, k⟩ := h
    have nd := sc_nameat.nd
    apply Exists.intro
    apply And.intro
    case left =>
     apply PSs.nox
     apply pss_cons
     · exact ps_par (X := (cxOf CX P w K mg base ["registers", "bits", "at", "letters", "place", "turn", "code", "name"] "name_at" (defScope s_name_at) f cdv A outer s H E).nox) (i := 3) (j := 4) rfl nd rfl rfl (by decide) rfl rfl (pa_cons (pe_lst pa_nil) (pa_cons (pv 2) pa_nil)) (by rfl)
     apply pss_cons
     · apply ps_for PassesOwn.never rfl
       · exact pi_range1 (by rfl) rng (pa_cons (pe_op op_add (pe_glob (v := .int 8) (by rfl) g8 ⟨_, rfl⟩) pe_int) pa_nil)
       · exact pg_name (i := 5) nd rfl (Or.inl rfl)
       · apply pss_cons
         · exact ps_set (i := 6) nd rfl (.inl rfl) (pe_call GD hr rfl gD FD.kp bD .nil pass0 (pa_cons (pv 1) (pa_cons (pv 4) (pa_cons (pe_glob (v := .int 5) (by rfl) g5 ⟨_, rfl⟩) pa_nil))))
         apply pss_cons
         · exact ps_set (i := 4) nd rfl (.inl rfl) (pe_op op_add (pv 4) (pe_glob (v := .int 5) (by rfl) g5 ⟨_, rfl⟩))
         apply pss_cons
         · exact ps_if (PW.pt (pw_or (pt_cmpR op_isN (pv 6) pe_non (nomark _)) (pw_or1 (pt_cmpR op_gt (pv 6) (pe_callB call_len_str (by rfl) G.len PySem.boot_len (pa_cons (pe_glob (v := .str "abcdefghijklmnopqrstuvwxyz") (by rfl) gL ⟨_, rfl⟩) pa_nil)) (nomark _))))) (pss_one (ps_ret pe_non)) pss_nil
         apply pss_cons
         · exact ps_if (pt_cmpR op_eq (pv 6) pe_int (nomark _)) (pss_cons (ps_set (i := 7) nd rfl (.inl rfl) (pe_join pe_str (pv 3))) (pss_one (ps_ret (pe_ifExp (pt_val (pe_call GN hr rfl gN FN.kp bN .nil pass0 (pa_cons (pv 7) pa_nil))) (pe_tup (pa_cons (pv 7) (pa_cons (pv 4) pa_nil))) pe_non)))) pss_nil
         apply pss_one
         exact ps_expr (pe_bm PySem.F.plainAttrs_list PySem.F.slot_list_append PySem.F.type_list_append mt_append (pv 3) (pa_cons (pe_ix ix_str (pe_glob (v := .str "abcdefghijklmnopqrstuvwxyz") (by rfl) gL ⟨_, rfl⟩) (pe_op op_sub (pv 6) pe_int) (fun _ _ => rfl)) pa_nil))
     apply pss_one
     exact ps_ret pe_non
    case right =>
      refine ⟨(show 0 ≤ sizeLine by decide), fun D hD => ⟨_, rfl, _, _, rfl, ?_⟩⟩
      refine ⟨_, _, rfl, rfl, 9, rfl, by decide, by decide, ?_⟩
      unfold nameA at k
      refine for_range (lo := 0) (n := 9) (fun j σ H' => ∃ (acc : List Nat) (b : Nat) (v5 v6 v7 : Option V), σ = [some (.int (r : Int)), some (.str (sT (bT l))), some (.int (i : Int)), some (.ref D), some (.int (b : Int)), v5, v6, v7] ∧ H' = upd H D (.lst ((acc.map fun c => sT [c]).map V.str)) ∧ acc.length = j ∧ (∀ c ∈ acc, 97 ≤ c ∧ c ≤ 122) ∧ nameG l i 9 [] = nameG l b (9 - j) acc) ⟨[], i, none, none, none, rfl, rfl, rfl, (fun _ h => nomatch h), rfl⟩ ?_ ?_
      · rintro j σ H' hj ⟨acc, b, v5, v6, v7, rfl, rfl, el, hac, he⟩
        obtain ⟨m, hm⟩ : ∃ m, 9 - j = m + 1 := ⟨9 - j - 1, by omega⟩
        rw [hm] at he
        have sD : ∀ o, Same H (upd H D o) := fun o => same_new hD
        refine ⟨_, rfl, _, rfl, l, b, 5, rfl, hl, by decide, by decide, ?_⟩
        have he : nameG l i 9 [] = (match at_ l b 5 with
          | none => none
          | some c => if 26 < c then none else if c = 0 then (if nameB acc = true then some (.str (sT acc), b + 5) else none) else nameG l (b + 5) m (acc ++ [96 + c])) := he
        cases e5 : at_ l b 5 with
        | none =>
          rw [e5] at he
          refine ⟨_, rfl, _, _, rfl, rfl, _, rfl, rfl, _, rfl, ?_⟩
          show (if decide (V.non = V.non) = true then _ else _)
          rw [decide_eq_true rfl]
          exact iteT (iteT (k _ _ (sD _) (by rw [he]; rfl)))
        | some c =>
          rw [e5] at he
          have he : nameG l i 9 [] = (if 26 < c then none else if c = 0 then (if nameB acc = true then some (.str (sT acc), b + 5) else none) else nameG l (b + 5) m (acc ++ [96 + c])) := he
          refine ⟨_, rfl, _, _, rfl, rfl, _, rfl, rfl, _, rfl, ?_⟩
          show (if decide (V.int (c : Int) = V.non) = true then _ else _)
          rw [decide_eq_false (fun z => by cases z)]
          refine iteF ⟨_, rfl, _, rfl, (show 26 ≤ sizeLine by decide), _, _, rfl, rfl, _, rfl, ?_⟩
          have l26 : (("abcdefghijklmnopqrstuvwxyz" : Str).length : Int) = 26 := by decide +kernel
          rw [l26]
          by_cases c26 : 26 < c
          · rw [if_pos c26] at he
            rw [decide_eq_true (show (26 : Int) < (c : Int) by omega)]
            exact iteT (k _ _ (sD _) (by rw [he]; rfl))
          · rw [if_neg c26] at he
            rw [decide_eq_false (show ¬ (26 : Int) < (c : Int) by omega)]
            refine iteF ⟨_, rfl, rfl, _, rfl, ?_⟩
            by_cases c0 : c = 0
            · subst c0
              rw [if_pos rfl] at he
              rw [decide_eq_true (show optV (some 0) = V.int 0 from rfl)]
              refine iteT ⟨⟨_, rfl⟩, _, rfl, "", D, acc.map fun c => sT [c], rfl, rfl, .inl (SqL.of upd_same), ?_, ?_⟩
              · rw [sum_one, show ("" : Str).length = 0 from rfl, Nat.mul_zero, Nat.add_zero]
                omega
              rw [join_one]
              have hs : tx acc := ⟨by omega, fun c hc => by have := hac c hc; omega⟩
              refine ⟨_, rfl, _, rfl, .inl ⟨acc, rfl, hs, fun H2 s2 => ⟨_, rfl, ?_⟩⟩⟩
              have sH := (sD (.lst ((acc.map fun c => sT [c]).map V.str))).trans s2
              refine ite2 (fun cn => ?_) (fun cn => ?_)
              · rw [if_pos cn] at he
                exact ⟨_, rfl, _, rfl, (show 2 ≤ sizeLine by decide), fun v hv => k _ _ (sH.trans (same_new hv)) (by rw [he]; exact ⟨v, _, rfl, upd_same, .str _⟩)⟩
              · rw [if_neg cn] at he
                exact k _ _ sH (by rw [he]; rfl)
            · rw [if_neg c0] at he
              rw [decide_eq_false (show ¬ optV (some c) = V.int 0 from fun z => by injection z with z; omega)]
              refine iteF ⟨_, rfl, .inl ⟨rfl, _, SqL.of upd_same⟩, _, rfl, _, _, rfl, rfl, _, _, _, rfl, rfl, (show 26 ≤ sizeLine by decide), letter_at c (by omega) (by omega), D, _, _, rfl, rfl, upd_same, ?_, acc ++ [96 + c], b + 5, _, _, v7, rfl, ?_, ?_, ?_, ?_⟩
              · rw [List.length_map, List.length_map]
                exact Nat.lt_of_lt_of_le (show acc.length < 1000 by omega) (by decide)
              · rw [upd_upd, List.map_append, List.map_append]
                rfl
              · rw [List.length_append, el]
                rfl
              · intro x hx
                rcases List.mem_append.mp hx with hx | hx
                · exact hac x hx
                · rw [List.mem_singleton] at hx
                  omega
              · rw [he, show 9 - (j + 1) = m by omega]
      · rintro σ H' ⟨acc, b, v5, v6, v7, rfl, rfl, el, hac, he⟩
        exact k _ _ (same_new hD) (by rw [he]; rfl)
end
section
variable {P : Program} {w : World} {K : PySem.W.Frag} {mg : Str → Option Value} {base : Heap}
theorem str_eq (a : List Nat) (z : Str) : decide (V.str (sT a) = V.str z) = decide (a = z.cps.toList) := by
  apply decide_eq_decide.mpr
  constructor
  · intro h
    injection h with h
    rw [← h, sT_cps]
  · rintro rfl
    rw [sT_of]
theorem Str_beq (a : List Nat) (z : Str) : (z == sT a) = decide (a = z.cps.toList) := by
  rw [Bool.eq_iff_iff, beq_iff_eq, decide_eq_true_eq]
  constructor
  · rintro rfl
    rw [sT_cps]
  · rintro rfl
    rw [sT_of]
/-- .. == [], .. != [] of a text's signs -/
theorem empty_end {K : PySem.W.Frag} {H : Hp} {D : Addr} {t : List Nat} {p : Nat → Bool} (ht : tx t) (hD : H D = none) {Q : VK} (k : ∀ H', Same H H' → Q (.bl (t.all p)) H') :
    ([] : List V).length ≤ sizeLine ∧ ∀ q, (upd H D (.lst ((t.filter fun c => !p c).map chV))) q = none → rEqD K (.ref D) (.ref q) (upd (upd H D (.lst ((t.filter fun c => !p c).map chV))) q (.lst [])) Q := by
  refine ⟨sl_of (by decide), fun q hq => ⟨_, _, .lst (SqL.of ((same_new hq) _ _ upd_same)) (dpAll_strs _), .lst (SqL.of upd_same) .nil, shaped_strs _ (fun c hc => ht.2 c (List.mem_filter.mp hc).1), rfl, ?_⟩⟩
  rw [eqv_nilS, isEmpty_filter_not]
  exact k _ ((same_new hD).trans (same_new hq))
theorem empty_endN {K : PySem.W.Frag} {H : Hp} {D : Addr} {t : List Nat} {p : Nat → Bool} (ht : tx t) (hD : H D = none) {Q : VK} (k : ∀ H', Same H H' → Q (.bl (!t.all p)) H') :
    ([] : List V).length ≤ sizeLine ∧ ∀ q, (upd H D (.lst ((t.filter fun c => !p c).map chV))) q = none → rNeD K (.ref D) (.ref q) (upd (upd H D (.lst ((t.filter fun c => !p c).map chV))) q (.lst [])) Q := by
  refine ⟨sl_of (by decide), fun q hq => ⟨_, _, .lst (SqL.of ((same_new hq) _ _ upd_same)) (dpAll_strs _), .lst (SqL.of upd_same) .nil, shaped_strs _ (fun c hc => ht.2 c (List.mem_filter.mp hc).1), rfl, ?_⟩⟩
  rw [eqv_nilS, isEmpty_filter_not]
  exact k _ ((same_new hD).trans (same_new hq))
theorem cps_minus : ("-" : Str).cps.toList = [45] := by decide +kernel
theorem cps_empty : ("" : Str).cps.toList = [] := by decide +kernel
theorem cps_0 : ("0" : Str).cps.toList = [48] := by decide +kernel
theorem figs_sub (t : List Nat) : (figsOf t).length ≤ t.length ∧ ∀ c ∈ figsOf t, c ∈ t := by
  unfold figsOf
  split
  · exact ⟨by rw [List.length_drop]; omega, fun c hc => List.mem_of_mem_drop hc⟩
  · exact ⟨Nat.le_refl _, fun c hc => hc⟩
theorem tx_figs {t : List Nat} (h : tx t) : tx (figsOf t) := tx_sub h (figs_sub t).1 (figs_sub t).2
end
/-! ## places by their text -/
def sortQ (c : Nat) (fs : List Nat) : Option Nat :=
  if fs = [] then none else if ¬ (c = 118 ∨ c = 114 ∨ c = 115) then none
  else if 4 < fs.length ∨ fs.all isFig = false then none
  else if fs.take 1 = [48] ∧ ¬ fs = [48] then none
  else if NumText.digitsVal fs ≤ (if c = 118 then 9999 else if c = 114 then 8 else 999) then some c else none
def sortP : List Nat → Option Nat
  | [] => none
  | c :: fs => sortQ c fs
def sortV (t : List Nat) : V := match sortP t with | none => .non | some c => .str (sT [c])
def spSort (K : PySem.W.Frag) : Sp := fun vs H Q _ => ∃ x, vs = [x] ∧ ((∃ t, x = .str (sT t) ∧ tx t ∧ ∀ H', Same H H' → Q (sortV t) H') ∨ (NotStr K H x ∧ ∀ H', Same H H' → Q .non H'))
structure PlF (mg : Str → Option Value) : Prop where
  mn : ∃ t, mg "MOST_NUMBER" = some (.int 9999 t)
  mr : ∃ t, mg "MOST_REGISTER" = some (.int 8 t)
  ms : ∃ t, mg "MOST_SLOT" = some (.int 999 t)
section
variable {P : Program} {w : World} {K : PySem.W.Frag} {mg : Str → Option Value} {base : Heap}
theorem two_of {t : List Nat} (h : ¬ t.length < 2) : ∃ c fs, t = c :: fs ∧ ¬ fs = [] := by
  match t, h with
  | [], h => exact absurd (by decide) h
  | [c], h => exact absurd (Nat.lt_succ_self 1) h
  | c :: d :: r, _ => exact ⟨c, d :: r, rfl, fun z => by cases z⟩
theorem sort_short {t : List Nat} (h : t.length < 2) : sortP t = none := by
  match t, h with
  | [], _ => rfl
  | [c], _ => rfl
theorem mem_vrs (c : Nat) : decide (c ∈ ("vrs" : Str).cps.toList) = decide (c = 118 ∨ c = 114 ∨ c = 115) := by
  rw [show ("vrs" : Str).cps.toList = [118, 114, 115] by decide +kernel]
  simp
def mostK : List (Key × V) := [(Sum.inr "v", .int 9999), (Sum.inr "r", .int 8), (Sum.inr "s", .int 999)]
theorem most_at {c : Nat} (h : c = 118 ∨ c = 114 ∨ c = 115) : valV (mergeK [] mostK) (Sum.inr (sT [c])) = some (.int (((if c = 118 then 9999 else if c = 114 then 8 else 999 : Nat)) : Int)) := by
  rcases h with rfl | rfl | rfl <;> decide +kernel
theorem sc_sort : FnScope ["thing", "figures", "sign", "most"] ["thing"] (defScope s_sort_of_place) := ⟨rfl, rfl, rfl, by decide +kernel, rfl, by decide +kernel, by decide +kernel⟩
theorem ok_sort {CX : CXT} {f : Addr} {fd : FuncData} (F : FnP K "sort_of_place" s_sort_of_place f fd) (G : NkF K mg) (C : PlF mg) : FnOk P w K mg base CX 1 f fd ["thing"] (spSort K) := by
  obtain ⟨t1, g1⟩ := C.mn
  obtain ⟨t2, g2⟩ := C.mr
  obtain ⟨t3, g3⟩ := C.ms
  refine F.ok sc_sort (fun vs H Q E h => ?_) (fun cdv A outer s H vs Q E hr h => ?_)
  · obtain ⟨x, rfl, _⟩ := h
    rfl
  · obtain ⟨x, rfl, h⟩ := h
    have hu := hu_of hr
    have nd := sc_sort.nd
    apply Exists.intro
    apply And.intro
    case left =>
     apply PSs.nox
     apply pss_cons
     · exact ps_if (PW.pt (pw_or (pt_not (pt_val (pe_callB call_isi (by rfl) G.isi (by decide +kernel) (pa_cons (pv 0) (pa_cons (pe_bltn (v := .ty "str") (by rfl) G.str (by decide +kernel) rfl) pa_nil)))))
         (pw_or (pt_cmpR op_lt (pe_callB call_len_str (by rfl) G.len PySem.boot_len (pa_cons (pv 0) pa_nil)) pe_int (nomark _)) (pw_or1 (pt_cmpR op_notIn_sign (pe_ix ix_str (pv 0) pe_int (fun _ _ => rfl)) pe_str (by rfl)))))) (pss_one (ps_ret pe_non)) pss_nil
     apply pss_cons
     · exact ps_set (i := 1) nd rfl (.inl rfl) (pe_slice sl_str (pv 0) (po_some pe_int) po_none)
     apply pss_cons
     · exact ps_if (PW.pt (pw_or (pt_cmpR op_gt (pe_callB call_len_str (by rfl) G.len PySem.boot_len (pa_cons (pv 1) pa_nil)) pe_int (nomark _)) (pw_or1 (pt_cmpR (op_neD hr.units) (pe_lc (own := [("sign", 2)]) (g := gName 2) rfl nd (pi_str (pv 1)) (blkOk_by (own := [("sign", 2)]) (N := ["thing", "figures", "sign", "most"]) (sc := defScope s_sort_of_place) (by decide +kernel))
          (fun _ _ _ _ _ => pg_name (i := 2) nd rfl (Or.inl rfl)) (fun _ _ _ _ _ => pts_one (pt_cmpR op_notIn_sign (pv 2) pe_str (by rfl))) (fun _ _ _ _ _ => pv 2)) (pe_lst pa_nil) (nomark _))))) (pss_one (ps_ret pe_non)) pss_nil
     apply C8.pss_cut
     · exact ps_if (PW.pt (pw_and (pt_cmpR op_eq (pe_ix ix_str (pv 1) pe_int (fun _ _ => rfl)) pe_str (nomark _)) (pw_and1 (pt_cmpR op_ne (pv 1) pe_str (nomark _))))) (pss_one (ps_ret pe_non)) pss_nil
     apply pss_cons
     · exact ps_set (i := 3) nd rfl (.inl rfl) (pe_dget hu (pe_disp (pps_cons pe_str (pe_glob (v := .int 9999) (by rfl) g1 ⟨_, rfl⟩) (pps_cons pe_str (pe_glob (v := .int 8) (by rfl) g2 ⟨_, rfl⟩) (pps_cons pe_str (pe_glob (v := .int 999) (by rfl) g3 ⟨_, rfl⟩) pps_nil))) rfl rfl (by decide) (by decide)) (pe_ix ix_str (pv 0) pe_int (fun _ _ => rfl)) (fun _ _ => rfl))
     apply pss_one
     exact ps_ret (pe_ifExp (pt_cmpR op_le (pe_callTy call_int_str (by rfl) G.int (by decide +kernel) (pa_cons (pv 1) pa_nil)) (pv 3) (nomark _)) (pe_ix ix_str (pv 0) pe_int (fun _ _ => rfl)) pe_non)
    case right =>
      rcases h with ⟨t, rfl, ht, k⟩ | ⟨⟨ty, h1, h2⟩, k⟩
      · refine ⟨_, rfl, _, _, _, _, true, rfl, .ty "str", .base (.str _), kit_str_str, true, rfl, iteF ?_⟩
        refine ⟨_, rfl, _, rfl, sl_of (by rw [sT_len]; exact ht.1), _, _, rfl, rfl, _, rfl, ?_⟩
        rw [sT_len]
        have kN : sortP t = none → ∀ H', Same H H' → Q .non H' := fun e H' s' => by
          have q : Q (sortV t) H' := k H' s'
          unfold sortV at q
          rw [e] at q
          exact q
        have kS : ∀ c, sortP t = some c → ∀ H', Same H H' → Q (.str (sT [c])) H' := fun c e H' s' => by
          have q : Q (sortV t) H' := k H' s'
          unfold sortV at q
          rw [e] at q
          exact q
        clear k
        by_cases c1 : t.length < 2
        · rw [decide_eq_true (show (t.length : Int) < 2 by omega)]
          exact iteT (iteT (kN (sort_short c1) _ (Same.refl _)))
        rw [decide_eq_false (show ¬ (t.length : Int) < 2 by omega)]
        obtain ⟨c, fs, rfl, hf⟩ := two_of c1
        have slt : (sT (c :: fs)).length ≤ sizeLine := sl_of (by rw [sT_len]; exact ht.1)
        have at0 : atI (sT (c :: fs)).cps.toList 0 = some c := by rw [sT_cps]; exact atI_nat (j := 0) rfl
        have hx : tx fs := tx_sub ht (by rw [List.length_cons]; omega) fun d hd => List.mem_cons_of_mem _ hd
        refine iteF ⟨_, rfl, _, _, c, rfl, rfl, slt, at0, _, _, rfl, rfl, _, rfl, ?_⟩
        rw [mem_vrs]
        by_cases c2 : c = 118 ∨ c = 114 ∨ c = 115
        · rw [decide_eq_true c2]
          refine iteF ⟨_, rfl, _, rfl, _, rfl, slt, ?_⟩
          have e2 : cutS (sT (c :: fs)) (some 1) none = sT fs := cut_from (c :: fs) 1
          rw [e2]
          have slf : (sT fs).length ≤ sizeLine := sl_of (by rw [sT_len]; exact hx.1)
          refine ⟨_, rfl, _, rfl, slf, _, _, rfl, rfl, _, rfl, ?_⟩
          rw [sT_len]
          by_cases c3 : 4 < fs.length
          · rw [decide_eq_true (show (4 : Int) < (fs.length : Int) by omega)]
            exact iteT (iteT (kN (by show sortQ c _ = _; unfold sortQ; rw [if_neg hf, if_neg (fun z => z c2), if_pos (.inl c3)]) _ (Same.refl _)))
          rw [decide_eq_false (show ¬ (4 : Int) < (fs.length : Int) by omega)]
          refine iteF ⟨_, rfl, _, rfl, fun D hD => lc_chars (fun c => !isFig c) hx.1 hD (fun c H' A B hc s h1 h2 => ⟨rfl, _, rfl, _, _, rfl, rfl, _, rfl, ?_⟩) (empty_endN hx hD fun H' s' => ⟨_, rfl, ?_⟩)⟩
          · rw [mem_fig]
            exact ite2 (fun e => ⟨_, rfl, h1 e⟩) (fun e => h2 (by simpa using e))
          · by_cases c4 : fs.all isFig = true
            · rw [c4]
              refine iteF ?_
              obtain ⟨f0, r, rfl⟩ := List.exists_cons_of_ne_nil hf
              have atf : atI (sT (f0 :: r)).cps.toList 0 = some f0 := by rw [sT_cps]; exact atI_nat (j := 0) rfl
              have base : ∀ {o}, (if (f0 :: r).take 1 = [48] ∧ ¬ (f0 :: r) = [48] then none else if NumText.digitsVal (f0 :: r) ≤ (if c = 118 then 9999 else if c = 114 then 8 else 999) then some c else none) = o → sortP (c :: f0 :: r) = o := fun {o} e => by
                show sortQ c _ = _
                unfold sortQ
                rw [if_neg hf, if_neg (fun z => z c2), if_neg (by rintro (z | z); exact c3 z; rw [c4] at z; cases z)]
                exact e
              refine ⟨fun σ H2 => H2 = H' ∧ ¬ ((f0 :: r).take 1 = [48] ∧ ¬ (f0 :: r) = [48]) ∧ ∃ v2, σ = [some (.str (sT (c :: f0 :: r))), some (.str (sT (f0 :: r))), v2, none], ?_, ?_⟩
              · refine ⟨_, rfl, _, _, f0, rfl, rfl, slf, atf, rfl, _, rfl, ?_⟩
                show (if decide (V.str (sT [f0]) = V.str "0") = true then _ else _)
                rw [str_eq, cps_0]
                refine ite2 (fun c5 => ?_) (fun c5 => ?_)
                · have c5 := of_decide_eq_true c5
                  refine ⟨_, rfl, rfl, _, rfl, ?_⟩
                  rw [str_eq, cps_0]
                  by_cases c6 : (f0 :: r) = [48]
                  · rw [decide_eq_true c6]
                    exact iteF ⟨rfl, fun z => z.2 c6, _, rfl⟩
                  · rw [decide_eq_false c6]
                    exact iteT (kN (base (if_pos ⟨c5, c6⟩)) _ s')
                · have c5 : ¬ [f0] = [48] := fun z => c5 (decide_eq_true z)
                  exact ⟨rfl, fun z => c5 z.1, _, rfl⟩
              · rintro σ H2 ⟨rfl, c5, v2, rfl⟩
                refine fun p hp => ⟨upd_same, mostK, rfl, by decide, ?_⟩
                rw [upd_upd]
                have dg := DGet.k (k := Sum.inr (sT [c])) (upd_same (H := H2) (a := p) (o := .dK (mergeK [] mostK)))
                rw [most_at c2] at dg
                refine ⟨_, rfl, _, _, c, rfl, rfl, slt, at0, p, _, rfl, dg, ?_⟩
                have dig : NumText.AllDigits (f0 :: r) := fun d hd => by
                  have := List.all_eq_true.mp c4 d hd
                  unfold isFig at this
                  simpa using this
                have itx := PySem.intText_digits (x := sT (f0 :: r)) (by rw [sT_cps]; exact dig) (by rw [sT_cps]; exact hf) (by rw [sT_len]; omega)
                rw [sT_cps] at itx
                refine ⟨_, rfl, _, _, rfl, itx, by rw [sT_len]; omega, _, rfl, _, _, rfl, rfl, _, rfl, ?_⟩
                have sp := s'.trans (same_new (o := .dK (mergeK [] mostK)) hp)
                by_cases c7 : NumText.digitsVal (f0 :: r) ≤ (if c = 118 then 9999 else if c = 114 then 8 else 999)
                · rw [decide_eq_true (by omega)]
                  refine iteT ⟨_, rfl, _, _, c, rfl, rfl, slt, at0, ?_⟩
                  exact kS c (base (by rw [if_neg c5, if_pos c7])) _ sp
                · rw [decide_eq_false (by omega)]
                  exact iteF (kN (base (by rw [if_neg c5, if_neg c7])) _ sp)
            · have c4 : fs.all isFig = false := by simpa using c4
              rw [c4]
              exact iteT (kN (by show sortQ c _ = _; unfold sortQ; rw [if_neg hf, if_neg (fun z => z c2), if_pos (.inr c4)]) _ s')
        · rw [decide_eq_false c2]
          exact iteT (kN (by show sortQ c _ = _; unfold sortQ; rw [if_neg hf, if_pos c2]) _ (Same.refl _))
      · refine ⟨_, rfl, _, _, _, _, false, rfl, .ty "str", h1, h2, false, rfl, iteT (iteT ?_)⟩
        exact k _ (Same.refl _)
end
/-! ## registers and slots judged -/
theorem sort_some {t : List Nat} {c : Nat} (h : sortP t = some c) : ∃ fs, t = c :: fs ∧ NumText.AllDigits fs ∧ ¬ fs = [] ∧ fs.length ≤ 4 ∧ ¬ (fs.take 1 = [48] ∧ ¬ fs = [48]) ∧ NumText.digitsVal fs ≤ (if c = 118 then 9999 else if c = 114 then 8 else 999) := by
  match t, h with
  | d :: fs, h =>
    have h : sortQ d fs = some c := h
    unfold sortQ at h
    split at h
    · cases h
    rename_i h1
    split at h
    · cases h
    split at h
    · cases h
    rename_i h3
    split at h
    · cases h
    rename_i h4
    by_cases h5 : NumText.digitsVal fs ≤ (if d = 118 then 9999 else if d = 114 then 8 else 999)
    · rw [if_pos h5] at h
      injection h with h
      subst h
      refine ⟨fs, rfl, fun x hx => ?_, h1, Nat.le_of_not_lt fun z => h3 (.inl z), h4, h5⟩
      have ha : fs.all isFig = true := by
        cases e : fs.all isFig with
        | true => rfl
        | false => exact absurd (.inr e) h3
      have := List.all_eq_true.mp ha x hx
      unfold isFig at this
      simpa using this
    · rw [if_neg h5] at h
      cases h
def regB (r : Nat) (t : List Nat) : Bool := decide (sortP t = some 114) && decide (NumText.digitsVal (t.drop 1) < r)
def slotB (t : List Nat) : Bool := decide (sortP t = some 115)
def spNumOf : Sp := fun vs H Q _ => ∃ (c : Nat) (fs : List Nat), vs = [.str (sT (c :: fs))] ∧ NumText.AllDigits fs ∧ ¬ fs = [] ∧ fs.length ≤ 600 ∧ Q (.int ((NumText.digitsVal fs : Nat) : Int)) H
def spReg (K : PySem.W.Frag) : Sp := fun vs H Q _ => ∃ (x : V) (r : Nat), vs = [x, .int (r : Int)] ∧ ((∃ t, x = .str (sT t) ∧ tx t ∧ ∀ H', Same H H' → Q (.bl (regB r t)) H') ∨ (NotStr K H x ∧ ∀ H', Same H H' → Q (.bl false) H'))
theorem sV_eq (t : List Nat) (c : Nat) (z : Str) (hz : z = sT [c]) : scal (sortV t) (.str z) = true ∧ decide (sortV t = V.str z) = decide (sortP t = some c) := by
  subst hz
  unfold sortV
  cases e : sortP t with
  | none => exact ⟨rfl, by rw [decide_eq_false (fun z => by cases z), decide_eq_false (fun z => by cases z)]⟩
  | some d =>
    refine ⟨rfl, decide_eq_decide.mpr ⟨fun h => ?_, fun h => ?_⟩⟩
    · injection h with h
      have := sT_inj h
      injection this with this
      rw [this]
    · injection h with h
      rw [h]
theorem cps_s : ("s" : Str) = sT [115] := by
  have h := sT_of "s"
  rw [show ("s" : Str).cps.toList = [115] by decide +kernel] at h
  exact h.symm
section
variable {P : Program} {w : World} {K : PySem.W.Frag} {mg : Str → Option Value} {base : Heap}
theorem sc_numof : FnScope ["place"] ["place"] (defScope s_number_of) := ⟨rfl, rfl, rfl, by decide +kernel, rfl, by decide +kernel, by decide +kernel⟩
theorem ok_numof {CX : CXT} {f : Addr} {fd : FuncData} (F : FnP K "number_of" s_number_of f fd) (G : NkF K mg) : FnOk P w K mg base CX 1 f fd ["place"] spNumOf := by
  refine F.ok sc_numof (fun vs H Q E h => ?_) (fun cdv A outer s H vs Q E hr h => ?_)
  · obtain ⟨c, fs, rfl, _⟩ := h
    rfl
  · obtain ⟨c, fs, rfl, dig, hf, hl, q⟩ := h
    refine ⟨_, PSs.nox (pss_one (ps_ret (pe_callTy call_int_str (by rfl) G.int (by decide +kernel) (pa_cons (pe_slice sl_str (pv 0) (po_some pe_int) po_none) pa_nil)))), ?_⟩
    have e2 : cutS (sT (c :: fs)) (some 1) none = sT fs := cut_from (c :: fs) 1
    have itx := PySem.intText_digits (x := sT fs) (by rw [sT_cps]; exact dig) (by rw [sT_cps]; exact hf) (by rw [sT_len]; omega)
    rw [sT_cps] at itx
    refine ⟨_, rfl, _, rfl, _, rfl, sl_of (by rw [sT_len, List.length_cons]; omega), ?_⟩
    rw [e2]
    exact ⟨_, _, rfl, itx, by rw [sT_len]; omega, q⟩
theorem sc_isreg : FnScope ["thing", "registers"] ["thing", "registers"] (defScope s_is_register) := ⟨rfl, rfl, rfl, by decide +kernel, rfl, by decide +kernel, by decide +kernel⟩
theorem ok_isreg {CX : CXT} {f fS fN : Addr} {fd fdS fdN : FuncData} (F : FnP K "is_register" s_is_register f fd) (FS : FnP K "sort_of_place" s_sort_of_place fS fdS) (gS : mg "sort_of_place" = some (.ref fS)) (FN : FnP K "number_of" s_number_of fN fdN) (gN : mg "number_of" = some (.ref fN)) (G : NkF K mg) (C : PlF mg) : FnOk P w K mg base CX 2 f fd ["thing", "registers"] (spReg K) := by
  have GS : FnOk P w K mg base CX0 1 fS fdS ["thing"] (spSort K) := ok_sort FS G C
  have bS : Binds K fdS ["thing"] [] := FS.bindsN fun _ _ _ _ _ _ us hl => match us, hl with | [_], _ => rfl
  have GN : FnOk P w K mg base CX0 1 fN fdN ["place"] spNumOf := ok_numof FN G
  have bN : Binds K fdN ["place"] [] := FN.bindsN fun _ _ _ _ _ _ us hl => match us, hl with | [_], _ => rfl
  refine F.ok sc_isreg (fun vs H Q E h => ?_) (fun cdv A outer s H vs Q E hr h => ?_)
  · obtain ⟨x, r, rfl, _⟩ := h
    rfl
  · obtain ⟨x, r, rfl, h⟩ := h
    refine ⟨_, PSs.nox (pss_one (ps_ret (pe_and (pe_cmpR op_eq (pe_call GS hr rfl gS FS.kp bS .nil pass0 (pa_cons (pv 0) pa_nil)) pe_str (nomark _)) (pe_one (pe_cmpR op_lt (pe_call GN hr rfl gN FN.kp bN .nil pass0 (pa_cons (pv 0) pa_nil)) (pv 1) (nomark _)))))), ?_⟩
    rcases h with ⟨t, rfl, ht, k⟩ | ⟨hN, k⟩
    · refine ⟨_, rfl, _, rfl, .inl ⟨t, rfl, ht, fun H1 s1 => ?_⟩⟩
      obtain ⟨e1, e2⟩ := sV_eq t 114 "r" cps_r
      refine ⟨e1, _, rfl, ?_⟩
      rw [e2]
      by_cases c : sortP t = some 114
      · rw [decide_eq_true c]
        obtain ⟨fs, rfl, dig, hf, hl, _⟩ := sort_some c
        refine iteT ⟨_, rfl, 114, fs, rfl, dig, hf, by omega, _, rfl, _, _, rfl, rfl, ?_⟩
        have q := k H1 s1
        unfold regB at q
        rw [decide_eq_true c, Bool.true_and] at q
        have e3 : decide (NumText.digitsVal ((114 :: fs).drop 1) < r) = decide (((NumText.digitsVal fs : Nat) : Int) < (r : Int)) := decide_eq_decide.mpr ⟨fun z => Int.ofNat_lt.mpr z, fun z => Int.ofNat_lt.mp z⟩
        rw [e3] at q
        exact q
      · rw [decide_eq_false c]
        have q := k H1 s1
        unfold regB at q
        rw [decide_eq_false c, Bool.false_and] at q
        exact iteF q
    · refine ⟨_, rfl, _, rfl, .inr ⟨hN, fun H1 s1 => ?_⟩⟩
      refine ⟨rfl, _, rfl, ?_⟩
      rw [decide_eq_false (fun z => by cases z)]
      exact iteF (k _ s1)
theorem sc_isslot : FnScope ["thing"] ["thing"] (defScope s_is_slot) := ⟨rfl, rfl, rfl, by decide +kernel, rfl, by decide +kernel, by decide +kernel⟩
theorem ok_isslot {CX : CXT} {f fS : Addr} {fd fdS : FuncData} (F : FnP K "is_slot" s_is_slot f fd) (FS : FnP K "sort_of_place" s_sort_of_place fS fdS) (gS : mg "sort_of_place" = some (.ref fS)) (G : NkF K mg) (C : PlF mg) : FnOk P w K mg base CX 2 f fd ["thing"] (spTxO K slotB) := by
  have GS : FnOk P w K mg base CX0 1 fS fdS ["thing"] (spSort K) := ok_sort FS G C
  have bS : Binds K fdS ["thing"] [] := FS.bindsN fun _ _ _ _ _ _ us hl => match us, hl with | [_], _ => rfl
  refine F.ok sc_isslot (fun vs H Q E h => ?_) (fun cdv A outer s H vs Q E hr h => ?_)
  · obtain ⟨x, rfl, _⟩ := h
    rfl
  · obtain ⟨x, rfl, h⟩ := h
    refine ⟨_, PSs.nox (pss_one (ps_ret (pe_cmpR op_eq (pe_call GS hr rfl gS FS.kp bS .nil pass0 (pa_cons (pv 0) pa_nil)) pe_str (nomark _)))), ?_⟩
    rcases h with ⟨t, rfl, ht, k⟩ | ⟨hN, k⟩
    · refine ⟨_, rfl, _, rfl, .inl ⟨t, rfl, ht, fun H1 s1 => ?_⟩⟩
      obtain ⟨e1, e2⟩ := sV_eq t 115 "s" cps_s
      refine ⟨e1, ?_⟩
      rw [e2]
      exact k H1 s1
    · refine ⟨_, rfl, _, rfl, .inr ⟨hN, fun H1 s1 => ⟨rfl, ?_⟩⟩⟩
      rw [decide_eq_false (fun z => by cases z)]
      exact k _ s1
end
/-! ## where the readers stop -/
theorem rd_le {l : List Bool} {i n b : Nat} (h : rd l i = some (n, b)) : b ≤ l.length := by
  unfold rd at h
  split at h
  · cases h
  · rename_i c
    injection h with h
    injection h with h1 h2
    omega
theorem regA_le {r : Nat} {l : List Bool} {i b : Nat} {d : PyData} (h : regA r l i = some (d, b)) : b ≤ l.length := (regA_str h).2
theorem ixA_le {r : Nat} {l : List Bool} {i b : Nat} {d : PyData} (h : ixA r l i = some (d, b)) : b ≤ l.length := by
  unfold ixA at h
  cases e : at_ l i 2 with
  | none => rw [e] at h; cases h
  | some n =>
    rw [e] at h
    have h : (if n ≤ 2 then some (PyData.int (n : Int), i + 2) else none) = some (d, b) := h
    split at h
    · injection h with h
      injection h with h1 h2
      have := at_lt e
      omega
    · cases h
theorem numA_le {r : Nat} {l : List Bool} {i b : Nat} {d : PyData} (h : numA r l i = some (d, b)) : b ≤ l.length := by
  unfold numA rdS at h
  cases e : rd l i with
  | none => rw [e] at h; cases h
  | some x =>
    obtain ⟨n, b'⟩ := x
    rw [e] at h
    injection h with h
    injection h with h1 h2
    have h2 : b' = b := h2
    have := rd_le e
    omega
theorem leapA_le {r : Nat} {l : List Bool} {i b : Nat} {d : PyData} (h : leapA r l i = some (d, b)) : b ≤ l.length := by
  unfold leapA at h
  split at h
  · cases e : at_ l (i + 1) 32 with
    | none => rw [e] at h; cases h
    | some n =>
      rw [e] at h
      injection h with h
      injection h with h1 h2
      have := at_lt e
      omega
  · cases e : at_ l (i + 1) 8 with
    | none => rw [e] at h; cases h
    | some n =>
      rw [e] at h
      injection h with h
      injection h with h1 h2
      have := at_lt e
      omega
theorem placeA_le {r : Nat} {l : List Bool} {i b : Nat} {d : PyData} (h : placeA r l i = some (d, b)) : b ≤ l.length ∧ ∃ z, d = .str z := by
  unfold placeA at h
  split at h
  · cases e : rdI l (i + 1) with
    | none => rw [e] at h; cases h
    | some x =>
      obtain ⟨n, b'⟩ := x
      rw [e] at h
      have h : (if 999 < n then none else some (PyData.str (sTx n), b')) = some (d, b) := h
      split at h
      · cases h
      · injection h with h
        injection h with h1 h2
        unfold rdI at e
        cases e2 : rd l (i + 1) with
        | none => rw [e2] at e; cases e
        | some y =>
          obtain ⟨n2, b2⟩ := y
          rw [e2] at e
          injection e with e
          injection e with e3 e4
          have := rd_le e2
          exact ⟨by omega, _, h1.symm⟩
  · obtain ⟨⟨n, e1, _⟩, e2⟩ := regA_str h
    exact ⟨e2, _, e1⟩
theorem nameG_le {l : List Bool} : ∀ (n j : Nat) (acc : List Nat) {b : Nat} {d : PyData}, nameG l j n acc = some (d, b) → b ≤ l.length
  | 0, j, acc, b, d, h => by cases h
  | n + 1, j, acc, b, d, h => by
    have h : (match at_ l j 5 with
      | none => none
      | some c => if 26 < c then none else if c = 0 then (if nameB acc = true then some (PyData.str (sT acc), j + 5) else none) else nameG l (j + 5) n (acc ++ [96 + c])) = some (d, b) := h
    cases e : at_ l j 5 with
    | none => rw [e] at h; cases h
    | some c =>
      rw [e] at h
      have h : (if 26 < c then none else if c = 0 then (if nameB acc = true then some (PyData.str (sT acc), j + 5) else none) else nameG l (j + 5) n (acc ++ [96 + c])) = some (d, b) := h
      split at h
      · cases h
      · split at h
        · split at h
          · injection h with h
            injection h with h1 h2
            have := at_lt e
            omega
          · cases h
        · exact nameG_le n _ _ h
theorem regsA_le {r : Nat} {l : List Bool} : ∀ (n j : Nat) (acc : List PyData) {b : Nat} {d : PyData}, j ≤ l.length → regsA r l j n acc = some (d, b) → b ≤ l.length
  | 0, j, acc, b, d, hj, h => by
    injection h with h
    injection h with h1 h2
    omega
  | n + 1, j, acc, b, d, hj, h => by
    have h : (match regA r l j with | none => none | some (d, b) => regsA r l b n (acc ++ [d])) = some (d, b) := h
    cases e : regA r l j with
    | none => rw [e] at h; cases h
    | some x =>
      obtain ⟨d2, b2⟩ := x
      rw [e] at h
      exact regsA_le n b2 _ (regA_le e) h
theorem partsA_le {r : Nat} {l : List Bool} {i b : Nat} {d : PyData} (h : partsA r l i = some (d, b)) : b ≤ l.length := by
  unfold partsA at h
  cases e : at_ l i 2 with
  | none => rw [e] at h; cases h
  | some n =>
    rw [e] at h
    exact regsA_le n (i + 2) [] (at_lt e) h
theorem sTx_tx : ∀ n : Nat, n < 1000 → (decide ((sTx (n : Int)).cps.toList.length ≤ 10) && (sTx (n : Int)).cps.toList.all fun c => decide (c < 128)) = true := by decide +kernel
theorem placeA_tx {r : Nat} {l : List Bool} {i b : Nat} {d : PyData} (h9 : r ≤ 9) (h : placeA r l i = some (d, b)) : ∃ z, d = .str z ∧ tx z.cps.toList := by
  unfold placeA at h
  split at h
  · cases e : rdI l (i + 1) with
    | none => rw [e] at h; cases h
    | some x =>
      obtain ⟨n, b'⟩ := x
      rw [e] at h
      have h : (if 999 < n then none else some (PyData.str (sTx n), b')) = some (d, b) := h
      split at h
      · cases h
      · rename_i c
        injection h with h
        injection h with h1 h2
        refine ⟨_, h1.symm, ?_⟩
        unfold rdI at e
        cases e2 : rd l (i + 1) with
        | none => rw [e2] at e; cases e
        | some y =>
          obtain ⟨n2, b2⟩ := y
          rw [e2] at e
          injection e with e
          injection e with e3 e4
          have e3 : ((n2 : Nat) : Int) = n := e3
          subst e3
          have q := sTx_tx n2 (by omega)
          simp only [Bool.and_eq_true, decide_eq_true_eq, List.all_eq_true] at q
          exact ⟨by omega, q.2⟩
  · obtain ⟨⟨n, e1, hn⟩, e2⟩ := regA_str h
    refine ⟨_, e1, ?_⟩
    unfold rT
    rw [sT_cps]
    refine ⟨by simp, fun c hc => ?_⟩
    rcases List.mem_cons.mp hc with rfl | hc
    · decide
    · rw [List.mem_singleton] at hc
      omega
theorem DtA.get {G : Addr → Prop} {H : Hp} : ∀ {vs : List V} {ds : List PyData} {m : Nat} {d : PyData}, DtA G H vs ds → ds[m]? = some d → ∃ x, vs[m]? = some x ∧ Dt G H x d
  | _, _, 0, d, .cons h _, e => by
    injection e with e
    subst e
    exact ⟨_, rfl, h⟩
  | _, _, m + 1, d, .cons _ h, e => h.get (m := m) e
/-! ## one instruction read -/
theorem pe_callR {X : Cx} {k i : Nat} {x : Str} {p pos : Pos} {e : Expr} {es : List Expr} {t : TA} (hr : Room k X.A) (hN : X.N[i]? = some x) (hv : Vis X.env.scope x) (ha : PA X (e :: es) t)
    (hdb : (x == ("__debug__" : Str)) = false := by decide) (hcd : (x == ("__classdict__" : Str)) = false := by decide)
    (he : starEach (e :: es) X.env = (false, eval e X.env) :: starEach es X.env := by rfl) (hpl : (backTo pos (starEach es X.env)).any (·.1) = false := by rfl) :
    PE X (.Call (.Name x p) (e :: es) [] pos) (fun σ H Q => ∃ f sp, σ[i]? = some (some (.ref f)) ∧ Held X.prog X.w X.K X.mg X.base k f sp ∧ t σ H fun vs H1 => sp vs H1 Q (fun _ _ _ => False)) := by
  refine ⟨fun pins s σ H Q I h => ?_⟩
  obtain ⟨f, sp, hs, A, ht⟩ := h
  obtain ⟨fd, ps, F, hk, hb⟩ := A.ex
  refine (pe_callL (i := i) (f := f) (sp := sp) (dvs := []) (E := fun _ _ _ => False) F hr hN hv hk hb .nil (fun _ _ _ _ _ _ _ z => z.elim) ha hdb hcd he hpl).run pins s σ H Q I ⟨hs, ?_⟩
  have e0 : (fun (vs : List V) (H1 : Hp) => sp (vs ++ []) H1 Q (fun _ _ _ => False)) = fun vs H1 => sp vs H1 Q (fun _ _ _ => False) := by
    funext vs H1
    rw [List.append_nil]
  show t σ H (fun vs H1 => sp (vs ++ []) H1 Q (fun _ _ _ => False))
  rw [e0]
  exact ht
def wordsL : List Str := ["const", "copy", "plus", "minus", "times", "over", "rest", "less", "atmost", "same", "not", "make", "tag", "part", "long", "new", "at", "put", "show", "call", "jump", "branch", "unless", "try", "return", "fail"]
def shapesT : List (List Nat) := [[114, 110], [99, 99], [114, 114, 114], [114, 114, 114], [114, 114, 114], [114, 114, 114], [114, 114, 114], [114, 114, 114], [114, 114, 114], [114, 114, 114], [114, 114], [119, 114, 108], [114, 114], [119, 107, 114, 114], [119, 114, 114], [119, 114, 114, 114], [119, 114, 114, 114], [119, 114, 114, 114], [114], [106], [106], [114, 106], [114, 106], [106, 106], [], [114]]
def readA (c : Nat) : Nat → List Bool → Nat → Option (PyData × Nat) :=
  if c = 114 then regA else if c = 110 then numA else if c = 99 then placeA else if c = 119 then nameA else if c = 107 then ixA else if c = 108 then partsA else leapA
def rdParts (r : Nat) (l : List Bool) : List Nat → Nat → List PyData → Option (List PyData × Nat)
  | [], j, acc => some (acc, j)
  | c :: cs, j, acc =>
    match readA c r l j with
    | none => none
    | some (d, b) => rdParts r l cs b (acc ++ [d])
def slotD : Option PyData → Bool
  | some (.str z) => slotB z.cps.toList
  | _ => false
def rdEnd (z : Str) : Option (List PyData × Nat) → Option (PyData × Nat)
  | none => none
  | some (ds, b) => if z = "copy" ∧ slotD ds[1]? = true ∧ slotD ds[2]? = true then none else some (.tuple ds, b)
def rdOne (r : Nat) (l : List Bool) (i : Nat) : Option (PyData × Nat) :=
  match at_ l i 5 with
  | none => none
  | some c => if 26 ≤ c then none else rdEnd (wordsL.getD c "") (rdParts r l (shapesT.getD c []) (i + 5) [.str (wordsL.getD c "")])
theorem readA_le {c r : Nat} {l : List Bool} {i b : Nat} {d : PyData} (h : readA c r l i = some (d, b)) : b ≤ l.length := by
  unfold readA at h
  split at h
  · exact regA_le h
  split at h
  · exact numA_le h
  split at h
  · exact (placeA_le h).1
  split at h
  · exact nameG_le 9 i [] h
  split at h
  · exact ixA_le h
  split at h
  · exact partsA_le h
  · exact leapA_le h
theorem shape_ok : ∀ c < 26, ∀ d ∈ shapesT.getD c [], d = 114 ∨ d = 110 ∨ d = 99 ∨ d = 119 ∨ d = 107 ∨ d = 108 ∨ d = 106 := by decide +kernel
theorem copy_is : ∀ c < 26, wordsL.getD c "" = "copy" → c = 1 := by decide +kernel
theorem word_at : ∀ c < 26, (wordsL.map V.str)[c]? = some (.str (wordsL.getD c "")) := by decide +kernel
theorem shape_len : ∀ c < 26, (shapesT.getD c []).length ≤ 4 := by decide +kernel
structure RdT (P : Program) (w : World) (K : PySem.W.Frag) (mg : Str → Option Value) (base : Heap) : Prop where
  words : ∃ a, mg "WORDS" = some (.ref a) ∧ ∀ H, SqT K H a (wordsL.map V.str)
  shapes : ∃ a, mg "SHAPES" = some (.ref a) ∧ ∀ c < 26, KDct K w a (wordsL.getD c "") (.str (sT (shapesT.getD c [])))
  readers : ∃ a, mg "READERS" = some (.ref a) ∧ ∀ c : Nat, c = 114 ∨ c = 110 ∨ c = 99 ∨ c = 119 ∨ c = 107 ∨ c = 108 ∨ c = 106 → ∃ f, KDct K w a (sT [c]) (.ref f) ∧ Held P w K mg base 3 f (spRd 0 (readA c))
section
variable {P : Program} {w : World} {K : PySem.W.Frag} {mg : Str → Option Value} {base : Heap}
theorem sc_one : FnScope ["registers", "bits", "at", "code", "word", "place", "found", "letter", "reader", "told"] ["registers", "bits", "at"] (defScope s_read_one) := ⟨rfl, rfl, rfl, by decide +kernel, rfl, by decide +kernel, by decide +kernel⟩
theorem ok_one {CX : CXT} {f fD fS : Addr} {fd fdD fdS : FuncData} (F : FnP K "read_one" s_read_one f fd) (FD : FnP K "digits_at" s_digits_at fD fdD) (gD : mg "digits_at" = some (.ref fD)) (kS : PySem.W.keepIn K (.ref fS) = true) (gS : mg "is_slot" = some (.ref fS)) (bS : Binds K fdS ["thing"] []) (GS : FnOk P w K mg base CX0 2 fS fdS ["thing"] (spTxO K slotB))
    (G : NkF K mg) (C : CsF mg) (R : RdT P w K mg base) (tup : mg "tuple" = none) : FnOk P w K mg base CX 4 f fd ["registers", "bits", "at"] (spRd 0 rdOne) := by
  have GD : FnOk P w K mg base CX0 1 fD fdD ["bits", "at", "many"] spDAt := ok_dat FD G
  have bD : Binds K fdD ["bits", "at", "many"] [] := FD.bindsN fun _ _ _ _ _ _ us hl => match us, hl with | [_, _, _], _ => rfl
  obtain ⟨t5, g5⟩ := C.idg
  obtain ⟨aW, gW, qW⟩ := R.words
  obtain ⟨aH, gH, qH⟩ := R.shapes
  obtain ⟨aR, gR, qR⟩ := R.readers
  refine F.ok sc_one (fun vs H Q E h => ?_) (fun cdv A outer s H vs Q E hr h => ?_)
  · obtain ⟨r, l, i, rfl, _⟩ := h
    rfl
  · obtain ⟨r, l, i, rfl, hl, hi, h9, k⟩ := h
    have nd := sc_one.nd
    have hr1 := hr.mono (show 1 ≤ 3 by decide)
    have hr2 := hr.mono (show 2 ≤ 3 by decide)
    apply Exists.intro
    apply And.intro
    case left =>
     apply PSs.nox
     apply pss_cons
     · exact ps_set (i := 3) nd rfl (.inl rfl) (pe_call GD hr1 rfl gD FD.kp bD .nil pass0 (pa_cons (pv 1) (pa_cons (pv 2) (pa_cons (pe_glob (v := .int 5) (by rfl) g5 ⟨_, rfl⟩) pa_nil))))
     apply pss_cons
     · exact ps_if (PW.pt (pw_or (pt_cmpR op_isN (pv 3) pe_non (nomark _)) (pw_or1 (pt_cmpR op_ge (pv 3) (pe_callB call_len (by rfl) G.len PySem.boot_len (pa_cons (pe_glob (v := .ref aW) (by rfl) gW rfl) pa_nil)) (nomark _))))) (pss_one (ps_ret pe_non)) pss_nil
     apply pss_cons
     · exact ps_par (X := (cxOf CX P w K mg base ["registers", "bits", "at", "code", "word", "place", "found", "letter", "reader", "told"] "read_one" (defScope s_read_one) f cdv A outer s H E).nox) (i := 4) (j := 5) rfl nd rfl rfl (by decide) rfl rfl (pa_cons (pe_ix ix_seq (pe_glob (v := .ref aW) (by rfl) gW rfl) (pv 3) (fun _ _ => rfl)) (pa_cons (pe_op op_add (pv 2) (pe_glob (v := .int 5) (by rfl) g5 ⟨_, rfl⟩)) pa_nil)) (by rfl)
     apply pss_cons
     · exact ps_set (i := 6) nd rfl (.inl rfl) (pe_lst (pa_cons (pv 4) pa_nil))
     apply pss_cons
     · apply ps_for PassesOwn.never rfl
       · exact pi_str (pe_ix ix_kdict (pe_glob (v := .ref aH) (by rfl) gH rfl) (pv 4) (fun _ _ => rfl))
       · exact pg_name (i := 7) nd rfl (Or.inl rfl)
       · apply pss_cons
         · exact ps_set (i := 8) nd rfl (.inl rfl) (pe_ix ix_kdict (pe_glob (v := .ref aR) (by rfl) gR rfl) (pv 7) (fun _ _ => rfl))
         apply pss_cons
         · exact ps_set (i := 9) nd rfl (.inl rfl) (pe_callR (i := 8) hr rfl (Or.inl rfl) (pa_cons (pv 0) (pa_cons (pv 1) (pa_cons (pv 5) pa_nil))))
         apply pss_cons
         · exact ps_if (pt_cmpR op_isN (pv 9) pe_non (nomark _)) (pss_one (ps_ret pe_non)) pss_nil
         apply pss_cons
         · exact ps_expr (pe_bm PySem.F.plainAttrs_list PySem.F.slot_list_append PySem.F.type_list_append mt_append (pv 6) (pa_cons (pe_ix ix_seq (pv 9) pe_int (fun _ _ => rfl)) pa_nil))
         apply pss_one
         exact ps_set (i := 5) nd rfl (.inl rfl) (pe_ix ix_seq (pv 9) pe_int (fun _ _ => rfl))
     apply C8.pss_cut
     · exact ps_if (PW.pt (pw_and (pt_cmpR op_eq (pv 4) pe_str (nomark _)) (pw_and (pt_val (pe_call GS hr2 rfl gS kS bS .nil pass0 (pa_cons (pe_ix ix_seq (pv 6) pe_int (fun _ _ => rfl)) pa_nil))) (pw_and1 (pt_val (pe_call GS hr2 rfl gS kS bS .nil pass0 (pa_cons (pe_ix ix_seq (pv 6) pe_int (fun _ _ => rfl)) pa_nil))))))) (pss_one (ps_ret pe_non)) pss_nil
     apply pss_one
     exact ps_ret (pe_tup (pa_cons (pe_callTy call_tuple_of (by rfl) tup (by decide +kernel) (pa_cons (pv 6) pa_nil)) (pa_cons (pv 5) pa_nil)))
    case right =>
      refine ⟨_, rfl, _, rfl, l, i, 5, rfl, hl, by decide, by decide, ?_⟩
      unfold rdOne at k
      cases e5 : at_ l i 5 with
      | none =>
        rw [e5] at k
        refine ⟨_, rfl, rfl, _, rfl, ?_⟩
        show (if decide (V.non = V.non) = true then _ else _)
        rw [decide_eq_true rfl]
        exact iteT (iteT (k _ _ (Same.refl _) rfl))
      | some c =>
        rw [e5] at k
        have k : ∀ v H', Same H H' → ResD H H' v (if 26 ≤ c then none else rdEnd (wordsL.getD c "") (rdParts r l (shapesT.getD c []) (i + 5) [.str (wordsL.getD c "")])) → Q v H' := k
        refine ⟨_, rfl, rfl, _, rfl, ?_⟩
        show (if decide (V.int (c : Int) = V.non) = true then _ else _)
        rw [decide_eq_false (fun z => by cases z)]
        refine iteF ⟨_, rfl, _, _, rfl, .inr ⟨_, qW _, rfl⟩, _, _, rfl, rfl, _, rfl, ?_⟩
        rw [show (((wordsL.map V.str).length : Nat) : Int) = 26 from rfl]
        by_cases c26 : 26 ≤ c
        · rw [if_pos c26] at k
          rw [decide_eq_true (show (26 : Int) ≤ (c : Int) by omega)]
          exact iteT (k _ _ (Same.refl _) rfl)
        rw [if_neg c26] at k
        rw [decide_eq_false (show ¬ (26 : Int) ≤ (c : Int) by omega)]
        have hc : c < 26 := by omega
        have hT := shape_ok c hc
        have hL := shape_len c hc
        have hC := copy_is c hc
        have kT := qH c hc
        refine iteF ⟨_, rfl, .inr (.inl ⟨_, _, _, _, rfl, rfl, qW _, atI_nat (word_at c hc), _, rfl, _, _, rfl, rfl, _, _, rfl, ?_⟩)⟩
        have hc1 : wordsL.getD c "" = "copy" → shapesT.getD c [] = [99, 99] := fun z => by rw [hC z]; rfl
        clear hC
        generalize wordsL.getD c "" = z at k kT hc1 ⊢
        generalize shapesT.getD c [] = T at k kT hT hL hc1 ⊢
        refine ⟨_, rfl, (show 1 ≤ sizeLine by decide), fun D hD => ?_⟩
        have hi5 : i + 5 ≤ l.length := at_lt e5
        refine ⟨_, rfl, aH, z, _, rfl, rfl, kT, _, rfl, ?_⟩
        refine for_it walk_str (fun j σ H' => ∃ (xs : List V) (ds : List PyData) (b : Nat) (v7 v8 v9 : Option V), σ = [some (.int (r : Int)), some (.str (sT (bT l))), some (.int (i : Int)), some (.int (c : Int)), some (.str z), some (.int (b : Int)), some (.ref D), v7, v8, v9] ∧ Same H H' ∧ H' D = some (.lst xs) ∧ DtA (fun a => H a = none ∧ a ≠ D) H' xs ds ∧ ds.length = j + 1 ∧ b ≤ l.length ∧ rdParts r l T (i + 5) [.str z] = rdParts r l (T.drop j) b ds ∧ (T = [99, 99] → ∀ m, 1 ≤ m → m ≤ j → ∃ y, ds[m]? = some (.str y) ∧ tx y.cps.toList))
          ⟨[.str z], [.str z], i + 5, none, none, none, rfl, same_new hD, upd_same, .cons (.str _) .nil, rfl, hi5, rfl, fun _ m m1 m2 => absurd m2 (by omega)⟩ (fun _ _ _ _ _ => trivial) ?_ ?_
        · rintro j x σ H' H2 hj ⟨xs, ds, b, v7, v8, v9, rfl, sj, eD, hA, hdl, hb, he, hcp⟩ ⟨rfl, d, hd, rfl⟩
          have hd : T[j]? = some d := by
            rw [← sT_cps T, Array.getElem?_toList]
            exact hd
          have hdm := hT d (List.mem_of_getElem? hd)
          have hdr : T.drop j = d :: T.drop (j + 1) := by
            obtain ⟨hlt, e⟩ := List.getElem?_eq_some_iff.mp hd
            rw [List.drop_eq_getElem_cons hlt, e]
          rw [hdr] at he
          have he : rdParts r l T (i + 5) [.str z] = (match readA d r l b with | none => none | some (d, b) => rdParts r l (T.drop (j + 1)) b (ds ++ [d])) := he
          obtain ⟨fr, kd, hh⟩ := qR d hdm
          refine ⟨_, rfl, aR, _, _, rfl, rfl, kd, ?_⟩
          refine ⟨fr, _, rfl, hh, _, rfl, _, rfl, _, rfl, r, l, b, rfl, hl, by omega, h9, fun v H3 s3 hv => ?_⟩
          cases e : readA d r l b with
          | none =>
            rw [e] at hv he
            have hv : v = .non := hv
            subst hv
            refine ⟨_, rfl, rfl, _, rfl, ?_⟩
            rw [decide_eq_true rfl]
            exact iteT (k _ _ (sj.trans s3) (by rw [he]; rfl))
          | some y =>
            obtain ⟨dd, b2⟩ := y
            rw [e] at hv he
            obtain ⟨p, x, rfl, hp, hx⟩ := hv
            have q0 : SqT K H3 p [x, V.int (b2 : Int)] := SqT.of hp
            refine ⟨_, rfl, rfl, _, rfl, ?_⟩
            rw [decide_eq_false (fun z => by cases z)]
            have e3 : H3 D = some (.lst xs) := s3 _ _ eD
            have hxl := hA.length
            refine iteF ⟨_, rfl, .inl ⟨rfl, _, SqL.of e3⟩, _, rfl, .inr (.inl ⟨_, _, _, _, rfl, rfl, q0, rfl, D, _, _, rfl, rfl, e3, ?_, ?_⟩)⟩
            · exact Nat.lt_of_lt_of_le (show xs.length < 1000 by have : j < T.length := (List.getElem?_eq_some_iff.mp hd).1; omega) (by decide)
            · have npD : p ≠ D := fun z => by rw [z, e3] at hp; cases hp
              have old : DtA (fun a => H a = none ∧ a ≠ D) (upd H3 D (.lst (xs ++ [x]))) xs ds := hA.to fun b o g eo => ⟨by rw [upd_ne g.2]; exact s3 _ _ eo, g⟩
              have new : Dt (fun a => H a = none ∧ a ≠ D) (upd H3 D (.lst (xs ++ [x]))) x dd := hx.to fun b o g eo => by
                have nb : b ≠ D := fun z => by rw [z, eD] at g; cases g
                exact ⟨by rw [upd_ne nb]; exact eo, sj.free g, nb⟩
              refine ⟨_, rfl, .inr (.inl ⟨p, _, _, _, rfl, rfl, SqT.of (by rw [upd_ne npD]; exact hp), rfl, xs ++ [x], ds ++ [dd], b2, _, _, _, rfl, same_sub (sj.trans s3) hD, upd_same, old.app (.cons new .nil), ?_, readA_le e, ?_, ?_⟩)⟩
              · rw [List.length_append, hdl]
                rfl
              · rw [he]
              · intro hT9 m m1 m2
                by_cases hm : m ≤ j
                · obtain ⟨y, hy, hty⟩ := hcp hT9 m m1 hm
                  exact ⟨y, by rw [List.getElem?_append_left (by omega)]; exact hy, hty⟩
                · have : m = ds.length := by omega
                  subst this
                  have hd9 : d = 99 := by
                    rw [hT9] at hd
                    have := List.mem_of_getElem? hd
                    simpa using this
                  subst hd9
                  obtain ⟨y, hy, hty⟩ := placeA_tx h9 (show placeA r l b = some (dd, b2) from e)
                  exact ⟨y, by rw [List.getElem?_append_right (Nat.le_refl _), Nat.sub_self, hy]; rfl, hty⟩
        · rintro σ H' ⟨xs, ds, b, v7, v8, v9, rfl, sj, eD, hA, hdl, hb, he, hcp⟩
          have eT : (sT T).cps.size = T.length := sT_len T
          rw [eT] at hdl he hcp
          rw [List.drop_length] at he
          rw [he] at k
          have k : ∀ v H', Same H H' → ResD H H' v (if z = "copy" ∧ slotD ds[1]? = true ∧ slotD ds[2]? = true then none else some (.tuple ds, b)) → Q v H' := k
          refine ⟨fun σ H2 => Same H' H2 ∧ ¬ (z = "copy" ∧ slotD ds[1]? = true ∧ slotD ds[2]? = true) ∧ σ = [some (.int (r : Int)), some (.str (sT (bT l))), some (.int (i : Int)), some (.int (c : Int)), some (.str z), some (.int (b : Int)), some (.ref D), v7, v8, v9], ?_, ?_⟩
          · refine ⟨_, rfl, rfl, _, rfl, ?_⟩
            by_cases hz : z = "copy"
            · rw [decide_eq_true (congrArg V.str hz)]
              have hT9 := hc1 hz
              have hl2 : T.length = 2 := by rw [hT9]; rfl
              obtain ⟨y1, g1, t1⟩ := hcp hT9 1 (by omega) (by omega)
              obtain ⟨y2, g2, t2⟩ := hcp hT9 2 (by omega) (by omega)
              obtain ⟨x1, f1, d1⟩ := hA.get g1
              obtain ⟨x2, f2, d2⟩ := hA.get g2
              cases d1
              cases d2
              refine iteT ⟨_, rfl, .inl ⟨_, _, _, _, rfl, rfl, SqL.of eD, atI_nat (j := 1) f1, _, rfl, .inl ⟨y1.cps.toList, by rw [sT_of], t1, fun H2 s2 => ⟨_, rfl, ?_⟩⟩⟩⟩
              refine ite2 (fun c1 => ?_) (fun c1 => ?_)
              · refine ⟨_, rfl, .inl ⟨_, _, _, _, rfl, rfl, SqL.of (s2 _ _ eD), atI_nat (j := 2) f2, _, rfl, .inl ⟨y2.cps.toList, by rw [sT_of], t2, fun H3 s3 => ⟨_, rfl, ?_⟩⟩⟩⟩
                refine ite2 (fun c2 => ?_) (fun c2 => ?_)
                · exact k _ _ (sj.trans (s2.trans s3)) (by rw [if_pos ⟨hz, by rw [g1]; exact c1, by rw [g2]; exact c2⟩]; rfl)
                · exact ⟨s2.trans s3, fun q => c2 (by have := q.2.2; rw [g2] at this; exact this), rfl⟩
              · exact ⟨s2, fun q => c1 (by have := q.2.1; rw [g1] at this; exact this), rfl⟩
            · rw [decide_eq_false (fun q => hz (by injection q))]
              exact iteF ⟨Same.refl _, fun q => hz q.1, rfl⟩
          · rintro σ H2 ⟨s2, hno, rfl⟩
            rw [if_neg hno] at k
            refine ⟨_, rfl, D, _, rfl, .inl ⟨SqL.of (s2 _ _ eD), fun U hU => ⟨_, rfl, (show 2 ≤ sizeLine by decide), fun v hv => k _ _ (((sj.trans s2).trans (same_new hU)).trans (same_new hv)) ⟨v, _, rfl, upd_same, .tup ((sj.trans s2).free hU) ((same_new hv) _ _ upd_same) ?_⟩⟩⟩⟩
            exact hA.to fun x o g e => ⟨(same_new hv) _ _ ((same_new hU) _ _ (s2 _ _ e)), g.1⟩
end
/-! ## places written -/
def placeW (t : List Nat) : List Bool := if slotB t = true then true :: gam (NumText.digitsVal (t.drop 1)) else false :: digs (NumText.digitsVal (t.drop 1)) 4
def spPlW : Sp := fun vs H Q _ => ∃ t : List Nat, vs = [.str (sT t)] ∧ tx t ∧ (sortP t = some 114 ∨ sortP t = some 115) ∧ ∀ H', Same H H' → Q (.str (sT (bT (placeW t)))) H'
section
variable {P : Program} {w : World} {K : PySem.W.Frag} {mg : Str → Option Value} {base : Heap}
theorem sc_plw : FnScope ["place"] ["place"] (defScope s_place_bits) := ⟨rfl, rfl, rfl, by decide +kernel, rfl, by decide +kernel, by decide +kernel⟩
theorem ok_plw {CX : CXT} {f fS fN fC fD : Addr} {fd fdS fdN fdC fdD : FuncData} (F : FnP K "place_bits" s_place_bits f fd) (kS : PySem.W.keepIn K (.ref fS) = true) (gS : mg "is_slot" = some (.ref fS)) (bS : Binds K fdS ["thing"] []) (GS : FnOk P w K mg base CX0 2 fS fdS ["thing"] (spTxO K slotB))
    (FN : FnP K "number_of" s_number_of fN fdN) (gN : mg "number_of" = some (.ref fN)) (FC : FnP K "count_of" s_count_of fC fdC) (gC : mg "count_of" = some (.ref fC)) (FD : FnP K "digits" s_digits fD fdD) (gD : mg "digits" = some (.ref fD)) (G : NkF K mg) (C : CsF mg) :
    FnOk P w K mg base CX 3 f fd ["place"] spPlW := by
  have GN : FnOk P w K mg base CX0 1 fN fdN ["place"] spNumOf := ok_numof FN G
  have bN : Binds K fdN ["place"] [] := FN.bindsN fun _ _ _ _ _ _ us hl => match us, hl with | [_], _ => rfl
  have GC : FnOk P w K mg base CX0 1 fC fdC ["number"] spCnt := ok_count_of FC G
  have bC : Binds K fdC ["number"] [] := FC.bindsN fun _ _ _ _ _ _ us hl => match us, hl with | [_], _ => rfl
  have GD : FnOk P w K mg base CX0 1 fD fdD ["number", "many"] spDg := ok_dg FD
  have bD : Binds K fdD ["number", "many"] [] := FD.bindsN fun _ _ _ _ _ _ us hl => match us, hl with | [_, _], _ => rfl
  obtain ⟨t4, g4⟩ := C.rd
  refine F.ok sc_plw (fun vs H Q E h => ?_) (fun cdv A outer s H vs Q E hr h => ?_)
  · obtain ⟨t, rfl, _⟩ := h
    rfl
  · obtain ⟨t, rfl, ht, hs, k⟩ := h
    have hr1 := hr.mono (show 1 ≤ 2 by decide)
    refine ⟨_, PSs.nox (pss_cons (ps_if (pt_val (pe_call GS hr rfl gS kS bS .nil pass0 (pa_cons (pv 0) pa_nil))) (pss_one (ps_ret (pe_op op_add_str pe_str (pe_call GC hr1 rfl gC FC.kp bC .nil pass0 (pa_cons (pe_call GN hr1 rfl gN FN.kp bN .nil pass0 (pa_cons (pv 0) pa_nil)) pa_nil))))) pss_nil)
      (pss_one (ps_ret (pe_op op_add_str pe_str (pe_call GD hr1 rfl gD FD.kp bD .nil pass0 (pa_cons (pe_call GN hr1 rfl gN FN.kp bN .nil pass0 (pa_cons (pv 0) pa_nil)) (pa_cons (pe_glob (v := .int 4) (by rfl) g4 ⟨_, rfl⟩) pa_nil))))))), ?_⟩
    refine ⟨_, rfl, _, rfl, .inl ⟨t, rfl, ht, fun H1 s1 => ⟨_, rfl, ?_⟩⟩⟩
    refine ite2 (fun c => ?_) (fun c => ?_)
    · have c' : sortP t = some 115 := of_decide_eq_true c
      obtain ⟨fs, rfl, dig, hf, hl, _, hv⟩ := sort_some c'
      have hv : NumText.digitsVal fs ≤ 999 := hv
      refine ⟨_, rfl, 115, fs, rfl, dig, hf, by omega, _, rfl, by omega, _, _, rfl, rfl, ?_, ?_⟩
      · obtain ⟨_, h2⟩ := gam_small (n := NumText.digitsVal fs) (by omega)
        rw [one_eq, show (⟨#[49]⟩ : Str).length = 1 from rfl, sT_len, bT_len]
        exact sl_of (by omega)
      · have q := k H1 s1
        unfold placeW at q
        rw [if_pos c] at q
        have e : ("1" : Str) ++ sT (bT (gam (NumText.digitsVal fs))) = sT (bT (true :: gam (NumText.digitsVal fs))) := by
          rw [one_eq]
          exact sT_ap [49] _
        rw [e]
        exact q
    · have c' : sortP t = some 114 := hs.resolve_right fun z => c (decide_eq_true z)
      obtain ⟨fs, rfl, dig, hf, hl, _, hv⟩ := sort_some c'
      have hv : NumText.digitsVal fs ≤ 8 := hv
      refine ⟨_, rfl, 114, fs, rfl, dig, hf, by omega, _, 4, rfl, by omega, by decide, by decide, _, _, rfl, rfl, ?_, ?_⟩
      · rw [zero_eq, show (⟨#[48]⟩ : Str).length = 1 from rfl, sT_len, bT_len, digs_len]
        exact sl_of (by omega)
      · have q := k H1 s1
        unfold placeW at q
        rw [if_neg c] at q
        have e : ("0" : Str) ++ sT (bT (digs (NumText.digitsVal fs) 4)) = sT (bT (false :: digs (NumText.digitsVal fs) 4)) := by
          rw [zero_eq]
          exact sT_ap [48] _
        rw [e]
        exact q
end
/-! ## names written -/
def nameW (t : List Nat) : List Bool := (t.map fun c => digs (c - 96) 5).flatten ++ digs 0 5
def spNmW : Sp := fun vs H Q _ => ∃ t : List Nat, vs = [.str (sT t)] ∧ t.length ≤ 8 ∧ (∀ c ∈ t, 97 ≤ c ∧ c ≤ 122) ∧ ∀ H', Same H H' → Q (.str (sT (bT (nameW t)))) H'
theorem find_let : ∀ c : Nat, c < 123 → 97 ≤ c → Txt.find "abcdefghijklmnopqrstuvwxyz" ⟨#[c]⟩ = ((c - 97 : Nat) : Int) := by decide +kernel
theorem nums_at {i : Nat} {y : V} {n0 : List Nat} (h : (n0.map fun n => V.int ((n : Nat) : Int))[i]? = some y) : ∃ n, n0[i]? = some n ∧ y = .int ((n : Nat) : Int) := by
  rw [List.getElem?_map] at h
  cases e : n0[i]? with
  | none => rw [e] at h; cases h
  | some n => rw [e] at h; exact ⟨n, rfl, (Option.some.inj h).symm⟩
theorem nameW_eq (t : List Nat) : bT (nameW t) = ((t.map (· - 96) ++ [0]).map fun n => bT (digs n 5)).flatten := by
  unfold nameW
  rw [bT_app, List.map_append, List.flatten_append, List.map_map]
  congr 1
  · induction t with
    | nil => rfl
    | cons c t ih =>
      rw [List.map_cons, List.flatten_cons, bT_app, ih]
      rfl
theorem sum_le (L : List Nat) : ((L.map fun n => sT (bT (digs n 5))).map (·.length)).sum = 5 * L.length := by
  induction L with
  | nil => rfl
  | cons n L ih =>
    rw [List.map_cons, List.map_cons, List.sum_cons, ih, sT_len, bT_len, digs_len, List.length_cons]
    omega
section
variable {P : Program} {w : World} {K : PySem.W.Frag} {mg : Str → Option Value} {base : Heap}
theorem sc_nmw : FnScope ["name", "codes", "letter", "code"] ["name"] (defScope s_name_bits) := ⟨rfl, rfl, rfl, by decide +kernel, rfl, by decide +kernel, by decide +kernel⟩
theorem ok_nmw {CX : CXT} {f fD : Addr} {fd fdD : FuncData} (F : FnP K "name_bits" s_name_bits f fd) (FD : FnP K "digits" s_digits fD fdD) (gD : mg "digits" = some (.ref fD)) (G : NkF K mg) (C : CsF mg) :
    FnOk P w K mg base CX 2 f fd ["name"] spNmW := by
  have GD : FnOk P w K mg base CX0 1 fD fdD ["number", "many"] spDg := ok_dg FD
  have bD : Binds K fdD ["number", "many"] [] := FD.bindsN fun _ _ _ _ _ _ us hl => match us, hl with | [_, _], _ => rfl
  obtain ⟨t5, g5⟩ := C.ld
  obtain ⟨tL, gL⟩ := C.lt
  refine F.ok sc_nmw (fun vs H Q E h => ?_) (fun cdv A outer s H vs Q E hr h => ?_)
  · obtain ⟨t, rfl, _⟩ := h
    rfl
  · obtain ⟨t, rfl, hl, ht, k⟩ := h
    have nd := sc_nmw.nd
    apply Exists.intro
    apply And.intro
    case left =>
     apply PSs.nox
     apply pss_cons
     · exact ps_setLc (i := 1) (own := [("letter", 2)]) (g := gName 2) rfl nd rfl rfl (sw_true rfl rfl rfl (by decide +kernel)) (pi_str (pv 0)) (blkOk_by (own := [("letter", 2)]) (N := ["name", "codes", "letter", "code"]) (sc := defScope s_name_bits) (by decide +kernel))
         (fun _ _ _ _ _ => pg_name (i := 2) nd rfl (Or.inl rfl)) (fun _ _ _ _ _ => pts_nil) (fun _ _ _ _ _ => by
           show PE _ _ (tOp (rI0 fun i j => V.int (i + j)) (tBM K "str" (fun x xs H Q => ∃ a b, x = V.str a ∧ xs = [V.str b] ∧ Q (V.int (Txt.find a b)) H) (tC (V.str "abcdefghijklmnopqrstuvwxyz")) (tCons (tVar 2) tNil)) (tC (V.int 1)))
           refine pe_op op_add ?_ pe_int
           apply pe_bm PySem.F.plainAttrs_str PySem.F.slot_str_find PySem.F.type_str_find mt_find
           · exact pe_glob (v := .str "abcdefghijklmnopqrstuvwxyz") (by rfl) gL ⟨_, rfl⟩
           · exact pa_cons (pv 2) pa_nil)
     apply pss_one
     exact ps_ret (pe_join pe_str (pe_lc (own := [("code", 3)]) (g := gName 3) rfl nd (pi_list (pe_lst (StX.pa_star (pv 1) (pa_cons pe_int pa_nil)))) (blkOk_by (own := [("code", 3)]) (N := ["name", "codes", "letter", "code"]) (sc := defScope s_name_bits) (by decide +kernel))
         (fun _ _ _ _ _ => pg_name (i := 3) nd rfl (Or.inl rfl)) (fun _ _ _ _ _ => pts_nil) (fun _ _ _ _ _ => pe_call GD hr rfl gD FD.kp bD .nil pass0 (pa_cons (pv 3) (pa_cons (pe_glob (v := .int 5) (by rfl) g5 ⟨_, rfl⟩) pa_nil)))))
    case right =>
      refine ⟨_, rfl, _, rfl, fun D hD => ?_⟩
      refine lc_it walk_str (fun i H' => H' = upd H D (.lst (((t.take i).map (· - 96)).map fun n => V.int ((n : Nat) : Int)))) rfl (fun _ _ _ _ => trivial) ?_ ?_
      · rintro i x H' H2 hi rfl ⟨rfl, c, hc, rfl⟩
        have hc2 : t[i]? = some c := by
          rw [← sT_cps t, Array.getElem?_toList]
          exact hc
        have hm := ht c (List.mem_of_getElem? hc2)
        refine ⟨rfl, yesIf ⟨rfl, _, rfl, _, _, rfl, rfl, _, _, rfl, rfl, _, upd_same, ?_, ?_⟩⟩
        · rw [List.length_map, List.length_map]
          exact Nat.lt_of_le_of_lt (List.length_take_le' _ _) (Nat.lt_of_le_of_lt hl (by decide))
        · rw [upd_upd, take_snoc hc2, List.map_append, List.map_append, find_let c (by omega) hm.1]
          have e1 : ((c - 97 : Nat) : Int) + 1 = ((c - 96 : Nat) : Int) := by omega
          exact congrArg (fun u : Int => upd H D (.lst (((t.take i).map (· - 96)).map (fun n => V.int ((n : Nat) : Int)) ++ [V.int u]))) e1
      · rintro H' rfl
        have eT : (sT t).cps.size = t.length := sT_len t
        rw [eT, List.take_length]
        refine ⟨⟨_, rfl⟩, ?_⟩
        have lm : (t.map (· - 96)).length ≤ 8 := by rw [List.length_map]; exact hl
        have nm : ∀ n ∈ t.map (· - 96), n < 32 := fun n hn => by
          obtain ⟨c, hc, rfl⟩ := List.mem_map.mp hn
          have := ht c hc
          show c - 96 < 32
          omega
        have hW := nameW_eq t
        generalize t.map (· - 96) = L at *
        refine ⟨_, rfl, D, _, rfl, .inr (SqL.of upd_same), ?_, fun p hp => ⟨p, rfl, ⟨_, SqL.of upd_same⟩, fun D2 hD2 => ?_⟩⟩
        · rw [List.length_append, List.length_map]
          exact sl_of (show L.length + 1 ≤ 100000 by omega)
        have s2 := ((same_new (o := .lst (L.map fun n => V.int ((n : Nat) : Int))) hD).trans (same_new (o := .lst ((L.map fun n => V.int ((n : Nat) : Int)) ++ [V.int 0])) hp))
        have e2 : (L.map fun n => V.int ((n : Nat) : Int)) ++ [V.int 0] = (L ++ [0]).map fun n => V.int ((n : Nat) : Int) := by rw [List.map_append]; rfl
        have epp : (upd (upd H D (.lst (L.map fun n => V.int ((n : Nat) : Int)))) p (.lst ((L.map fun n => V.int ((n : Nat) : Int)) ++ [V.int 0]))) p = some (.lst ((L ++ [0]).map fun n => V.int ((n : Nat) : Int))) := by rw [upd_same, e2]
        have nm0 : ∀ n ∈ L ++ [0], n < 32 := fun n hn => by
          rcases List.mem_append.mp hn with hn | hn
          · exact nm n hn
          · rw [List.mem_singleton] at hn
            omega
        have l0 : (L ++ [0]).length ≤ 9 := by rw [List.length_append]; exact Nat.succ_le_succ lm
        obtain ⟨H3, hH3⟩ : ∃ H3, H3 = upd (upd H D (.lst (L.map fun n => V.int ((n : Nat) : Int)))) p (.lst ((L.map fun n => V.int ((n : Nat) : Int)) ++ [V.int 0])) := ⟨_, rfl⟩
        rw [← hH3] at s2 epp hD2
        obtain ⟨N, hN⟩ : ∃ N, N = L ++ [0] := ⟨_, rfl⟩
        rw [← hN] at epp nm0 l0 hW
        clear e2
        rw [← hH3]
        refine lc_list (K := K) (a := p) (xs := N.map fun n => V.int ((n : Nat) : Int)) (fun i H' => H' = upd H3 D2 (.lst (((N.take i).map fun n => sT (bT (digs n 5))).map V.str))) rfl (fun i H' _ e => SqL.of (by rw [e]; exact same_new hD2 _ _ epp)) ?_ ?_
        · rintro i x H' hi rfl
          obtain ⟨n, hn, rfl⟩ := nums_at hi
          refine ⟨rfl, yesIf ⟨_, rfl, n, 5, rfl, nm0 n (List.mem_of_getElem? hn), by decide, by decide, _, upd_same, ?_, ?_⟩⟩
          · rw [List.length_map, List.length_map]
            exact Nat.lt_of_le_of_lt (List.length_take_le' _ _) (Nat.lt_of_le_of_lt l0 (by decide))
          · rw [upd_upd, take_snoc hn, List.map_append, List.map_append]
            rfl
        · rintro H' rfl
          rw [List.length_map, List.take_length]
          refine ⟨"", D2, N.map (fun n => sT (bT (digs n 5))), rfl, rfl, .inl (SqL.of upd_same), ?_, ?_⟩
          · rw [sum_le, show ("" : Str).length = 0 from rfl, Nat.mul_zero, Nat.add_zero]
            omega
          · have j := join_sT (N.map fun n => bT (digs n 5))
            rw [List.map_map] at j
            have j : Txt.join "" (N.map fun n => sT (bT (digs n 5))) = _ := j
            rw [j, ← hW]
            exact k _ (s2.trans (same_new hD2))
end
/-! ## leaps written -/
def leapT (n : Int) (half : Nat) : Nat := (if 0 ≤ n then n else n + 2 * half).toNat
def leapW (wd : Str) (n : Int) : List Bool := if wd = "short" then false :: digs (leapT n 128) 8 else true :: digs (leapT n 2147483648) 32
def LeapOk (wd : Str) (n : Int) : Prop := (wd = "short" ∧ -128 ≤ n ∧ n < 128) ∨ (wd = "long" ∧ -2147483648 ≤ n ∧ n < 2147483648)
def spLpW (K : PySem.W.Frag) : Sp := fun vs H Q _ => ∃ (a : Addr) (wd : Str) (n : Int), vs = [.ref a] ∧ SqT K H a [.str wd, .int n] ∧ LeapOk wd n ∧ Q (.str (sT (bT (leapW wd n)))) H
theorem pre0 (D : List Bool) : sT [48] ++ sT (bT D) = sT (bT (false :: D)) := sT_ap [48] _
theorem pre1 (D : List Bool) : sT [49] ++ sT (bT D) = sT (bT (true :: D)) := sT_ap [49] _
theorem leapT_lt {n : Int} {h : Nat} (h1 : -(h : Int) ≤ n) (h2 : n < h) : leapT n h < 2 * h := by
  unfold leapT
  split <;> omega
section
variable {P : Program} {w : World} {K : PySem.W.Frag} {mg : Str → Option Value} {base : Heap}
theorem sc_lpw : FnScope ["leap", "many", "half", "told"] ["leap"] (defScope s_leap_bits) := ⟨rfl, rfl, rfl, by decide +kernel, rfl, by decide +kernel, by decide +kernel⟩
theorem ok_lpw {CX : CXT} {f fD : Addr} {fd fdD : FuncData} (F : FnP K "leap_bits" s_leap_bits f fd) (FD : FnP K "digits" s_digits fD fdD) (gD : mg "digits" = some (.ref fD)) (L : LpF K w mg) : FnOk P w K mg base CX 2 f fd ["leap"] (spLpW K) := by
  have GD : FnOk P w K mg base CX0 1 fD fdD ["number", "many"] spDg := ok_dg FD
  have bD : Binds K fdD ["number", "many"] [] := FD.bindsN fun _ _ _ _ _ _ us hl => match us, hl with | [_, _], _ => rfl
  obtain ⟨q, t1, t2, gq, d1, d2, q1, q2⟩ := L.lp
  refine F.ok sc_lpw (fun vs H Q E h => ?_) (fun cdv A outer s H vs Q E hr h => ?_)
  · obtain ⟨a, wd, n, rfl, _⟩ := h
    rfl
  · obtain ⟨a, wd, n, rfl, hS, ok, k⟩ := h
    have nd := sc_lpw.nd
    apply Exists.intro
    apply And.intro
    case left =>
     apply PSs.nox
     apply pss_cons
     · exact ps_asg (pe_ix ix_kdict (pe_glob (v := .ref q) (by rfl) gq rfl) (pe_ix ix_seq (pv 0) pe_int (fun _ _ => rfl)) (fun _ _ => rfl)) (pg_tup rfl (pgs_cons (pg_name (i := 1) nd rfl (Or.inl rfl)) (pgs_cons (pg_name (i := 2) nd rfl (Or.inl rfl)) pgs_nil)))
     apply C8.pss_cut
     · exact ps_set (i := 3) nd rfl (.inl rfl) (pe_ifExp (pt_cmpR op_ge (pe_ix ix_seq (pv 0) pe_int (fun _ _ => rfl)) pe_int (nomark _)) (pe_ix ix_seq (pv 0) pe_int (fun _ _ => rfl)) (pe_op op_add (pe_ix ix_seq (pv 0) pe_int (fun _ _ => rfl)) (pe_op op_mul pe_int (pv 2))))
     apply pss_one
     exact ps_ret (pe_op op_add_str (pe_ifExp (pt_cmpR op_eq (pe_ix ix_seq (pv 0) pe_int (fun _ _ => rfl)) pe_str (nomark _)) pe_str pe_str) (pe_call GD hr rfl gD FD.kp bD .nil pass0 (pa_cons (pv 3) (pa_cons (pv 1) pa_nil))))
    case right =>
      obtain ⟨m, hf, t, hd, hq, hm1, hm2, hlo, hb, hw⟩ : ∃ (m hf : Nat) (t : Addr), KDct K w q wd (.ref t) ∧ (∀ H, SqT K H t [.int (m : Int), .int (hf : Int)]) ∧ 1 ≤ m ∧ m ≤ 64 ∧ -(hf : Int) ≤ n ∧ leapT n hf < 2 ^ m ∧ (if wd = "short" then sT [48] else sT [49]) ++ sT (bT (digs (leapT n hf) m)) = sT (bT (leapW wd n)) := by
        rcases ok with ⟨rfl, h1, h2⟩ | ⟨rfl, h1, h2⟩
        · refine ⟨8, 128, t1, d1, q1, by decide, by decide, h1, ?_, ?_⟩
          · exact leapT_lt (h := 128) h1 h2
          · unfold leapW
            rw [if_pos rfl, if_pos rfl]
            exact pre0 _
        · refine ⟨32, 2147483648, t2, d2, q2, by decide, by decide, h1, ?_, ?_⟩
          · exact leapT_lt (h := 2147483648) h1 h2
          · have ne : ¬ ("long" : Str) = "short" := by decide +kernel
            unfold leapW
            rw [if_neg ne, if_neg ne]
            exact pre1 _
      refine ⟨_, rfl, .inr (.inl ⟨_, _, _, _, rfl, rfl, hS, rfl, q, wd, _, rfl, rfl, hd, t, _, rfl, hq _, rfl, _, _, rfl, _, _, rfl, rfl, ?_⟩)⟩
      refine ⟨fun σ H' => H' = H ∧ σ = [some (.ref a), some (.int (m : Int)), some (.int (hf : Int)), some (.int ((leapT n hf : Nat) : Int))], ?_, ?_⟩
      · refine ⟨_, rfl, .inr (.inl ⟨_, _, _, _, rfl, rfl, hS, rfl, _, _, rfl, rfl, _, rfl, ?_⟩)⟩
        refine ite2 (fun c => ?_) (fun c => ?_)
        · have c : 0 ≤ n := of_decide_eq_true c
          have e : n = ((leapT n hf : Nat) : Int) := by unfold leapT; rw [if_pos c]; omega
          exact ⟨_, rfl, .inr (.inl ⟨_, _, _, _, rfl, rfl, hS, rfl, rfl, congrArg (fun u : Int => [some (V.ref a), some (V.int (m : Int)), some (V.int (hf : Int)), some (V.int u)]) e⟩)⟩
        · have c : ¬ 0 ≤ n := fun z => c (decide_eq_true z)
          have e : n + 2 * (hf : Int) = ((leapT n hf : Nat) : Int) := by unfold leapT; rw [if_neg c]; omega
          exact ⟨_, rfl, .inr (.inl ⟨_, _, _, _, rfl, rfl, hS, rfl, _, rfl, _, _, rfl, rfl, .inl ⟨by decide, by decide⟩, _, _, rfl, rfl, rfl, congrArg (fun u : Int => [some (V.ref a), some (V.int (m : Int)), some (V.int (hf : Int)), some (V.int u)]) e⟩)⟩
      · rintro σ H' ⟨rfl, rfl⟩
        have len : (sT [48]).length + (sT (bT (digs (leapT n hf) m))).length ≤ sizeLine := sl_of (by rw [sT_len, sT_len, bT_len, digs_len]; show 1 + m ≤ 100000; omega)
        refine ⟨_, rfl, .inr (.inl ⟨_, _, _, _, rfl, rfl, hS, rfl, rfl, _, rfl, ?_⟩)⟩
        by_cases c : wd = "short"
        · rw [if_pos c] at hw
          rw [decide_eq_true (congrArg V.str c), zero_eq]
          refine iteT ⟨_, rfl, _, rfl, leapT n hf, m, rfl, hb, hm1, hm2, _, _, rfl, rfl, len, ?_⟩
          rw [show (⟨#[48]⟩ : Str) ++ sT (bT (digs (leapT n hf) m)) = sT (bT (leapW wd n)) from hw]
          exact k
        · rw [if_neg c] at hw
          rw [decide_eq_false (fun z => c (by injection z)), one_eq]
          refine iteF ⟨_, rfl, _, rfl, leapT n hf, m, rfl, hb, hm1, hm2, _, _, rfl, rfl, len, ?_⟩
          rw [show (⟨#[49]⟩ : Str) ++ sT (bT (digs (leapT n hf) m)) = sT (bT (leapW wd n)) from hw]
          exact k
end
/-! ## the number of registers -/
def BadReg (H : Hp) (x : V) : Prop := (∃ i : Int, x = .int i ∧ (i < 6 ∨ 9 < i)) ∨ OtV H x
def spNeedR (C : Addr) : Sp := fun vs H Q E => ∃ x, vs = [x] ∧ ((∃ r : Nat, x = .int (r : Int) ∧ 6 ≤ r ∧ r ≤ 9 ∧ Q .non H) ∨ (BadReg H x ∧ E (.ref C) none H))
section
variable {P : Program} {w : World} {K : PySem.W.Frag} {mg : Str → Option Value} {base : Heap}
theorem sc_needr : FnScope ["registers"] ["registers"] (defScope s_need_registers) := ⟨rfl, rfl, rfl, by decide +kernel, rfl, by decide +kernel, by decide +kernel⟩
theorem ok_needr {f fN C : Addr} {fd fdN : FuncData} {t6 t9 : Tok} (F : FnP K "need_registers" s_need_registers f fd) (FN : FnP K "is_number" s_is_number fN fdN) (gN : mg "is_number" = some (.ref fN)) (G : NkF K mg) (g6 : mg "LEAST_REGISTERS" = some (.int 6 t6)) (g9 : mg "MOST_REGISTERS" = some (.int 9 t9)) (B : PlnX K mg "BadRegisters" C) :
    FnOk P w K mg base (L2.CX P w) 2 f fd ["registers"] (spNeedR C) := by
  have GN : FnOk P w K mg base CX0 1 fN fdN ["thing"] spNum := ok_is_number FN G
  have bN : Binds K fdN ["thing"] [] := FN.bindsN fun _ _ _ _ _ _ us hl => match us, hl with | [_], _ => rfl
  refine F.ok sc_needr (fun vs H Q E h => ?_) (fun cdv A outer s H vs Q E hr h => ?_)
  · obtain ⟨x, rfl, _⟩ := h
    rfl
  · obtain ⟨x, rfl, h⟩ := h
    refine ⟨_, pss_one (ps_if (PW.pt (pw_or (pt_not (pt_val (pe_call GN hr rfl gN FN.kp bN .nil pass0 (pa_cons (pv 0) pa_nil)))) (pw_or1 (pt_not (pt_chain op_le op_le (pe_glob (v := .int 6) (by rfl) g6 ⟨_, rfl⟩) (pv 0) (pe_glob (v := .int 9) (by rfl) g9 ⟨_, rfl⟩))))))
        (pss_one (ps_raise rfl (takes_of rfl rfl rfl rfl) (pmk_own PySem.F.excBase_ValueError B.x B.g B.o.kC (raises_own B.o.exC B.o.tyC) rfl))) pss_nil), ?_⟩
    rcases h with ⟨r, rfl, h6, h9, q⟩ | ⟨⟨i, rfl, hi⟩ | ho, q⟩
    · refine ⟨_, rfl, _, rfl, .inl ⟨_, rfl, _, rfl, iteF ⟨_, rfl, _, _, rfl, rfl, _, rfl, ?_⟩⟩⟩
      rw [decide_eq_true (show (6 : Int) ≤ (r : Int) by omega)]
      refine iteT ⟨_, _, rfl, rfl, _, rfl, ?_⟩
      rw [decide_eq_true (show (r : Int) ≤ 9 by omega)]
      exact iteF q
    · refine ⟨_, rfl, _, rfl, .inl ⟨_, rfl, _, rfl, iteF ⟨_, rfl, _, _, rfl, rfl, _, rfl, ?_⟩⟩⟩
      by_cases c : (6 : Int) ≤ i
      · rw [decide_eq_true c]
        refine iteT ⟨_, _, rfl, rfl, _, rfl, ?_⟩
        rw [decide_eq_false (show ¬ i ≤ 9 by omega)]
        exact iteT q
      · rw [decide_eq_false c]
        exact iteF ⟨_, rfl, iteT q⟩
    · exact ⟨_, rfl, _, rfl, .inr ⟨ho, _, rfl, iteT (iteT q)⟩⟩
end
/-! ## rules that mention X.K, with K told (for comprehensions) -/
theorem ix_seqK {X : Cx} {K : PySem.W.Frag} (e : X.K = K := by rfl) : IxR X (rIx K) := by
  subst e
  exact ix_seq
def rLenK (K : PySem.W.Frag) : List V → Hp → VK → Prop := fun xs H Q => ∃ x n, xs = [x] ∧ LenV K x H n ∧ Q (.int n) H
theorem call_lenK {X : Cx} {K : PySem.W.Frag} (e : X.K = K := by rfl) : CallR X (.builtin "len") (rLenK K) := by
  subst e
  exact call_len
theorem call_isiK {X : Cx} {K : PySem.W.Frag} (e : X.K = K := by rfl) : CallR X (.builtin "isinstance") (rIsi K) := by
  subst e
  exact call_isi
/-! ## data judged -/
mutual
inductive TxD : PyData → Prop
  | non : TxD .none
  | bl (b : Bool) : TxD (.bool b)
  | int (i : Int) : TxD (.int i)
  | str {z : Str} : tx z.cps.toList → TxD (.str z)
  | lst {ds : List PyData} : TxA ds → TxD (.list ds)
  | tup {ds : List PyData} : TxA ds → TxD (.tuple ds)
  | dic : TxD (.dict [])
inductive TxA : List PyData → Prop
  | nil : TxA []
  | cons {d : PyData} {ds : List PyData} : TxD d → TxA ds → TxA (d :: ds)
end
theorem TxA.get : ∀ {ds : List PyData} {i : Nat} {d : PyData}, TxA ds → ds[i]? = some d → TxD d
  | _, _, _, .nil, h => by simp at h
  | _, 0, _, .cons h _, e => by
    simp at e
    subst e
    exact h
  | _, i + 1, _, .cons _ t, e => t.get (i := i) (by simpa using e)
theorem TxD.tupA {ds : List PyData} (h : TxD (.tuple ds)) : TxA ds := by
  cases h
  assumption
theorem TxD.txs {z : Str} (h : TxD (.str z)) : tx z.cps.toList := by
  cases h
  assumption
theorem Room.u101 {k : Nat} {A : Around} (r : Room k A) : A.units + 101 < cLine := by have := r.un; omega
theorem iteNe {a b : V} {A B : Prop} (e : a = b) (h : B) : if (!decide (a = b)) = true then A else B := by
  rw [decide_eq_true e]
  exact iteF h
theorem iteNt {a b : V} {A B : Prop} (e : a ≠ b) (h : A) : if (!decide (a = b)) = true then A else B := by
  rw [decide_eq_false e]
  exact iteT h
theorem iteN0 {A B : Prop} (h : A) : if (!false) = true then A else B := iteT h
abbrev anyA : Addr → Prop := fun _ => True
def numD : PyData → Bool
  | .int _ => true
  | _ => false
def strD (f : List Nat → Bool) : PyData → Bool
  | .str z => f z.cps.toList
  | _ => false
section
variable {K : PySem.W.Frag} {G : Addr → Prop} {H : Hp}
theorem dt_tup {d : PyData} {v : V} (h : Dt G H v d) : (∃ a xs ds, v = .ref a ∧ d = .tuple ds ∧ H a = some (.tup xs) ∧ DtA G H xs ds) ∨ ((∃ t, TyX K H v t ∧ PySem.W.kitOne K t (.type "tuple") = some false) ∧ ∀ ds, d ≠ .tuple ds) := by
  cases h with
  | non => exact .inr ⟨⟨_, .base .non, kit_ty (by decide +kernel)⟩, fun _ z => by cases z⟩
  | bl b => exact .inr ⟨⟨_, .base (.bl b), kit_ty (by decide +kernel)⟩, fun _ z => by cases z⟩
  | int i => exact .inr ⟨⟨_, .base (.int i), kit_ty (by decide +kernel)⟩, fun _ z => by cases z⟩
  | str z => exact .inr ⟨⟨_, .base (.str z), kit_ty (by decide +kernel)⟩, fun _ z => by cases z⟩
  | lst g e _ => exact .inr ⟨⟨_, .base (.lst e), kit_ty (by decide +kernel)⟩, fun _ z => by cases z⟩
  | tup g e t => exact .inl ⟨_, _, _, rfl, rfl, e, t⟩
  | dic g e => exact .inr ⟨⟨_, .base (.dK e), kit_ty (by decide +kernel)⟩, fun _ z => by cases z⟩
theorem dt_str {d : PyData} {v : V} (h : Dt G H v d) : (∃ z, v = .str z ∧ d = .str z) ∨ (NotStr K H v ∧ ∀ z, d ≠ .str z) := by
  cases h with
  | non => exact .inr ⟨⟨_, .base .non, kit_ty (by decide +kernel)⟩, fun _ z => by cases z⟩
  | bl b => exact .inr ⟨⟨_, .base (.bl b), kit_ty (by decide +kernel)⟩, fun _ z => by cases z⟩
  | int i => exact .inr ⟨⟨_, .base (.int i), kit_ty (by decide +kernel)⟩, fun _ z => by cases z⟩
  | str z => exact .inl ⟨z, rfl, rfl⟩
  | lst g e _ => exact .inr ⟨⟨_, .base (.lst e), kit_ty (by decide +kernel)⟩, fun _ z => by cases z⟩
  | tup g e t => exact .inr ⟨⟨_, .base (.tup e), kit_ty (by decide +kernel)⟩, fun _ z => by cases z⟩
  | dic g e => exact .inr ⟨⟨_, .base (.dK e), kit_ty (by decide +kernel)⟩, fun _ z => by cases z⟩
theorem dt_num {d : PyData} {v : V} (h : Dt G H v d) : (∃ i, v = .int i ∧ d = .int i) ∨ (OtV H v ∧ numD d = false) := by
  cases h with
  | non => exact .inr ⟨.non, rfl⟩
  | bl b => exact .inr ⟨.bl b, rfl⟩
  | int i => exact .inl ⟨i, rfl, rfl⟩
  | str z => exact .inr ⟨.str z, rfl⟩
  | lst g e _ => exact .inr ⟨.lst e, rfl⟩
  | tup g e t => exact .inr ⟨.tup e, rfl⟩
  | dic g e => exact .inr ⟨.dic e, rfl⟩
end
/-- a function that judges data -/
def spDt (g : PyData → Bool) : Sp := fun vs H Q _ => ∃ (x : V) (d : PyData), vs = [x] ∧ Dt anyA H x d ∧ TxD d ∧ ∀ H', Same H H' → Q (.bl (g d)) H'
def Cal (P : Program) (w : World) (K : PySem.W.Frag) (mg : Str → Option Value) (base : Heap) (k : Nat) (x : Str) (ps : List Str) (sp : Sp) : Prop :=
  ∃ (f : Addr) (fd : FuncData), mg x = some (.ref f) ∧ PySem.W.keepIn K (.ref f) = true ∧ Binds K fd ps [] ∧ FnOk P w K mg base CX0 k f fd ps sp
/-- a dict of the module whose keys are texts: which are there -/
def KMem (K : PySem.W.Frag) (w : World) (a : Addr) (f : Str → Bool) : Prop := ∃ (es : Array DictEntry) (n : Nat), KDict K w a es n ∧ ∀ z, ∃ r, PySem.W.nsIn K a z = some r ∧ r.isSome = f z
def isLp (z : Str) : Bool := decide (z = "short") || decide (z = "long")
structure LpM (K : PySem.W.Frag) (w : World) (mg : Str → Option Value) : Prop where
  lp : ∃ p t1 t2, mg "LEAPS" = some (.ref p) ∧ KDct K w p "short" (.ref t1) ∧ KDct K w p "long" (.ref t2) ∧ (∀ H, SqT K H t1 [.int 8, .int 128]) ∧ (∀ H, SqT K H t2 [.int 32, .int 2147483648]) ∧ KMem K w p isLp
def lpOk (z : Str) (n : Int) : Bool := if z = "short" then decide (-128 ≤ n) && decide (n < 128) else decide (-2147483648 ≤ n) && decide (n < 2147483648)
def leapD : PyData → Bool
  | .tuple [.str z, .int n] => isLp z && lpOk z n
  | _ => false
section
variable {P : Program} {w : World} {K : PySem.W.Frag} {mg : Str → Option Value} {base : Heap}
theorem sc_is_leap : FnScope ["thing", "half"] ["thing"] (defScope s_is_leap) := ⟨rfl, rfl, rfl, by decide +kernel, rfl, by decide +kernel, by decide +kernel⟩
theorem ok_isleap {CX : CXT} {f : Addr} {fd : FuncData} (F : FnP K "is_leap" s_is_leap f fd) (c_is_number : Cal P w K mg base 1 "is_number" ["thing"] spNum) (G : NkF K mg) (L : LpM K w mg) (tup : mg "tuple" = none) : FnOk P w K mg base CX 2 f fd ["thing"] (spDt leapD) := by
  obtain ⟨f_is_number, fd_is_number, g_is_number, k_is_number, b_is_number, G_is_number⟩ := c_is_number
  obtain ⟨a_LEAPS, t1, t2, g_LEAPS, d1, d2, q1, q2, es, n, D_LEAPS, mem⟩ := L.lp
  refine F.ok sc_is_leap (fun vs H Q E h => ?_) (fun cdv A outer s H vs Q E hr h => ?_)
  · obtain ⟨x, d, rfl, _⟩ := h
    rfl
  · obtain ⟨x, d, rfl, hx, ht, k⟩ := h
    have nd := sc_is_leap.nd
    have k := k H (Same.refl H)
    apply Exists.intro
    apply And.intro
    case left =>
     apply PSs.nox
     apply pss_cons
     · exact (ps_if (PW.pt (pw_or (pt_not (pt_val (pe_callB call_isi (by rfl) G.isi (by decide +kernel) (pa_cons (pv 0) (pa_cons (pe_bltn (v := .ty "tuple") (by rfl) tup (by decide +kernel) rfl) pa_nil))))) (pw_or (pt_cmpR op_ne (pe_callB call_len (by rfl) G.len PySem.boot_len (pa_cons (pv 0) pa_nil)) pe_int (nomark _)) (pw_or (pt_not (pt_val (pe_callB call_isi (by rfl) G.isi (by decide +kernel) (pa_cons (pe_ix ix_seq (pv 0) pe_int (fun _ _ => rfl)) (pa_cons (pe_bltn (v := .ty "str") (by rfl) G.str (by decide +kernel) rfl) pa_nil))))) (pw_or1 (pt_cmpR (op_notIn_kd D_LEAPS) (pe_ix ix_seq (pv 0) pe_int (fun _ _ => rfl)) (pe_glob (v := .ref a_LEAPS) (by rfl) g_LEAPS rfl) (by rfl))))))) (pss_one (ps_ret pe_bl)) pss_nil)
     apply pss_cons
     · exact (ps_set (i := 1) nd rfl (.inl rfl) (pe_ix ix_seq (pe_ix ix_kdict (pe_glob (v := .ref a_LEAPS) (by rfl) g_LEAPS rfl) (pe_ix ix_seq (pv 0) pe_int (fun _ _ => rfl)) (fun _ _ => rfl)) pe_int (fun _ _ => rfl)))
     apply pss_one
     exact (ps_ret (pe_and (pe_call G_is_number (hr.mono (by decide)) rfl g_is_number k_is_number b_is_number .nil pass0 (pa_cons (pe_ix ix_seq (pv 0) pe_int (fun _ _ => rfl)) pa_nil)) (pe_one (pe_chain op_le op_lt (pe_un un_neg (pv 1)) (pe_ix ix_seq (pv 0) pe_int (fun _ _ => rfl)) (pv 1)))))
    case right =>
      rcases dt_tup (K := K) hx with ⟨a, xs, ds, rfl, rfl, ha, hA⟩ | ⟨⟨ty, h1, h2⟩, hn⟩
      · refine ⟨_, rfl, _, _, _, _, true, rfl, .ty "tuple", .base (.tup ha), kit_ty (by decide +kernel), _, rfl, iteF ?_⟩
        refine ⟨_, rfl, _, _, rfl, .inr ⟨_, SqT.of ha, rfl⟩, rfl, _, rfl, ?_⟩
        have hl := hA.length
        by_cases c2 : ds.length = 2
        · obtain ⟨d0, d1', rfl⟩ : ∃ d0 d1, ds = [d0, d1] := match ds, c2 with | [d0, d1], _ => ⟨d0, d1, rfl⟩
          cases hA with
          | cons hx0 hA =>
            cases hA with
            | cons hx1 hA =>
              cases hA
              refine iteNe rfl ?_
              refine ⟨_, rfl, .inr (.inl ⟨_, _, _, _, rfl, rfl, SqT.of ha, rfl, ?_⟩)⟩
              rcases dt_str (K := K) hx0 with ⟨z, rfl, rfl⟩ | ⟨⟨ty, h1, h2⟩, hn⟩
              · refine ⟨_, _, _, _, true, rfl, .ty "str", .base (.str _), kit_ty (by decide +kernel), _, rfl, iteF ?_⟩
                obtain ⟨r, hr1, hr2⟩ := mem z
                refine ⟨_, rfl, .inr (.inl ⟨_, _, _, _, rfl, rfl, SqT.of ha, rfl, z, r, rfl, rfl, hr1, _, rfl, ?_⟩)⟩
                rw [hr2]
                by_cases c : isLp z = true
                · rw [c]
                  refine iteF ?_
                  obtain ⟨hf, t, m, hd, hq, hok⟩ : ∃ (hf : Nat) (t : Addr) (m : Int), KDct K w a_LEAPS z (.ref t) ∧ (∀ H, SqT K H t [.int m, .int (hf : Int)]) ∧ ∀ n, lpOk z n = (decide (-(hf : Int) ≤ n) && decide (n < (hf : Int))) := by
                    unfold isLp at c
                    rw [Bool.or_eq_true, decide_eq_true_eq, decide_eq_true_eq] at c
                    rcases c with rfl | rfl
                    · exact ⟨128, t1, 8, d1, q1, fun n => by unfold lpOk; rw [if_pos rfl]; rfl⟩
                    · exact ⟨2147483648, t2, 32, d2, q2, fun n => by unfold lpOk; rw [if_neg (by decide +kernel)]; rfl⟩
                  refine ⟨_, rfl, .inr (.inl ⟨_, _, _, _, rfl, rfl, SqT.of ha, rfl, a_LEAPS, z, _, rfl, rfl, hd, .inr (.inl ⟨_, _, _, _, rfl, rfl, hq _, rfl, ?_⟩)⟩)⟩
                  refine ⟨_, rfl, .inr (.inl ⟨_, _, _, _, rfl, rfl, SqT.of ha, rfl, _, rfl, ?_⟩)⟩
                  rcases dt_num hx1 with ⟨n, rfl, rfl⟩ | ⟨ho, hn⟩
                  · refine .inl ⟨n, rfl, _, rfl, iteT ⟨_, rfl, _, rfl, _, rfl, .inr (.inl ⟨_, _, _, _, rfl, rfl, SqT.of ha, rfl, _, _, rfl, rfl, _, rfl, ?_⟩)⟩⟩
                    have k : Q (.bl (isLp z && lpOk z n)) H := k
                    rw [c, hok, Bool.true_and] at k
                    by_cases c1 : -(hf : Int) ≤ n
                    · rw [decide_eq_true c1] at k ⊢
                      refine iteT ⟨_, rfl, _, _, rfl, rfl, ?_⟩
                      exact k
                    · rw [decide_eq_false c1] at k ⊢
                      exact iteF k
                  · refine .inr ⟨ho, _, rfl, iteF ?_⟩
                    have e : leapD (.tuple [.str z, d1']) = false := by
                      cases d1' <;> first | rfl | cases hn
                    rw [e] at k
                    exact k
                · have c : isLp z = false := by simpa using c
                  rw [c]
                  refine iteN0 ?_
                  have e : leapD (.tuple [.str z, d1']) = false := by
                    cases d1' <;> first | rfl | (show (isLp z && _) = false; rw [c]; rfl)
                  rw [e] at k
                  exact k
              · refine ⟨_, _, _, _, false, rfl, .ty "str", h1, h2, _, rfl, iteT (iteT ?_)⟩
                have e : leapD (.tuple [d0, d1']) = false := by
                  cases d0 <;> first | rfl | exact absurd rfl (hn _)
                rw [e] at k
                exact k
        · refine iteNt (fun q => c2 (by injection q with q; omega)) ?_
          refine iteT ?_
          have e : leapD (.tuple ds) = false := by
            match ds, c2 with
            | [], _ => rfl
            | [y], _ => cases y <;> rfl
            | [_, _], c => exact absurd rfl c
            | y :: z :: _ :: _, _ => cases y <;> cases z <;> rfl
          rw [e] at k
          exact k
      · refine ⟨_, rfl, _, _, _, _, false, rfl, .ty "tuple", h1, h2, _, rfl, iteT (iteT ?_)⟩
        have e : leapD d = false := by
          cases d <;> first | rfl | exact absurd rfl (hn _)
        rw [e] at k
        exact k
end
/-! ## parts judged -/
def ixD : PyData → Bool
  | .int n => decide (0 ≤ n) && decide (n ≤ 2)
  | _ => false
def partsD (r : Nat) : PyData → Bool
  | .tuple ds => decide (ds.length ≤ 3) && (ds.map (strD (regB r))).all id
  | _ => false
def partD (r c : Nat) (d : PyData) : Bool :=
  if c = 114 then strD (regB r) d else if c = 99 then strD (regB r) d || strD slotB d else if c = 110 then numD d else if c = 119 then strD nameB d else if c = 107 then ixD d else if c = 108 then partsD r d else leapD d
theorem cps1 {k : Nat} {z : Str} (h : z.cps.toList = [k]) : z = sT [k] := by
  have e := sT_of z
  rw [h] at e
  exact e.symm
theorem let_eq (c : Nat) {k : Nat} {z : Str} (hz : z = sT [k]) : decide (V.str (sT [c]) = V.str z) = decide (c = k) := by
  subst hz
  apply decide_eq_decide.mpr
  constructor
  · intro h
    injection h with h
    have := sT_inj h
    injection this
  · intro h
    rw [h]
theorem strD_no {f : List Nat → Bool} {d : PyData} (h : ∀ z, d ≠ .str z) : strD f d = false := by
  cases d <;> first | rfl | exact absurd rfl (h _)
section
variable {K : PySem.W.Frag} {H : Hp} {x : V} {d : PyData} {Q : VK}
theorem txo_of {f : List Nat → Bool} (h : Dt anyA H x d) (t : TxD d) (k : ∀ H', Same H H' → Q (.bl (strD f d)) H') : spTxO K f [x] H Q C8.E0 := by
  rcases dt_str (K := K) h with ⟨z, rfl, rfl⟩ | ⟨hn, hne⟩
  · exact ⟨_, rfl, .inl ⟨z.cps.toList, by rw [sT_of], t.txs, k⟩⟩
  · rw [strD_no hne] at k
    exact ⟨_, rfl, .inr ⟨hn, k⟩⟩
theorem reg_of {r : Nat} (h : Dt anyA H x d) (t : TxD d) (k : ∀ H', Same H H' → Q (.bl (strD (regB r) d)) H') : spReg K [x, .int (r : Int)] H Q C8.E0 := by
  rcases dt_str (K := K) h with ⟨z, rfl, rfl⟩ | ⟨hn, hne⟩
  · exact ⟨_, r, rfl, .inl ⟨z.cps.toList, by rw [sT_of], t.txs, k⟩⟩
  · rw [strD_no hne] at k
    exact ⟨_, r, rfl, .inr ⟨hn, k⟩⟩
theorem num_of (h : Dt anyA H x d) (k : Q (.bl (numD d)) H) : spNum [x] H Q C8.E0 := by
  rcases dt_num h with ⟨n, rfl, rfl⟩ | ⟨ho, hn⟩
  · exact ⟨_, rfl, .inl ⟨n, rfl, k⟩⟩
  · rw [hn] at k
    exact ⟨_, rfl, .inr ⟨ho, k⟩⟩
end
theorem take_snoc2 {α : Type} {l : List α} {i : Nat} {a : α} (h : l[i]? = some a) : l.take (i + 1) = l.take i ++ [a] := by
  rw [List.take_succ, h]
  rfl
theorem DtA.at {G : Addr → Prop} {H : Hp} : ∀ {vs : List V} {ds : List PyData} {i : Nat} {x : V}, DtA G H vs ds → vs[i]? = some x → ∃ d, ds[i]? = some d ∧ Dt G H x d
  | _, _, _, _, .nil, e => by simp at e
  | _, _, 0, _, .cons h _, e => by
    simp at e
    subst e
    exact ⟨_, rfl, h⟩
  | _, _, i + 1, _, .cons _ t, e => t.at (i := i) (by simpa using e)
def spIsPt : Sp := fun vs H Q _ => ∃ (r c : Nat) (x : V) (d : PyData), vs = [.int (r : Int), .str (sT [c]), x] ∧ Dt anyA H x d ∧ TxD d ∧ ∀ H', Same H H' → Q (.bl (partD r c d)) H'
section
variable {P : Program} {w : World} {K : PySem.W.Frag} {mg : Str → Option Value} {base : Heap}
theorem sc_is_part : FnScope ["registers", "letter", "thing", "part"] ["registers", "letter", "thing"] (defScope s_is_part) := ⟨rfl, rfl, rfl, by decide +kernel, rfl, by decide +kernel, by decide +kernel⟩
theorem ok_ispart {CX : CXT} {f : Addr} {fd : FuncData} (F : FnP K "is_part" s_is_part f fd) (c_is_number : Cal P w K mg base 1 "is_number" ["thing"] spNum) (c_is_register : Cal P w K mg base 2 "is_register" ["thing", "registers"] (spReg K)) (c_is_slot : Cal P w K mg base 2 "is_slot" ["thing"] (spTxO K slotB)) (c_is_name : Cal P w K mg base 1 "is_name" ["thing"] (spTxO K nameB))
    (c_is_leap : Cal P w K mg base 2 "is_leap" ["thing"] (spDt leapD)) (G : NkF K mg) (tup : mg "tuple" = none) (m_all : mg "all" = none) : FnOk P w K mg base CX 3 f fd ["registers", "letter", "thing"] spIsPt := by
  obtain ⟨f_is_number, fd_is_number, g_is_number, k_is_number, b_is_number, G_is_number⟩ := c_is_number
  obtain ⟨f_is_register, fd_is_register, g_is_register, k_is_register, b_is_register, G_is_register⟩ := c_is_register
  obtain ⟨f_is_slot, fd_is_slot, g_is_slot, k_is_slot, b_is_slot, G_is_slot⟩ := c_is_slot
  obtain ⟨f_is_name, fd_is_name, g_is_name, k_is_name, b_is_name, G_is_name⟩ := c_is_name
  obtain ⟨f_is_leap, fd_is_leap, g_is_leap, k_is_leap, b_is_leap, G_is_leap⟩ := c_is_leap
  refine F.ok sc_is_part (fun vs H Q E h => ?_) (fun cdv A outer s H vs Q E hr h => ?_)
  · obtain ⟨r, c, x, d, rfl, _⟩ := h
    rfl
  · obtain ⟨r, c, x, d, rfl, hx, ht, k⟩ := h
    have nd := sc_is_part.nd
    apply Exists.intro
    apply And.intro
    case left =>
     apply PSs.nox
     apply pss_cons
     · exact (ps_if (pt_cmpR op_eq (pv 1) pe_str (nomark _)) (pss_one (ps_ret (pe_call G_is_register (hr.mono (by decide)) rfl g_is_register k_is_register b_is_register .nil pass0 (pa_cons (pv 2) (pa_cons (pv 0) pa_nil))))) pss_nil)
     apply pss_cons
     · exact (ps_if (pt_cmpR op_eq (pv 1) pe_str (nomark _)) (pss_one (ps_ret (pe_or (pe_call G_is_register (hr.mono (by decide)) rfl g_is_register k_is_register b_is_register .nil pass0 (pa_cons (pv 2) (pa_cons (pv 0) pa_nil))) (pe_one (pe_call G_is_slot (hr.mono (by decide)) rfl g_is_slot k_is_slot b_is_slot .nil pass0 (pa_cons (pv 2) pa_nil)))))) pss_nil)
     apply pss_cons
     · exact (ps_if (pt_cmpR op_eq (pv 1) pe_str (nomark _)) (pss_one (ps_ret (pe_call G_is_number (hr.mono (by decide)) rfl g_is_number k_is_number b_is_number .nil pass0 (pa_cons (pv 2) pa_nil)))) pss_nil)
     apply pss_cons
     · exact (ps_if (pt_cmpR op_eq (pv 1) pe_str (nomark _)) (pss_one (ps_ret (pe_call G_is_name (hr.mono (by decide)) rfl g_is_name k_is_name b_is_name .nil pass0 (pa_cons (pv 2) pa_nil)))) pss_nil)
     apply pss_cons
     · exact (ps_if (pt_cmpR op_eq (pv 1) pe_str (nomark _)) (pss_one (ps_ret (pe_and (pe_call G_is_number (hr.mono (by decide)) rfl g_is_number k_is_number b_is_number .nil pass0 (pa_cons (pv 2) pa_nil)) (pe_one (pe_chain op_le op_le pe_int (pv 2) pe_int))))) pss_nil)
     apply pss_cons
     · exact (ps_if (pt_cmpR op_eq (pv 1) pe_str (nomark _)) (pss_one (ps_ret (pe_and (pe_callB call_isi (by rfl) G.isi (by decide +kernel) (pa_cons (pv 2) (pa_cons (pe_bltn (v := .ty "tuple") (by rfl) tup (by decide +kernel) rfl) pa_nil))) (pe_and (pe_cmpR op_le (pe_callB call_len (by rfl) G.len PySem.boot_len (pa_cons (pv 2) pa_nil)) pe_int (nomark _)) (pe_one (pe_callB (cr_all rfl) (by rfl) m_all (by decide +kernel) (pa_cons (pe_lc (own := [("part", 3)]) (g := gName 3) rfl nd (pi_tup (pv 2)) (blkOk_by (own := [("part", 3)]) (N := ["registers", "letter", "thing", "part"]) (sc := defScope s_is_part) (by decide +kernel)) (fun _ _ _ _ _ => (pg_name (i := 3) nd rfl (Or.inl rfl))) (fun _ _ _ _ _ => pts_nil) (fun _ _ _ _ _ => (pe_call G_is_register (hr.mono (by decide)) rfl g_is_register k_is_register b_is_register .nil pass0 (pa_cons (pv 3) (pa_cons (pv 0) pa_nil))))) pa_nil))))))) pss_nil)
     apply pss_one
     exact (ps_ret (pe_call G_is_leap (hr.mono (by decide)) rfl g_is_leap k_is_leap b_is_leap .nil pass0 (pa_cons (pv 2) pa_nil)))
    case right =>
      unfold partD at k
      refine ⟨_, rfl, rfl, _, rfl, ?_⟩
      rw [let_eq c (cps1 (z := "r") (k := 114) (by decide +kernel))]
      refine ite2 (fun e => ?_) (fun e => ?_)
      · rw [if_pos (of_decide_eq_true e)] at k
        exact ⟨_, rfl, _, rfl, reg_of hx ht k⟩
      rw [if_neg (fun z => e (decide_eq_true z))] at k
      refine ⟨_, rfl, rfl, _, rfl, ?_⟩
      rw [let_eq c (cps1 (z := "c") (k := 99) (by decide +kernel))]
      refine ite2 (fun e => ?_) (fun e => ?_)
      · rw [if_pos (of_decide_eq_true e)] at k
        refine ⟨_, rfl, _, rfl, ?_⟩
        dsimp only [tNil]
        refine reg_of hx ht fun H1 s1 => ⟨_, rfl, ?_⟩
        cases e2 : strD (regB r) d with
        | true =>
          rw [e2, Bool.true_or] at k
          exact iteT (k _ s1)
        | false =>
          rw [e2, Bool.false_or] at k
          exact iteF ⟨_, rfl, txo_of (hx.same s1) ht fun H2 s2 => k _ (s1.trans s2)⟩
      rw [if_neg (fun z => e (decide_eq_true z))] at k
      refine ⟨_, rfl, rfl, _, rfl, ?_⟩
      rw [let_eq c (cps1 (z := "n") (k := 110) (by decide +kernel))]
      refine ite2 (fun e => ?_) (fun e => ?_)
      · rw [if_pos (of_decide_eq_true e)] at k
        exact ⟨_, rfl, num_of hx (k _ (Same.refl _))⟩
      rw [if_neg (fun z => e (decide_eq_true z))] at k
      refine ⟨_, rfl, rfl, _, rfl, ?_⟩
      rw [let_eq c (cps1 (z := "w") (k := 119) (by decide +kernel))]
      refine ite2 (fun e => ?_) (fun e => ?_)
      · rw [if_pos (of_decide_eq_true e)] at k
        exact ⟨_, rfl, txo_of hx ht k⟩
      rw [if_neg (fun z => e (decide_eq_true z))] at k
      refine ⟨_, rfl, rfl, _, rfl, ?_⟩
      rw [let_eq c (cps1 (z := "k") (k := 107) (by decide +kernel))]
      refine ite2 (fun e => ?_) (fun e => ?_)
      · rw [if_pos (of_decide_eq_true e)] at k
        have k := k _ (Same.refl _)
        refine ⟨_, rfl, ?_⟩
        dsimp only [tNil]
        refine num_of hx ⟨_, rfl, ?_⟩
        rcases dt_num hx with ⟨n, rfl, rfl⟩ | ⟨ho, hn⟩
        · refine iteT ⟨_, rfl, _, _, rfl, rfl, _, rfl, ?_⟩
          have k : Q (.bl (decide (0 ≤ n) && decide (n ≤ 2))) H := k
          by_cases c1 : (0 : Int) ≤ n
          · rw [decide_eq_true c1] at k ⊢
            exact iteT ⟨_, _, rfl, rfl, k⟩
          · rw [decide_eq_false c1] at k ⊢
            exact iteF k
        · rw [hn]
          have e2 : ixD d = false := by cases d <;> first | rfl | cases hn
          rw [e2] at k
          exact iteF k
      rw [if_neg (fun z => e (decide_eq_true z))] at k
      refine ⟨_, rfl, rfl, _, rfl, ?_⟩
      rw [let_eq c (cps1 (z := "l") (k := 108) (by decide +kernel))]
      refine ite2 (fun e => ?_) (fun e => ?_)
      · rw [if_pos (of_decide_eq_true e)] at k
        rcases dt_tup (K := K) hx with ⟨a, xs, ds, rfl, rfl, ha, hA⟩ | ⟨⟨ty, h1, h2⟩, hn⟩
        · refine ⟨_, rfl, _, _, _, _, true, rfl, .ty "tuple", .base (.tup ha), kit_ty (by decide +kernel), _, rfl, iteT ?_⟩
          refine ⟨_, rfl, _, _, rfl, .inr ⟨_, SqT.of ha, rfl⟩, _, _, rfl, rfl, _, rfl, ?_⟩
          have hl := hA.length
          have k : ∀ H', Same H H' → Q (.bl (decide (ds.length ≤ 3) && (ds.map (strD (regB r))).all id)) H' := k
          by_cases c3 : ds.length ≤ 3
          · rw [decide_eq_true c3] at k
            rw [decide_eq_true (show ((xs.length : Nat) : Int) ≤ 3 by omega)]
            refine iteT ⟨_, rfl, a, rfl, ⟨_, SqT.of ha⟩, fun D hD => ?_⟩
            refine lc_tup (K := K) (a := a) (xs := xs) (fun i H' => Same H H' ∧ H' D = some (.lst (((ds.map (strD (regB r))).take i).map V.bl))) ⟨same_new hD, upd_same⟩ (fun i H' _ h => SqT.of (h.1 _ _ ha)) ?_ ?_
            · rintro i y H' hi ⟨s1, e1⟩
              obtain ⟨dd, hdd, hy⟩ := hA.at hi
              refine ⟨rfl, yesIf ⟨_, rfl, _, rfl, ?_⟩⟩
              dsimp only [tNil]
              refine reg_of (hy.same s1) (ht.tupA.get hdd) fun H2 s2 => ⟨_, s2 _ _ e1, ?_, same_sub (s1.trans s2) hD, ?_⟩
              · rw [List.length_map]
                exact Nat.lt_of_le_of_lt (List.length_take_le' _ _) (by rw [List.length_map]; exact Nat.lt_of_le_of_lt c3 (by decide))
              · rw [upd_same, take_snoc2 (l := ds.map (strD (regB r))) (a := strD (regB r) dd) (by rw [List.getElem?_map, hdd]; rfl), List.map_append]
                rfl
            · rintro H' ⟨s1, e1⟩
              rw [hl, ← List.length_map (f := strD (regB r)), List.take_length] at e1
              exact ⟨D, _, rfl, SqL.of e1, k _ s1⟩
          · rw [decide_eq_false c3] at k
            rw [decide_eq_false (show ¬ ((xs.length : Nat) : Int) ≤ 3 by omega)]
            exact iteF (k _ (Same.refl _))
        · refine ⟨_, rfl, _, _, _, _, false, rfl, .ty "tuple", h1, h2, _, rfl, iteF ?_⟩
          have e2 : partsD r d = false := by cases d <;> first | rfl | exact absurd rfl (hn _)
          rw [e2] at k
          exact k _ (Same.refl _)
      rw [if_neg (fun z => e (decide_eq_true z))] at k
      exact ⟨_, rfl, _, _, rfl, hx, ht, k⟩
end
/-! ## zip of a text and a tuple -/
section
open PySem.Spec PyProof.Rows
def ItzS (K : PySem.W.Frag) (x : Str) (b : Addr) : It :=
  ⟨fun i H => i < x.cps.size ∧ ∃ (ys : List V) (y : V), SqT K H b ys ∧ ys[i]? = some y,
    fun i H v H' => ∃ (T : Addr) (c : Nat) (y : V), v = .ref T ∧ H T = none ∧ H' = upd H T (.tup [.str ⟨#[c]⟩, y]) ∧ x.cps[i]? = some c ∧ ∀ ys, SqT K H b ys → ys[i]? = some y,
    fun i H => ∃ ys : List V, SqT K H b ys ∧ i ≤ x.cps.size ∧ i ≤ ys.length ∧ (i = x.cps.size ∨ i = ys.length)⟩
theorem turn_zipS {P : Program} {w : World} {K : PySem.W.Frag} {elts : List Expr} {kk : Nat} {tpos : Pos} {x : Str} {t : Tok} {b z TI TO i1 i2 : Addr} (D : ZipSep2 z TI TO i1 i2 [i1] [i2, b]) (hbi : b ≠ i2) :
    Turn P w K (.Tuple elts kk tpos) (ItzS K x b) [z, TI, TO, i1, i2] z (fun i h => IsZip h z TI TO .none ∧ IsTupOf2 h TI (.ref i1) (.ref i2) ∧ (∃ a1 a2, IsTupOf2 h TO a1 a2) ∧ h.IsStrIter i1 (strIterType x) x t i ∧ h.IsTupleIter i2 b i) where
  mem := by simp
  obj := fun i h st c hc => by
    obtain ⟨hz, hTI, ⟨a1, a2, hTO⟩, ⟨o1, e1, _, d1⟩, ⟨o2, e2, _, d2⟩⟩ := st
    have e' : c = z ∨ c = TI ∨ c = TO ∨ c = i1 ∨ c = i2 := by simpa using hc
    rcases e' with q | q | q | q | q
    · rw [q]; exact ⟨_, hz, fun v q => nomatch q⟩
    · rw [q]; exact ⟨_, hTI, fun v q => nomatch q⟩
    · rw [q]; exact ⟨_, hTO, fun v q => nomatch q⟩
    · rw [q]; exact ⟨o1, e1, fun v q => by rw [d1] at q; cases q⟩
    · rw [q]; exact ⟨o2, e2, fun v q => by rw [d2] at q; cases q⟩
  keep := fun i h h' st k => by
    obtain ⟨hz, hTI, ⟨a1, a2, hTO⟩, ⟨o1, e1, r1⟩, h2⟩ := st
    exact ⟨k z (by simp) _ hz, k TI (by simp) _ hTI, ⟨a1, a2, k TO (by simp) _ hTO⟩, ⟨o1, k i1 (by simp) _ e1, r1⟩, h2.at fun o q => k i2 (by simp) o q⟩
  item := by
    intro X hP hw hK hc i pins s σ H E I hf st hg
    subst hP hw hK
    obtain ⟨hz, hTI, ⟨a1, a2, hTO⟩, h1, h2⟩ := st
    obtain ⟨hlt, ys, y, hqy, hy⟩ := hg
    obtain ⟨its2, rv2, p2, _⟩ := I.tuple hqy
    obtain ⟨u2, hu2, ru2⟩ := rv2.get hy
    have hzl : z < s.heap.objs.size := Heap.lt_size hz
    have hlt2 : i < its2.toArray.size := by
      have := (List.getElem?_eq_some_iff.mp hu2).1
      simpa using this
    refine wpAny_pyNext_zipD2_item D (Draws.text (by exact I.ok.hd hc) i1 x t) (Draws.tuple (by exact I.ok.hd hc) i2 b hbi its2.toArray) hz hTI hTO h1 ⟨h2, p2⟩ hlt hlt2 fun x1 x2 h' tk y1 y2 z' TO' d1 d2 hT hsz hk => ?_
    obtain ⟨c, uu, hcx, rfl⟩ := y1
    have e2 : x2 = u2 := by
      have : its2.toArray[i]? = some u2 := by simpa using hu2
      rw [this] at y2
      exact (Option.some.inj y2).symm
    subst e2
    refine ⟨_, rfl, wpAny_letOwnedTupleGo_zip (s := { s with heap := h', toks := tk }) z' fun h'' z'' sb => ?_⟩
    have hT2 : h''.get? s.heap.objs.size = some { cls := .type "tuple", data := .seq #[.str ⟨#[c]⟩ uu, x2] } := (sb.2 _ (Nat.ne_of_gt hzl)).trans hT
    have new : ObjOk X.prog X.w (upd H s.heap.objs.size (.tup [.str ⟨#[c]⟩, y])) h'' s.heap.objs.size (.tup [.str ⟨#[c]⟩, y]) :=
      ⟨by show 2 ≤ sizeLine; decide, [.str ⟨#[c]⟩ uu, x2], .cons ⟨_, rfl⟩ (.cons ru2 .nil), ⟨_, hT2, rfl, _, rfl⟩⟩
    have I1 : Inv X pins σ (upd H s.heap.objs.size (.tup [.str ⟨#[c]⟩, y])) { s with heap := h'', toks := tk } :=
      I.turnedNew (t' := tk) (ch := [z, TI, TO, i1, i2]) (fun c o hb q => (sb.2 c (fun q' => hb (by simp [q']))).trans (hk c o (fun q' => hb (by simp [q'])) (fun q' => hb (by simp [q'])) (fun q' => hb (by simp [q'])) (fun q' => hb (by simp [q'])) q)) hf (Nat.le_refl _) new
    refine ⟨.ref s.heap.objs.size, _, I1, rfl, ⟨_, c, y, rfl, I.hok.fresh (Nat.le_refl _), rfl, hcx, fun l hl => by rw [I.tuple_inj hl hqy]; exact hy⟩, ⟨z'', ?_, ⟨.str ⟨#[c]⟩ uu, x2, ?_⟩, ?_, ?_⟩, fun c hcm => ?_⟩
    · exact (sb.2 _ D.TIz).trans (hk _ _ D.TIz D.TITO D.TIi1 D.TIi2 hTI)
    · exact (sb.2 _ D.TOz).trans TO'
    · obtain ⟨o1, q1, r1⟩ := d1
      exact ⟨o1, (sb.2 _ (fun q => D.zi1 q.symm)).trans q1, r1⟩
    · exact d2.1.at fun o q => (sb.2 _ (fun q => D.zi2 q.symm)).trans q
    · have hlt : c < s.heap.objs.size := by
        have e' : c = z ∨ c = TI ∨ c = TO ∨ c = i1 ∨ c = i2 := by simpa using hcm
        rcases e' with q | q | q | q | q
        · rw [q]; exact hzl
        · rw [q]; exact Heap.lt_size hTI
        · rw [q]; exact Heap.lt_size hTO
        · rw [q]; obtain ⟨_, e1, _⟩ := h1; exact Heap.lt_size e1
        · rw [q]; obtain ⟨_, e2, _⟩ := h2; exact Heap.lt_size e2
      rw [upd_ne (Nat.ne_of_lt hlt)]
      exact (hf c hcm).1
  done := by
    intro X hP hw hK hc i pins s σ H E I hf st hg
    subst hP hw hK
    obtain ⟨hz, hTI, ⟨a1, a2, hTO⟩, h1, h2⟩ := st
    obtain ⟨ys, hqy, l1, l2, hend⟩ := hg
    obtain ⟨its2, rv2, p2, _⟩ := I.tuple hqy
    have e2 : its2.toArray.size = ys.length := by rw [List.size_toArray]; exact rv2.length.symm
    exact wpAny_pyNext_zipD2_end D (Draws.text (by exact I.ok.hd hc) i1 x t) (Draws.tuple (by exact I.ok.hd hc) i2 b hbi its2.toArray) hz hTI hTO h1 ⟨h2, p2⟩ l1 (by omega) (by omega) fun h' tk hk => ⟨rfl, I.turnedL (t' := tk) (ch := [z, TI, TO, i1, i2]) (fun c o hb q =>
      hk c o (fun q' => hb (by simp [q'])) (fun q' => hb (by simp [q'])) (fun q' => hb (by simp [q'])) (fun q' => hb (by simp [q'])) q) hf⟩
  self := fun A i s Q E st h => wpAny_pyIter_zip st.1 h
def iZipS (K : PySem.W.Frag) (ta : TA) : TI := fun σ H R => ta σ H fun vs H1 => ∃ x b ys, vs = [.str x, .ref b] ∧ SqT K H1 b ys ∧ R (ItzS K x b) H1
theorem pi_zipS {X : Cx} {e e2 : Expr} {ta : TA} {p pos tpos : Pos} {elts : List Expr} {kk : Nat} (hg : Gl X "zip") (hm : X.mg "zip" = none) (ha : PA X [e, e2] ta)
    (hs : starEach [e, e2] X.env = (false, eval e X.env) :: starEach [e2] X.env := by rfl) (hpl : (backTo pos (starEach [e2] X.env)).any (·.1) = false := by rfl) :
    PI X (.Tuple elts kk tpos) (.Call (.Name "zip" p) [e, e2] [] pos) (iZipS X.K ta) := by
  refine ⟨fun pins s σ H R I h => ?_⟩
  refine Call_ (ld_blt I hg hm PyProof.Rows.boot_zip (PyProof.Rows.callWith_type1 (thn (ha.run pos pins s σ H _ I h) fun us s1 ⟨vs, H1, I1, r1, q1⟩ => ?_) hs hpl))
  obtain ⟨x, b, ys, ex, hqy, q1⟩ := q1
  subst ex
  cases r1 with
  | cons r rr =>
    cases rr with
    | cons r' rr =>
      cases rr
      obtain ⟨t, rfl⟩ := r
      cases r'
      have fresh5 : ∀ c, c ∈ [s1.heap.objs.size + 4, s1.heap.objs.size + 2, s1.heap.objs.size + 3, s1.heap.objs.size, s1.heap.objs.size + 1] → FpOk X pins H1 c := fun c hcm => by
        have e' : c = s1.heap.objs.size + 4 ∨ c = s1.heap.objs.size + 2 ∨ c = s1.heap.objs.size + 3 ∨ c = s1.heap.objs.size ∨ c = s1.heap.objs.size + 1 := by simpa using hcm
        have hle : s1.heap.objs.size ≤ c := by
          rcases e' with z | z | z | z | z
          · rw [z]; exact Nat.le_add_right _ _
          · rw [z]; exact Nat.le_add_right _ _
          · rw [z]; exact Nat.le_add_right _ _
          · rw [z]; exact Nat.le_refl _
          · rw [z]; exact Nat.le_add_right _ _
        exact I1.fpOk hle (I1.hok.fresh hle)
      obtain ⟨its2, rv2, p2, _⟩ := I1.tuple hqy
      obtain ⟨o2, ho2, _⟩ := id p2
      refine zip_begins2 (begins_text x t) (begins_tuple b its2.toArray) trivial p2 fun h' hz hTI hTO g1 g2 hsz hk => wpAny_pyIter_zip hz ?_
      have I2 : Inv X pins σ H1 { s1 with heap := h' } := I1.kept (t' := s1.toks) hk
      have lb : b < s1.heap.objs.size := Heap.lt_size ho2
      exact ⟨s1.heap.objs.size + 4, [s1.heap.objs.size + 4, s1.heap.objs.size + 2, s1.heap.objs.size + 3, s1.heap.objs.size, s1.heap.objs.size + 1], _, _, H1, rfl, I2, turn_zipS (t := t) (zip_sep2 (fp1 := []) (fp2 := [b]) (fun c hc => nomatch hc) (fun c hc => by rw [List.mem_singleton.mp hc]; exact lb)) (Nat.ne_of_lt (Nat.lt_succ_of_lt lb)), ⟨hz, hTI, ⟨_, _, hTO⟩, ⟨_, g1, rfl, rfl⟩, ⟨_, g2, rfl, rfl⟩⟩, fresh5, q1⟩
theorem walk_zipS {K : PySem.W.Frag} {x : Str} {b : Addr} {ys : List V} {n : Nat} (hn : n = min x.cps.size ys.length) : Walk (ItzS K x b) n (fun H => SqT K H b ys) (YPair (fun i => x.cps[i]?.map fun c => V.str ⟨#[c]⟩) (fun i => ys[i]?)) := by
  subst hn
  refine ⟨fun i _ hi q => ⟨by omega, ys, ys[i]'(by omega), q, by simp [show i < ys.length by omega]⟩, fun _ q => ⟨ys, q, by omega, by omega, by omega⟩, fun i H v H' _ q y => ?_⟩
  obtain ⟨T, c, y, h1, h2, h3, h4, h5⟩ := y
  exact ⟨T, .str ⟨#[c]⟩, y, h1, h2, h3, by show (x.cps[i]?.map fun c => V.str ⟨#[c]⟩) = _; rw [h4]; rfl, h5 ys q⟩
end
/-! ## instructions judged -/
def rEqE (K : PySem.W.Frag) : R2 := fun x y H Q => ∃ a b xs, x = .ref a ∧ y = .ref b ∧ SqT K H a xs ∧ SqT K H b [] ∧ Q (.bl xs.isEmpty) H
theorem op_eqE {X : Cx} (hu : X.A.units < cLine) : OpR X (compareOp .Eq) (rEqE X.K) := by
  intro pins s σ H x y v u Q I rx ry h
  obtain ⟨a, b, xs, rfl, rfl, h1, h2, q⟩ := h
  cases rx
  cases ry
  obtain ⟨its, rv, p1, _⟩ := I.tuple h1
  obtain ⟨its2, rv2, p2, _⟩ := I.tuple h2
  cases rv2
  have r := SeqAt.RcAt.tuples (e := fun _ => true) (A := X.A) p1 p2 hu (fun j _ h2 => absurd h2 (Nat.not_lt_zero _))
  refine r _ _ _ _ ⟨.bl xs.isEmpty, H, I, ?_, q⟩
  show Value.bool _ = Value.bool _
  congr 1
  cases rv <;> simp
theorem cut1V {x : V} {xs : List V} : cutV (x :: xs) (some 1) none = xs ∧ ¬ (HT.sIx (x :: xs).length 0 (some 1) = 0 ∧ HT.sIx (x :: xs).length (x :: xs).length none = (x :: xs).length) := by
  have e1 : HT.sIx (x :: xs).length 0 (some 1) = 1 := by
    unfold HT.sIx
    simp
  have e2 : HT.sIx (x :: xs).length (x :: xs).length none = (x :: xs).length := rfl
  refine ⟨?_, fun z => by rw [e1] at z; exact absurd z.1 (by decide)⟩
  unfold cutV
  rw [e1, e2]
  simp
theorem iteN1 {A B : Prop} (h : B) : if (!true) = true then A else B := iteF h
theorem dtA_cases {G : Addr → Prop} {H : Hp} {xs : List V} {ds : List PyData} (h : DtA G H xs ds) : (xs = [] ∧ ds = []) ∨ ∃ x0 d0 xs' ds', xs = x0 :: xs' ∧ ds = d0 :: ds' ∧ Dt G H x0 d0 ∧ DtA G H xs' ds' := by
  cases h with
  | nil => exact .inl ⟨rfl, rfl⟩
  | cons a b => exact .inr ⟨_, _, _, _, rfl, rfl, a, b⟩
def isWd (z : Str) : Bool := decide (z ∈ wordsL)
def shapeT (z : Str) : List Nat := shapesT.getD (wordsL.idxOf z) []
def partsOk (r : Nat) (T : List Nat) (ds : List PyData) : Bool := ((T.zip ds).map fun p => partD r p.1 p.2).all id
def copyOk (z : Str) (ds : List PyData) : Bool := !(decide (z = "copy")) || (!(strD slotB (ds.getD 0 .none)) || !(strD slotB (ds.getD 1 .none)))
def instrD (r : Nat) : PyData → Bool
  | .tuple (.str z :: ds) => isWd z && (decide (ds.length = (shapeT z).length) && (partsOk r (shapeT z) ds && copyOk z ds))
  | _ => false
theorem word_idx {z : Str} (h : isWd z = true) : wordsL.idxOf z < 26 ∧ wordsL.getD (wordsL.idxOf z) "" = z := by
  have hm : z ∈ wordsL := of_decide_eq_true h
  have hl := List.idxOf_lt_length_of_mem hm
  refine ⟨hl, ?_⟩
  rw [List.getD_eq_getElem?_getD, List.getElem?_eq_getElem hl, List.getElem_idxOf]
  rfl
structure ShF (K : PySem.W.Frag) (w : World) (mg : Str → Option Value) : Prop where
  sh : ∃ a, mg "SHAPES" = some (.ref a) ∧ (∀ c < 26, KDct K w a (wordsL.getD c "") (.str (sT (shapesT.getD c [])))) ∧ KMem K w a isWd
def CalX (P : Program) (w : World) (K : PySem.W.Frag) (mg : Str → Option Value) (base : Heap) (k : Nat) (x : Str) (ps : List Str) (sp : Sp) : Prop :=
  ∃ (f : Addr) (fd : FuncData), mg x = some (.ref f) ∧ PySem.W.keepIn K (.ref f) = true ∧ Binds K fd ps [] ∧ FnOk P w K mg base (L2.CX P w) k f fd ps sp
def spIsIn (C : Addr) : Sp := fun vs H Q E => ∃ y x, vs = [y, x] ∧ ((∃ (r : Nat) (d : PyData), y = .int (r : Int) ∧ 6 ≤ r ∧ r ≤ 9 ∧ Dt anyA H x d ∧ TxD d ∧ ∀ H', Same H H' → Q (.bl (instrD r d)) H') ∨ (BadReg H y ∧ E (.ref C) none H))
section
variable {P : Program} {w : World} {K : PySem.W.Frag} {mg : Str → Option Value} {base : Heap}
theorem sc_is_instruction : FnScope ["registers", "thing", "shape", "letter", "part"] ["registers", "thing"] (defScope s_is_instruction) := ⟨rfl, rfl, rfl, by decide +kernel, rfl, by decide +kernel, by decide +kernel⟩
theorem ok_isin {f C : Addr} {fd : FuncData} (F : FnP K "is_instruction" s_is_instruction f fd) (c_need_registers : CalX P w K mg base 2 "need_registers" ["registers"] (spNeedR C)) (c_is_part : Cal P w K mg base 3 "is_part" ["registers", "letter", "thing"] spIsPt) (c_is_slot : Cal P w K mg base 2 "is_slot" ["thing"] (spTxO K slotB))
    (G : NkF K mg) (S : ShF K w mg) (tup : mg "tuple" = none) (m_all : mg "all" = none) (m_zip : mg "zip" = none) : FnOk P w K mg base (L2.CX P w) 4 f fd ["registers", "thing"] (spIsIn C) := by
  obtain ⟨f_need_registers, fd_need_registers, g_need_registers, k_need_registers, b_need_registers, G_need_registers⟩ := c_need_registers
  obtain ⟨f_is_part, fd_is_part, g_is_part, k_is_part, b_is_part, G_is_part⟩ := c_is_part
  obtain ⟨f_is_slot, fd_is_slot, g_is_slot, k_is_slot, b_is_slot, G_is_slot⟩ := c_is_slot
  obtain ⟨a_SHAPES, g_SHAPES, shp, es, n, D_SHAPES, mem⟩ := S.sh
  refine F.ok sc_is_instruction (fun vs H Q E h => ?_) (fun cdv A outer s H vs Q E hr h => ?_)
  · obtain ⟨y, x, rfl, _⟩ := h
    rfl
  · obtain ⟨y, x, rfl, h⟩ := h
    have nd := sc_is_instruction.nd
    have hu1 := hr.units
    apply Exists.intro
    apply And.intro
    case left =>
     apply pss_cons
     · exact (ps_expr (pe_call G_need_registers (hr.mono (by decide)) rfl g_need_registers k_need_registers b_need_registers .nil (passes_call (takes_of rfl rfl rfl rfl) (fun _ _ _ _ h => h)) (pa_cons (pv 0) pa_nil)))
     apply PSs.nox
     apply pss_cons
     · exact (ps_if (PW.pt (pw_or (pt_not (pt_val (pe_callB call_isi (by rfl) G.isi (by decide +kernel) (pa_cons (pv 1) (pa_cons (pe_bltn (v := .ty "tuple") (by rfl) tup (by decide +kernel) rfl) pa_nil))))) (pw_or (pt_cmpR (op_eqE (Nat.lt_of_le_of_lt (Nat.le_add_right _ _) hu1)) (pv 1) (pe_tup pa_nil) (nomark _)) (pw_or (pt_not (pt_val (pe_callB call_isi (by rfl) G.isi (by decide +kernel) (pa_cons (pe_ix ix_seq (pv 1) pe_int (fun _ _ => rfl)) (pa_cons (pe_bltn (v := .ty "str") (by rfl) G.str (by decide +kernel) rfl) pa_nil))))) (pw_or1 (pt_cmpR (op_notIn_kd D_SHAPES) (pe_ix ix_seq (pv 1) pe_int (fun _ _ => rfl)) (pe_glob (v := .ref a_SHAPES) (by rfl) g_SHAPES rfl) (by rfl))))))) (pss_one (ps_ret pe_bl)) pss_nil)
     apply pss_cons
     · exact (ps_set (i := 2) nd rfl (.inl rfl) (pe_ix ix_kdict (pe_glob (v := .ref a_SHAPES) (by rfl) g_SHAPES rfl) (pe_ix ix_seq (pv 1) pe_int (fun _ _ => rfl)) (fun _ _ => rfl)))
     apply pss_cons
     · exact (ps_if (pt_cmpR op_ne (pe_callB call_len (by rfl) G.len PySem.boot_len (pa_cons (pv 1) pa_nil)) (pe_op op_add (pe_callB call_len_str (by rfl) G.len PySem.boot_len (pa_cons (pv 2) pa_nil)) pe_int) (nomark _)) (pss_one (ps_ret pe_bl)) pss_nil)
     apply pss_cons
     · exact (ps_if (pt_not (pt_val (pe_callB (cr_all rfl) (by rfl) m_all (by decide +kernel) (pa_cons (pe_lc (own := [("letter", 3), ("part", 4)]) (g := gTup K 2 (gCons (gName 3) (gCons (gName 4) gNil))) rfl nd (pi_zipS (by rfl) m_zip (pa_cons (pv 2) (pa_cons (pe_slice sl_tup (pv 1) (po_some pe_int) po_none) pa_nil))) (blkOk_by (own := [("letter", 3), ("part", 4)]) (N := ["registers", "thing", "shape", "letter", "part"]) (sc := defScope s_is_instruction) (by decide +kernel)) (fun _ _ _ _ _ => by exact (pg_tup rfl (pgs_cons (pg_name (i := 3) nd rfl (Or.inl rfl)) (pgs_cons (pg_name (i := 4) nd rfl (Or.inl rfl)) pgs_nil)))) (fun _ _ _ _ _ => pts_nil) (fun _ _ _ _ _ => (pe_call G_is_part (hr.mono (by decide)) rfl g_is_part k_is_part b_is_part .nil pass0 (pa_cons (pv 0) (pa_cons (pv 3) (pa_cons (pv 4) pa_nil)))))) pa_nil)))) (pss_one (ps_ret pe_bl)) pss_nil)
     apply pss_one
     exact (ps_ret (pe_or (pe_cmpR op_ne (pe_ix ix_seq (pv 1) pe_int (fun _ _ => rfl)) pe_str (nomark _)) (pe_or (pe_not (pe_call G_is_slot (hr.mono (by decide)) rfl g_is_slot k_is_slot b_is_slot .nil pass0 (pa_cons (pe_ix ix_seq (pv 1) pe_int (fun _ _ => rfl)) pa_nil))) (pe_one (pe_not (pe_call G_is_slot (hr.mono (by decide)) rfl g_is_slot k_is_slot b_is_slot .nil pass0 (pa_cons (pe_ix ix_seq (pv 1) pe_int (fun _ _ => rfl)) pa_nil)))))))
    case right =>
      rcases h with ⟨r, d, rfl, h6, h9, hx, ht, k⟩ | ⟨hb, q⟩
      · refine ⟨_, rfl, _, rfl, .inl ⟨r, rfl, h6, h9, ?_⟩⟩
        rcases dt_tup (K := K) hx with ⟨a, xs, ds, rfl, rfl, ha, hA⟩ | ⟨⟨ty, h1, h2⟩, hn⟩
        · refine ⟨_, rfl, _, _, _, _, true, rfl, .ty "tuple", .base (.tup ha), kit_ty (by decide +kernel), _, rfl, iteF ?_⟩
          refine ⟨_, rfl, (show 0 ≤ sizeLine by decide), fun p hp => ⟨a, p, xs, rfl, rfl, SqT.of (same_new hp _ _ ha), SqT.of upd_same, _, rfl, ?_⟩⟩
          have sp := same_new (o := .tup []) hp
          replace ha := sp _ _ ha
          replace hA := hA.same sp
          replace k := fun H' (s' : Same (upd H p (.tup [])) H') => k H' (sp.trans s')
          generalize upd H p (.tup []) = H1 at sp ha hA k
          clear hx sp hp
          have htA := ht.tupA
          rcases dtA_cases hA with ⟨rfl, rfl⟩ | ⟨x0, d0, xs, ds, rfl, rfl, hx0, hB⟩
          · exact iteT (iteT (k _ (Same.refl _)))
          · refine iteF ?_
            refine ⟨_, rfl, .inr (.inl ⟨_, _, _, _, rfl, rfl, SqT.of ha, atI_nat (j := 0) rfl, ?_⟩)⟩
            rcases dt_str (K := K) hx0 with ⟨z, rfl, rfl⟩ | ⟨⟨ty, h1, h2⟩, hn⟩
            · refine ⟨_, _, _, _, true, rfl, .ty "str", .base (.str _), kit_ty (by decide +kernel), _, rfl, iteF ?_⟩
              obtain ⟨r4, hr1, hr2⟩ := mem z
              refine ⟨_, rfl, .inr (.inl ⟨_, _, _, _, rfl, rfl, SqT.of ha, atI_nat (j := 0) rfl, z, r4, rfl, rfl, hr1, _, rfl, ?_⟩)⟩
              rw [hr2]
              have k : ∀ H', Same H1 H' → Q (.bl (isWd z && (decide (ds.length = (shapeT z).length) && (partsOk r (shapeT z) ds && copyOk z ds)))) H' := k
              cases hw : isWd z with
              | false =>
                refine iteN0 ?_
                rw [hw, Bool.false_and] at k
                exact k _ (Same.refl _)
              | true =>
                rw [hw] at k
                refine iteF ?_
                obtain ⟨hi, hz⟩ := word_idx hw
                have kd := shp _ hi
                rw [hz] at kd
                have kd : KDct K w a_SHAPES z (.str (sT (shapeT z))) := kd
                have hcopy : z = "copy" → shapeT z = [99, 99] := fun e => by rw [e]; decide +kernel
                have hTl : (shapeT z).length ≤ 4 := shape_len _ hi
                generalize shapeT z = T at kd k hcopy hTl
                have hl := hB.length
                refine ⟨_, rfl, .inr (.inl ⟨_, _, _, _, rfl, rfl, SqT.of ha, atI_nat (j := 0) rfl, a_SHAPES, z, _, rfl, rfl, kd, ?_⟩)⟩
                refine ⟨_, rfl, _, _, rfl, .inr ⟨_, SqT.of ha, rfl⟩, _, rfl, _, rfl, sl_of (by rw [sT_len]; omega), _, _, rfl, rfl, rfl, _, rfl, ?_⟩
                rw [sT_len]
                by_cases cl : ds.length = T.length
                · refine iteNe (congrArg V.int (show (((V.str z :: xs).length : Nat) : Int) = (T.length : Int) + 1 by rw [List.length_cons]; omega)) ?_
                  rw [decide_eq_true cl, Bool.true_and] at k
                  obtain ⟨c1, c2⟩ := cut1V (x := V.str z) (xs := xs)
                  refine ⟨_, rfl, _, rfl, _, rfl, a, _, rfl, SqT.of ha, c2, fun p hp => ?_⟩
                  rw [c1]
                  refine ⟨_, p, xs, rfl, SqT.of upd_same, fun D hD => ?_⟩
                  have sp := same_new (o := .tup xs) hp
                  have e0 : upd H1 p (.tup xs) p = some (.tup xs) := upd_same
                  generalize upd H1 p (.tup xs) = H2 at sp e0 hD
                  have hB := hB.same sp
                  have hTs : (sT T).cps.size = T.length := sT_len T
                  refine lc_it (walk_zipS (K := K) (x := sT T) (b := p) (ys := xs) (n := T.length) (by rw [hTs]; omega)) (fun i H' => Same H2 H' ∧ H' D = some (.lst ((((T.zip ds).map fun q => partD r q.1 q.2).take i).map V.bl))) ⟨same_new hD, upd_same⟩ (fun i H' _ h => SqT.of (h.1 _ _ e0)) ?_ ?_
                  · rintro i x H' Hx hi ⟨s1, e1⟩ ⟨Tp, x1, x2, rfl, hT, rfl, hx1, hx2⟩
                    obtain ⟨c, hc, rfl⟩ : ∃ c, T[i]? = some c ∧ x1 = .str (sT [c]) := by
                      have hx1 : ((sT T).cps[i]?.map fun c => V.str ⟨#[c]⟩) = some x1 := hx1
                      cases e : (sT T).cps[i]? with
                      | none => rw [e] at hx1; cases hx1
                      | some c =>
                        rw [e] at hx1
                        refine ⟨c, ?_, (Option.some.inj hx1).symm⟩
                        rw [← sT_cps T, Array.getElem?_toList]
                        exact e
                    obtain ⟨dd, hdd, hy⟩ := hB.at hx2
                    have sT := same_new (o := .tup [.str (sT [c]), x2]) hT
                    refine ⟨Tp, _, rfl, SqT.of upd_same, rfl, _, _, rfl, _, _, rfl, rfl, rfl, yesIf ⟨_, rfl, _, rfl, _, rfl, r, c, x2, dd, rfl, hy.same (s1.trans sT), htA.get (i := i + 1) (by simpa using hdd), fun H3 s3 => ⟨_, s3 _ _ (sT _ _ e1), ?_, same_sub ((s1.trans sT).trans s3) hD, ?_⟩⟩⟩
                    · rw [List.length_map]
                      exact Nat.lt_of_le_of_lt (List.length_take_le' _ _) (by rw [List.length_map, List.length_zip]; exact Nat.lt_of_le_of_lt (show min T.length ds.length ≤ 4 by omega) (by decide))
                    · rw [upd_same, take_snoc2 (a := partD r c dd) (by rw [List.getElem?_map, (List.getElem?_zip_eq_some (z := (c, dd))).mpr ⟨hc, hdd⟩]; rfl), List.map_append]
                      rfl
                  · rintro H' ⟨s1, e1⟩
                    rw [List.take_of_length_le (by rw [List.length_map, List.length_zip]; omega)] at e1
                    refine ⟨D, _, rfl, SqL.of e1, _, rfl, ?_⟩
                    have k : ∀ H', Same H1 H' → Q (.bl (partsOk r T ds && copyOk z ds)) H' := k
                    have ep : ((T.zip ds).map fun q => partD r q.1 q.2).all id = partsOk r T ds := rfl
                    rw [ep]
                    have sA := sp.trans s1
                    have ha := sA _ _ ha
                    cases hp2 : partsOk r T ds with
                    | false =>
                      rw [hp2] at k
                      exact iteN0 (k _ sA)
                    | true =>
                      rw [hp2, Bool.true_and] at k
                      refine iteF ?_
                      refine ⟨_, rfl, .inr (.inl ⟨_, _, _, _, rfl, rfl, SqT.of ha, atI_nat (j := 0) rfl, rfl, _, rfl, ?_⟩)⟩
                      by_cases cz : z = "copy"
                      · have hT2 := hcopy cz
                        obtain ⟨d1, d2, rfl⟩ : ∃ d1 d2, ds = [d1, d2] := by
                          rw [hT2] at cl
                          match ds, cl with
                          | [d1, d2], _ => exact ⟨d1, d2, rfl⟩
                        obtain ⟨x1, x2, rfl⟩ : ∃ x1 x2, xs = [x1, x2] := by
                          match xs, hl with
                          | [x1, x2], _ => exact ⟨x1, x2, rfl⟩
                        have hB := hB.same s1
                        cases hB with
                        | cons g1 hB =>
                          cases hB with
                          | cons g2 hB =>
                            have hv : decide (V.str z = V.str "copy") = true := decide_eq_true (congrArg V.str cz)
                            rw [hv]
                            refine iteN1 ?_
                            refine ⟨_, rfl, .inr (.inl ⟨_, _, _, _, rfl, rfl, SqT.of ha, rfl, ?_⟩)⟩
                            dsimp only [tNil]
                            refine txo_of g1 (htA.get (i := 1) rfl) fun H3 s3 => ⟨_, rfl, ?_⟩
                            have k : ∀ H', Same H1 H' → Q (.bl (!(decide (z = "copy")) || (!(strD slotB d1) || !(strD slotB d2)))) H' := k
                            rw [decide_eq_true cz] at k
                            cases e1 : strD slotB d1 with
                            | false =>
                              rw [e1] at k
                              exact ⟨_, rfl, iteT (k _ (sA.trans s3))⟩
                            | true =>
                              rw [e1] at k
                              refine ⟨_, rfl, iteF ?_⟩
                              refine ⟨_, rfl, .inr (.inl ⟨_, _, _, _, rfl, rfl, SqT.of (s3 _ _ ha), rfl, ?_⟩)⟩
                              dsimp only [tNil]
                              exact txo_of (g2.same s3) (htA.get (i := 2) rfl) fun H4 s4 => ⟨_, rfl, k _ ((sA.trans s3).trans s4)⟩
                      · have hv : decide (V.str z = V.str "copy") = false := decide_eq_false fun q => cz (by injection q)
                        rw [hv]
                        refine iteT ?_
                        have k : ∀ H', Same H1 H' → Q (.bl (!(decide (z = "copy")) || (!(strD slotB (ds.getD 0 .none)) || !(strD slotB (ds.getD 1 .none))))) H' := k
                        rw [decide_eq_false cz] at k
                        exact k _ sA
                · refine iteNt (fun q => cl (by
                    injection q with q
                    have q : ((xs.length + 1 : Nat) : Int) = (T.length : Int) + 1 := q
                    omega)) ?_
                  rw [decide_eq_false cl] at k
                  exact k _ (Same.refl _)
            · refine ⟨_, _, _, _, false, rfl, .ty "str", h1, h2, _, rfl, iteT (iteT ?_)⟩
              have e : instrD r (.tuple (d0 :: ds)) = false := by
                cases d0 <;> first | rfl | exact absurd rfl (hn _)
              rw [e] at k
              exact k _ (Same.refl _)
        · refine ⟨_, rfl, _, _, _, _, false, rfl, .ty "tuple", h1, h2, _, rfl, iteT (iteT ?_)⟩
          have e : instrD r d = false := by
            cases d <;> first | rfl | exact absurd rfl (hn _)
          rw [e] at k
          exact k _ (Same.refl _)
      · exact ⟨_, rfl, _, rfl, .inr ⟨hb, q⟩⟩
end
/-! ## parts written -/
def regW : PyData → List Bool
  | .str z => digs (NumText.digitsVal (z.cps.toList.drop 1)) 4
  | _ => []
def plW : PyData → List Bool
  | .str z => placeW z.cps.toList
  | _ => []
def numW : PyData → List Bool
  | .int n => gam (sgn n)
  | _ => []
def nmW : PyData → List Bool
  | .str z => nameW z.cps.toList
  | _ => []
def ixW : PyData → List Bool
  | .int n => digs n.toNat 2
  | _ => []
def prW : PyData → List Bool
  | .tuple ds => digs ds.length 2 ++ (ds.map regW).flatten
  | _ => []
def lpW : PyData → List Bool
  | .tuple [.str z, .int n] => leapW z n
  | _ => []
def partW (c : Nat) (d : PyData) : List Bool :=
  if c = 114 then regW d else if c = 99 then plW d else if c = 110 then numW d else if c = 119 then nmW d else if c = 107 then ixW d else if c = 108 then prW d else lpW d
def smB : PyData → Bool
  | .int n => decide (n.natAbs < 2 ^ 42)
  | _ => true
theorem strD_some {f : List Nat → Bool} {d : PyData} (h : strD f d = true) : ∃ z, d = .str z ∧ f z.cps.toList = true := by
  cases d <;> first | exact ⟨_, rfl, h⟩ | cases h
theorem regB_some {r : Nat} {t : List Nat} (h : regB r t = true) : ∃ fs, t = 114 :: fs ∧ NumText.AllDigits fs ∧ ¬ fs = [] ∧ fs.length ≤ 4 ∧ NumText.digitsVal fs < r ∧ sortP t = some 114 := by
  unfold regB at h
  obtain ⟨h1, h2⟩ := Bool.and_eq_true_iff.mp h
  have h1 := of_decide_eq_true h1
  have h2 := of_decide_eq_true h2
  obtain ⟨fs, rfl, a, b, c, _⟩ := sort_some h1
  exact ⟨fs, rfl, a, b, c, h2, h1⟩
theorem nameB_let {t : List Nat} (h : nameB t = true) : t.length ≤ 8 ∧ ∀ c ∈ t, 97 ≤ c ∧ c ≤ 122 := by
  unfold nameB at h
  simp only [Bool.and_eq_true, decide_eq_true_eq, List.all_eq_true] at h
  refine ⟨by omega, fun c hc => ?_⟩
  have := h.2 c hc
  unfold isSmall at this
  simpa using this
theorem regW_len (d : PyData) : (bT (regW d)).length ≤ 4 := by
  rw [bT_len]
  cases d <;> first | exact Nat.zero_le _ | (show (digs _ 4).length ≤ 4; rw [digs_len]; exact Nat.le_refl 4)
theorem regs_sum (l : List PyData) : ((l.map fun d => sT (bT (regW d))).map (·.length)).sum ≤ 4 * l.length := by
  induction l with
  | nil => exact Nat.le_refl _
  | cons d l ih =>
    have := regW_len d
    rw [List.map_cons, List.map_cons, List.sum_cons, sT_len, List.length_cons]
    omega
theorem regs_len (l : List PyData) : (l.map fun d => bT (regW d)).flatten.length ≤ 4 * l.length := by
  induction l with
  | nil => exact Nat.le_refl _
  | cons d l ih =>
    have := regW_len d
    rw [List.map_cons, List.flatten_cons, List.length_append, List.length_cons]
    omega
theorem regs_bT (l : List PyData) : (l.map fun d => bT (regW d)).flatten = bT (l.map regW).flatten := by
  induction l with
  | nil => rfl
  | cons d l ih => rw [List.map_cons, List.flatten_cons, List.map_cons, List.flatten_cons, bT_app, ih]
def spPtR : Sp := fun vs H Q _ => ∃ (x : V) (d : PyData) (r : Nat), vs = [.str (sT [114]), x] ∧ Dt anyA H x d ∧ strD (regB r) d = true ∧ r ≤ 9 ∧ Q (.str (sT (bT (regW d)))) H
def spPtW : Sp := fun vs H Q _ => ∃ (c : Nat) (x : V) (d : PyData) (r : Nat), vs = [.str (sT [c]), x] ∧ Dt anyA H x d ∧ TxD d ∧ partD r c d = true ∧ smB d = true ∧ r ≤ 9 ∧ ∀ H', Same H H' → Q (.str (sT (bT (partW c d)))) H'
section
variable {P : Program} {w : World} {K : PySem.W.Frag} {mg : Str → Option Value} {base : Heap}
theorem sc_part_bits : FnScope ["letter", "part", "each"] ["letter", "part"] (defScope s_part_bits) := ⟨rfl, rfl, rfl, by decide +kernel, rfl, by decide +kernel, by decide +kernel⟩
theorem ok_ptr {CX : CXT} {f : Addr} {fd : FuncData} (F : FnP K "part_bits" s_part_bits f fd) (c_digits : Cal P w K mg base 1 "digits" ["number", "many"] spDg) (c_number_of : Cal P w K mg base 1 "number_of" ["place"] spNumOf) (G : NkF K mg) (C : CsF mg) : FnOk P w K mg base CX 2 f fd ["letter", "part"] spPtR := by
  obtain ⟨f_digits, fd_digits, g_digits, k_digits, b_digits, G_digits⟩ := c_digits
  obtain ⟨f_number_of, fd_number_of, g_number_of, k_number_of, b_number_of, G_number_of⟩ := c_number_of
  obtain ⟨t4, g_REGISTER_DIGITS⟩ := C.rd
  refine F.ok sc_part_bits (fun vs H Q E h => ?_) (fun cdv A outer s H vs Q E hr h => ?_)
  · obtain ⟨x, d, r, rfl, _⟩ := h
    rfl
  · obtain ⟨x, d, r, rfl, hx, hd, h9, k⟩ := h
    have nd := sc_part_bits.nd
    refine ⟨_, PSs.nox (pss_cons (ps_if (pt_cmpR op_eq (pv 0) pe_str (nomark _)) (pss_one (ps_ret (pe_call G_digits hr rfl g_digits k_digits b_digits .nil pass0 (pa_cons (pe_call G_number_of hr rfl g_number_of k_number_of b_number_of .nil pass0 (pa_cons (pv 1) pa_nil)) (pa_cons (pe_glob (v := .int 4) (by rfl) g_REGISTER_DIGITS ⟨_, rfl⟩) pa_nil))))) pss_nil) pss_never), ?_⟩
    refine ⟨_, rfl, rfl, _, rfl, ?_⟩
    rw [let_eq 114 (cps1 (z := "r") (k := 114) (by decide +kernel))]
    obtain ⟨z, rfl, hz⟩ := strD_some hd
    obtain ⟨fs, et, a1, a2, a3, a4, _⟩ := regB_some hz
    cases hx
    refine iteT ⟨_, rfl, 114, fs, by rw [← et, sT_of]; rfl, a1, a2, by omega, _, 4, rfl, by omega, by decide, by decide, ?_⟩
    have k : Q (.str (sT (bT (digs (NumText.digitsVal (z.cps.toList.drop 1)) 4)))) H := k
    rw [et] at k
    exact k
theorem ok_ptw {CX : CXT} {f : Addr} {fd : FuncData} (F : FnP K "part_bits" s_part_bits f fd) (c_digits : Cal P w K mg base 1 "digits" ["number", "many"] spDg) (c_number_of : Cal P w K mg base 1 "number_of" ["place"] spNumOf) (c_place_bits : Cal P w K mg base 3 "place_bits" ["place"] spPlW) (c_number_written : Cal P w K mg base 2 "number_written" ["number"] spWrit)
    (c_name_bits : Cal P w K mg base 2 "name_bits" ["name"] spNmW) (c_leap_bits : Cal P w K mg base 2 "leap_bits" ["leap"] (spLpW K)) (g_part_bits : mg "part_bits" = some (.ref f)) (b_part_bits : Binds K fd ["letter", "part"] []) (G : NkF K mg) (C : CsF mg) : FnOk P w K mg base CX 4 f fd ["letter", "part"] spPtW := by
  have G_part_bits : FnOk P w K mg base CX0 2 f fd ["letter", "part"] spPtR := ok_ptr F c_digits c_number_of G C
  have k_part_bits := F.kp
  obtain ⟨f_digits, fd_digits, g_digits, k_digits, b_digits, G_digits⟩ := c_digits
  obtain ⟨f_number_of, fd_number_of, g_number_of, k_number_of, b_number_of, G_number_of⟩ := c_number_of
  obtain ⟨f_place_bits, fd_place_bits, g_place_bits, k_place_bits, b_place_bits, G_place_bits⟩ := c_place_bits
  obtain ⟨f_number_written, fd_number_written, g_number_written, k_number_written, b_number_written, G_number_written⟩ := c_number_written
  obtain ⟨f_name_bits, fd_name_bits, g_name_bits, k_name_bits, b_name_bits, G_name_bits⟩ := c_name_bits
  obtain ⟨f_leap_bits, fd_leap_bits, g_leap_bits, k_leap_bits, b_leap_bits, G_leap_bits⟩ := c_leap_bits
  obtain ⟨t4, g_REGISTER_DIGITS⟩ := C.rd
  obtain ⟨t2, g_MANY_DIGITS⟩ := C.md
  refine F.ok sc_part_bits (fun vs H Q E h => ?_) (fun cdv A outer s H vs Q E hr h => ?_)
  · obtain ⟨c, x, d, r, rfl, _⟩ := h
    rfl
  · obtain ⟨c, x, d, r, rfl, hx, ht, hd, hs, h9, k⟩ := h
    have nd := sc_part_bits.nd
    apply Exists.intro
    apply And.intro
    case left =>
     apply PSs.nox
     apply pss_cons
     · exact (ps_if (pt_cmpR op_eq (pv 0) pe_str (nomark _)) (pss_one (ps_ret (pe_call G_digits (hr.mono (by decide)) rfl g_digits k_digits b_digits .nil pass0 (pa_cons (pe_call G_number_of (hr.mono (by decide)) rfl g_number_of k_number_of b_number_of .nil pass0 (pa_cons (pv 1) pa_nil)) (pa_cons (pe_glob (v := .int 4) (by rfl) g_REGISTER_DIGITS ⟨_, rfl⟩) pa_nil))))) pss_nil)
     apply pss_cons
     · exact (ps_if (pt_cmpR op_eq (pv 0) pe_str (nomark _)) (pss_one (ps_ret (pe_call G_place_bits (hr.mono (by decide)) rfl g_place_bits k_place_bits b_place_bits .nil pass0 (pa_cons (pv 1) pa_nil)))) pss_nil)
     apply pss_cons
     · exact (ps_if (pt_cmpR op_eq (pv 0) pe_str (nomark _)) (pss_one (ps_ret (pe_call G_number_written (hr.mono (by decide)) rfl g_number_written k_number_written b_number_written .nil pass0 (pa_cons (pv 1) pa_nil)))) pss_nil)
     apply pss_cons
     · exact (ps_if (pt_cmpR op_eq (pv 0) pe_str (nomark _)) (pss_one (ps_ret (pe_call G_name_bits (hr.mono (by decide)) rfl g_name_bits k_name_bits b_name_bits .nil pass0 (pa_cons (pv 1) pa_nil)))) pss_nil)
     apply pss_cons
     · exact (ps_if (pt_cmpR op_eq (pv 0) pe_str (nomark _)) (pss_one (ps_ret (pe_call G_digits (hr.mono (by decide)) rfl g_digits k_digits b_digits .nil pass0 (pa_cons (pv 1) (pa_cons (pe_glob (v := .int 2) (by rfl) g_MANY_DIGITS ⟨_, rfl⟩) pa_nil))))) pss_nil)
     apply pss_cons
     · exact (ps_if (pt_cmpR op_eq (pv 0) pe_str (nomark _)) (pss_one (ps_ret (pe_op op_add_str (pe_call G_digits (hr.mono (by decide)) rfl g_digits k_digits b_digits .nil pass0 (pa_cons (pe_callB call_len (by rfl) G.len PySem.boot_len (pa_cons (pv 1) pa_nil)) (pa_cons (pe_glob (v := .int 2) (by rfl) g_MANY_DIGITS ⟨_, rfl⟩) pa_nil))) (pe_join pe_str (pe_lc (own := [("each", 2)]) (g := gName 2) rfl nd (pi_tup (pv 1)) (blkOk_by (own := [("each", 2)]) (N := ["letter", "part", "each"]) (sc := defScope s_part_bits) (by decide +kernel)) (fun _ _ _ _ _ => (pg_name (i := 2) nd rfl (Or.inl rfl))) (fun _ _ _ _ _ => pts_nil) (fun _ _ _ _ _ => (pe_call G_part_bits (hr.mono (by decide)) rfl g_part_bits k_part_bits b_part_bits .nil pass0 (pa_cons pe_str (pa_cons (pv 2) pa_nil))))))))) pss_nil)
     apply pss_one
     exact (ps_ret (pe_call G_leap_bits (hr.mono (by decide)) rfl g_leap_bits k_leap_bits b_leap_bits .nil pass0 (pa_cons (pv 1) pa_nil)))
    case right =>
      unfold partD at hd
      unfold partW at k
      refine ⟨_, rfl, rfl, _, rfl, ?_⟩
      rw [let_eq c (cps1 (z := "r") (k := 114) (by decide +kernel))]
      refine ite2 (fun e => ?_) (fun e => ?_)
      · rw [if_pos (of_decide_eq_true e)] at k hd
        obtain ⟨z, rfl, hz⟩ := strD_some hd
        obtain ⟨fs, et, a1, a2, a3, a4, _⟩ := regB_some hz
        cases hx
        refine ⟨_, rfl, 114, fs, by rw [← et, sT_of]; rfl, a1, a2, by omega, _, 4, rfl, by omega, by decide, by decide, ?_⟩
        have k : Q (.str (sT (bT (digs (NumText.digitsVal (z.cps.toList.drop 1)) 4)))) H := k _ (Same.refl _)
        rw [et] at k
        exact k
      rw [if_neg (fun z => e (decide_eq_true z))] at k hd
      refine ⟨_, rfl, rfl, _, rfl, ?_⟩
      rw [let_eq c (cps1 (z := "c") (k := 99) (by decide +kernel))]
      refine ite2 (fun e => ?_) (fun e => ?_)
      · rw [if_pos (of_decide_eq_true e)] at k hd
        obtain ⟨z, rfl, hz⟩ : ∃ z, d = .str z ∧ (sortP z.cps.toList = some 114 ∨ sortP z.cps.toList = some 115) := by
          rcases Bool.or_eq_true_iff.mp hd with q | q
          · obtain ⟨z, rfl, hz⟩ := strD_some q
            obtain ⟨_, _, _, _, _, _, a5⟩ := regB_some hz
            exact ⟨z, rfl, .inl a5⟩
          · obtain ⟨z, rfl, hz⟩ := strD_some q
            exact ⟨z, rfl, .inr (of_decide_eq_true hz)⟩
        cases hx
        exact ⟨_, rfl, z.cps.toList, by rw [sT_of]; rfl, ht.txs, hz, k⟩
      rw [if_neg (fun z => e (decide_eq_true z))] at k hd
      refine ⟨_, rfl, rfl, _, rfl, ?_⟩
      rw [let_eq c (cps1 (z := "n") (k := 110) (by decide +kernel))]
      refine ite2 (fun e => ?_) (fun e => ?_)
      · rw [if_pos (of_decide_eq_true e)] at k hd
        cases hx <;> first | cases hd | skip
        exact ⟨_, rfl, _, rfl, Nat.lt_of_lt_of_le (of_decide_eq_true (show decide (_ < 2 ^ 42) = true from hs)) (by decide), k _ (Same.refl _)⟩
      rw [if_neg (fun z => e (decide_eq_true z))] at k hd
      refine ⟨_, rfl, rfl, _, rfl, ?_⟩
      rw [let_eq c (cps1 (z := "w") (k := 119) (by decide +kernel))]
      refine ite2 (fun e => ?_) (fun e => ?_)
      · rw [if_pos (of_decide_eq_true e)] at k hd
        obtain ⟨z, rfl, hz⟩ := strD_some hd
        obtain ⟨l1, l2⟩ := nameB_let hz
        cases hx
        exact ⟨_, rfl, z.cps.toList, by rw [sT_of]; rfl, l1, l2, k⟩
      rw [if_neg (fun z => e (decide_eq_true z))] at k hd
      refine ⟨_, rfl, rfl, _, rfl, ?_⟩
      rw [let_eq c (cps1 (z := "k") (k := 107) (by decide +kernel))]
      refine ite2 (fun e => ?_) (fun e => ?_)
      · rw [if_pos (of_decide_eq_true e)] at k hd
        cases hx <;> first | cases hd | skip
        rename_i n
        obtain ⟨n1, n2⟩ := Bool.and_eq_true_iff.mp hd
        have n1 : 0 ≤ n := of_decide_eq_true n1
        have n2 : n ≤ 2 := of_decide_eq_true n2
        exact ⟨_, rfl, n.toNat, 2, by rw [show ((n.toNat : Nat) : Int) = n by omega]; rfl, by omega, by decide, by decide, k _ (Same.refl _)⟩
      rw [if_neg (fun z => e (decide_eq_true z))] at k hd
      refine ⟨_, rfl, rfl, _, rfl, ?_⟩
      rw [let_eq c (cps1 (z := "l") (k := 108) (by decide +kernel))]
      refine ite2 (fun e => ?_) (fun e => ?_)
      · rw [if_pos (of_decide_eq_true e)] at k hd
        rcases dt_tup (K := K) hx with ⟨a, xs, ds, rfl, rfl, ha, hA⟩ | ⟨_, hn⟩
        · obtain ⟨c3, hall⟩ := Bool.and_eq_true_iff.mp (show (decide (ds.length ≤ 3) && (ds.map (strD (regB r))).all id) = true from hd)
          have c3 : ds.length ≤ 3 := of_decide_eq_true c3
          have hl := hA.length
          refine ⟨_, rfl, _, _, rfl, .inr ⟨_, SqT.of ha, rfl⟩, ds.length, 2, by rw [hl]; rfl, by omega, by decide, by decide, ?_⟩
          refine ⟨⟨_, rfl⟩, _, rfl, a, rfl, ⟨_, SqT.of ha⟩, fun D hD => ?_⟩
          refine lc_tup (K := K) (a := a) (xs := xs) (fun i H' => H' = upd H D (.lst (((ds.take i).map fun d => sT (bT (regW d))).map V.str))) rfl (fun i H' _ e => SqT.of (by rw [e]; exact same_new hD _ _ ha)) ?_ ?_
          · rintro i y H' hi rfl
            obtain ⟨dd, hdd, hy⟩ := hA.at hi
            have hr2 : strD (regB r) dd = true := by
              have := List.all_eq_true.mp hall (strD (regB r) dd) (List.mem_map.mpr ⟨dd, List.mem_of_getElem? hdd, rfl⟩)
              exact this
            refine ⟨rfl, yesIf ⟨_, rfl, y, dd, r, by rw [← cps1 (z := "r") (k := 114) (by decide +kernel)]; rfl, hy.same (same_new hD), hr2, h9, _, upd_same, ?_, ?_⟩⟩
            · rw [List.length_map, List.length_map]
              exact Nat.lt_of_le_of_lt (List.length_take_le' _ _) (Nat.lt_of_le_of_lt c3 (by decide))
            · rw [upd_upd, take_snoc2 hdd, List.map_append, List.map_append]
              rfl
          · rintro H' rfl
            rw [hl, List.take_length]
            refine ⟨"", D, ds.map (fun d => sT (bT (regW d))), rfl, rfl, .inl (SqL.of upd_same), ?_, ?_⟩
            · have := regs_sum ds
              rw [show ("" : Str).length = 0 from rfl, Nat.mul_zero, Nat.add_zero]
              omega
            · have j := join_sT (ds.map fun d => bT (regW d))
              rw [List.map_map] at j
              have j : Txt.join "" (ds.map fun d => sT (bT (regW d))) = _ := j
              rw [j]
              refine ⟨_, _, rfl, rfl, ?_, ?_⟩
              · have h1 := regs_len ds
                rw [sT_len, sT_len, bT_len, digs_len]
                exact sl_of (by omega)
              · have k := k _ (same_new (o := .lst ((ds.map fun d => sT (bT (regW d))).map V.str)) hD)
                rw [sT_ap]
                have e2 : bT (digs ds.length 2) ++ (ds.map fun d => bT (regW d)).flatten = bT (prW (.tuple ds)) := by
                  show _ = bT (digs ds.length 2 ++ (ds.map regW).flatten)
                  rw [bT_app]
                  rw [regs_bT]
                rw [e2]
                exact k
        · exfalso
          revert hd
          cases d <;> first | (intro hd; cases hd; done) | exact absurd rfl (hn _)
      rw [if_neg (fun z => e (decide_eq_true z))] at k hd
      obtain ⟨z, n, rfl⟩ : ∃ z n, d = .tuple [.str z, .int n] := by
        unfold leapD at hd
        split at hd
        · exact ⟨_, _, rfl⟩
        · cases hd
      obtain ⟨hz, hn⟩ := Bool.and_eq_true_iff.mp (show (isLp z && lpOk z n) = true from hd)
      rcases dt_tup (K := K) hx with ⟨a, xs, ds, rfl, e2, ha, hA⟩ | ⟨_, hn⟩
      · cases e2
        cases hA with
        | cons g1 hA =>
          cases hA with
          | cons g2 hA =>
            cases hA
            cases g1
            cases g2
            refine ⟨_, rfl, a, z, n, rfl, SqT.of ha, ?_, k _ (Same.refl _)⟩
            unfold isLp at hz
            unfold lpOk at hn
            rw [Bool.or_eq_true, decide_eq_true_eq, decide_eq_true_eq] at hz
            by_cases c : z = "short"
            · rw [if_pos c, Bool.and_eq_true, decide_eq_true_eq, decide_eq_true_eq] at hn
              exact .inl ⟨c, hn⟩
            · rw [if_neg c, Bool.and_eq_true, decide_eq_true_eq, decide_eq_true_eq] at hn
              exact .inr ⟨hz.resolve_left c, hn⟩
      · exact absurd rfl (hn _)
end
/-! ## instructions written -/
def headW (z : Str) (ds : List PyData) : List Bool := digs (wordsL.idxOf z) 5 ++ (((shapeT z).zip ds).map fun p => partW p.1 p.2).flatten
def instrW : PyData → List Bool
  | .tuple (.str z :: ds) => headW z ds
  | _ => []
def smI : PyData → Bool
  | .tuple ds => ds.all smB
  | _ => true
theorem partW_len {r c : Nat} {d : PyData} (h : partD r c d = true) (hs : smB d = true) : (partW c d).length ≤ 140 := by
  unfold partD at h
  unfold partW
  by_cases c1 : c = 114
  · rw [if_pos c1]
    have := regW_len d
    rw [bT_len] at this
    omega
  rw [if_neg c1] at h ⊢
  by_cases c2 : c = 99
  · rw [if_pos c2] at h ⊢
    cases d <;> first | exact Nat.zero_le _ | skip
    rename_i z
    show (placeW z.cps.toList).length ≤ 140
    unfold placeW
    split
    · rename_i hz
      have hz := of_decide_eq_true hz
      obtain ⟨fs, et, _, _, _, _, hv⟩ := sort_some hz
      rw [et]
      have hv : NumText.digitsVal fs ≤ 999 := hv
      have := (gam_small (n := NumText.digitsVal fs) (by omega)).2
      rw [List.length_cons]
      show (gam (NumText.digitsVal fs)).length + 1 ≤ 140
      omega
    · rw [List.length_cons, digs_len]
      decide
  rw [if_neg c2] at h ⊢
  by_cases c3 : c = 110
  · rw [if_pos c3] at h ⊢
    cases d <;> first | exact Nat.zero_le _ | skip
    rename_i n
    have hs : n.natAbs < 2 ^ 42 := of_decide_eq_true hs
    have hn : sgn n < 2 ^ 62 := by unfold sgn; split <;> omega
    have := (gam_small hn).2
    show (gam (sgn n)).length ≤ 140
    omega
  rw [if_neg c3] at h ⊢
  by_cases c4 : c = 119
  · rw [if_pos c4] at h ⊢
    obtain ⟨z, rfl, hz⟩ := strD_some h
    obtain ⟨l1, l2⟩ := nameB_let hz
    show (nameW z.cps.toList).length ≤ 140
    have key : ∀ t : List Nat, ((t.map fun c => digs (c - 96) 5).flatten).length = 5 * t.length := fun t => by
      induction t with
      | nil => rfl
      | cons c t ih => rw [List.map_cons, List.flatten_cons, List.length_append, digs_len, ih, List.length_cons]; omega
    unfold nameW
    rw [List.length_append, key, digs_len]
    omega
  rw [if_neg c4] at h ⊢
  by_cases c5 : c = 107
  · rw [if_pos c5]
    cases d <;> first | exact Nat.zero_le _ | (show (digs _ 2).length ≤ 140; rw [digs_len]; decide)
  rw [if_neg c5] at h ⊢
  by_cases c6 : c = 108
  · rw [if_pos c6] at h ⊢
    cases d <;> first | exact Nat.zero_le _ | skip
    rename_i ds
    obtain ⟨c3, _⟩ := Bool.and_eq_true_iff.mp (show (decide (ds.length ≤ 3) && (ds.map (strD (regB r))).all id) = true from h)
    have c3 : ds.length ≤ 3 := of_decide_eq_true c3
    have := regs_len ds
    show (digs ds.length 2 ++ (ds.map regW).flatten).length ≤ 140
    rw [regs_bT, bT_len] at this
    rw [List.length_append, digs_len]
    omega
  rw [if_neg c6]
  unfold lpW
  split
  · unfold leapW
    split <;> (rw [List.length_cons, digs_len]; decide)
  · exact Nat.zero_le _
def spHdW : Sp := fun vs H Q _ => ∃ (x : V) (d : PyData) (r : Nat), vs = [x] ∧ Dt anyA H x d ∧ TxD d ∧ instrD r d = true ∧ smI d = true ∧ r ≤ 9 ∧ ∀ H', Same H H' → Q (.str (sT (bT (instrW d)))) H'
theorem sum_le2 (m : Nat) (L : List (List Bool)) (h : ∀ l ∈ L, l.length ≤ m) : ((L.map fun l => sT (bT l)).map (·.length)).sum ≤ m * L.length := by
  induction L with
  | nil => exact Nat.le_refl _
  | cons l L ih =>
    have h1 := h l (List.mem_cons_self ..)
    have h2 := ih fun x hx => h x (List.mem_cons_of_mem _ hx)
    rw [List.map_cons, List.map_cons, List.sum_cons, sT_len, bT_len, List.length_cons, Nat.mul_succ]
    omega
theorem flat_bT (L : List (List Bool)) : (L.map bT).flatten = bT L.flatten := by
  induction L with
  | nil => rfl
  | cons l L ih => rw [List.map_cons, List.flatten_cons, List.flatten_cons, bT_app, ih]
theorem words_diff : ∀ i < 26, ∀ m < i, wordsL[m]? ≠ wordsL[i]? := by decide +kernel
theorem words_first {z : Str} (h : isWd z = true) : wordsL[wordsL.idxOf z]? = some z ∧ ∀ m, m < wordsL.idxOf z → wordsL[m]? ≠ some z := by
  obtain ⟨h1, h2⟩ := word_idx h
  have hm : z ∈ wordsL := of_decide_eq_true h
  have hl := List.idxOf_lt_length_of_mem hm
  refine ⟨by rw [List.getElem?_eq_getElem hl, List.getElem_idxOf], fun m hm2 e => ?_⟩
  exact words_diff _ h1 m hm2 (by rw [e, List.getElem?_eq_getElem hl, List.getElem_idxOf])
section
variable {P : Program} {w : World} {K : PySem.W.Frag} {mg : Str → Option Value} {base : Heap}
theorem sc_head_bits : FnScope ["parts", "found", "letter", "part"] ["parts"] (defScope s_head_bits) := ⟨rfl, rfl, rfl, by decide +kernel, rfl, by decide +kernel, by decide +kernel⟩
theorem ok_hdw {CX : CXT} {f : Addr} {fd : FuncData} (F : FnP K "head_bits" s_head_bits f fd) (c_digits : Cal P w K mg base 1 "digits" ["number", "many"] spDg) (c_part_bits : Cal P w K mg base 4 "part_bits" ["letter", "part"] spPtW) (G : NkF K mg) (C : CsF mg) (S : ShF K w mg)
    (W : ∃ a, mg "WORDS" = some (.ref a) ∧ (∀ H, SqT K H a (wordsL.map V.str)) ∧ ∃ o, K.lookup a = some o ∧ o.cls = .type "tuple" ∧ o.dict = none) (m_zip : mg "zip" = none) : FnOk P w K mg base CX 5 f fd ["parts"] spHdW := by
  obtain ⟨f_digits, fd_digits, g_digits, k_digits, b_digits, G_digits⟩ := c_digits
  obtain ⟨f_part_bits, fd_part_bits, g_part_bits, k_part_bits, b_part_bits, G_part_bits⟩ := c_part_bits
  obtain ⟨t5, g_INSTRUCTION_DIGITS⟩ := C.idg
  obtain ⟨a_SHAPES, g_SHAPES, shp, es, n, D_SHAPES, mem⟩ := S.sh
  obtain ⟨a_WORDS, g_WORDS, qW, oW⟩ := W
  refine F.ok sc_head_bits (fun vs H Q E h => ?_) (fun cdv A outer s H vs Q E hr h => ?_)
  · obtain ⟨x, d, r, rfl, _⟩ := h
    rfl
  · obtain ⟨x, d, r, rfl, hx, ht, hd, hs, h9, k⟩ := h
    have nd := sc_head_bits.nd
    apply Exists.intro
    apply And.intro
    case left =>
     apply PSs.nox
     apply pss_cons
     · exact (ps_set (i := 1) nd rfl (.inl rfl) (pe_lst (pa_cons (pe_call G_digits (hr.mono (by decide)) rfl g_digits k_digits b_digits .nil pass0 (pa_cons (pe_bm PySem.F.plainAttrs_tuple PySem.F.slot_tuple_index PySem.F.type_tuple_index mt_tup_index (pe_glob (v := .ref a_WORDS) (by rfl) g_WORDS rfl) (pa_cons (pe_ix ix_seq (pv 0) pe_int (fun _ _ => rfl)) pa_nil)) (pa_cons (pe_glob (v := .int 5) (by rfl) g_INSTRUCTION_DIGITS ⟨_, rfl⟩) pa_nil))) pa_nil)))
     apply pss_cons
     · exact (ps_expr (pe_bm PySem.F.plainAttrs_list PySem.F.slot_list_extend PySem.F.type_list_extend mt_extend (pv 1) (pa_cons (pe_lc (own := [("letter", 2), ("part", 3)]) (g := gTup K 2 (gCons (gName 2) (gCons (gName 3) gNil))) rfl nd (pi_zipS (by rfl) m_zip (pa_cons (pe_ix ix_kdict (pe_glob (v := .ref a_SHAPES) (by rfl) g_SHAPES rfl) (pe_ix ix_seq (pv 0) pe_int (fun _ _ => rfl)) (fun _ _ => rfl)) (pa_cons (pe_slice sl_tup (pv 0) (po_some pe_int) po_none) pa_nil))) (blkOk_by (own := [("letter", 2), ("part", 3)]) (N := ["parts", "found", "letter", "part"]) (sc := defScope s_head_bits) (by decide +kernel)) (fun _ _ _ _ _ => by exact (pg_tup rfl (pgs_cons (pg_name (i := 2) nd rfl (Or.inl rfl)) (pgs_cons (pg_name (i := 3) nd rfl (Or.inl rfl)) pgs_nil)))) (fun _ _ _ _ _ => pts_nil) (fun _ _ _ _ _ => (pe_call G_part_bits (hr.mono (by decide)) rfl g_part_bits k_part_bits b_part_bits .nil pass0 (pa_cons (pv 2) (pa_cons (pv 3) pa_nil))))) pa_nil)))
     apply pss_one
     exact (ps_ret (pe_join pe_str (pv 1)))
    case right =>
      obtain ⟨z, ds, rfl⟩ : ∃ z ds, d = .tuple (.str z :: ds) := by
        unfold instrD at hd
        split at hd
        · exact ⟨_, _, rfl⟩
        · cases hd
      have hd : (isWd z && (decide (ds.length = (shapeT z).length) && (partsOk r (shapeT z) ds && copyOk z ds))) = true := hd
      simp only [Bool.and_eq_true, decide_eq_true_eq] at hd
      obtain ⟨hw, hlen, hp2, _⟩ := hd
      have hs2 : ds.all smB = true := by
        have q : (smB (.str z) && ds.all smB) = true := hs
        exact (Bool.and_eq_true_iff.mp q).2
      unfold partsOk at hp2
      obtain ⟨hi, hz⟩ := word_idx hw
      obtain ⟨w1, w2⟩ := words_first hw
      rcases dt_tup (K := K) hx with ⟨a, xs0, ds0, rfl, e2, ha, hA⟩ | ⟨_, hn⟩
      · cases e2
        rcases dtA_cases hA with ⟨_, q⟩ | ⟨x0, d0, xs, ds1, rfl, e3, hx0, hB⟩
        · cases q
        cases e3
        cases hx0
        refine ⟨.inr (.inl ⟨rfl, oW⟩), _, rfl, .inr (.inl ⟨_, _, _, _, rfl, rfl, SqT.of ha, atI_nat (j := 0) rfl, a_WORDS, wordsL, z, wordsL.idxOf z, rfl, rfl, qW _, w1, w2, ?_⟩)⟩
        refine ⟨wordsL.idxOf z, 5, rfl, by omega, by decide, by decide, (show 1 ≤ sizeLine by decide), fun D hD => ?_⟩
        have sD := same_new (o := .lst [.str (sT (bT (digs (wordsL.idxOf z) 5)))]) hD
        have eD : upd H D (.lst [.str (sT (bT (digs (wordsL.idxOf z) 5)))]) D = _ := upd_same
        have k : ∀ H', Same H H' → Q (.str (sT (bT (headW z ds)))) H' := k
        unfold headW at k
        have kd := shp _ hi
        rw [hz] at kd
        have kd : KDct K w a_SHAPES z (.str (sT (shapeT z))) := kd
        have hTl : (shapeT z).length ≤ 4 := shape_len _ hi
        generalize shapeT z = T at kd k hTl hlen hp2
        have hB0 : (digs (wordsL.idxOf z) 5).length = 5 := digs_len _ _
        generalize digs (wordsL.idxOf z) 5 = B0 at sD eD k hB0
        obtain ⟨H1, hH1⟩ : ∃ H1, H1 = upd H D (.lst [.str (sT (bT B0))]) := ⟨_, rfl⟩
        rw [← hH1] at sD eD
        rw [← hH1]
        have ha1 := sD _ _ ha
        obtain ⟨c1, c2⟩ := cut1V (x := V.str z) (xs := xs)
        refine ⟨_, rfl, .inl ⟨rfl, _, SqL.of eD⟩, _, rfl, .inr (.inl ⟨_, _, _, _, rfl, rfl, SqT.of ha1, atI_nat (j := 0) rfl, a_SHAPES, z, _, rfl, rfl, kd, ?_⟩)⟩
        refine ⟨_, rfl, _, rfl, a, _, rfl, SqT.of ha1, c2, fun p hp => ?_⟩
        rw [c1]
        refine ⟨_, p, xs, rfl, SqT.of upd_same, fun D2 hD2 => ?_⟩
        have sp := same_new (o := .tup xs) hp
        have e0 : upd H1 p (.tup xs) p = some (.tup xs) := upd_same
        generalize upd H1 p (.tup xs) = H2 at sp e0 hD2
        have hB := hB.same (sD.trans sp)
        have hTs : (sT T).cps.size = T.length := sT_len T
        have hl := hB.length
        refine lc_it (walk_zipS (K := K) (x := sT T) (b := p) (ys := xs) (n := T.length) (by rw [hTs]; omega)) (fun i H' => Same H2 H' ∧ H' D2 = some (.lst ((((T.zip ds).map fun q => sT (bT (partW q.1 q.2))).take i).map V.str))) ⟨same_new hD2, upd_same⟩ (fun i H' _ h => SqT.of (h.1 _ _ e0)) ?_ ?_
        · rintro i x H' Hx hi ⟨s1, e1⟩ ⟨Tp, x1, x2, rfl, hT, rfl, hx1, hx2⟩
          obtain ⟨c, hc, rfl⟩ : ∃ c, T[i]? = some c ∧ x1 = .str (sT [c]) := by
            have hx1 : ((sT T).cps[i]?.map fun c => V.str ⟨#[c]⟩) = some x1 := hx1
            cases e : (sT T).cps[i]? with
            | none => rw [e] at hx1; cases hx1
            | some c =>
              rw [e] at hx1
              refine ⟨c, ?_, (Option.some.inj hx1).symm⟩
              rw [← sT_cps T, Array.getElem?_toList]
              exact e
          obtain ⟨dd, hdd, hy⟩ := hB.at hx2
          have hq := (List.getElem?_zip_eq_some (z := (c, dd))).mpr ⟨hc, hdd⟩
          have h1 : partD r c dd = true := List.all_eq_true.mp hp2 (partD r c dd) (List.mem_map.mpr ⟨(c, dd), List.mem_of_getElem? hq, rfl⟩)
          have h2 : smB dd = true := List.all_eq_true.mp hs2 dd (List.mem_of_getElem? hdd)
          have sTp := same_new (o := .tup [.str (sT [c]), x2]) hT
          refine ⟨Tp, _, rfl, SqT.of upd_same, rfl, _, _, rfl, _, _, rfl, rfl, rfl, yesIf ⟨_, rfl, _, rfl, c, x2, dd, r, rfl, hy.same (s1.trans sTp), ht.tupA.get (i := i + 1) (by simpa using hdd), h1, h2, h9, fun H3 s3 => ⟨_, s3 _ _ (sTp _ _ e1), ?_, same_sub ((s1.trans sTp).trans s3) hD2, ?_⟩⟩⟩
          · rw [List.length_map]
            exact Nat.lt_of_le_of_lt (List.length_take_le' _ _) (by rw [List.length_map, List.length_zip]; exact Nat.lt_of_le_of_lt (show min T.length ds.length ≤ 4 by omega) (by decide))
          · rw [upd_same, take_snoc2 (a := sT (bT (partW c dd))) (by rw [List.getElem?_map, hq]; rfl), List.map_append]
            rfl
        · rintro H3 ⟨s1, e1⟩
          rw [List.take_of_length_le (by rw [List.length_map, List.length_zip]; omega)] at e1
          have eD3 := s1 _ _ (sp _ _ eD)
          refine ⟨D, D2, _, _, rfl, rfl, eD3, e1, ?_, ?_⟩
          · rw [List.length_map, List.length_map, List.length_zip]
            exact sl_of (show 1 + min T.length ds.length ≤ 100000 by omega)
          have e4 : [V.str (sT (bT B0))] ++ ((T.zip ds).map fun q => sT (bT (partW q.1 q.2))).map V.str = (((B0 :: (T.zip ds).map fun q => partW q.1 q.2).map fun l => sT (bT l))).map V.str := by
            simp [List.map_map, Function.comp_def]
          rw [e4]
          have hall : ∀ l ∈ (B0 :: (T.zip ds).map fun q => partW q.1 q.2), l.length ≤ 140 := fun l hl => by
            rcases List.mem_cons.mp hl with rfl | hl
            · omega
            · obtain ⟨⟨c, dd⟩, hm, rfl⟩ := List.mem_map.mp hl
              refine partW_len (List.all_eq_true.mp hp2 (partD r c dd) (List.mem_map.mpr ⟨(c, dd), hm, rfl⟩)) ?_
              exact List.all_eq_true.mp hs2 dd (List.of_mem_zip hm).2
          have hn : (B0 :: (T.zip ds).map fun q => partW q.1 q.2).length ≤ 5 := by
            rw [List.length_cons, List.length_map, List.length_zip]
            omega
          have k := k (upd H3 D (.lst ((((B0 :: (T.zip ds).map fun q => partW q.1 q.2).map fun l => sT (bT l))).map V.str))) (same_sub (sD.trans (sp.trans s1)) hD)
          have ek : B0 ++ ((T.zip ds).map fun q => partW q.1 q.2).flatten = (B0 :: (T.zip ds).map fun q => partW q.1 q.2).flatten := rfl
          rw [ek] at k
          generalize (B0 :: (T.zip ds).map fun q => partW q.1 q.2) = BL at k hall hn
          refine ⟨⟨_, rfl⟩, _, rfl, "", D, BL.map (fun l => sT (bT l)), rfl, rfl, .inl (SqL.of upd_same), ?_, ?_⟩
          · have := sum_le2 140 BL hall
            rw [show ("" : Str).length = 0 from rfl, Nat.mul_zero, Nat.add_zero]
            have : 140 * BL.length ≤ 140 * 5 := Nat.mul_le_mul_left _ hn
            omega
          · have j := join_sT (BL.map bT)
            rw [List.map_map] at j
            have j : Txt.join "" (BL.map fun l => sT (bT l)) = _ := j
            rw [j, flat_bT]
            exact k
      · exact absurd rfl (hn _)
end
/-! ## enumerate of a tuple -/
section
open PySem.Spec PyProof.Rows
theorem meets_enumerate_newB1 {v : Value} {o : Obj} {H : Heap → Prop} (B : Begins v o H) :
    Meets (Builtin.«enumerate.__new__» ⟨[.type "enumerate", v], []⟩) (fun _ R s => H s.heap ∧
      R (.ok (.ret (.ref (s.heap.push o).objs.size))) { s with heap := (s.heap.push o).push { cls := .type "enumerate", data := .fields #[.none, .bool false, .ref s.heap.objs.size, rawInt 0, .none, .none] } }) :=
  .of_wp fun prog w A R s h => by
    obtain ⟨hp, g, d, tk, os⟩ := s; obtain ⟨h1, h⟩ := h
    have hsub := sub_enumerate
    have q1 : ∀ {A' : Around} {E : Value → Shared → Prop} {Q : Value → Shared → Prop}, Q (.ref hp.objs.size) ⟨hp.push o, g, d, tk, os⟩ → wpAny (model prog w) A' (pyIter v) Q E ⟨hp, g, d, tk, os⟩ :=
      fun q => B.iter prog w _ _ ⟨hp, g, d, tk, os⟩ _ h1 q
    wp_walk using q1
    refine wpAny_stack_any fun st => wpAny_pure ?_
    split
    · rename_i c _ _ _ _ _
      cases (c == Value.type "enumerate")
      · wp_walk using q1
        exact ⟨_, rfl, h⟩
      · wp_walk using q1
        exact ⟨_, rfl, h⟩
    · wp_walk using q1
      exact ⟨_, rfl, h⟩
theorem enum_begins1 {prog : Program} {w : World} {A : Around} {E : Value → Shared → Prop} {s : Shared} {v : Value} {o : Obj} {H : Heap → Prop} {Q : Value → Shared → Prop} (B : Begins v o H) (h1 : H s.heap)
    (h : ∀ h', IsEnum h' (s.heap.objs.size + 1) s.heap.objs.size 0 .none → h'.get? s.heap.objs.size = some o → h'.objs.size = s.heap.objs.size + 2 →
      (∀ b o, s.heap.get? b = some o → h'.get? b = some o) → Q (.ref (s.heap.objs.size + 1)) { s with heap := h' }) :
    wpAny (model prog w) A (call (.type "enumerate") [v]) Q E s := by
  refine callType_new F.called_enumerate (by decide) (F.typeCall_enumerate_1 _) (F.newCall_enumerate_1 _) (fun obj => F.args_object_init_2 obj _) F.entry_enumerate_new
    (meets_enumerate_newB1 B) ⟨h1, ?_⟩
  have hz : (s.heap.push o).objs.size = s.heap.objs.size + 1 := Heap.size_push ..
  show _ ∧ _
  rw [hz]
  have he : IsEnum ((s.heap.push o).push { cls := .type "enumerate", data := .fields #[.none, .bool false, .ref s.heap.objs.size, rawInt 0, .none, .none] }) (s.heap.objs.size + 1) s.heap.objs.size 0 .none := by
    have := Heap.get?_push_size (s.heap.push o) (o := { cls := .type "enumerate", data := .fields #[.none, .bool false, .ref s.heap.objs.size, rawInt 0, .none, .none] }) rfl
    rw [hz] at this; exact this
  refine ⟨⟨_, he, rfl⟩, h _ he (Heap.get?_push_of_some _ (Heap.get?_push_size _ B.free)) (by rw [Heap.size_push, hz]) fun b o x => Heap.get?_push_of_some _ (Heap.get?_push_of_some _ x)⟩
def IteT (K : PySem.W.Frag) (a : Addr) : It :=
  ⟨fun i H => ∃ (xs : List V) (x : V), SqT K H a xs ∧ xs[i]? = some x, fun i H v H' => ∃ T x, v = .ref T ∧ H T = none ∧ H' = upd H T (.tup [.int (i : Nat), x]) ∧ ∀ xs, SqT K H a xs → xs[i]? = some x, fun i H => ∃ xs : List V, SqT K H a xs ∧ i = xs.length⟩
theorem turn_enumT {P : Program} {w : World} {K : PySem.W.Frag} {elts : List Expr} {kk : Nat} {tpos : Pos} (a e it : Addr) :
    Turn P w K (.Tuple elts kk tpos) (IteT K a) [e, it] e (fun i h => (∃ old, IsEnum h e it ((i : Nat) : Int) old) ∧ h.IsTupleIter it a i ∧ e ≠ it ∧ e ≠ a ∧ it ≠ a) where
  mem := by simp
  obj := fun i h st b hb => by
    obtain ⟨⟨old, he⟩, ⟨o, ho, hc, hd⟩, _⟩ := st
    have e' : b = e ∨ b = it := by simpa using hb
    rcases e' with z | z
    · rw [z]; exact ⟨_, he, fun v q => nomatch q⟩
    · rw [z]; exact ⟨o, ho, fun v q => by rw [hd] at q; cases q⟩
  keep := fun i h h' st k => let ⟨⟨old, he⟩, hi, hne⟩ := st; ⟨⟨old, k e (by simp) _ he⟩, hi.at fun o q => k it (by simp) o q, hne⟩
  item := by
    intro X hP hw hK hc i pins s σ H E I hf st hg
    subst hP hw hK
    obtain ⟨⟨old, he⟩, hit, hne, hea, hia⟩ := st
    obtain ⟨xs, x, hq, hx⟩ := hg
    obtain ⟨its, rv, p, hz⟩ := I.tuple hq
    obtain ⟨u, hu, ru⟩ := rv.get hx
    have hel : e < s.heap.objs.size := Heap.lt_size he
    have hil : it < s.heap.objs.size := by obtain ⟨_, q, _⟩ := hit; exact Heap.lt_size q
    have hlt : i < its.toArray.size := by
      have := (List.getElem?_eq_some_iff.mp hu).1
      simpa using this
    refine wpAny_pyNext_enum_itemD (Draws.tuple (by exact I.ok.hd hc) it a (Ne.symm hia) its.toArray) he ⟨hit, p⟩ hlt hne (by simp; exact ⟨hne, hea⟩) fun x2 h' tk y2 ho hit' hT hsz hk => ?_
    have e2 : x2 = u := by
      have : its.toArray[i]? = some u := by simpa using hu
      rw [this] at y2
      exact (Option.some.inj y2).symm
    subst e2
    refine ⟨_, rfl, wpAny_letOwnedTupleGo_enum (s := { s with heap := h', toks := tk + 1 }) ho fun h'' he' sb => ?_⟩
    have hT2 : h''.get? s.heap.objs.size = some { cls := .type "tuple", data := .seq #[.int i tk, x2] } := (sb.2 _ (Nat.ne_of_gt hel)).trans hT
    have new : ObjOk X.prog X.w (upd H s.heap.objs.size (.tup [.int (i : Nat), x])) h'' s.heap.objs.size (.tup [.int (i : Nat), x]) :=
      ⟨by show 2 ≤ sizeLine; decide, [.int i tk, x2], .cons ⟨_, rfl⟩ (.cons ru .nil), ⟨_, hT2, rfl, _, rfl⟩⟩
    have I1 : Inv X pins σ (upd H s.heap.objs.size (.tup [.int (i : Nat), x])) { s with heap := h'', toks := tk + 1 } :=
      I.turnedNew (ch := [e, it]) (fun b ob hb q => (sb.2 b (fun z => hb (by simp [z]))).trans (hk b ob (fun z => hb (by simp [z])) (fun z => hb (by simp [z])) q)) hf (Nat.le_refl _) new
    refine ⟨.ref s.heap.objs.size, _, I1, rfl, ⟨_, x, rfl, I.hok.fresh (Nat.le_refl _), rfl, fun ys hy => by rw [I.tuple_inj hy hq]; exact hx⟩, ⟨⟨x2, ?_⟩, hit'.1.at fun o q => (sb.2 it (Ne.symm hne)).trans q, hne, hea, hia⟩, fun b hb => ?_⟩
    · have e1 : ((i + 1 : Nat) : Int) = (i : Int) + 1 := by omega
      rw [e1]; exact he'
    · have hb' : b < s.heap.objs.size := by
        have e' : b = e ∨ b = it := by simpa using hb
        rcases e' with z | z
        · rw [z]; exact hel
        · rw [z]; exact hil
      rw [upd_ne (Nat.ne_of_lt hb')]
      exact (hf b hb).1
  done := by
    intro X hP hw hK hc i pins s σ H E I hf st hg
    subst hP hw hK
    obtain ⟨⟨old, he⟩, hit, hne, hea, hia⟩ := st
    obtain ⟨xs, hq, hx⟩ := hg
    obtain ⟨its, rv, p, hz⟩ := I.tuple hq
    obtain ⟨f0, f1, f2, f3, f4, f5⟩ := hf it (by simp)
    have hl := rv.length
    have e1 : i = its.toArray.size := by rw [List.size_toArray]; omega
    subst e1
    exact wpAny_pyNext_enum_endD (Draws.tuple (by exact I.ok.hd hc) it a (Ne.symm hia) its.toArray) he ⟨hit, p⟩ fun h' eb => ⟨rfl, I.turned (t' := s.toks) (fun b o hb q => eb b o hb q) f0 f1 f3 f4 f5⟩
  self := fun A i s Q E st h => let ⟨⟨_, he⟩, _⟩ := st; wpAny_pyIter_enum he h
def iEnumT (K : PySem.W.Frag) (ta : TA) : TI := fun σ H R => ta σ H fun vs H1 => ∃ a xs, vs = [.ref a] ∧ SqT K H1 a xs ∧ R (IteT K a) H1
theorem pi_enumT {X : Cx} {e : Expr} {ta : TA} {p pos tpos : Pos} {elts : List Expr} {kk : Nat} (hg : Gl X "enumerate") (hm : X.mg "enumerate" = none) (ha : PA X [e] ta) (hs : starEach [e] X.env = [(false, eval e X.env)] := by rfl) :
    PI X (.Tuple elts kk tpos) (.Call (.Name "enumerate" p) [e] [] pos) (iEnumT X.K ta) := by
  refine ⟨fun pins s σ H R I h => ?_⟩
  refine Call_ (ld_blt I hg hm boot_enumerate (PyProof.Rows.callWith_type1 (thn (ha.run pos pins s σ H _ I h) fun us s1 ⟨vs, H1, I1, r1, q1⟩ => ?_) hs rfl))
  obtain ⟨a, xs, ex, hq, q⟩ := q1
  subst ex
  cases r1 with
  | cons r rr =>
    cases rr
    cases r
    obtain ⟨its, rv, p', hz⟩ := I1.tuple hq
    obtain ⟨o2, ho2, _⟩ := id p'
    have la : a < s1.heap.objs.size := Heap.lt_size ho2
    refine enum_begins1 (begins_tuple a its.toArray) p' fun h' he hit hsz hk => wpAny_pyIter_enum he ?_
    have I2 : Inv X pins σ H1 { s1 with heap := h' } := I1.kept (t' := s1.toks) hk
    refine ⟨s1.heap.objs.size + 1, [s1.heap.objs.size + 1, s1.heap.objs.size], _, _, H1, rfl, I2, turn_enumT a (s1.heap.objs.size + 1) s1.heap.objs.size, ⟨⟨.none, he⟩, ⟨_, hit, rfl, rfl⟩, Nat.succ_ne_self _, Nat.ne_of_gt (Nat.lt_succ_of_lt la), Nat.ne_of_gt la⟩, fun b hb => ?_, q⟩
    have e' : b = s1.heap.objs.size + 1 ∨ b = s1.heap.objs.size := by simpa using hb
    have hle : s1.heap.objs.size ≤ b := by
      rcases e' with z | z
      · rw [z]; exact Nat.le_add_right _ _
      · rw [z]; exact Nat.le_refl _
    exact I1.fpOk hle (I1.hok.fresh hle)
theorem walk_enumT {K : PySem.W.Frag} {a : Addr} {xs : List V} : Walk (IteT K a) xs.length (fun H => SqT K H a xs) (YPair (fun i => some (.int (i : Nat))) (fun i => xs[i]?)) := by
  refine ⟨fun i _ hi q => ⟨xs, xs[i], q, by simp [hi]⟩, fun _ q => ⟨xs, q, rfl⟩, fun i H v H' _ q y => ?_⟩
  obtain ⟨T, x, h1, h2, h3, h4⟩ := y
  exact ⟨T, .int (i : Nat), x, h1, h2, h3, rfl, h4 xs q⟩
/-! ## two readings of one text -/
def iOr (a b : TI) : TI := fun σ H R => a σ H R ∨ b σ H R
theorem pi_or {X : Cx} {tg it : Expr} {a b : TI} (h1 : PI X tg it a) (h2 : PI X tg it b) : PI X tg it (iOr a b) :=
  ⟨fun pins s σ H R I h => h.elim (fun h => h1.run pins s σ H R I h) (fun h => h2.run pins s σ H R I h)⟩
end
/-! ## lists and tuples of instructions written -/
def SeqH (H : Hp) (a : Addr) (xs : List V) : Prop := H a = some (.lst xs) ∨ H a = some (.tup xs)
theorem SeqH.same {H H' : Hp} {a : Addr} {xs : List V} (s : Same H H') : SeqH H a xs → SeqH H' a xs := Or.imp (s _ _) (s _ _)
section
variable {K : PySem.W.Frag} {σ : L2.St} {H : Hp} {a : Addr} {xs : List V} {R : It → Hp → Prop} {i : Nat}
theorem ior_enum (hσ : σ[i]? = some (some (.ref a))) (h : SeqH H a xs) (k : ∀ (J : It) (G : Hp → Prop), Walk J xs.length G (YPair (fun i => some (.int (i : Nat))) (fun i => xs[i]?)) → (∀ H', Same H H' → G H') → R J H) : iOr (iEnum K (tCons (tVar i) tNil)) (iEnumT K (tCons (tVar i) tNil)) σ H R := by
  rcases h with h | h
  · exact .inl ⟨_, hσ, a, xs, rfl, SqL.of h, k _ _ walk_enum fun H' s => SqL.of (s _ _ h)⟩
  · exact .inr ⟨_, hσ, a, xs, rfl, SqT.of h, k _ _ walk_enumT fun H' s => SqT.of (s _ _ h)⟩
theorem ior_seq (hσ : σ[i]? = some (some (.ref a))) (h : SeqH H a xs) (k : ∀ (J : It) (G : Hp → Prop), Walk J xs.length G (YAt xs) → (∀ H', Same H H' → G H') → R J H) : iOr (iList K (tVar i)) (iTup K (tVar i)) σ H R := by
  rcases h with h | h
  · exact .inl ⟨_, hσ, a, rfl, ⟨xs, SqL.of h⟩, k _ _ walk_list fun H' s => SqL.of (s _ _ h)⟩
  · exact .inr ⟨_, hσ, a, rfl, ⟨xs, SqT.of h⟩, k _ _ walk_tup fun H' s => SqT.of (s _ _ h)⟩
end
/-- no list and no tuple -/
inductive NsV (H : Hp) : V → Prop where
  | non : NsV H .non
  | bl (b : Bool) : NsV H (.bl b)
  | int (i : Int) : NsV H (.int i)
  | str (z : Str) : NsV H (.str z)
  | dic {a : Addr} {kvs : List (Key × V)} (e : H a = some (.dK kvs)) : NsV H (.ref a)
theorem NsV.ty {K : PySem.W.Frag} {H : Hp} {v : V} (h : NsV H v) : ∃ t, TyX K H v t ∧ PySem.W.kitOne K t (.type "list") = some false ∧ PySem.W.kitOne K t (.type "tuple") = some false := by
  cases h with
  | non => exact ⟨_, .base .non, kit_ty (by decide +kernel), kit_ty (by decide +kernel)⟩
  | bl b => exact ⟨_, .base (.bl b), kit_ty (by decide +kernel), kit_ty (by decide +kernel)⟩
  | int i => exact ⟨_, .base (.int i), kit_ty (by decide +kernel), kit_ty (by decide +kernel)⟩
  | str z => exact ⟨_, .base (.str z), kit_ty (by decide +kernel), kit_ty (by decide +kernel)⟩
  | dic e => exact ⟨_, .base (.dK e), kit_ty (by decide +kernel), kit_ty (by decide +kernel)⟩
theorem NsV.same {H H' : Hp} {v : V} (s : Same H H') (h : NsV H v) : NsV H' v := by
  cases h with
  | non => exact .non
  | bl b => exact .bl b
  | int i => exact .int i
  | str z => exact .str z
  | dic e => exact .dic (s _ _ e)
def atE (CI : Addr) (v : V) (H : Hp) (E : XK) : Prop := ∀ H' d, Same H H' → H' d = some (.xd [("at", v)]) → H d = none → E (.ref CI) (some d) H'
theorem atE.same {CI : Addr} {v : V} {H H1 : Hp} {E : XK} (s : Same H H1) (k : atE CI v H E) : atE CI v H1 E := fun H' d s' e n => k H' d (s.trans s') e (s.free n)
def allW (ds : List PyData) : List Bool := (ds.map instrW).flatten
theorem flat_le {m : Nat} : ∀ {L : List (List Bool)}, (∀ l ∈ L, l.length ≤ m) → L.flatten.length ≤ m * L.length
  | [], _ => Nat.zero_le _
  | l :: L, h => by
    have h1 := h l (List.mem_cons_self ..)
    have h2 := flat_le fun x hx => h x (List.mem_cons_of_mem _ hx)
    rw [List.flatten_cons, List.length_append, List.length_cons, Nat.mul_succ]
    omega
theorem instrW_len {r : Nat} {d : PyData} (h : instrD r d = true) (hs : smI d = true) : (instrW d).length ≤ 600 := by
  obtain ⟨z, ds, rfl⟩ : ∃ z ds, d = .tuple (.str z :: ds) := by
    unfold instrD at h
    split at h
    · exact ⟨_, _, rfl⟩
    · cases h
  have h : (isWd z && (decide (ds.length = (shapeT z).length) && (partsOk r (shapeT z) ds && copyOk z ds))) = true := h
  simp only [Bool.and_eq_true, decide_eq_true_eq] at h
  obtain ⟨hw, hlen, hp, _⟩ := h
  have hs2 : ds.all smB = true := by
    have q : (smB (.str z) && ds.all smB) = true := hs
    exact (Bool.and_eq_true_iff.mp q).2
  have hTl : (shapeT z).length ≤ 4 := shape_len _ (word_idx hw).1
  show (digs (wordsL.idxOf z) 5 ++ (((shapeT z).zip ds).map fun p => partW p.1 p.2).flatten).length ≤ 600
  have := flat_le (m := 140) (L := ((shapeT z).zip ds).map fun p => partW p.1 p.2) fun l hl => by
    obtain ⟨⟨c, dd⟩, hm, rfl⟩ := List.mem_map.mp hl
    exact partW_len (List.all_eq_true.mp hp (partD r c dd) (List.mem_map.mpr ⟨(c, dd), hm, rfl⟩)) (List.all_eq_true.mp hs2 dd (List.of_mem_zip hm).2)
  rw [List.length_map, List.length_zip] at this
  rw [List.length_append, digs_len]
  have : 140 * min (shapeT z).length ds.length ≤ 140 * 4 := Nat.mul_le_mul_left _ (by omega)
  omega
def spBitsOf (C CI : Addr) : Sp := fun vs H Q E => ∃ y x, vs = [y, x] ∧ ((BadReg H y ∧ E (.ref C) none H) ∨ ∃ r : Nat, y = .int (r : Int) ∧ 6 ≤ r ∧ r ≤ 9 ∧
  ((NsV H x ∧ atE CI .non H E) ∨ ∃ a xs ds, x = .ref a ∧ SeqH H a xs ∧ DtA anyA H xs ds ∧ TxA ds ∧ ds.length ≤ 100 ∧
    (((∀ d ∈ ds, instrD r d = true ∧ smI d = true) ∧ ∀ H', Same H H' → Q (.str (sT (bT (allW ds)))) H') ∨
     ∃ i d, ds[i]? = some d ∧ instrD r d = false ∧ (∀ j, j < i → ∀ e, ds[j]? = some e → instrD r e = true) ∧ atE CI (.int ((i : Nat) : Int)) H E)))
section
variable {P : Program} {w : World} {K : PySem.W.Frag} {mg : Str → Option Value} {base : Heap}
theorem sc_bits_of : FnScope ["registers", "instructions", "at", "each"] ["registers", "instructions"] (defScope s_bits_of) := ⟨rfl, rfl, rfl, by decide +kernel, rfl, by decide +kernel, by decide +kernel⟩
theorem ok_bitsof {f C CI : Addr} {fd : FuncData} (F : FnP K "bits_of" s_bits_of f fd) (c_need_registers : CalX P w K mg base 2 "need_registers" ["registers"] (spNeedR C)) (c_is_instruction : CalX P w K mg base 4 "is_instruction" ["registers", "thing"] (spIsIn C)) (c_head_bits : Cal P w K mg base 5 "head_bits" ["parts"] spHdW)
    (G : NkF K mg) (B : Ix1 P w K mg base "BadInstruction" CI "at") (tup : mg "tuple" = none) (lis : mg "list" = none) (m_enumerate : mg "enumerate" = none) : FnOk P w K mg base (L2.CX P w) 6 f fd ["registers", "instructions"] (spBitsOf C CI) := by
  obtain ⟨f_need_registers, fd_need_registers, g_need_registers, k_need_registers, b_need_registers, G_need_registers⟩ := c_need_registers
  obtain ⟨f_is_instruction, fd_is_instruction, g_is_instruction, k_is_instruction, b_is_instruction, G_is_instruction⟩ := c_is_instruction
  obtain ⟨f_head_bits, fd_head_bits, g_head_bits, k_head_bits, b_head_bits, G_head_bits⟩ := c_head_bits
  obtain ⟨fi, fdi, iC, tI, OI, bi⟩ := B.i
  refine F.ok sc_bits_of (fun vs H Q E h => ?_) (fun cdv A outer s H vs Q E hr h => ?_)
  · obtain ⟨y, x, rfl, _⟩ := h
    rfl
  · obtain ⟨y, x, rfl, h⟩ := h
    have nd := sc_bits_of.nd
    apply Exists.intro
    apply And.intro
    case left =>
     apply pss_cons
     · exact (ps_expr (pe_call G_need_registers (hr.mono (by decide)) rfl g_need_registers k_need_registers b_need_registers .nil (passes_call (takes_of rfl rfl rfl rfl) (fun _ _ _ _ h => h)) (pa_cons (pv 0) pa_nil)))
     apply pss_cons
     · exact (ps_if (pt_not (pt_val (pe_callB call_isiT (by rfl) G.isi (by decide +kernel) (pa_cons (pv 1) (pa_cons (pe_tup (pa_cons (pe_bltn (v := .ty "list") (by rfl) lis (by decide +kernel) rfl) (pa_cons (pe_bltn (v := .ty "tuple") (by rfl) tup (by decide +kernel) rfl) pa_nil))) pa_nil))))) (pss_one (ps_raise rfl (takes_of rfl rfl rfl rfl) (pmk_oex B.o iC tI OI (hr.mono (show 2 ≤ 5 by decide)) bi .nil pass0 rfl B.g (pa_cons pe_non pa_nil)))) pss_nil)
     apply pss_cons
     · apply ps_for (passes_of rfl) rfl
       · exact (pi_or (pi_enum (by rfl) m_enumerate (pa_cons (pv 1) pa_nil)) (pi_enumT (by rfl) m_enumerate (pa_cons (pv 1) pa_nil)))
       · exact (pg_tup rfl (pgs_cons (pg_name (i := 2) nd rfl (Or.inl rfl)) (pgs_cons (pg_name (i := 3) nd rfl (Or.inl rfl)) pgs_nil)))
       · apply pss_one
         exact (ps_if (pt_not (pt_val (pe_call G_is_instruction (hr.mono (by decide)) rfl g_is_instruction k_is_instruction b_is_instruction .nil (passes_call (takes_of rfl rfl rfl rfl) (fun _ _ _ _ h => h)) (pa_cons (pv 0) (pa_cons (pv 3) pa_nil))))) (pss_one (ps_raise rfl (takes_of rfl rfl rfl rfl) (pmk_oex B.o iC tI OI (hr.mono (show 2 ≤ 5 by decide)) bi .nil pass0 rfl B.g (pa_cons (pv 2) pa_nil)))) pss_nil)
     apply PSs.nox
     apply pss_one
     exact (ps_ret (pe_join pe_str (pe_lc (own := [("each", 3)]) (g := gName 3) rfl nd (pi_or (pi_list (pv 1)) (pi_tup (pv 1))) (blkOk_by (own := [("each", 3)]) (N := ["registers", "instructions", "at", "each"]) (sc := defScope s_bits_of) (by decide +kernel)) (fun _ _ _ _ _ => (pg_name (i := 3) nd rfl (Or.inl rfl))) (fun _ _ _ _ _ => pts_nil) (fun _ _ _ _ _ => (pe_call G_head_bits (hr.mono (by decide)) rfl g_head_bits k_head_bits b_head_bits .nil pass0 (pa_cons (pv 3) pa_nil))))))
    case right =>
      rcases h with ⟨hb, q⟩ | ⟨r, rfl, h6, h9, h⟩
      · exact ⟨_, rfl, _, rfl, .inr ⟨hb, q⟩⟩
      · refine ⟨_, rfl, _, rfl, .inl ⟨r, rfl, h6, h9, ?_⟩⟩
        rcases h with ⟨hN, q⟩ | ⟨a, xs, ds, rfl, hS, hA, hT2, hl, h⟩
        · obtain ⟨t, h1, h2, h3⟩ := hN.ty (K := K)
          refine ⟨_, rfl, (show 2 ≤ sizeLine by decide), fun p hp => ?_⟩
          obtain ⟨t, h1, h2, h3⟩ := (hN.same (same_new (o := .tup [.ty "list", .ty "tuple"]) hp)).ty (K := K)
          exact ⟨x, p, _, t, [.type "list", .type "tuple"], false, rfl, upd_same, .cons (.ty _) (.cons (.ty _) .nil), h1, kitAny_cons h2 (fun _ => kitAny_cons h3 (fun _ => kitAny_nil) fun z => by cases z) (fun z => by cases z), _, rfl, iteN0 (raise_i1 (q.same (same_new hp)))⟩
        · refine ⟨_, rfl, (show 2 ≤ sizeLine by decide), fun p hp => ?_⟩
          have sp := same_new (o := .tup [.ty "list", .ty "tuple"]) hp
          have kit : ∃ t, TyX K (upd H p (.tup [.ty "list", .ty "tuple"])) (.ref a) t ∧ PySem.W.kitAny K t [.type "list", .type "tuple"] = some true := by
            rcases hS with h | h
            · exact ⟨_, .base (.lst (sp _ _ h)), kitAny_cons (kit_ty (b := "list") (r := true) (by decide +kernel)) (fun z => by cases z) fun _ => rfl⟩
            · exact ⟨_, .base (.tup (sp _ _ h)), kitAny_cons (kit_ty (b := "list") (r := false) (by decide +kernel)) (fun _ => kitAny_cons (kit_ty (b := "tuple") (r := true) (by decide +kernel)) (fun z => by cases z) fun _ => rfl) fun z => by cases z⟩
          obtain ⟨t, h1, h2⟩ := kit
          refine ⟨.ref a, p, _, t, [.type "list", .type "tuple"], true, rfl, upd_same, .cons (.ty _) (.cons (.ty _) .nil), h1, h2, _, rfl, iteN1 ?_⟩
          clear h1 h2
          have hS := hS.same sp
          have hA := hA.same sp
          have h : (((∀ d ∈ ds, instrD r d = true ∧ smI d = true) ∧ ∀ H', Same (upd H p (.tup [.ty "list", .ty "tuple"])) H' → Q (.str (sT (bT (allW ds)))) H') ∨ ∃ i d, ds[i]? = some d ∧ instrD r d = false ∧ (∀ j, j < i → ∀ e, ds[j]? = some e → instrD r e = true) ∧ atE CI (.int ((i : Nat) : Int)) (upd H p (.tup [.ty "list", .ty "tuple"])) E) := by
            rcases h with ⟨h, k⟩ | ⟨i, d, g1, g2, g3, k⟩
            · exact .inl ⟨h, fun H' s' => k H' (sp.trans s')⟩
            · exact .inr ⟨i, d, g1, g2, g3, k.same sp⟩
          generalize upd H p (.tup [.ty "list", .ty "tuple"]) = H1 at hS hA h
          have hlen := hA.length
          refine ior_enum rfl hS fun J GG hw hG => ?_
          refine for_it hw (fun i σ H' => Same H1 H' ∧ (∀ j, j < i → ∀ e, ds[j]? = some e → instrD r e = true) ∧ ∃ v2 v3, σ = [some (.int (r : Int)), some (.ref a), v2, v3]) ⟨Same.refl _, fun _ z => absurd z (Nat.not_lt_zero _), none, none, rfl⟩ (fun i σ H' _ h => hG _ h.1) ?_ ?_
          · rintro i x σ H' Hx hi ⟨s1, hok, v2, v3, rfl⟩ ⟨Tp, x1, x2, rfl, hT, rfl, hx1, hx2⟩
            cases hx1
            obtain ⟨dd, hdd, hy⟩ := hA.at hx2
            have sTp := same_new (o := .tup [.int (i : Int), x2]) hT
            refine ⟨Tp, _, rfl, SqT.of upd_same, rfl, _, _, rfl, _, _, rfl, rfl, _, rfl, _, rfl, _, x2, rfl, .inl ⟨r, dd, rfl, h6, h9, hy.same (s1.trans sTp), hT2.get hdd, fun H3 s3 => ⟨_, rfl, ?_⟩⟩⟩
            cases hq : instrD r dd with
            | false =>
              refine iteN0 ⟨_, rfl, raise_i1 ?_⟩
              rcases h with ⟨h, _⟩ | ⟨i0, d0, g1, g2, g3, k⟩
              · rw [(h dd (List.mem_of_getElem? hdd)).1] at hq
                cases hq
              · have ei : i = i0 := by
                  rcases Nat.lt_trichotomy i i0 with z | z | z
                  · rw [g3 i z dd hdd] at hq
                    cases hq
                  · exact z
                  · rw [hok i0 z d0 g1] at g2
                    cases g2
                subst ei
                exact k.same ((s1.trans sTp).trans s3)
            | true =>
              refine iteN1 ⟨(s1.trans sTp).trans s3, fun j hj e he => ?_, _, _, rfl⟩
              rcases Nat.lt_succ_iff_lt_or_eq.mp hj with z | z
              · exact hok j z e he
              · subst z
                rw [hdd] at he
                cases he
                exact hq
          · rintro σ H2 ⟨s1, hok, v2, v3, rfl⟩
            rcases h with ⟨h, k⟩ | ⟨i0, d0, g1, g2, g3, _⟩
            · have hS := hS.same s1
              have hA := hA.same s1
              have k := fun H' (s' : Same H2 H') => k H' (s1.trans s')
              refine ⟨⟨_, rfl⟩, ?_⟩
              refine ior_seq rfl hS fun J GG hw hG => ?_
              refine fun D hD => lc_it hw (fun i H' => Same H2 H' ∧ H' D = some (.lst (((ds.take i).map fun d => sT (bT (instrW d))).map V.str))) ⟨same_new hD, upd_same⟩ (fun i H' _ h => hG _ h.1) ?_ ?_
              · rintro i x H' Hx hi ⟨s2, e2⟩ ⟨rfl, hx⟩
                obtain ⟨dd, hdd, hy⟩ := hA.at hx
                obtain ⟨i1, i2⟩ := h dd (List.mem_of_getElem? hdd)
                refine ⟨rfl, yesIf ⟨_, rfl, x, dd, r, rfl, hy.same s2, hT2.get hdd, i1, i2, h9, fun H3 s3 => ⟨_, s3 _ _ e2, ?_, same_sub (s2.trans s3) hD, ?_⟩⟩⟩
                · rw [List.length_map, List.length_map]
                  exact Nat.lt_of_le_of_lt (List.length_take_le' _ _) (Nat.lt_of_le_of_lt hl (by decide))
                · rw [upd_same, take_snoc2 hdd, List.map_append, List.map_append]
                  rfl
              · rintro H3 ⟨s2, e2⟩
                rw [hlen, List.take_length] at e2
                refine ⟨"", D, ds.map (fun d => sT (bT (instrW d))), rfl, rfl, .inl (SqL.of e2), ?_, ?_⟩
                · have hm : ∀ l ∈ ds.map instrW, l.length ≤ 600 := fun l hl => by
                    obtain ⟨d, hd, rfl⟩ := List.mem_map.mp hl
                    exact instrW_len (h d hd).1 (h d hd).2
                  have := sum_le2 600 (ds.map instrW) hm
                  have e : (ds.map instrW).map (fun l => sT (bT l)) = ds.map fun d => sT (bT (instrW d)) := List.map_map
                  rw [e, List.length_map] at this
                  rw [show ("" : Str).length = 0 from rfl, Nat.mul_zero, Nat.add_zero]
                  omega
                · have j := join_sT ((ds.map instrW).map bT)
                  rw [List.map_map, List.map_map] at j
                  have j : Txt.join "" (ds.map fun d => sT (bT (instrW d))) = _ := j
                  rw [j, flat_bT]
                  exact k _ s2
            · exfalso
              have lt := (List.getElem?_eq_some_iff.mp g1).1
              rw [hok i0 (by omega) d0 g1] at g2
              cases g2
end
/-! ## how far one reads -/
theorem rd_ge {l : List Bool} {i n b : Nat} (h : rd l i = some (n, b)) : i < b := by
  unfold rd at h
  split at h
  · cases h
  · injection h with h
    injection h with h1 h2
    omega
theorem regA_ge {r : Nat} {l : List Bool} {i b : Nat} {d : PyData} (h : regA r l i = some (d, b)) : i ≤ b := by
  unfold regA at h
  cases e : at_ l i 4 with
  | none => rw [e] at h; cases h
  | some n =>
    rw [e] at h
    have h : (if n < r then some (PyData.str (rT n), i + 4) else none) = some (d, b) := h
    split at h
    · injection h with h
      injection h with h1 h2
      omega
    · cases h
theorem ixA_ge {r : Nat} {l : List Bool} {i b : Nat} {d : PyData} (h : ixA r l i = some (d, b)) : i ≤ b := by
  unfold ixA at h
  cases e : at_ l i 2 with
  | none => rw [e] at h; cases h
  | some n =>
    rw [e] at h
    have h : (if n ≤ 2 then some (PyData.int (n : Int), i + 2) else none) = some (d, b) := h
    split at h
    · injection h with h
      injection h with h1 h2
      omega
    · cases h
theorem numA_ge {r : Nat} {l : List Bool} {i b : Nat} {d : PyData} (h : numA r l i = some (d, b)) : i ≤ b := by
  unfold numA rdS at h
  cases e : rd l i with
  | none => rw [e] at h; cases h
  | some x =>
    obtain ⟨n, b'⟩ := x
    rw [e] at h
    injection h with h
    injection h with h1 h2
    have h2 : b' = b := h2
    have := rd_ge e
    omega
theorem leapA_ge {r : Nat} {l : List Bool} {i b : Nat} {d : PyData} (h : leapA r l i = some (d, b)) : i ≤ b := by
  unfold leapA at h
  split at h
  · cases e : at_ l (i + 1) 32 with
    | none => rw [e] at h; cases h
    | some n =>
      rw [e] at h
      injection h with h
      injection h with h1 h2
      omega
  · cases e : at_ l (i + 1) 8 with
    | none => rw [e] at h; cases h
    | some n =>
      rw [e] at h
      injection h with h
      injection h with h1 h2
      omega
theorem placeA_ge {r : Nat} {l : List Bool} {i b : Nat} {d : PyData} (h : placeA r l i = some (d, b)) : i ≤ b := by
  unfold placeA at h
  split at h
  · cases e : rdI l (i + 1) with
    | none => rw [e] at h; cases h
    | some x =>
      obtain ⟨n, b'⟩ := x
      rw [e] at h
      have h : (if 999 < n then none else some (PyData.str (sTx n), b')) = some (d, b) := h
      split at h
      · cases h
      · injection h with h
        injection h with h1 h2
        unfold rdI at e
        cases e2 : rd l (i + 1) with
        | none => rw [e2] at e; cases e
        | some y =>
          obtain ⟨n2, b2⟩ := y
          rw [e2] at e
          injection e with e
          injection e with e3 e4
          have := rd_ge e2
          omega
  · have := regA_ge h
    omega
theorem nameG_ge {l : List Bool} : ∀ (n j : Nat) (acc : List Nat) {b : Nat} {d : PyData}, nameG l j n acc = some (d, b) → j ≤ b
  | 0, j, acc, b, d, h => by cases h
  | n + 1, j, acc, b, d, h => by
    have h : (match at_ l j 5 with
      | none => none
      | some c => if 26 < c then none else if c = 0 then (if nameB acc = true then some (PyData.str (sT acc), j + 5) else none) else nameG l (j + 5) n (acc ++ [96 + c])) = some (d, b) := h
    cases e : at_ l j 5 with
    | none => rw [e] at h; cases h
    | some c =>
      rw [e] at h
      have h : (if 26 < c then none else if c = 0 then (if nameB acc = true then some (PyData.str (sT acc), j + 5) else none) else nameG l (j + 5) n (acc ++ [96 + c])) = some (d, b) := h
      split at h
      · cases h
      · split at h
        · split at h
          · injection h with h
            injection h with h1 h2
            omega
          · cases h
        · have := nameG_ge n _ _ h
          omega
theorem regsA_ge {r : Nat} {l : List Bool} : ∀ (n j : Nat) (acc : List PyData) {b : Nat} {d : PyData}, regsA r l j n acc = some (d, b) → j ≤ b
  | 0, j, acc, b, d, h => by
    injection h with h
    injection h with h1 h2
    omega
  | n + 1, j, acc, b, d, h => by
    have h : (match regA r l j with | none => none | some (d, b) => regsA r l b n (acc ++ [d])) = some (d, b) := h
    cases e : regA r l j with
    | none => rw [e] at h; cases h
    | some x =>
      obtain ⟨d2, b2⟩ := x
      rw [e] at h
      have h1 := regsA_ge n b2 _ h
      have h2 := regA_ge e
      omega
theorem partsA_ge {r : Nat} {l : List Bool} {i b : Nat} {d : PyData} (h : partsA r l i = some (d, b)) : i ≤ b := by
  unfold partsA at h
  cases e : at_ l i 2 with
  | none => rw [e] at h; cases h
  | some n =>
    rw [e] at h
    have := regsA_ge n (i + 2) [] h
    omega
theorem readA_ge {c r : Nat} {l : List Bool} {i b : Nat} {d : PyData} (h : readA c r l i = some (d, b)) : i ≤ b := by
  unfold readA at h
  split at h
  · exact regA_ge h
  split at h
  · exact numA_ge h
  split at h
  · exact placeA_ge h
  split at h
  · exact nameG_ge 9 i [] h
  split at h
  · exact ixA_ge h
  split at h
  · exact partsA_ge h
  · exact leapA_ge h
theorem rdParts_ge {r : Nat} {l : List Bool} : ∀ (T : List Nat) (j : Nat) (acc : List PyData) {b : Nat} {ds : List PyData}, j ≤ l.length → rdParts r l T j acc = some (ds, b) → j ≤ b ∧ b ≤ l.length
  | [], j, acc, b, ds, hj, h => by
    injection h with h
    injection h with h1 h2
    omega
  | c :: T, j, acc, b, ds, hj, h => by
    have h : (match readA c r l j with | none => none | some (d, b) => rdParts r l T b (acc ++ [d])) = some (ds, b) := h
    cases e : readA c r l j with
    | none => rw [e] at h; cases h
    | some x =>
      obtain ⟨d2, b2⟩ := x
      rw [e] at h
      have h1 := rdParts_ge T b2 _ (readA_le e) h
      have h2 := readA_ge e
      omega
theorem rdOne_ge {r : Nat} {l : List Bool} {i b : Nat} {d : PyData} (h : rdOne r l i = some (d, b)) : i < b ∧ b ≤ l.length := by
  unfold rdOne at h
  cases e : at_ l i 5 with
  | none => rw [e] at h; cases h
  | some c =>
    rw [e] at h
    have h : (if 26 ≤ c then none else rdEnd (wordsL.getD c "") (rdParts r l (shapesT.getD c []) (i + 5) [.str (wordsL.getD c "")])) = some (d, b) := h
    have := at_lt e
    split at h
    · cases h
    · cases e2 : rdParts r l (shapesT.getD c []) (i + 5) [.str (wordsL.getD c "")] with
      | none => rw [e2] at h; cases h
      | some x =>
        obtain ⟨ds, b2⟩ := x
        rw [e2] at h
        have h : (if wordsL.getD c "" = "copy" ∧ slotD ds[1]? = true ∧ slotD ds[2]? = true then none else some (PyData.tuple ds, b2)) = some (d, b) := h
        split at h
        · cases h
        · injection h with h
          injection h with h1 h2
          have := rdParts_ge _ _ _ this e2
          omega
def rdAll (r : Nat) (l : List Bool) : Nat → Nat → List (Nat × PyData) → List (Nat × PyData) × Nat
  | 0, a, acc => (acc, a)
  | n + 1, a, acc =>
    match rdOne r l a with
    | none => (acc, a)
    | some (d, b) => rdAll r l n b (acc ++ [(a, d)])
def rdA (r : Nat) (l : List Bool) : List (Nat × PyData) × Nat := rdAll r l (l.length + 1) 0 []
def pairD (p : Nat × PyData) : PyData := .tuple [.int (p.1 : Int), p.2]
/-- what the last reading gave, its parts apart from the list at D -/
def ResT (H : Hp) (D : Addr) (H' : Hp) (v : V) : Option (PyData × Nat) → Prop
  | none => v = .non
  | some (d, b) => ∃ p x, v = .ref p ∧ H' p = some (.tup [x, .int (b : Int)]) ∧ p ≠ D ∧ Dt (fun a => H a = none ∧ a ≠ D) H' x d
theorem ResT.of {H H3 H4 : Hp} {D : Addr} {v : V} {ys : List V} {y : Option (PyData × Nat)} (s : Same H H3) (eD : H3 D = some (.lst ys)) (s4 : Same H3 H4) (h : ResD H3 H4 v y) : ResT H D H4 v y := by
  cases y with
  | none => exact h
  | some y =>
    obtain ⟨d, b⟩ := y
    obtain ⟨p, x, rfl, hp, hx⟩ := h
    exact ⟨p, x, rfl, hp, ne_of hp (s4 _ _ eD) (by intro z; cases z), hx.to fun a o g e => ⟨e, s.free g, fun z => by rw [z, eD] at g; cases g⟩⟩
def spAll : Sp := fun vs H Q _ => ∃ (r : Nat) (l : List Bool), vs = [.int (r : Int), .str (sT (bT l))] ∧ l.length ≤ 600 ∧ r ≤ 9 ∧
  ∀ H' t v, Same H H' → H t = none → H' t = some (.tup [v, .int ((rdA r l).2 : Int)]) → Dt (fun c => H c = none) H' v (.list ((rdA r l).1.map pairD)) → Q (.ref t) H'
section
variable {P : Program} {w : World} {K : PySem.W.Frag} {mg : Str → Option Value} {base : Heap}
theorem sc_all_read : FnScope ["registers", "bits", "found", "address", "told"] ["registers", "bits"] (defScope s_all_read) := ⟨rfl, rfl, rfl, by decide +kernel, rfl, by decide +kernel, by decide +kernel⟩
theorem ok_all {CX : CXT} {f : Addr} {fd : FuncData} (F : FnP K "all_read" s_all_read f fd) (c_read_one : Cal P w K mg base 4 "read_one" ["registers", "bits", "at"] (spRd 0 rdOne)) : FnOk P w K mg base CX 5 f fd ["registers", "bits"] spAll := by
  obtain ⟨f_read_one, fd_read_one, g_read_one, k_read_one, b_read_one, G_read_one⟩ := c_read_one
  refine F.ok sc_all_read (fun vs H Q E h => ?_) (fun cdv A outer s H vs Q E hr h => ?_)
  · obtain ⟨r, l, rfl, _⟩ := h
    rfl
  · obtain ⟨r, l, rfl, hl, h9, k⟩ := h
    have nd := sc_all_read.nd
    apply Exists.intro
    apply And.intro
    case left =>
     apply PSs.nox
     apply pss_cons
     · exact (ps_par (X := (cxOf CX P w K mg base ["registers", "bits", "found", "address", "told"] "all_read" (defScope s_all_read) f cdv A outer s H E).nox) (i := 2) (j := 3) rfl nd rfl rfl (by decide) rfl rfl (pa_cons (pe_lst pa_nil) (pa_cons pe_int pa_nil)) (by rfl))
     apply pss_cons
     · exact (ps_set (i := 4) nd rfl (.inl rfl) (pe_call G_read_one (hr.mono (by decide)) rfl g_read_one k_read_one b_read_one .nil pass0 (pa_cons (pv 0) (pa_cons (pv 1) (pa_cons (pv 3) pa_nil)))))
     apply pss_cons
     · apply ps_while PassesOwn.never
       · exact (pt_cmpR op_notN (pv 4) pe_non (nomark _))
       · apply pss_cons
         · exact (ps_expr (pe_bm PySem.F.plainAttrs_list PySem.F.slot_list_append PySem.F.type_list_append mt_append (pv 2) (pa_cons (pe_tup (pa_cons (pv 3) (pa_cons (pe_ix ix_tup (pv 4) pe_int (fun _ _ => rfl)) pa_nil))) pa_nil)))
         apply pss_cons
         · exact (ps_set (i := 3) nd rfl (.inl rfl) (pe_ix ix_tup (pv 4) pe_int (fun _ _ => rfl)))
         apply pss_one
         exact (ps_set (i := 4) nd rfl (.inl rfl) (pe_call G_read_one (hr.mono (by decide)) rfl g_read_one k_read_one b_read_one .nil pass0 (pa_cons (pv 0) (pa_cons (pv 1) (pa_cons (pv 3) pa_nil)))))
     apply pss_one
     exact (ps_ret (pe_tup (pa_cons (pv 2) (pa_cons (pv 3) pa_nil))))
    case right =>
      refine ⟨(show 0 ≤ sizeLine by decide), fun D hD => ⟨_, _, rfl, ?_⟩⟩
      refine ⟨_, rfl, _, rfl, _, rfl, r, l, 0, rfl, hl, Nat.zero_le _, h9, fun v H1 s1 hv => ?_⟩
      refine ⟨fun m σ H' => ∃ (xs : List V) (ps : List (Nat × PyData)) (b n : Nat) (v : V), m = l.length + 1 - b ∧ σ = [some (.int (r : Int)), some (.str (sT (bT l))), some (.ref D), some (.int (b : Int)), some v] ∧ Same H H' ∧ H' D = some (.lst xs) ∧ DtA (fun a => H a = none ∧ a ≠ D) H' xs (ps.map pairD) ∧
        ps.length ≤ b ∧ b ≤ l.length ∧ l.length < n + b ∧ rdA r l = rdAll r l n b ps ∧ ResT H D H' v (rdOne r l b), ⟨_, [], [], 0, l.length + 1, v, rfl, rfl, (same_new hD).trans s1, s1 _ _ upd_same, .nil, Nat.le_refl _, Nat.zero_le _, by omega, rfl, ResT.of (same_new hD) upd_same s1 hv⟩, ?_⟩
      rintro m σ H2 ⟨xs, ps, b, n, v, rfl, rfl, s2, eD, hA, lp, lb, ln, he, hv⟩
      refine ⟨_, rfl, rfl, _, rfl, ?_⟩
      cases e : rdOne r l b with
      | none =>
        rw [e] at hv
        have hv : v = .non := hv
        subst hv
        rw [decide_eq_true rfl]
        refine iteN1 ?_
        have e2 : rdA r l = (ps, b) := by
          rw [he]
          cases n with
          | zero => rfl
          | succ n =>
            show (match rdOne r l b with | none => (ps, b) | some (d, c) => rdAll r l n c (ps ++ [(b, d)])) = _
            rw [e]
        rw [e2] at k
        refine ⟨_, rfl, _, rfl, (show 2 ≤ sizeLine by decide), fun t ht => k _ t (.ref D) (s2.trans (same_new ht)) (s2.free ht) upd_same (.lst hD (same_new ht _ _ eD) (hA.to fun a o g e => ⟨same_new ht _ _ e, g.1⟩))⟩
      | some y =>
        obtain ⟨d, c⟩ := y
        rw [e] at hv
        obtain ⟨p, x, rfl, hp, np, hx⟩ := hv
        obtain ⟨g1, g2⟩ := rdOne_ge e
        rw [decide_eq_false (fun z => by cases z)]
        refine iteN0 ?_
        obtain ⟨n', rfl⟩ : ∃ n', n = n' + 1 := ⟨n - 1, by omega⟩
        refine ⟨fun σ' H' => ∃ m', m' < l.length + 1 - b ∧ ∃ (xs : List V) (ps : List (Nat × PyData)) (b n : Nat) (v : V), m' = l.length + 1 - b ∧ σ' = [some (.int (r : Int)), some (.str (sT (bT l))), some (.ref D), some (.int (b : Int)), some v] ∧ Same H H' ∧ H' D = some (.lst xs) ∧ DtA (fun a => H a = none ∧ a ≠ D) H' xs (ps.map pairD) ∧
          ps.length ≤ b ∧ b ≤ l.length ∧ l.length < n + b ∧ rdA r l = rdAll r l n b ps ∧ ResT H D H' v (rdOne r l b), fun σ' H' h => h, ?_⟩
        have hxl := hA.length
        rw [List.length_map] at hxl
        refine ⟨_, rfl, .inl ⟨rfl, _, SqL.of eD⟩, _, rfl, _, rfl, p, _, _, _, rfl, rfl, SqT.of hp, rfl, (show 2 ≤ sizeLine by decide), fun T hT => ⟨D, _, _, rfl, rfl, same_new hT _ _ eD, by rw [hxl]; exact Nat.lt_of_le_of_lt (Nat.le_trans lp lb) (Nat.lt_of_le_of_lt hl (by decide)), ?_⟩⟩
        have nT : T ≠ D := (ne_of_none eD hT).symm
        have hp2 : upd (upd H2 T (.tup [.int (b : Int), x])) D (.lst (xs ++ [.ref T])) p = some (.tup [x, .int (c : Int)]) := by
          rw [upd_ne np]
          exact same_new hT _ _ hp
        have s3 : Same H (upd (upd H2 T (.tup [.int (b : Int), x])) D (.lst (xs ++ [.ref T]))) := same_sub (s2.trans (same_new hT)) hD
        have keep : ∀ a o, (H a = none ∧ a ≠ D) → H2 a = some o → upd (upd H2 T (.tup [.int (b : Int), x])) D (.lst (xs ++ [.ref T])) a = some o ∧ (H a = none ∧ a ≠ D) := fun a o g e => ⟨by rw [upd_ne g.2]; exact same_new hT _ _ e, g⟩
        have hA3 : DtA (fun a => H a = none ∧ a ≠ D) (upd (upd H2 T (.tup [.int (b : Int), x])) D (.lst (xs ++ [.ref T]))) (xs ++ [.ref T]) ((ps ++ [(b, d)]).map pairD) := by
          rw [List.map_append]
          refine (hA.to keep).app (.cons (.tup ⟨s2.free hT, nT⟩ (by rw [upd_ne nT, upd_same]) (.cons (.int _) (.cons (hx.to keep) .nil))) .nil)
        have eD3 : upd (upd H2 T (.tup [.int (b : Int), x])) D (.lst (xs ++ [.ref T])) D = some (.lst (xs ++ [.ref T])) := upd_same
        generalize upd (upd H2 T (.tup [.int (b : Int), x])) D (.lst (xs ++ [.ref T])) = H3 at hp2 s3 hA3 eD3
        refine ⟨_, rfl, p, _, _, _, rfl, rfl, SqT.of hp2, rfl, ?_⟩
        refine ⟨_, rfl, _, rfl, _, rfl, r, l, c, rfl, hl, by omega, h9, fun v2 H4 s4 hv2 => ?_⟩
        refine ⟨_, by omega, xs ++ [.ref T], ps ++ [(b, d)], c, n', v2, rfl, rfl, s3.trans s4, s4 _ _ eD3, hA3.to (fun a o g e => ⟨s4 _ _ e, g⟩), ?_, g2, by omega, ?_, ResT.of s3 eD3 s4 hv2⟩
        · rw [List.length_append]
          show ps.length + 1 ≤ c
          omega
        · rw [he]
          show (match rdOne r l b with | none => (ps, b) | some (d, c) => rdAll r l n' c (ps ++ [(b, d)])) = _
          rw [e]
end
/-! ## the two readers of bits -/
def spRdB (C CB : Addr) : Sp := fun vs H Q E => ∃ y x, vs = [y, x] ∧ ((BadReg H y ∧ E (.ref C) none H) ∨ ∃ r : Nat, y = .int (r : Int) ∧ 6 ≤ r ∧ r ≤ 9 ∧ ((NbV H x ∧ atE CB .non H E) ∨ ∃ l : List Bool, x = .str (sT (bT l)) ∧ l.length ≤ 600 ∧
  (((rdA r l).2 < l.length ∧ atE CB (.int ((rdA r l).2 : Int)) H E) ∨ (¬ (rdA r l).2 < l.length ∧ ∀ H' v, Same H H' → Dt (fun c => H c = none) H' v (.list ((rdA r l).1.map pairD)) → Q v H'))))
/-- where an instruction is asked for: at a place of the bits, or elsewhere -/
def askA (r : Nat) (l : List Bool) : Option Nat → Option (PyData × Nat)
  | none => none
  | some i => rdOne r l i
def PlV (H : Hp) (n : Nat) (z : V) : Option Nat → Prop
  | some i => z = .int (i : Int) ∧ i < n
  | none => (∃ k : Int, z = .int k ∧ (k < 0 ∨ (n : Int) ≤ k)) ∨ OtV H z
def spInAt (C CB CA : Addr) : Sp := fun vs H Q E => ∃ y x z, vs = [y, x, z] ∧ ((BadReg H y ∧ E (.ref C) none H) ∨ ∃ r : Nat, y = .int (r : Int) ∧ 6 ≤ r ∧ r ≤ 9 ∧ ((NbV H x ∧ atE CB .non H E) ∨ ∃ (l : List Bool) (o : Option Nat), x = .str (sT (bT l)) ∧ l.length ≤ 600 ∧ PlV H l.length z o ∧
  ((askA r l o = none ∧ ∀ H', Same H H' → E (.ref CA) none H') ∨ ∃ d b, askA r l o = some (d, b) ∧ ∀ H' v, Same H H' → ResD H H' v (some (d, b)) → Q v H')))
section
variable {P : Program} {w : World} {K : PySem.W.Frag} {mg : Str → Option Value} {base : Heap}
theorem sc_read_bits : FnScope ["registers", "bits", "found", "address"] ["registers", "bits"] (defScope s_read_bits) := ⟨rfl, rfl, rfl, by decide +kernel, rfl, by decide +kernel, by decide +kernel⟩
theorem ok_rdb {f C CB : Addr} {fd : FuncData} (F : FnP K "read_bits" s_read_bits f fd) (c_need_registers : CalX P w K mg base 2 "need_registers" ["registers"] (spNeedR C)) (c_need_bits : CalX P w K mg base 3 "need_bits" ["bits"] (spNeedB CB K)) (c_all_read : Cal P w K mg base 5 "all_read" ["registers", "bits"] spAll)
    (G : NkF K mg) (B : Ix1 P w K mg base "BadBits" CB "at") : FnOk P w K mg base (L2.CX P w) 6 f fd ["registers", "bits"] (spRdB C CB) := by
  obtain ⟨f_need_registers, fd_need_registers, g_need_registers, k_need_registers, b_need_registers, G_need_registers⟩ := c_need_registers
  obtain ⟨f_need_bits, fd_need_bits, g_need_bits, k_need_bits, b_need_bits, G_need_bits⟩ := c_need_bits
  obtain ⟨f_all_read, fd_all_read, g_all_read, k_all_read, b_all_read, G_all_read⟩ := c_all_read
  obtain ⟨fi, fdi, iC, tI, OI, bi⟩ := B.i
  refine F.ok sc_read_bits (fun vs H Q E h => ?_) (fun cdv A outer s H vs Q E hr h => ?_)
  · obtain ⟨y, x, rfl, _⟩ := h
    rfl
  · obtain ⟨y, x, rfl, h⟩ := h
    have nd := sc_read_bits.nd
    apply Exists.intro
    apply And.intro
    case left =>
     apply pss_cons
     · exact (ps_expr (pe_call G_need_registers (hr.mono (by decide)) rfl g_need_registers k_need_registers b_need_registers .nil (passes_call (takes_of rfl rfl rfl rfl) (fun _ _ _ _ h => h)) (pa_cons (pv 0) pa_nil)))
     apply pss_cons
     · exact (ps_expr (pe_call G_need_bits (hr.mono (by decide)) rfl g_need_bits k_need_bits b_need_bits .nil (passes_call (takes_of rfl rfl rfl rfl) (fun _ _ _ _ h => h)) (pa_cons (pv 1) pa_nil)))
     apply pss_cons
     · exact (ps_asg (pe_call G_all_read (hr.mono (by decide)) rfl g_all_read k_all_read b_all_read .nil pass0 (pa_cons (pv 0) (pa_cons (pv 1) pa_nil))) (pg_tup rfl (pgs_cons (pg_name (i := 2) nd rfl (Or.inl rfl)) (pgs_cons (pg_name (i := 3) nd rfl (Or.inl rfl)) pgs_nil))))
     apply pss_cons
     · exact (ps_if (pt_cmpR op_lt (pv 3) (pe_callB call_len_str (by rfl) G.len PySem.boot_len (pa_cons (pv 1) pa_nil)) (nomark _)) (pss_one (ps_raise rfl (takes_of rfl rfl rfl rfl) (pmk_oex B.o iC tI OI (hr.mono (show 2 ≤ 5 by decide)) bi .nil pass0 rfl B.g (pa_cons (pv 3) pa_nil)))) pss_nil)
     apply PSs.nox
     apply pss_one
     exact (ps_ret (pv 2))
    case right =>
      rcases h with ⟨hb, q⟩ | ⟨r, rfl, h6, h9, h⟩
      · exact ⟨_, rfl, _, rfl, .inr ⟨hb, q⟩⟩
      · refine ⟨_, rfl, _, rfl, .inl ⟨r, rfl, h6, h9, ?_⟩⟩
        rcases h with ⟨hN, q⟩ | ⟨l, rfl, hl, h⟩
        · exact ⟨_, rfl, _, rfl, .inr ⟨hN, q⟩⟩
        · refine ⟨_, rfl, _, rfl, .inl ⟨bT l, rfl, bT_tx (by omega), bT_isB l, ?_⟩⟩
          refine ⟨_, rfl, _, rfl, r, l, rfl, hl, h9, fun H1 t v s1 n1 e1 hv => ⟨t, _, rfl, SqT.of e1, rfl, _, _, rfl, _, _, rfl, rfl, ?_⟩⟩
          refine ⟨_, rfl, _, rfl, _, rfl, sl_of (by rw [sT_len, bT_len]; omega), _, _, rfl, rfl, _, rfl, ?_⟩
          rw [sT_len, bT_len]
          rcases h with ⟨c, q⟩ | ⟨c, k⟩
          · rw [decide_eq_true (show (((rdA r l).2 : Nat) : Int) < (l.length : Int) by omega)]
            exact iteT ⟨_, rfl, raise_i1 (q.same s1)⟩
          · rw [decide_eq_false (show ¬ (((rdA r l).2 : Nat) : Int) < (l.length : Int) by omega)]
            exact iteF ⟨_, rfl, k _ _ s1 hv⟩
theorem sc_instruction_at : FnScope ["registers", "bits", "address", "told"] ["registers", "bits", "address"] (defScope s_instruction_at) := ⟨rfl, rfl, rfl, by decide +kernel, rfl, by decide +kernel, by decide +kernel⟩
theorem ok_inat {f C CB CA : Addr} {fd : FuncData} (F : FnP K "instruction_at" s_instruction_at f fd) (c_need_registers : CalX P w K mg base 2 "need_registers" ["registers"] (spNeedR C)) (c_need_bits : CalX P w K mg base 3 "need_bits" ["bits"] (spNeedB CB K)) (c_is_number : Cal P w K mg base 1 "is_number" ["thing"] spNum) (c_read_one : Cal P w K mg base 4 "read_one" ["registers", "bits", "at"] (spRd 0 rdOne))
    (G : NkF K mg) (B : PlnX K mg "BadAddress" CA) : FnOk P w K mg base (L2.CX P w) 6 f fd ["registers", "bits", "address"] (spInAt C CB CA) := by
  obtain ⟨f_need_registers, fd_need_registers, g_need_registers, k_need_registers, b_need_registers, G_need_registers⟩ := c_need_registers
  obtain ⟨f_need_bits, fd_need_bits, g_need_bits, k_need_bits, b_need_bits, G_need_bits⟩ := c_need_bits
  obtain ⟨f_is_number, fd_is_number, g_is_number, k_is_number, b_is_number, G_is_number⟩ := c_is_number
  obtain ⟨f_read_one, fd_read_one, g_read_one, k_read_one, b_read_one, G_read_one⟩ := c_read_one
  refine F.ok sc_instruction_at (fun vs H Q E h => ?_) (fun cdv A outer s H vs Q E hr h => ?_)
  · obtain ⟨y, x, z, rfl, _⟩ := h
    rfl
  · obtain ⟨y, x, z, rfl, h⟩ := h
    have nd := sc_instruction_at.nd
    apply Exists.intro
    apply And.intro
    case left =>
     apply pss_cons
     · exact (ps_expr (pe_call G_need_registers (hr.mono (by decide)) rfl g_need_registers k_need_registers b_need_registers .nil (passes_call (takes_of rfl rfl rfl rfl) (fun _ _ _ _ h => h)) (pa_cons (pv 0) pa_nil)))
     apply pss_cons
     · exact (ps_expr (pe_call G_need_bits (hr.mono (by decide)) rfl g_need_bits k_need_bits b_need_bits .nil (passes_call (takes_of rfl rfl rfl rfl) (fun _ _ _ _ h => h)) (pa_cons (pv 1) pa_nil)))
     apply pss_cons
     · exact (ps_set (i := 3) nd rfl (.inl rfl) pe_non)
     apply C8.pss_cut
     · exact (ps_if (PW.pt (pw_and (pt_val (pe_call G_is_number (hr.mono (by decide)) rfl g_is_number k_is_number b_is_number .nil pass0 (pa_cons (pv 2) pa_nil))) (pw_and1 (pt_chain op_le op_lt pe_int (pv 2) (pe_callB call_len_str (by rfl) G.len PySem.boot_len (pa_cons (pv 1) pa_nil)))))) (pss_one (ps_set (i := 3) nd rfl (.inl rfl) (pe_call G_read_one (hr.mono (by decide)) rfl g_read_one k_read_one b_read_one .nil pass0 (pa_cons (pv 0) (pa_cons (pv 1) (pa_cons (pv 2) pa_nil)))))) pss_nil)
     apply pss_cons
     · exact (ps_if (pt_cmpR op_isN (pv 3) pe_non (nomark _)) (pss_one (ps_raise rfl (takes_of rfl rfl rfl rfl) (pmk_own PySem.F.excBase_ValueError B.x B.g B.o.kC (raises_own B.o.exC B.o.tyC) rfl))) pss_nil)
     apply PSs.nox
     apply pss_one
     exact (ps_ret (pv 3))
    case right =>
      rcases h with ⟨hb, q⟩ | ⟨r, rfl, h6, h9, h⟩
      · exact ⟨_, rfl, _, rfl, .inr ⟨hb, q⟩⟩
      · refine ⟨_, rfl, _, rfl, .inl ⟨r, rfl, h6, h9, ?_⟩⟩
        rcases h with ⟨hN, q⟩ | ⟨l, o, rfl, hl, ho, h⟩
        · exact ⟨_, rfl, _, rfl, .inr ⟨hN, q⟩⟩
        · refine ⟨_, rfl, _, rfl, .inl ⟨bT l, rfl, bT_tx (by omega), bT_isB l, ?_⟩⟩
          refine ⟨fun σ H' => Same H H' ∧ ∃ v, σ = [some (.int (r : Int)), some (.str (sT (bT l))), some z, some v] ∧ ResD H H' v (askA r l o), ?_, ?_⟩
          · have sl : (sT (bT l)).length ≤ sizeLine := sl_of (by rw [sT_len, bT_len]; omega)
            cases o with
            | some i =>
              obtain ⟨rfl, hi⟩ := ho
              refine ⟨_, rfl, _, rfl, .inl ⟨_, rfl, _, rfl, iteT ⟨_, rfl, _, _, rfl, rfl, _, rfl, ?_⟩⟩⟩
              rw [decide_eq_true (show (0 : Int) ≤ (i : Int) by omega)]
              refine iteT ⟨_, rfl, _, rfl, sl, _, _, rfl, rfl, _, rfl, ?_⟩
              rw [sT_len, bT_len, decide_eq_true (show (i : Int) < (l.length : Int) by omega)]
              exact iteT ⟨_, rfl, _, rfl, _, rfl, r, l, i, rfl, hl, by omega, h9, fun v H1 s1 hv => ⟨s1, v, rfl, hv⟩⟩
            | none =>
              rcases ho with ⟨k, rfl, hk⟩ | ho
              · refine ⟨_, rfl, _, rfl, .inl ⟨_, rfl, _, rfl, iteT ⟨_, rfl, _, _, rfl, rfl, _, rfl, ?_⟩⟩⟩
                by_cases c : (0 : Int) ≤ k
                · rw [decide_eq_true c]
                  refine iteT ⟨_, rfl, _, rfl, sl, _, _, rfl, rfl, _, rfl, ?_⟩
                  rw [sT_len, bT_len, decide_eq_false (show ¬ k < (l.length : Int) by omega)]
                  exact iteF ⟨Same.refl _, _, rfl, rfl⟩
                · rw [decide_eq_false c]
                  exact iteF ⟨_, rfl, iteF ⟨Same.refl _, _, rfl, rfl⟩⟩
              · exact ⟨_, rfl, _, rfl, .inr ⟨ho, _, rfl, iteF (iteF ⟨Same.refl _, _, rfl, rfl⟩)⟩⟩
          · rintro σ H1 ⟨s1, v, rfl, hv⟩
            rcases h with ⟨e, q⟩ | ⟨d, b, e, k⟩
            · rw [e] at hv
              have hv : v = .non := hv
              subst hv
              refine ⟨_, rfl, rfl, _, rfl, ?_⟩
              rw [decide_eq_true rfl]
              exact iteT (q _ s1)
            · rw [e] at hv
              have hv2 := hv
              obtain ⟨p, x, rfl, _⟩ := hv2
              refine ⟨_, rfl, rfl, _, rfl, ?_⟩
              rw [decide_eq_false (fun z => by cases z)]
              exact iteF ⟨_, rfl, k _ _ s1 hv⟩
end
/-! ## k83's law: bits told by the law's own functions -/
/-- a place's text: a sign and figures -/
def plcT (t : List Nat) : Prop := ∃ c fs, t = c :: fs ∧ NumText.AllDigits fs ∧ ¬ fs = [] ∧ fs.length ≤ 600
def plcD (d : PyData) : Prop := ∃ z, d = .str z ∧ plcT z.cps.toList
def spLRgs : Sp := fun vs H Q _ => ∃ (a : Addr) (xs : List V) (ds : List PyData), vs = [.ref a] ∧ SeqH H a xs ∧ DtA anyA H xs ds ∧ ds.length ≤ 600 ∧ (∀ d ∈ ds, plcD d) ∧ ∀ H', Same H H' → Q (.str (sT (bT (ds.map regW).flatten))) H'
def spLCop : Sp := fun vs H Q _ => ∃ t : List Nat, vs = [.str (sT t)] ∧ (sortP t = some 114 ∨ sortP t = some 115) ∧ ∀ H', Same H H' → Q (.str (sT (bT (placeW t)))) H'
theorem int_from {c : Nat} {fs : List Nat} (dig : NumText.AllDigits fs) (hf : ¬ fs = []) (hl : fs.length ≤ 600) : cutS (sT (c :: fs)) (some 1) none = sT fs ∧ (sT (c :: fs)).length ≤ sizeLine ∧ PySem.intText? (sT fs) = some ((NumText.digitsVal fs : Nat) : Int) := by
  have itx := PySem.intText_digits (x := sT fs) (by rw [sT_cps]; exact dig) (by rw [sT_cps]; exact hf) (by rw [sT_len]; omega)
  rw [sT_cps] at itx
  exact ⟨cut_from (c :: fs) 1, sl_of (by rw [sT_len, List.length_cons]; omega), itx⟩
theorem flat5 (L : List Nat) : ((L.map fun n => bT (digs n 5)).flatten).length = 5 * L.length := by
  induction L with
  | nil => rfl
  | cons n L ih => rw [List.map_cons, List.flatten_cons, List.length_append, ih, bT_len, digs_len, List.length_cons]; omega
def spLFst : Sp := fun vs H Q _ => ∃ z : Str, vs = [.str z] ∧ isWd z = true ∧ ∀ H', Same H H' → Q (.str (sT (bT (digs (wordsL.idxOf z) 5)))) H'
section
variable {P : Program} {w : World} {K : PySem.W.Frag} {mg : Str → Option Value} {base : Heap}
theorem sc__law_registers : FnScope ["_law_places", "_law_place"] ["_law_places"] (defScope s_law_registers) := ⟨rfl, rfl, rfl, by decide +kernel, rfl, by decide +kernel, by decide +kernel⟩
theorem ok_lrgs {CX : CXT} {f : Addr} {fd : FuncData} (F : FnP K "_law_registers" s_law_registers f fd) (c__law_digits : Cal P w K mg base 1 "_law_digits" ["_law_number", "_law_many"] spDigs) (G : NkF K mg) : FnOk P w K mg base CX 2 f fd ["_law_places"] spLRgs := by
  obtain ⟨f__law_digits, fd__law_digits, g__law_digits, k__law_digits, b__law_digits, G__law_digits⟩ := c__law_digits
  refine F.ok sc__law_registers (fun vs H Q E h => ?_) (fun cdv A outer s H vs Q E hr h => ?_)
  · obtain ⟨a, xs, ds, rfl, _⟩ := h
    rfl
  · obtain ⟨a, xs, ds, rfl, hS, hA, hl, hd, k⟩ := h
    have nd := sc__law_registers.nd
    apply Exists.intro
    apply And.intro
    case left =>
     apply PSs.nox
     apply pss_one
     exact (ps_ret (pe_join pe_str (pe_lc (own := [("_law_place", 1)]) (g := gName 1) rfl nd (pi_or (pi_list (pv 0)) (pi_tup (pv 0))) (blkOk_by (own := [("_law_place", 1)]) (N := ["_law_places", "_law_place"]) (sc := defScope s_law_registers) (by decide +kernel)) (fun _ _ _ _ _ => (pg_name (i := 1) nd rfl (Or.inl rfl))) (fun _ _ _ _ _ => pts_nil) (fun _ _ _ _ _ => (pe_call G__law_digits (hr.mono (by decide)) rfl g__law_digits k__law_digits b__law_digits .nil pass0 (pa_cons (pe_callTy call_int_str (by rfl) G.int (by decide +kernel) (pa_cons (pe_slice sl_str (pv 1) (po_some pe_int) po_none) pa_nil)) (pa_cons pe_int pa_nil)))))))
    case right =>
      refine ⟨⟨_, rfl⟩, ?_⟩
      have hlen := hA.length
      refine ior_seq rfl hS fun J GG hw hG => ?_
      refine fun D hD => lc_it hw (fun i H' => Same H H' ∧ H' D = some (.lst (((ds.take i).map fun d => sT (bT (regW d))).map V.str))) ⟨same_new hD, upd_same⟩ (fun i H' _ h => hG _ h.1) ?_ ?_
      · rintro i x H' Hx hi ⟨s2, e2⟩ ⟨rfl, hx⟩
        obtain ⟨dd, hdd, hy⟩ := hA.at hx
        obtain ⟨z, rfl, c, fs, et, dig, hf, hfl⟩ := hd dd (List.mem_of_getElem? hdd)
        cases hy
        have ez : z = sT (c :: fs) := by rw [← et, sT_of]
        obtain ⟨a1, a2, a3⟩ := int_from (c := c) dig hf hfl
        refine ⟨rfl, yesIf ⟨_, rfl, _, rfl, z, rfl, by rw [ez]; exact a2, ?_⟩⟩
        rw [ez, a1]
        refine ⟨_, _, rfl, a3, by rw [sT_len]; omega, _, 4, rfl, by decide, _, e2, ?_, same_sub s2 hD, ?_⟩
        · rw [List.length_map, List.length_map]
          exact Nat.lt_of_le_of_lt (List.length_take_le' _ _) (Nat.lt_of_le_of_lt hl (by decide))
        · rw [upd_same, take_snoc2 hdd, List.map_append, List.map_append]
          show _ = some (HO.lst (_ ++ [V.str (sT (bT (digs (NumText.digitsVal (z.cps.toList.drop 1)) 4)))]))
          rw [et]
          rfl
      · rintro H3 ⟨s2, e2⟩
        rw [hlen, List.take_length] at e2
        refine ⟨"", D, ds.map (fun d => sT (bT (regW d))), rfl, rfl, .inl (SqL.of e2), ?_, ?_⟩
        · have := regs_sum ds
          rw [show ("" : Str).length = 0 from rfl, Nat.mul_zero, Nat.add_zero]
          omega
        · have j := join_sT (ds.map fun d => bT (regW d))
          rw [List.map_map] at j
          have j : Txt.join "" (ds.map fun d => sT (bT (regW d))) = _ := j
          rw [j, regs_bT]
          exact k _ s2
theorem sc__law_copied : FnScope ["_law_place"] ["_law_place"] (defScope s_law_copied) := ⟨rfl, rfl, rfl, by decide +kernel, rfl, by decide +kernel, by decide +kernel⟩
theorem ok_lcop {CX : CXT} {f : Addr} {fd : FuncData} (F : FnP K "_law_copied" s_law_copied f fd) (c__law_registers : Cal P w K mg base 2 "_law_registers" ["_law_places"] spLRgs) (c__law_count : Cal P w K mg base 2 "_law_count" ["_law_number"] spLCnt) (G : NkF K mg) : FnOk P w K mg base CX 3 f fd ["_law_place"] spLCop := by
  obtain ⟨f__law_registers, fd__law_registers, g__law_registers, k__law_registers, b__law_registers, G__law_registers⟩ := c__law_registers
  obtain ⟨f__law_count, fd__law_count, g__law_count, k__law_count, b__law_count, G__law_count⟩ := c__law_count
  refine F.ok sc__law_copied (fun vs H Q E h => ?_) (fun cdv A outer s H vs Q E hr h => ?_)
  · obtain ⟨t, rfl, _⟩ := h
    rfl
  · obtain ⟨t, rfl, hs, k⟩ := h
    have nd := sc__law_copied.nd
    apply Exists.intro
    apply And.intro
    case left =>
     apply PSs.nox
     apply pss_one
     exact (ps_ret (pe_ifExp (pt_cmpR op_eq (pe_ix ix_str (pv 0) pe_int (fun _ _ => rfl)) pe_str (nomark _)) (pe_op op_add_str pe_str (pe_call G__law_registers (hr.mono (by decide)) rfl g__law_registers k__law_registers b__law_registers .nil pass0 (pa_cons (pe_lst (pa_cons (pv 0) pa_nil)) pa_nil))) (pe_op op_add_str pe_str (pe_call G__law_count (hr.mono (by decide)) rfl g__law_count k__law_count b__law_count .nil pass0 (pa_cons (pe_callTy call_int_str (by rfl) G.int (by decide +kernel) (pa_cons (pe_slice sl_str (pv 0) (po_some pe_int) po_none) pa_nil)) pa_nil)))))
    case right =>
      obtain ⟨c, fs, rfl, dig, hf, hl, hc, hv⟩ : ∃ c fs, t = c :: fs ∧ NumText.AllDigits fs ∧ ¬ fs = [] ∧ fs.length ≤ 4 ∧ ((c = 114 ∧ sortP t = some 114) ∨ (c = 115 ∧ sortP t = some 115)) ∧ NumText.digitsVal fs ≤ 999 := by
        rcases hs with e | e
        · obtain ⟨fs, rfl, a, b, c, _, v⟩ := sort_some e
          have v : NumText.digitsVal fs ≤ 8 := v
          exact ⟨_, fs, rfl, a, b, c, .inl ⟨rfl, e⟩, by omega⟩
        · obtain ⟨fs, rfl, a, b, c, _, v⟩ := sort_some e
          have v : NumText.digitsVal fs ≤ 999 := v
          exact ⟨_, fs, rfl, a, b, c, .inr ⟨rfl, e⟩, v⟩
      obtain ⟨a1, a2, a3⟩ := int_from (c := c) dig hf (show fs.length ≤ 600 by omega)
      refine ⟨_, rfl, _, _, c, rfl, rfl, a2, by rw [sT_cps]; exact atI_nat (j := 0) rfl, rfl, _, rfl, ?_⟩
      have e0 : (⟨#[c]⟩ : Str) = sT [c] := rfl
      rw [e0, let_eq c (cps1 (z := "r") (k := 114) (by decide +kernel))]
      rcases hc with ⟨rfl, e⟩ | ⟨rfl, e⟩
      · have k : ∀ H', Same H H' → Q (.str (sT (bT (false :: digs (NumText.digitsVal fs) 4)))) H' := fun H' s' => by
          have q := k H' s'
          unfold placeW at q
          rw [if_neg (show ¬ slotB (114 :: fs) = true by unfold slotB; rw [e]; decide)] at q
          exact q
        rw [decide_eq_true rfl]
        refine iteT ⟨_, rfl, (show 1 ≤ sizeLine by decide), fun p hp => ⟨p, [.str (sT (114 :: fs))], [.str (sT (114 :: fs))], rfl, .inl upd_same, .cons (.str _) .nil, (show 1 ≤ 600 by decide), fun d hd => ?_, fun H1 s1 => ?_⟩⟩
        · rw [List.mem_singleton] at hd
          exact ⟨_, hd, _, fs, sT_cps _, dig, hf, by omega⟩
        · have e1 : sT (bT ([PyData.str (sT (114 :: fs))].map regW).flatten) = sT (bT (digs (NumText.digitsVal fs) 4)) := by
            show sT (bT (digs (NumText.digitsVal ((sT (114 :: fs)).cps.toList.drop 1)) 4 ++ [])) = _
            rw [sT_cps, List.append_nil]
            rfl
          rw [e1]
          refine ⟨_, _, rfl, rfl, ?_, ?_⟩
          · rw [zero_eq, show (⟨#[48]⟩ : Str).length = 1 from rfl, sT_len, bT_len, digs_len]
            exact sl_of (by omega)
          · have e2 : ("0" : Str) ++ sT (bT (digs (NumText.digitsVal fs) 4)) = sT (bT (false :: digs (NumText.digitsVal fs) 4)) := by
              rw [zero_eq]
              exact sT_ap [48] _
            rw [e2]
            exact k _ ((same_new hp).trans s1)
      · have k : Q (.str (sT (bT (true :: gam (NumText.digitsVal fs))))) H := by
          have q := k H (Same.refl _)
          unfold placeW at q
          rw [if_pos (show slotB (115 :: fs) = true by unfold slotB; rw [e]; decide)] at q
          exact q
        rw [decide_eq_false (show ¬ 115 = 114 by decide)]
        refine iteF ⟨_, rfl, _, rfl, _, rfl, a2, ?_⟩
        rw [a1]
        refine ⟨_, _, rfl, a3, by rw [sT_len]; omega, _, rfl, by omega, _, _, rfl, rfl, ?_, ?_⟩
        · obtain ⟨_, h2⟩ := gam_small (n := NumText.digitsVal fs) (by omega)
          rw [one_eq, show (⟨#[49]⟩ : Str).length = 1 from rfl, sT_len, bT_len]
          exact sl_of (by omega)
        · have e2 : ("1" : Str) ++ sT (bT (gam (NumText.digitsVal fs))) = sT (bT (true :: gam (NumText.digitsVal fs))) := by
            rw [one_eq]
            exact sT_ap [49] _
          rw [e2]
          exact k
theorem sc__law_spelt : FnScope ["_law_name", "_law_letter"] ["_law_name"] (defScope s_law_spelt) := ⟨rfl, rfl, rfl, by decide +kernel, rfl, by decide +kernel, by decide +kernel⟩
theorem ok_lspelt {CX : CXT} {f : Addr} {fd : FuncData} (F : FnP K "_law_spelt" s_law_spelt f fd) (c__law_digits : Cal P w K mg base 1 "_law_digits" ["_law_number", "_law_many"] spDigs) (G : NkF K mg) : FnOk P w K mg base CX 2 f fd ["_law_name"] spNmW := by
  obtain ⟨f__law_digits, fd__law_digits, g__law_digits, k__law_digits, b__law_digits, G__law_digits⟩ := c__law_digits
  refine F.ok sc__law_spelt (fun vs H Q E h => ?_) (fun cdv A outer s H vs Q E hr h => ?_)
  · obtain ⟨t, rfl, _⟩ := h
    rfl
  · obtain ⟨t, rfl, hl, ht, k⟩ := h
    have nd := sc__law_spelt.nd
    apply Exists.intro
    apply And.intro
    case left =>
     apply PSs.nox
     apply pss_one
     exact (ps_ret (pe_op op_add_str (pe_join pe_str (pe_lc (own := [("_law_letter", 1)]) (g := gName 1) rfl nd (pi_str (pv 0)) (blkOk_by (own := [("_law_letter", 1)]) (N := ["_law_name", "_law_letter"]) (sc := defScope s_law_spelt) (by decide +kernel)) (fun _ _ _ _ _ => (pg_name (i := 1) nd rfl (Or.inl rfl))) (fun _ _ _ _ _ => pts_nil) (fun _ _ _ _ _ => (by (show PE _ _ (tCall spDigs [] C8.E0 (tCons (tOp (rI0 fun i j => V.int (i + j)) (tBM K "str" (fun x xs H Q => ∃ a b, x = V.str a ∧ xs = [V.str b] ∧ Q (V.int (Txt.find a b)) H) (tC (V.str "abcdefghijklmnopqrstuvwxyz")) (tCons (tVar 1) tNil)) (tC (V.int 1))) (tCons (tC (V.int 5)) tNil))); refine pe_call G__law_digits (hr.mono (by decide)) rfl g__law_digits k__law_digits b__law_digits .nil pass0 (pa_cons (pe_op op_add ?_ pe_int) (pa_cons pe_int pa_nil)); exact pe_bm PySem.F.plainAttrs_str PySem.F.slot_str_find PySem.F.type_str_find mt_find pe_str (pa_cons (pv 1) pa_nil)))))) pe_str))
    case right =>
      refine ⟨⟨_, rfl⟩, _, rfl, _, rfl, fun D hD => ?_⟩
      refine lc_it walk_str (fun i H' => H' = upd H D (.lst ((((t.take i).map (· - 96)).map fun n => sT (bT (digs n 5))).map V.str))) rfl (fun _ _ _ _ => trivial) ?_ ?_
      · rintro i x H' H2 hi rfl ⟨rfl, c, hc, rfl⟩
        have hc2 : t[i]? = some c := by
          rw [← sT_cps t, Array.getElem?_toList]
          exact hc
        have hm := ht c (List.mem_of_getElem? hc2)
        refine ⟨rfl, yesIf ⟨rfl, _, rfl, _, _, rfl, rfl, _, _, rfl, rfl, c - 96, 5, ?_, by decide, _, upd_same, ?_, ?_⟩⟩
        · rw [find_let c (by omega) hm.1]
          exact congrArg (fun u : Int => [V.int u, V.int 5]) (show ((c - 97 : Nat) : Int) + 1 = ((c - 96 : Nat) : Int) by omega)
        · rw [List.length_map, List.length_map, List.length_map]
          exact Nat.lt_of_le_of_lt (List.length_take_le' _ _) (Nat.lt_of_le_of_lt hl (by decide))
        · rw [upd_upd, take_snoc hc2, List.map_append, List.map_append, List.map_append]
          rfl
      · rintro H' rfl
        have eT : (sT t).cps.size = t.length := sT_len t
        rw [eT, List.take_length]
        have lm : (t.map (· - 96)).length ≤ 8 := by rw [List.length_map]; exact hl
        have hW : bT (nameW t) = ((t.map (· - 96)).map fun n => bT (digs n 5)).flatten ++ bT (digs 0 5) := by
          rw [nameW_eq, List.map_append, List.flatten_append]
          rfl
        generalize t.map (· - 96) = L at lm hW ⊢
        refine ⟨"", D, L.map (fun n => sT (bT (digs n 5))), rfl, rfl, .inl (SqL.of upd_same), ?_, ?_⟩
        · rw [sum_le, show ("" : Str).length = 0 from rfl, Nat.mul_zero, Nat.add_zero]
          omega
        · have j := join_sT (L.map fun n => bT (digs n 5))
          rw [List.map_map] at j
          have j : Txt.join "" (L.map fun n => sT (bT (digs n 5))) = _ := j
          rw [j]
          have hlen : ((L.map fun n => bT (digs n 5)).flatten).length ≤ 40 := by
            have key := flat5 L
            omega
          have e0 : ("00000" : Str) = sT (bT (digs 0 5)) := by decide +kernel
          refine ⟨_, _, rfl, rfl, ?_, ?_⟩
          · rw [e0, sT_len, sT_len, bT_len, digs_len]
            exact sl_of (by omega)
          · rw [e0, sT_ap, ← hW]
            exact k _ (same_new hD)
theorem sc__law_first : FnScope ["_law_word", "_law_words"] ["_law_word"] (defScope s_law_first) := ⟨rfl, rfl, rfl, by decide +kernel, rfl, by decide +kernel, by decide +kernel⟩
theorem ok_lfirst {CX : CXT} {f : Addr} {fd : FuncData} (F : FnP K "_law_first" s_law_first f fd) (c__law_digits : Cal P w K mg base 1 "_law_digits" ["_law_number", "_law_many"] spDigs) : FnOk P w K mg base CX 2 f fd ["_law_word"] spLFst := by
  obtain ⟨f__law_digits, fd__law_digits, g__law_digits, k__law_digits, b__law_digits, G__law_digits⟩ := c__law_digits
  refine F.ok sc__law_first (fun vs H Q E h => ?_) (fun cdv A outer s H vs Q E hr h => ?_)
  · obtain ⟨z, rfl, _⟩ := h
    rfl
  · obtain ⟨z, rfl, hz, k⟩ := h
    have nd := sc__law_first.nd
    apply Exists.intro
    apply And.intro
    case left =>
     apply PSs.nox
     apply pss_cons
     · exact (ps_set (i := 1) nd rfl (.inl rfl) (pe_lst (pa_cons pe_str (pa_cons pe_str (pa_cons pe_str (pa_cons pe_str (pa_cons pe_str (pa_cons pe_str (pa_cons pe_str (pa_cons pe_str (pa_cons pe_str (pa_cons pe_str (pa_cons pe_str (pa_cons pe_str (pa_cons pe_str pa_nil)))))))))))))))
     apply pss_cons
     · exact (ps_set (i := 1) nd rfl (.inl rfl) (pe_op op_cat (pv 1) (pe_lst (pa_cons pe_str (pa_cons pe_str (pa_cons pe_str (pa_cons pe_str (pa_cons pe_str (pa_cons pe_str (pa_cons pe_str (pa_cons pe_str (pa_cons pe_str (pa_cons pe_str (pa_cons pe_str (pa_cons pe_str (pa_cons pe_str pa_nil))))))))))))))))
     apply pss_one
     exact (ps_ret (pe_call G__law_digits (hr.mono (by decide)) rfl g__law_digits k__law_digits b__law_digits .nil pass0 (pa_cons (pe_bm PySem.F.plainAttrs_list PySem.F.slot_list_index PySem.F.type_list_index mt_index (pv 1) (pa_cons (pv 0) pa_nil)) (pa_cons pe_int pa_nil))))
    case right =>
      refine ⟨(show 13 ≤ sizeLine by decide), fun p1 hp1 => ⟨_, rfl, (show 13 ≤ sizeLine by decide), fun p2 hp2 => ?_⟩⟩
      have s1 := same_new (o := .lst ((wordsL.take 13).map V.str)) hp1
      have s2 := same_new (o := .lst ((wordsL.drop 13).map V.str)) hp2
      refine ⟨p1, p2, (wordsL.take 13).map V.str, (wordsL.drop 13).map V.str, rfl, rfl, s2 _ _ upd_same, upd_same, (show 26 ≤ sizeLine by decide), fun p3 hp3 => ?_⟩
      have s3 := same_new (o := .lst (wordsL.map V.str)) hp3
      obtain ⟨w1, w2⟩ := words_first hz
      have wl := (word_idx hz).1
      refine ⟨_, rfl, .inl ⟨rfl, _, SqL.of upd_same⟩, _, rfl, p3, wordsL.map V.str, .str z, wordsL.idxOf z, .str z, rfl, rfl, SqL.of upd_same, rfl, by decide +kernel, by rw [List.getElem?_map, w1]; rfl, by show (z == z) = true; exact beq_self_eq_true _, fun m z' hm e => ?_, _, 5, rfl, by decide, k _ ((s1.trans s2).trans s3)⟩
      rw [List.getElem?_map] at e
      cases e2 : wordsL[m]? with
      | none => rw [e2] at e; cases e
      | some y =>
        rw [e2] at e
        cases e
        show (y == z) = false
        rw [beq_eq_false_iff_ne]
        rintro rfl
        exact w2 m hm e2
theorem sc__law_leap_bits : FnScope ["_law_leap", "_law_word", "_law_number"] ["_law_leap"] (defScope s_law_leap_bits) := ⟨rfl, rfl, rfl, by decide +kernel, rfl, by decide +kernel, by decide +kernel⟩
theorem ok_llpb {CX : CXT} {f : Addr} {fd : FuncData} (F : FnP K "_law_leap_bits" s_law_leap_bits f fd) (c__law_digits : Cal P w K mg base 1 "_law_digits" ["_law_number", "_law_many"] spDigs) : FnOk P w K mg base CX 2 f fd ["_law_leap"] (spLpW K) := by
  obtain ⟨f__law_digits, fd__law_digits, g__law_digits, k__law_digits, b__law_digits, G__law_digits⟩ := c__law_digits
  refine F.ok sc__law_leap_bits (fun vs H Q E h => ?_) (fun cdv A outer s H vs Q E hr h => ?_)
  · obtain ⟨a, wd, n, rfl, _⟩ := h
    rfl
  · obtain ⟨a, wd, n, rfl, hS, ok, k⟩ := h
    have nd := sc__law_leap_bits.nd
    apply Exists.intro
    apply And.intro
    case left =>
     apply PSs.nox
     apply pss_cons
     · exact (ps_asg (pv 0) (pg_tup rfl (pgs_cons (pg_name (i := 1) nd rfl (Or.inl rfl)) (pgs_cons (pg_name (i := 2) nd rfl (Or.inl rfl)) pgs_nil))))
     apply pss_cons
     · exact (ps_if (pt_cmpR op_eq (pv 1) pe_str (nomark _)) (pss_one (ps_ret (pe_op op_add_str pe_str (pe_call G__law_digits (hr.mono (by decide)) rfl g__law_digits k__law_digits b__law_digits .nil pass0 (pa_cons (pe_ifExp (pt_cmpR op_ge (pv 2) pe_int (nomark _)) (pv 2) (pe_op op_add (pv 2) pe_int)) (pa_cons pe_int pa_nil)))))) pss_nil)
     apply pss_one
     exact (ps_ret (pe_op op_add_str pe_str (pe_call G__law_digits (hr.mono (by decide)) rfl g__law_digits k__law_digits b__law_digits .nil pass0 (pa_cons (pe_ifExp (pt_cmpR op_ge (pv 2) pe_int (nomark _)) (pv 2) (pe_op op_add (pv 2) pe_int)) (pa_cons pe_int pa_nil)))))
    case right =>
      refine ⟨_, rfl, a, _, rfl, hS, rfl, _, _, rfl, _, _, rfl, rfl, ?_⟩
      refine ⟨_, rfl, rfl, _, rfl, ?_⟩
      have pr : ∀ (hf m : Nat), -(hf : Int) ≤ n → (if 0 ≤ n then n else n + 2 * (hf : Int)) = ((leapT n hf : Nat) : Int) := fun hf m h1 => by
        unfold leapT
        split <;> omega
      rcases ok with ⟨rfl, h1, h2⟩ | ⟨rfl, h1, h2⟩
      · have k : Q (.str (sT (bT (false :: digs (leapT n 128) 8)))) H := by
          unfold leapW at k
          rw [if_pos rfl] at k
          exact k
        have e1 := pr 128 8 h1
        rw [decide_eq_true rfl]
        refine iteT ⟨_, rfl, _, _, rfl, rfl, _, rfl, ?_⟩
        have fin : ∀ x : Int, x = ((leapT n 128 : Nat) : Int) → spDigs [V.int x, V.int 8] H (fun v H' => ∃ i j, V.str "0" = V.str i ∧ v = V.str j ∧ i.length + j.length ≤ sizeLine ∧ Q (V.str (i ++ j)) H') C8.E0 := fun x e => by
          refine ⟨leapT n 128, 8, by rw [e]; rfl, by decide, _, _, rfl, rfl, ?_, ?_⟩
          · rw [zero_eq, show (⟨#[48]⟩ : Str).length = 1 from rfl, sT_len, bT_len, digs_len]
            exact sl_of (by omega)
          · rw [zero_eq]
            rw [show (⟨#[48]⟩ : Str) ++ sT (bT (digs (leapT n 128) 8)) = _ from pre0 _]
            exact k
        refine ite2 (fun c => ?_) (fun c => ?_)
        · rw [if_pos (of_decide_eq_true c)] at e1
          exact ⟨_, rfl, fin _ e1⟩
        · rw [if_neg (fun z => c (decide_eq_true z))] at e1
          exact ⟨_, rfl, _, _, rfl, rfl, fin _ e1⟩
      · have ne : ¬ ("long" : Str) = "short" := by decide +kernel
        have k : Q (.str (sT (bT (true :: digs (leapT n 2147483648) 32)))) H := by
          unfold leapW at k
          rw [if_neg ne] at k
          exact k
        have e1 := pr 2147483648 32 h1
        rw [decide_eq_false (fun z => ne (by injection z))]
        refine iteF ⟨_, rfl, _, _, rfl, rfl, _, rfl, ?_⟩
        have fin : ∀ x : Int, x = ((leapT n 2147483648 : Nat) : Int) → spDigs [V.int x, V.int 32] H (fun v H' => ∃ i j, V.str "1" = V.str i ∧ v = V.str j ∧ i.length + j.length ≤ sizeLine ∧ Q (V.str (i ++ j)) H') C8.E0 := fun x e => by
          refine ⟨leapT n 2147483648, 32, by rw [e]; rfl, by decide, _, _, rfl, rfl, ?_, ?_⟩
          · rw [one_eq, show (⟨#[49]⟩ : Str).length = 1 from rfl, sT_len, bT_len, digs_len]
            exact sl_of (by omega)
          · rw [one_eq]
            rw [show (⟨#[49]⟩ : Str) ++ sT (bT (digs (leapT n 2147483648) 32)) = _ from pre1 _]
            exact k
        refine ite2 (fun c => ?_) (fun c => ?_)
        · rw [if_pos (of_decide_eq_true c)] at e1
          exact ⟨_, rfl, fin _ e1⟩
        · rw [if_neg (fun z => c (decide_eq_true z))] at e1
          exact ⟨_, rfl, _, _, rfl, rfl, fin _ e1⟩
end
/-! ## data as they are written in a text -/
def sD (t : TE) (d : PyData) : Prop := ∀ (σ : L2.St) (H : Hp) (Q : VK), (∀ v H', Same H H' → Dt (fun a => H a = none) H' v d → Q v H') → t σ H Q
def sA (t : TA) (ds : List PyData) : Prop := ∀ (σ : L2.St) (H : Hp) (Q : List V → Hp → Prop), (∀ vs H', Same H H' → DtA (fun a => H a = none) H' vs ds → Q vs H') → t σ H Q
theorem sD_non : sD (tC .non) .none := fun _ _ _ k => k _ _ (Same.refl _) .non
theorem sD_bl {b : Bool} : sD (tC (.bl b)) (.bool b) := fun _ _ _ k => k _ _ (Same.refl _) (.bl b)
theorem sD_int {n : Int} : sD (tC (.int n)) (.int n) := fun _ _ _ k => k _ _ (Same.refl _) (.int n)
theorem sD_str {z : Str} : sD (tC (.str z)) (.str z) := fun _ _ _ k => k _ _ (Same.refl _) (.str z)
theorem sD_dic : sD tDNewK (.dict []) := fun _ _ _ k p hp => k _ _ (same_new hp) (.dic hp upd_same)
theorem sA_nil : sA tNil [] := fun _ _ _ k => k _ _ (Same.refl _) .nil
theorem sA_cons {t : TE} {ta : TA} {d : PyData} {ds : List PyData} (h1 : sD t d) (h2 : sA ta ds) : sA (tCons t ta) (d :: ds) := fun σ H _ k =>
  h1 σ H _ fun _ H1 s1 d1 => h2 σ H1 _ fun _ _ s2 d2 => k _ _ (s1.trans s2) (.cons (d1.same s2) (d2.to fun _ _ g e => ⟨e, s1.free g⟩))
theorem sD_tup {ta : TA} {ds : List PyData} (h : sA ta ds) (hl : ds.length ≤ sizeLine) : sD (tTup ta) (.tuple ds) := fun σ H _ k =>
  h σ H _ fun vs H1 s1 d1 => ⟨by rw [d1.length]; exact hl, fun _ hp => k _ _ (s1.trans (same_new hp)) (.tup (s1.free hp) upd_same (d1.same (same_new hp)))⟩
theorem sD_lst {ta : TA} {ds : List PyData} (h : sA ta ds) (hl : ds.length ≤ sizeLine) : sD (tLst ta) (.list ds) := fun σ H _ k =>
  h σ H _ fun vs H1 s1 d1 => ⟨by rw [d1.length]; exact hl, fun _ hp => k _ _ (s1.trans (same_new hp)) (.lst (s1.free hp) upd_same (d1.same (same_new hp)))⟩
theorem it_sD {K : PySem.W.Frag} {t : TE} {ds : List PyData} (h : sD t (.list ds)) {σ : L2.St} {H : Hp} {R : It → Hp → Prop}
    (k : ∀ (J : It) (G : Hp → Prop) (xs : List V) (H1 : Hp) (a : Addr), Walk J xs.length G (YAt xs) → (∀ H', H' a = H1 a → G H') → H a = none → Same H H1 → DtA (fun a => H a = none) H1 xs ds → R J H1) : iList K t σ H R :=
  h σ H _ fun v H1 s1 hv => by
    cases hv with
    | lst g e hA => exact ⟨_, rfl, ⟨_, SqL.of e⟩, k _ _ _ _ _ walk_list (fun H' s => SqL.of (s.trans e)) g s1 hA⟩
theorem dtA_strs {G : Addr → Prop} {H : Hp} : ∀ {ws : List Str} {xs : List V}, DtA G H xs (ws.map PyData.str) → xs = ws.map V.str
  | [], _, .nil => rfl
  | _ :: _, _, .cons (.str _) h => by rw [List.map_cons, dtA_strs h]
def strsTA : List Str → TA
  | [] => tNil
  | z :: r => tCons (tC (.str z)) (strsTA r)
theorem sA_strs : ∀ ws : List Str, sA (strsTA ws) (ws.map PyData.str)
  | [] => sA_nil
  | _ :: r => sA_cons sD_str (sA_strs r)
/-! ## the law's shapes -/
abbrev sK (a b : Str) : Key × V := (Sum.inr a, .str b)
def lsh0 : List (Key × V) := [sK "const" "rn", sK "copy" "cc", sK "not" "rr", sK "make" "wrl", sK "tag" "rr", sK "part" "wkrr", sK "long" "wrr", sK "new" "wrrr"]
def lshW : List Str := ["plus", "minus", "times", "over", "rest", "less", "atmost", "same"]
def lshP : List (Str × Str) := [("at", "wrrr"), ("put", "wrrr"), ("show", "r"), ("call", "j"), ("jump", "j"), ("branch", "rj")]
def lshQ : List (Str × Str) := [("unless", "rj"), ("try", "jj"), ("return", ""), ("fail", "r")]
def lsh1 (i : Nat) : List (Key × V) := (lshW.take i).foldl (fun kv z => putK kv (Sum.inr z) (.str "rrr")) lsh0
def lsh2 (i : Nat) : List (Key × V) := (lshP.take i).foldl (fun kv z => putK kv (Sum.inr z.1) (.str z.2)) (lsh1 8)
def lsh3 (i : Nat) : List (Key × V) := (lshQ.take i).foldl (fun kv z => putK kv (Sum.inr z.1) (.str z.2)) (lsh2 6)
def lshK : List (Key × V) := lsh3 4
def pairsD (l : List (Str × Str)) : List PyData := l.map fun p => .tuple [.str p.1, .str p.2]
theorem take_next {α : Type} {l : List α} {i : Nat} {a : α} (h : l[i]? = some a) : l.take (i + 1) = l.take i ++ [a] := take_snoc2 h
theorem lsh1_next {i : Nat} {z : Str} (h : lshW[i]? = some z) : lsh1 (i + 1) = putK (lsh1 i) (Sum.inr z) (.str "rrr") := by
  unfold lsh1
  rw [take_next h, List.foldl_append]
  rfl
theorem lsh2_next {i : Nat} {z : Str × Str} (h : lshP[i]? = some z) : lsh2 (i + 1) = putK (lsh2 i) (Sum.inr z.1) (.str z.2) := by
  unfold lsh2
  rw [take_next h, List.foldl_append]
  rfl
theorem lsh3_next {i : Nat} {z : Str × Str} (h : lshQ[i]? = some z) : lsh3 (i + 1) = putK (lsh3 i) (Sum.inr z.1) (.str z.2) := by
  unfold lsh3
  rw [take_next h, List.foldl_append]
  rfl
theorem lsh_len : (∀ i < 9, (lsh1 i).length < 100) ∧ (∀ i < 7, (lsh2 i).length < 100) ∧ (∀ i < 5, (lsh3 i).length < 100) := by decide +kernel
theorem pairsD_at {G : Addr → Prop} {H : Hp} {l : List (Str × Str)} {xs : List V} {i : Nat} {x : V} (h : DtA G H xs (pairsD l)) (hx : xs[i]? = some x) : ∃ z t, l[i]? = some z ∧ x = .ref t ∧ G t ∧ H t = some (.tup [.str z.1, .str z.2]) := by
  obtain ⟨d, hd, hy⟩ := h.at hx
  unfold pairsD at hd
  rw [List.getElem?_map] at hd
  cases e : l[i]? with
  | none => rw [e] at hd; cases hd
  | some z =>
    rw [e] at hd
    cases hd
    cases hy with
    | tup g e2 hA =>
      cases hA with
      | cons a hA =>
        cases hA with
        | cons b hA =>
          cases hA
          cases a
          cases b
          exact ⟨z, _, rfl, rfl, g, e2⟩
def pairsTA : List (Str × Str) → TA
  | [] => tNil
  | z :: r => tCons (tTup (tCons (tC (.str z.1)) (tCons (tC (.str z.2)) tNil))) (pairsTA r)
theorem sA_pairs : ∀ l : List (Str × Str), sA (pairsTA l) (pairsD l)
  | [] => sA_nil
  | _ :: r => sA_cons (sD_tup (sA_cons sD_str (sA_cons sD_str sA_nil)) (show 2 ≤ sizeLine by decide)) (sA_pairs r)
def spShp : Sp := fun vs H Q _ => vs = [] ∧ ∀ p H', Same H H' → H p = none → H' p = some (.dK lshK) → Q (.ref p) H'
section
variable {P : Program} {w : World} {K : PySem.W.Frag} {mg : Str → Option Value} {base : Heap}
theorem sc__law_shapes : FnScope ["_law_found", "_law_word", "_law_shape"] [] (defScope s_law_shapes) := ⟨rfl, rfl, rfl, by decide +kernel, rfl, by decide +kernel, by decide +kernel⟩
theorem ok_lshapes {CX : CXT} {f : Addr} {fd : FuncData} (F : FnP K "_law_shapes" s_law_shapes f fd) : FnOk P w K mg base CX 1 f fd [] spShp := by
  refine F.ok sc__law_shapes (fun vs H Q E h => ?_) (fun cdv A outer s H vs Q E hr h => ?_)
  · obtain ⟨rfl, _⟩ := h
    rfl
  · obtain ⟨rfl, k⟩ := h
    have nd := sc__law_shapes.nd
    have hu := hu_of hr
    apply Exists.intro
    apply And.intro
    case left =>
     apply PSs.nox
     apply pss_cons
     · exact (ps_set (i := 0) nd rfl (.inl rfl) (pe_disp (pps_cons pe_str pe_str (pps_cons pe_str pe_str (pps_cons pe_str pe_str (pps_cons pe_str pe_str (pps_cons pe_str pe_str (pps_cons pe_str pe_str (pps_cons pe_str pe_str (pps_cons pe_str pe_str pps_nil)))))))) rfl rfl (by decide) (by decide)))
     apply pss_cons
     · apply ps_for PassesOwn.never rfl
       · exact (pi_list (pe_lst (pa_cons pe_str (pa_cons pe_str (pa_cons pe_str (pa_cons pe_str (pa_cons pe_str (pa_cons pe_str (pa_cons pe_str (pa_cons pe_str pa_nil))))))))))
       · exact (pg_name (i := 1) nd rfl (Or.inl rfl))
       · apply pss_one
         exact (ps_dput hu (pv 0) (pv 1) pe_str rfl)
     apply pss_cons
     · apply ps_for PassesOwn.never rfl
       · exact (pi_list (pe_lst (pa_cons (pe_tup (pa_cons pe_str (pa_cons pe_str pa_nil))) (pa_cons (pe_tup (pa_cons pe_str (pa_cons pe_str pa_nil))) (pa_cons (pe_tup (pa_cons pe_str (pa_cons pe_str pa_nil))) (pa_cons (pe_tup (pa_cons pe_str (pa_cons pe_str pa_nil))) (pa_cons (pe_tup (pa_cons pe_str (pa_cons pe_str pa_nil))) (pa_cons (pe_tup (pa_cons pe_str (pa_cons pe_str pa_nil))) pa_nil))))))))
       · exact (pg_tup rfl (pgs_cons (pg_name (i := 1) nd rfl (Or.inl rfl)) (pgs_cons (pg_name (i := 2) nd rfl (Or.inl rfl)) pgs_nil)))
       · apply pss_one
         exact (ps_dput hu (pv 0) (pv 1) (pv 2) rfl)
     apply pss_cons
     · apply ps_for PassesOwn.never rfl
       · exact (pi_list (pe_lst (pa_cons (pe_tup (pa_cons pe_str (pa_cons pe_str pa_nil))) (pa_cons (pe_tup (pa_cons pe_str (pa_cons pe_str pa_nil))) (pa_cons (pe_tup (pa_cons pe_str (pa_cons pe_str pa_nil))) (pa_cons (pe_tup (pa_cons pe_str (pa_cons pe_str pa_nil))) pa_nil))))))
       · exact (pg_tup rfl (pgs_cons (pg_name (i := 1) nd rfl (Or.inl rfl)) (pgs_cons (pg_name (i := 2) nd rfl (Or.inl rfl)) pgs_nil)))
       · apply pss_one
         exact (ps_dput hu (pv 0) (pv 1) (pv 2) rfl)
     apply pss_one
     exact (ps_ret (pv 0))
    case right =>
      intro p hp
      refine ⟨upd_same, lsh0, rfl, by decide, ?_⟩
      have s0 : Same H (upd (upd H p (.dK [])) p (.dK (mergeK [] lsh0))) := by rw [upd_upd]; exact same_new hp
      have e0 : (upd (upd H p (.dK [])) p (.dK (mergeK [] lsh0))) p = some (.dK (lsh1 0)) := upd_same
      generalize upd (upd H p (.dK [])) p (.dK (mergeK [] lsh0)) = H0 at s0 e0 ⊢
      obtain ⟨l1, l2, l3⟩ := lsh_len
      dsimp only [gName]
      show tFor (iList _ (tLst _)) _ _ _ _ _
      refine it_sD (ds := lshW.map PyData.str) (sD_lst (sA_strs lshW) (show 8 ≤ sizeLine by decide)) fun J G xs H1 a hw hG ha s1 hA => ?_
      have ex := dtA_strs hA
      subst ex
      clear hA
      have ne : ∀ {H0 : Hp} {a : Addr} {o : HO}, H0 p = some o → H0 a = none → a ≠ p := fun e n z => by subst z; rw [n] at e; cases e
      have na := ne e0 ha
      refine for_it hw (fun i σ H' => ∃ v1, σ = [some (.ref p), v1, none] ∧ Same H H' ∧ H' p = some (.dK (lsh1 i)) ∧ ∀ b, b ≠ p → H' b = H1 b) ⟨none, rfl, s0.trans s1, s1 _ _ e0, fun _ _ => rfl⟩ (fun i σ H' _ h => hG _ (h.choose_spec.2.2.2 a na)) ?_ ?_
      · rintro i x σ H' Hx hi ⟨v1, rfl, s2, e2, g2⟩ ⟨rfl, hx⟩
        rw [List.getElem?_map] at hx
        cases ez : lshW[i]? with
        | none => rw [ez] at hx; cases hx
        | some z =>
          rw [ez] at hx
          cases hx
          have hi : i < 8 := hi
          exact ⟨_, rfl, _, rfl, p, _, rfl, DPut.k (k := Sum.inr z) e2 (Nat.lt_trans (l1 i (by omega)) (by decide)), _, rfl, same_sub s2 hp, by rw [lsh1_next ez]; exact upd_same, fun b hb => by rw [upd_ne hb]; exact g2 b hb⟩
      · rintro σ H2 ⟨v1, rfl, s2, e2, g2⟩
        clear hw hG s1 na g2 e0 s0 ha
        dsimp only
        show tFor (iList _ (tLst _)) _ _ _ _ _
        refine it_sD (ds := pairsD lshP) (sD_lst (sA_pairs lshP) (show 6 ≤ sizeLine by decide)) fun J G xs H3 a hw hG ha s3 hA => ?_
        have na := ne e2 ha
        have hl := hA.length
        refine for_it hw (fun i σ H' => ∃ v1 v2, σ = [some (.ref p), v1, v2] ∧ Same H H' ∧ H' p = some (.dK (lsh2 i)) ∧ ∀ b, b ≠ p → H' b = H3 b) ⟨_, none, rfl, s2.trans s3, s3 _ _ e2, fun _ _ => rfl⟩ (fun i σ H' _ h => hG _ (h.choose_spec.choose_spec.2.2.2 a na)) ?_ ?_
        · rintro i x σ H' Hx hi ⟨v1, v2, rfl, s4, e4, g4⟩ ⟨rfl, hx⟩
          obtain ⟨z, t, ez, rfl, gt, et⟩ := pairsD_at hA hx
          have hi : i < 6 := by rw [hl] at hi; exact hi
          exact ⟨t, _, rfl, SqT.of ((g4 t (ne e2 gt)).trans et), rfl, _, _, rfl, _, _, rfl, rfl, _, rfl, _, rfl, _, rfl, p, _, rfl, DPut.k (k := Sum.inr z.1) e4 (Nat.lt_trans (l2 i (by omega)) (by decide)), _, _, rfl, same_sub s4 hp, by rw [lsh2_next ez]; exact upd_same, fun b hb => by rw [upd_ne hb]; exact g4 b hb⟩
        · rintro σ H4 ⟨v1, v2, rfl, s4, e4, g4⟩
          rw [hl] at e4
          have e4 : H4 p = some (.dK (lsh3 0)) := e4
          clear hw hG s3 na g4 hA hl ha e2 s2
          dsimp only
          show tFor (iList _ (tLst _)) _ _ _ _ _
          refine it_sD (ds := pairsD lshQ) (sD_lst (sA_pairs lshQ) (show 4 ≤ sizeLine by decide)) fun J G xs H5 a hw hG ha s5 hA => ?_
          have na := ne e4 ha
          have hl := hA.length
          refine for_it hw (fun i σ H' => ∃ v1 v2, σ = [some (.ref p), v1, v2] ∧ Same H H' ∧ H' p = some (.dK (lsh3 i)) ∧ ∀ b, b ≠ p → H' b = H5 b) ⟨_, _, rfl, s4.trans s5, s5 _ _ e4, fun _ _ => rfl⟩ (fun i σ H' _ h => hG _ (h.choose_spec.choose_spec.2.2.2 a na)) ?_ ?_
          · rintro i x σ H' Hx hi ⟨v1, v2, rfl, s6, e6, g6⟩ ⟨rfl, hx⟩
            obtain ⟨z, t, ez, rfl, gt, et⟩ := pairsD_at hA hx
            have hi : i < 4 := by rw [hl] at hi; exact hi
            exact ⟨t, _, rfl, SqT.of ((g6 t (ne e4 gt)).trans et), rfl, _, _, rfl, _, _, rfl, rfl, _, rfl, _, rfl, _, rfl, p, _, rfl, DPut.k (k := Sum.inr z.1) e6 (Nat.lt_trans (l3 i (by omega)) (by decide)), _, _, rfl, same_sub s6 hp, by rw [lsh3_next ez]; exact upd_same, fun b hb => by rw [upd_ne hb]; exact g6 b hb⟩
          · rintro σ H6 ⟨v1, v2, rfl, s6, e6, g6⟩
            rw [hl] at e6
            exact ⟨_, rfl, k p _ s6 hp e6⟩
end
/-! ## k83's law: parts and instructions told in bits -/
theorem plc_of {r : Nat} {d : PyData} (h : strD (regB r) d = true) : plcD d := by
  obtain ⟨z, rfl, hz⟩ := strD_some h
  obtain ⟨fs, et, a1, a2, a3, _, _⟩ := regB_some hz
  exact ⟨z, rfl, _, fs, et, a1, a2, by omega⟩
theorem lsh_all : ∀ i < 26, valV lshK (Sum.inr (wordsL.getD i "")) = some (.str (sT (shapesT.getD i []))) := by decide +kernel
theorem lsh_get {z : Str} (h : isWd z = true) : valV lshK (Sum.inr z) = some (.str (sT (shapeT z))) := by
  obtain ⟨h1, h2⟩ := word_idx h
  have q := lsh_all _ h1
  rw [h2] at q
  exact q
section
variable {P : Program} {w : World} {K : PySem.W.Frag} {mg : Str → Option Value} {base : Heap}
theorem sc__law_part_bits : FnScope ["_law_letter", "_law_part_here"] ["_law_letter", "_law_part_here"] (defScope s_law_part_bits) := ⟨rfl, rfl, rfl, by decide +kernel, rfl, by decide +kernel, by decide +kernel⟩
theorem ok_lptw {CX : CXT} {f : Addr} {fd : FuncData} (F : FnP K "_law_part_bits" s_law_part_bits f fd) (c__law_digits : Cal P w K mg base 1 "_law_digits" ["_law_number", "_law_many"] spDigs) (c__law_registers : Cal P w K mg base 2 "_law_registers" ["_law_places"] spLRgs) (c__law_copied : Cal P w K mg base 3 "_law_copied" ["_law_place"] spLCop)
    (c__law_signed : Cal P w K mg base 3 "_law_signed" ["_law_number"] spWrit) (c__law_spelt : Cal P w K mg base 2 "_law_spelt" ["_law_name"] spNmW) (c__law_leap_bits : Cal P w K mg base 2 "_law_leap_bits" ["_law_leap"] (spLpW K)) (G : NkF K mg) : FnOk P w K mg base CX 4 f fd ["_law_letter", "_law_part_here"] spPtW := by
  obtain ⟨f__law_digits, fd__law_digits, g__law_digits, k__law_digits, b__law_digits, G__law_digits⟩ := c__law_digits
  obtain ⟨f__law_registers, fd__law_registers, g__law_registers, k__law_registers, b__law_registers, G__law_registers⟩ := c__law_registers
  obtain ⟨f__law_copied, fd__law_copied, g__law_copied, k__law_copied, b__law_copied, G__law_copied⟩ := c__law_copied
  obtain ⟨f__law_signed, fd__law_signed, g__law_signed, k__law_signed, b__law_signed, G__law_signed⟩ := c__law_signed
  obtain ⟨f__law_spelt, fd__law_spelt, g__law_spelt, k__law_spelt, b__law_spelt, G__law_spelt⟩ := c__law_spelt
  obtain ⟨f__law_leap_bits, fd__law_leap_bits, g__law_leap_bits, k__law_leap_bits, b__law_leap_bits, G__law_leap_bits⟩ := c__law_leap_bits
  refine F.ok sc__law_part_bits (fun vs H Q E h => ?_) (fun cdv A outer s H vs Q E hr h => ?_)
  · obtain ⟨c, x, d, r, rfl, _⟩ := h
    rfl
  · obtain ⟨c, x, d, r, rfl, hx, ht, hd, hs, h9, k⟩ := h
    have nd := sc__law_part_bits.nd
    apply Exists.intro
    apply And.intro
    case left =>
     apply PSs.nox
     apply pss_cons
     · exact (ps_if (pt_cmpR op_eq (pv 0) pe_str (nomark _)) (pss_one (ps_ret (pe_call G__law_registers (hr.mono (by decide)) rfl g__law_registers k__law_registers b__law_registers .nil pass0 (pa_cons (pe_lst (pa_cons (pv 1) pa_nil)) pa_nil)))) pss_nil)
     apply pss_cons
     · exact (ps_if (pt_cmpR op_eq (pv 0) pe_str (nomark _)) (pss_one (ps_ret (pe_call G__law_copied (hr.mono (by decide)) rfl g__law_copied k__law_copied b__law_copied .nil pass0 (pa_cons (pv 1) pa_nil)))) pss_nil)
     apply pss_cons
     · exact (ps_if (pt_cmpR op_eq (pv 0) pe_str (nomark _)) (pss_one (ps_ret (pe_call G__law_signed (hr.mono (by decide)) rfl g__law_signed k__law_signed b__law_signed .nil pass0 (pa_cons (pv 1) pa_nil)))) pss_nil)
     apply pss_cons
     · exact (ps_if (pt_cmpR op_eq (pv 0) pe_str (nomark _)) (pss_one (ps_ret (pe_call G__law_spelt (hr.mono (by decide)) rfl g__law_spelt k__law_spelt b__law_spelt .nil pass0 (pa_cons (pv 1) pa_nil)))) pss_nil)
     apply pss_cons
     · exact (ps_if (pt_cmpR op_eq (pv 0) pe_str (nomark _)) (pss_one (ps_ret (pe_call G__law_digits (hr.mono (by decide)) rfl g__law_digits k__law_digits b__law_digits .nil pass0 (pa_cons (pv 1) (pa_cons pe_int pa_nil))))) pss_nil)
     apply pss_one
     exact (ps_ret (pe_ifExp (pt_cmpR op_eq (pv 0) pe_str (nomark _)) (pe_op op_add_str (pe_call G__law_digits (hr.mono (by decide)) rfl g__law_digits k__law_digits b__law_digits .nil pass0 (pa_cons (pe_callB call_len (by rfl) G.len PySem.boot_len (pa_cons (pv 1) pa_nil)) (pa_cons pe_int pa_nil))) (pe_call G__law_registers (hr.mono (by decide)) rfl g__law_registers k__law_registers b__law_registers .nil pass0 (pa_cons (pv 1) pa_nil))) (pe_call G__law_leap_bits (hr.mono (by decide)) rfl g__law_leap_bits k__law_leap_bits b__law_leap_bits .nil pass0 (pa_cons (pv 1) pa_nil))))
    case right =>
      unfold partD at hd
      unfold partW at k
      refine ⟨_, rfl, rfl, _, rfl, ?_⟩
      rw [let_eq c (cps1 (z := "r") (k := 114) (by decide +kernel))]
      refine ite2 (fun e => ?_) (fun e => ?_)
      · rw [if_pos (of_decide_eq_true e)] at k hd
        refine ⟨_, rfl, (show 1 ≤ sizeLine by decide), fun p hp => ?_⟩
        refine ⟨p, [x], [d], rfl, .inl upd_same, .cons (hx.same (same_new hp)) .nil, (show 1 ≤ 600 by decide), fun d' hd' => ?_, fun H1 s1 => ?_⟩
        · rw [List.mem_singleton] at hd'
          rw [hd']
          exact plc_of hd
        · have e1 : ([d].map regW).flatten = regW d := by simp
          rw [e1]
          exact k _ ((same_new hp).trans s1)
      rw [if_neg (fun z => e (decide_eq_true z))] at k hd
      refine ⟨_, rfl, rfl, _, rfl, ?_⟩
      rw [let_eq c (cps1 (z := "c") (k := 99) (by decide +kernel))]
      refine ite2 (fun e => ?_) (fun e => ?_)
      · rw [if_pos (of_decide_eq_true e)] at k hd
        obtain ⟨z, rfl, hz⟩ : ∃ z, d = .str z ∧ (sortP z.cps.toList = some 114 ∨ sortP z.cps.toList = some 115) := by
          rcases Bool.or_eq_true_iff.mp hd with q | q
          · obtain ⟨z, rfl, hz⟩ := strD_some q
            obtain ⟨_, _, _, _, _, _, a5⟩ := regB_some hz
            exact ⟨z, rfl, .inl a5⟩
          · obtain ⟨z, rfl, hz⟩ := strD_some q
            exact ⟨z, rfl, .inr (of_decide_eq_true hz)⟩
        cases hx
        exact ⟨_, rfl, z.cps.toList, by rw [sT_of]; rfl, hz, k⟩
      rw [if_neg (fun z => e (decide_eq_true z))] at k hd
      refine ⟨_, rfl, rfl, _, rfl, ?_⟩
      rw [let_eq c (cps1 (z := "n") (k := 110) (by decide +kernel))]
      refine ite2 (fun e => ?_) (fun e => ?_)
      · rw [if_pos (of_decide_eq_true e)] at k hd
        cases hx <;> first | cases hd | skip
        exact ⟨_, rfl, _, rfl, Nat.lt_of_lt_of_le (of_decide_eq_true (show decide (_ < 2 ^ 42) = true from hs)) (by decide), k _ (Same.refl _)⟩
      rw [if_neg (fun z => e (decide_eq_true z))] at k hd
      refine ⟨_, rfl, rfl, _, rfl, ?_⟩
      rw [let_eq c (cps1 (z := "w") (k := 119) (by decide +kernel))]
      refine ite2 (fun e => ?_) (fun e => ?_)
      · rw [if_pos (of_decide_eq_true e)] at k hd
        obtain ⟨z, rfl, hz⟩ := strD_some hd
        obtain ⟨l1, l2⟩ := nameB_let hz
        cases hx
        exact ⟨_, rfl, z.cps.toList, by rw [sT_of]; rfl, l1, l2, k⟩
      rw [if_neg (fun z => e (decide_eq_true z))] at k hd
      refine ⟨_, rfl, rfl, _, rfl, ?_⟩
      rw [let_eq c (cps1 (z := "k") (k := 107) (by decide +kernel))]
      refine ite2 (fun e => ?_) (fun e => ?_)
      · rw [if_pos (of_decide_eq_true e)] at k hd
        cases hx <;> first | cases hd | skip
        rename_i n
        obtain ⟨n1, n2⟩ := Bool.and_eq_true_iff.mp hd
        have n1 : 0 ≤ n := of_decide_eq_true n1
        exact ⟨_, rfl, n.toNat, 2, by rw [show ((n.toNat : Nat) : Int) = n by omega]; rfl, by decide, k _ (Same.refl _)⟩
      rw [if_neg (fun z => e (decide_eq_true z))] at k hd
      refine ⟨_, rfl, rfl, _, rfl, ?_⟩
      rw [let_eq c (cps1 (z := "l") (k := 108) (by decide +kernel))]
      refine ite2 (fun e => ?_) (fun e => ?_)
      · rw [if_pos (of_decide_eq_true e)] at k hd
        rcases dt_tup (K := K) hx with ⟨a, xs, ds, rfl, rfl, ha, hA⟩ | ⟨_, hn⟩
        · obtain ⟨c3, hall⟩ := Bool.and_eq_true_iff.mp (show (decide (ds.length ≤ 3) && (ds.map (strD (regB r))).all id) = true from hd)
          have c3 : ds.length ≤ 3 := of_decide_eq_true c3
          have hl := hA.length
          refine ⟨_, rfl, _, _, rfl, .inr ⟨_, SqT.of ha, rfl⟩, ds.length, 2, by rw [hl]; rfl, by decide, ?_⟩
          refine ⟨_, rfl, a, xs, ds, rfl, .inr ha, hA, by omega, fun d' hd' => ?_, fun H1 s1 => ?_⟩
          · exact plc_of (r := r) (List.all_eq_true.mp hall (strD (regB r) d') (List.mem_map.mpr ⟨d', hd', rfl⟩))
          · refine ⟨_, _, rfl, rfl, ?_, ?_⟩
            · have h1 := regs_len ds
              rw [regs_bT] at h1
              rw [sT_len, sT_len, bT_len, digs_len]
              exact sl_of (by omega)
            · have k := k _ s1
              rw [sT_ap]
              have e2 : bT (digs ds.length 2) ++ bT (ds.map regW).flatten = bT (prW (.tuple ds)) := by
                show _ = bT (digs ds.length 2 ++ (ds.map regW).flatten)
                rw [bT_app]
              rw [e2]
              exact k
        · exfalso
          revert hd
          cases d <;> first | (intro hd; cases hd; done) | exact absurd rfl (hn _)
      rw [if_neg (fun z => e (decide_eq_true z))] at k hd
      obtain ⟨z, n, rfl⟩ : ∃ z n, d = .tuple [.str z, .int n] := by
        unfold leapD at hd
        split at hd
        · exact ⟨_, _, rfl⟩
        · cases hd
      obtain ⟨hz, hn⟩ := Bool.and_eq_true_iff.mp (show (isLp z && lpOk z n) = true from hd)
      rcases dt_tup (K := K) hx with ⟨a, xs, ds, rfl, e2, ha, hA⟩ | ⟨_, hn⟩
      · cases e2
        cases hA with
        | cons g1 hA =>
          cases hA with
          | cons g2 hA =>
            cases hA
            cases g1
            cases g2
            refine ⟨_, rfl, a, z, n, rfl, SqT.of ha, ?_, k _ (Same.refl _)⟩
            unfold isLp at hz
            unfold lpOk at hn
            rw [Bool.or_eq_true, decide_eq_true_eq, decide_eq_true_eq] at hz
            by_cases c : z = "short"
            · rw [if_pos c, Bool.and_eq_true, decide_eq_true_eq, decide_eq_true_eq] at hn
              exact .inl ⟨c, hn⟩
            · rw [if_neg c, Bool.and_eq_true, decide_eq_true_eq, decide_eq_true_eq] at hn
              exact .inr ⟨hz.resolve_left c, hn⟩
      · exact absurd rfl (hn _)
theorem sc__law_told_bits : FnScope ["_law_instruction_here", "_law_shape", "_law_letter", "_law_part_here"] ["_law_instruction_here"] (defScope s_law_told_bits) := ⟨rfl, rfl, rfl, by decide +kernel, rfl, by decide +kernel, by decide +kernel⟩
theorem ok_ltold {CX : CXT} {f : Addr} {fd : FuncData} (F : FnP K "_law_told_bits" s_law_told_bits f fd) (c__law_shapes : Cal P w K mg base 1 "_law_shapes" [] spShp) (c__law_first : Cal P w K mg base 2 "_law_first" ["_law_word"] spLFst) (c__law_part_bits : Cal P w K mg base 4 "_law_part_bits" ["_law_letter", "_law_part_here"] spPtW) (m_zip : mg "zip" = none) : FnOk P w K mg base CX 5 f fd ["_law_instruction_here"] spHdW := by
  obtain ⟨f__law_shapes, fd__law_shapes, g__law_shapes, k__law_shapes, b__law_shapes, G__law_shapes⟩ := c__law_shapes
  obtain ⟨f__law_first, fd__law_first, g__law_first, k__law_first, b__law_first, G__law_first⟩ := c__law_first
  obtain ⟨f__law_part_bits, fd__law_part_bits, g__law_part_bits, k__law_part_bits, b__law_part_bits, G__law_part_bits⟩ := c__law_part_bits
  refine F.ok sc__law_told_bits (fun vs H Q E h => ?_) (fun cdv A outer s H vs Q E hr h => ?_)
  · obtain ⟨x, d, r, rfl, _⟩ := h
    rfl
  · obtain ⟨x, d, r, rfl, hx, ht, hd, hs, h9, k⟩ := h
    have nd := sc__law_told_bits.nd
    have hu := hu_of hr
    apply Exists.intro
    apply And.intro
    case left =>
     apply PSs.nox
     apply pss_cons
     · exact (ps_set (i := 1) nd rfl (.inl rfl) (pe_dget hu (pe_call0 G__law_shapes (hr.mono (by decide)) rfl g__law_shapes k__law_shapes b__law_shapes .nil pass0) (pe_ix ix_seq (pv 0) pe_int (fun _ _ => rfl)) (fun _ _ => rfl)))
     apply pss_one
     exact (ps_ret (pe_op op_add_str (pe_call G__law_first (hr.mono (by decide)) rfl g__law_first k__law_first b__law_first .nil pass0 (pa_cons (pe_ix ix_seq (pv 0) pe_int (fun _ _ => rfl)) pa_nil)) (pe_join pe_str (pe_lc (own := [("_law_letter", 2), ("_law_part_here", 3)]) (g := gTup K 2 (gCons (gName 2) (gCons (gName 3) gNil))) rfl nd (pi_zipS (by rfl) m_zip (pa_cons (pv 1) (pa_cons (pe_slice sl_tup (pv 0) (po_some pe_int) po_none) pa_nil))) (blkOk_by (own := [("_law_letter", 2), ("_law_part_here", 3)]) (N := ["_law_instruction_here", "_law_shape", "_law_letter", "_law_part_here"]) (sc := defScope s_law_told_bits) (by decide +kernel)) (fun _ _ _ _ _ => by exact (pg_tup rfl (pgs_cons (pg_name (i := 2) nd rfl (Or.inl rfl)) (pgs_cons (pg_name (i := 3) nd rfl (Or.inl rfl)) pgs_nil)))) (fun _ _ _ _ _ => pts_nil) (fun _ _ _ _ _ => (pe_call G__law_part_bits (hr.mono (by decide)) rfl g__law_part_bits k__law_part_bits b__law_part_bits .nil pass0 (pa_cons (pv 2) (pa_cons (pv 3) pa_nil))))))))
    case right =>
      obtain ⟨z, ds, rfl⟩ : ∃ z ds, d = .tuple (.str z :: ds) := by
        unfold instrD at hd
        split at hd
        · exact ⟨_, _, rfl⟩
        · cases hd
      have hd : (isWd z && (decide (ds.length = (shapeT z).length) && (partsOk r (shapeT z) ds && copyOk z ds))) = true := hd
      simp only [Bool.and_eq_true, decide_eq_true_eq] at hd
      obtain ⟨hw, hlen, hp2, _⟩ := hd
      have hs2 : ds.all smB = true := by
        have q : (smB (.str z) && ds.all smB) = true := hs
        exact (Bool.and_eq_true_iff.mp q).2
      unfold partsOk at hp2
      obtain ⟨hi, hz⟩ := word_idx hw
      rcases dt_tup (K := K) hx with ⟨a, xs0, ds0, rfl, e2, ha, hA⟩ | ⟨_, hn⟩
      · cases e2
        rcases dtA_cases hA with ⟨_, q⟩ | ⟨x0, d0, xs, ds1, rfl, e3, hx0, hB⟩
        · cases q
        cases e3
        cases hx0
        have k : ∀ H', Same H H' → Q (.str (sT (bT (headW z ds)))) H' := k
        unfold headW at k
        have gt := lsh_get hw
        have hTl : (shapeT z).length ≤ 4 := by
          exact shape_len _ hi
        generalize shapeT z = T at gt k hTl hlen hp2
        refine ⟨rfl, fun pS H1 s1 hpS e1 => ⟨_, rfl, .inr (.inl ⟨_, _, _, _, rfl, rfl, SqT.of (s1 _ _ ha), atI_nat (j := 0) rfl, pS, _, rfl, gt ▸ DGet.k (k := Sum.inr z) e1, ?_⟩)⟩⟩
        refine ⟨_, rfl, .inr (.inl ⟨_, _, _, _, rfl, rfl, SqT.of (s1 _ _ ha), atI_nat (j := 0) rfl, z, rfl, hw, fun H2 s2 => ?_⟩)⟩
        have sD := s1.trans s2
        have ha1 := sD _ _ ha
        obtain ⟨c1, c2⟩ := cut1V (x := V.str z) (xs := xs)
        refine ⟨⟨_, rfl⟩, _, rfl, _, rfl, _, rfl, a, _, rfl, SqT.of ha1, c2, fun p hp => ?_⟩
        rw [c1]
        refine ⟨_, p, xs, rfl, SqT.of upd_same, fun D2 hD2 => ?_⟩
        have sp := same_new (o := .tup xs) hp
        have e0 : upd H2 p (.tup xs) p = some (.tup xs) := upd_same
        generalize upd H2 p (.tup xs) = H3 at sp e0 hD2
        have hB := hB.same (sD.trans sp)
        have hTs : (sT T).cps.size = T.length := sT_len T
        have hl := hB.length
        refine lc_it (walk_zipS (K := K) (x := sT T) (b := p) (ys := xs) (n := T.length) (by rw [hTs]; omega)) (fun i H' => Same H3 H' ∧ H' D2 = some (.lst ((((T.zip ds).map fun q => sT (bT (partW q.1 q.2))).take i).map V.str))) ⟨same_new hD2, upd_same⟩ (fun i H' _ h => SqT.of (h.1 _ _ e0)) ?_ ?_
        · rintro i x H' Hx hi ⟨s3, e3⟩ ⟨Tp, x1, x2, rfl, hT, rfl, hx1, hx2⟩
          obtain ⟨c, hc, rfl⟩ : ∃ c, T[i]? = some c ∧ x1 = .str (sT [c]) := by
            have hx1 : ((sT T).cps[i]?.map fun c => V.str ⟨#[c]⟩) = some x1 := hx1
            cases e : (sT T).cps[i]? with
            | none => rw [e] at hx1; cases hx1
            | some c =>
              rw [e] at hx1
              refine ⟨c, ?_, (Option.some.inj hx1).symm⟩
              rw [← sT_cps T, Array.getElem?_toList]
              exact e
          obtain ⟨dd, hdd, hy⟩ := hB.at hx2
          have hq := (List.getElem?_zip_eq_some (z := (c, dd))).mpr ⟨hc, hdd⟩
          have h1 : partD r c dd = true := List.all_eq_true.mp hp2 (partD r c dd) (List.mem_map.mpr ⟨(c, dd), List.mem_of_getElem? hq, rfl⟩)
          have h2 : smB dd = true := List.all_eq_true.mp hs2 dd (List.mem_of_getElem? hdd)
          have sTp := same_new (o := .tup [.str (sT [c]), x2]) hT
          refine ⟨Tp, _, rfl, SqT.of upd_same, rfl, _, _, rfl, _, _, rfl, rfl, rfl, yesIf ⟨_, rfl, _, rfl, c, x2, dd, r, rfl, hy.same (s3.trans sTp), ht.tupA.get (i := i + 1) (by simpa using hdd), h1, h2, h9, fun H4 s4 => ⟨_, s4 _ _ (sTp _ _ e3), ?_, same_sub ((s3.trans sTp).trans s4) hD2, ?_⟩⟩⟩
          · rw [List.length_map]
            exact Nat.lt_of_le_of_lt (List.length_take_le' _ _) (by rw [List.length_map, List.length_zip]; exact Nat.lt_of_le_of_lt (show min T.length ds.length ≤ 4 by omega) (by decide))
          · rw [upd_same, take_snoc2 (a := sT (bT (partW c dd))) (by rw [List.getElem?_map, hq]; rfl), List.map_append]
            rfl
        · rintro H4 ⟨s3, e3⟩
          rw [List.take_of_length_le (by rw [List.length_map, List.length_zip]; omega)] at e3
          have e4 : ((T.zip ds).map fun q => sT (bT (partW q.1 q.2))) = (((T.zip ds).map fun q => partW q.1 q.2).map fun l => sT (bT l)) := by
            simp [List.map_map, Function.comp_def]
          rw [e4] at e3
          have hall : ∀ l ∈ ((T.zip ds).map fun q => partW q.1 q.2), l.length ≤ 140 := fun l hl => by
            obtain ⟨⟨c, dd⟩, hm, rfl⟩ := List.mem_map.mp hl
            refine partW_len (List.all_eq_true.mp hp2 (partD r c dd) (List.mem_map.mpr ⟨(c, dd), hm, rfl⟩)) ?_
            exact List.all_eq_true.mp hs2 dd (List.of_mem_zip hm).2
          have hn : ((T.zip ds).map fun q => partW q.1 q.2).length ≤ 4 := by
            rw [List.length_map, List.length_zip]
            omega
          have k := k _ (sD.trans (sp.trans s3))
          generalize ((T.zip ds).map fun q => partW q.1 q.2) = BL at k hall hn e3
          have b1 := sum_le2 140 BL hall
          have b2 := flat_le (m := 140) hall
          have b3 : 140 * BL.length ≤ 140 * 4 := Nat.mul_le_mul_left _ hn
          refine ⟨"", D2, BL.map (fun l => sT (bT l)), rfl, rfl, .inl (SqL.of e3), ?_, ?_⟩
          · rw [show ("" : Str).length = 0 from rfl, Nat.mul_zero, Nat.add_zero]
            omega
          · have j := join_sT (BL.map bT)
            rw [List.map_map] at j
            have j : Txt.join "" (BL.map fun l => sT (bT l)) = _ := j
            rw [j, flat_bT]
            refine ⟨_, _, rfl, rfl, ?_, ?_⟩
            · rw [sT_len, sT_len, bT_len, bT_len, digs_len]
              exact sl_of (by omega)
            · rw [sT_ap, ← bT_app]
              exact k
      · exact absurd rfl (hn _)
end
/-! ## k83's law: judged by the law's own functions -/
theorem TyOf.sm {K : PySem.W.Frag} {H H' : Hp} {x : V} {t : Value} (s : Same H H') (h : TyOf K H x t) : TyOf K H' x t := by
  cases h with
  | non => exact .non
  | bl b => exact .bl b
  | int i => exact .int i
  | str z => exact .str z
  | flt z => exact .flt z
  | lst e => exact .lst (s _ _ e)
  | frz e => exact .frz (s _ _ e)
  | tup e => exact .tup (s _ _ e)
  | dK e => exact .dK (s _ _ e)
  | dT e => exact .dT (s _ _ e)
  | ins e c a b d m => exact .ins (s _ _ e) c a b d m
theorem TyX.sm {K : PySem.W.Frag} {H H' : Hp} {x : V} {t : Value} (s : Same H H') (h : TyX K H x t) : TyX K H' x t := by
  cases h with
  | base h => exact .base (TyOf.sm s h)
  | byt b => exact .byt b
  | set e => exact .set (s _ _ e)
  | kList e c => exact .kList e c
  | kTuple e c => exact .kTuple e c
  | kDict e c => exact .kDict e c
  | fTuple e => exact .fTuple (s _ _ e)
  | fDict e => exact .fDict (s _ _ e)
theorem notStr_sm {K : PySem.W.Frag} {H H' : Hp} {x : V} (s : Same H H') : NotStr K H x → NotStr K H' x := fun ⟨t, h1, h2⟩ => ⟨t, TyX.sm s h1, h2⟩
section
variable {P : Program} {w : World} {K : PySem.W.Frag} {mg : Str → Option Value} {base : Heap}
theorem sc__law_is_name : FnScope ["_law_thing", "_law_kept", "_law_letter"] ["_law_thing"] (defScope s_law_is_name) := ⟨rfl, rfl, rfl, by decide +kernel, rfl, by decide +kernel, by decide +kernel⟩
theorem ok_lisname {CX : CXT} {f : Addr} {fd : FuncData} (F : FnP K "_law_is_name" s_law_is_name f fd) (G : NkF K mg) : FnOk P w K mg base CX 1 f fd ["_law_thing"] (spTxO K nameB) := by
  refine F.ok sc__law_is_name (fun vs H Q E h => ?_) (fun cdv A outer s H vs Q E hr h => ?_)
  · obtain ⟨x, rfl, _⟩ := h
    rfl
  · obtain ⟨x, rfl, h⟩ := h
    have nd := sc__law_is_name.nd
    apply Exists.intro
    apply And.intro
    case left =>
     apply PSs.nox
     apply pss_cons
     · exact (ps_set (i := 1) nd rfl (.inl rfl) (pe_lst (pa_cons pe_str (pa_cons pe_str (pa_cons pe_str (pa_cons pe_str (pa_cons pe_str (pa_cons pe_str (pa_cons pe_str (pa_cons pe_str (pa_cons pe_str (pa_cons pe_str (pa_cons pe_str (pa_cons pe_str (pa_cons pe_str (pa_cons pe_str pa_nil))))))))))))))))
     apply pss_cons
     · exact (ps_set (i := 1) nd rfl (.inl rfl) (pe_op op_cat (pv 1) (pe_lst (pa_cons pe_str (pa_cons pe_str (pa_cons pe_str (pa_cons pe_str (pa_cons pe_str (pa_cons pe_str (pa_cons pe_str (pa_cons pe_str (pa_cons pe_str (pa_cons pe_str (pa_cons pe_str (pa_cons pe_str (pa_cons pe_str (pa_cons pe_str pa_nil)))))))))))))))))
     apply pss_cons
     · exact (ps_if (PW.pt (pw_or (pt_not (pt_val (pe_callB call_isi (by rfl) G.isi (by decide +kernel) (pa_cons (pv 0) (pa_cons (pe_bltn (v := .ty "str") (by rfl) G.str (by decide +kernel) rfl) pa_nil))))) (pw_or (pt_not (pt_chain op_le op_le pe_int (pe_callB call_len (by rfl) G.len PySem.boot_len (pa_cons (pv 0) pa_nil)) pe_int)) (pw_or1 (pt_cmpR op_in_seq (pv 0) (pe_op op_cat (pv 1) (pe_lst (pa_cons pe_str (pa_cons pe_str pa_nil)))) (by rfl)))))) (pss_one (ps_ret pe_bl)) pss_nil)
     apply pss_one
     exact (ps_ret (pe_cmpR (op_eqD hr.units) (pe_lc (own := [("_law_letter", 2)]) (g := gName 2) rfl nd (pi_str (pv 0)) (blkOk_by (own := [("_law_letter", 2)]) (N := ["_law_thing", "_law_kept", "_law_letter"]) (sc := defScope s_law_is_name) (by decide +kernel)) (fun _ _ _ _ _ => (pg_name (i := 2) nd rfl (Or.inl rfl))) (fun _ _ _ _ _ => pts_one (pt_cmpR op_notIn_sign (pv 2) pe_str (by rfl))) (fun _ _ _ _ _ => (pv 2))) (pe_lst pa_nil) (nomark _)))
    case right =>
      refine ⟨(show 14 ≤ sizeLine by decide), fun p1 hp1 => ⟨_, rfl, (show 14 ≤ sizeLine by decide), fun p2 hp2 => ?_⟩⟩
      have s1 := same_new (o := .lst (keptV.take 14)) hp1
      have s2 := same_new (o := .lst ((keptV.drop 14).take 14)) hp2
      refine ⟨p1, p2, keptV.take 14, (keptV.drop 14).take 14, rfl, rfl, s2 _ _ upd_same, upd_same, (show 28 ≤ sizeLine by decide), fun p3 hp3 => ?_⟩
      have s3 := (s1.trans s2).trans (same_new (o := .lst (keptV.take 28)) hp3)
      have e3 : upd (upd (upd H p1 (.lst (keptV.take 14))) p2 (.lst ((keptV.drop 14).take 14))) p3 (.lst (keptV.take 28)) p3 = some (.lst (keptV.take 28)) := upd_same
      have h : ((∃ t, x = .str (sT t) ∧ tx t ∧ ∀ H', Same (upd (upd (upd H p1 (.lst (keptV.take 14))) p2 (.lst ((keptV.drop 14).take 14))) p3 (.lst (keptV.take 28))) H' → Q (.bl (nameB t)) H') ∨ (NotStr K (upd (upd (upd H p1 (.lst (keptV.take 14))) p2 (.lst ((keptV.drop 14).take 14))) p3 (.lst (keptV.take 28))) x ∧ ∀ H', Same (upd (upd (upd H p1 (.lst (keptV.take 14))) p2 (.lst ((keptV.drop 14).take 14))) p3 (.lst (keptV.take 28))) H' → Q (.bl false) H')) := by
        rcases h with ⟨t, e, ht, k⟩ | ⟨hn, k⟩
        · exact .inl ⟨t, e, ht, fun H' s' => k H' (s3.trans s')⟩
        · exact .inr ⟨notStr_sm s3 hn, fun H' s' => k H' (s3.trans s')⟩
      show tSeq _ _ _ _ (upd (upd (upd H p1 (.lst (keptV.take 14))) p2 (.lst ((keptV.drop 14).take 14))) p3 (.lst (keptV.take 28)))
      generalize upd (upd (upd H p1 (.lst (keptV.take 14))) p2 (.lst ((keptV.drop 14).take 14))) p3 (.lst (keptV.take 28)) = H0 at s3 e3 h ⊢
      rcases h with ⟨t, rfl, ht, k⟩ | ⟨⟨ty, h1, h2⟩, k⟩
      · refine ⟨_, rfl, _, _, _, _, true, rfl, .ty "str", .base (.str _), kit_str_str, true, rfl, iteF ?_⟩
        refine ⟨_, rfl, _, _, rfl, ⟨sl_of ht.1, rfl⟩, _, _, rfl, rfl, _, rfl, ?_⟩
        rw [sT_len]
        have out : nameB t = false → ∀ H', Same H0 H' → Q (.bl false) H' := fun e H' s' => by
          have q := k H' s'
          rw [e] at q
          exact q
        refine ite2 (fun c1 => ?_) (fun c1 => ?_)
        · have c1 := of_decide_eq_true c1
          refine ⟨_, _, rfl, rfl, _, rfl, ?_⟩
          by_cases c2 : t.length ≤ 8
          · rw [show decide ((t.length : Int) ≤ 8) = true from decide_eq_true (by omega)]
            refine iteF ⟨_, rfl, _, rfl, (show 2 ≤ sizeLine by decide), fun p4 hp4 => ⟨p3, p4, _, _, rfl, rfl, same_new hp4 _ _ e3, upd_same, (show 30 ≤ sizeLine by decide), fun p5 hp5 => ⟨p5, keptV, rfl, .inl (SqL.of upd_same), rfl, flat_kept, _, rfl, ?_⟩⟩⟩
            have s5 := (same_new (o := .lst (keptV.drop 28)) hp4).trans (same_new (o := .lst keptV) hp5)
            refine ite2 (fun c3 => ?_) (fun c3 => ?_)
            · have c3 : keptB t = true := c3
              exact out (by unfold nameB; rw [c3]; simp) _ s5
            · have c3 : keptB t = false := by
                cases e : keptB t with
                | true => exact absurd e c3
                | false => rfl
              refine ⟨_, rfl, _, rfl, fun D hD => lc_chars (fun c => !isSmall c) ht.1 hD (fun c H' A B hc s h1 h2 => ⟨rfl, _, rfl, _, _, rfl, rfl, _, rfl, ?_⟩) ?_⟩
              · rw [mem_small]
                exact ite2 (fun e => ⟨_, rfl, h1 e⟩) (fun e => h2 (by simpa using e))
              · refine ⟨sl_of (by decide), fun p hp => ⟨_, _, .lst (SqL.of ((same_new hp) _ _ upd_same)) (dpAll_strs _), .lst (SqL.of upd_same) .nil, shaped_strs _ (fun c hc => ht.2 c (List.mem_filter.mp hc).1), rfl, ?_⟩⟩
                rw [eqv_nilS, isEmpty_filter_not, ← show nameB t = t.all isSmall by unfold nameB; rw [c3]; simp; omega]
                exact k _ (s5.trans ((same_new hD).trans (same_new hp)))
          · rw [show decide ((t.length : Int) ≤ 8) = false from decide_eq_false (by omega)]
            refine iteT (iteT ?_)
            exact out (by unfold nameB; simp; omega) _ (Same.refl _)
        · have c1 : ¬ (1 : Int) ≤ t.length := fun z => c1 (decide_eq_true z)
          refine ⟨_, rfl, iteT (iteT ?_)⟩
          exact out (by unfold nameB; simp; omega) _ (Same.refl _)
      · refine ⟨_, rfl, _, _, _, _, false, rfl, .ty "str", h1, h2, false, rfl, iteT (iteT ?_)⟩
        exact k _ (Same.refl _)
end
/-! ## k83's law: places judged -/
def plcB (r c : Nat) (t : List Nat) : Bool := regB r t || (decide (c = 99) && slotB t)
theorem fig_le {a : Nat} (h : isFig a = true) : 48 ≤ a ∧ a ≤ 57 := by
  unfold isFig at h
  simpa using h
theorem sort_val {c : Nat} {fs : List Nat} (hc : c = 118 ∨ c = 114 ∨ c = 115) (all : fs.all isFig = true) (ne : ¬ fs = []) (nl : ¬ (fs.take 1 = [48] ∧ ¬ fs = [48])) :
    sortP (c :: fs) = if fs.length ≤ 4 ∧ NumText.digitsVal fs ≤ (if c = 118 then 9999 else if c = 114 then 8 else 999) then some c else none := by
  show sortQ c fs = _
  unfold sortQ
  rw [if_neg ne, if_neg (not_not_intro hc)]
  by_cases h4 : fs.length ≤ 4
  · rw [if_neg (show ¬ (4 < fs.length ∨ fs.all isFig = false) from fun z => z.elim (fun z => by omega) (fun z => by rw [all] at z; cases z)), if_neg nl]
    by_cases hv : NumText.digitsVal fs ≤ (if c = 118 then 9999 else if c = 114 then 8 else 999)
    · rw [if_pos hv, if_pos ⟨h4, hv⟩]
    · rw [if_neg hv, if_neg (fun z => hv z.2)]
  · rw [if_pos (.inl (Nat.lt_of_not_le h4)), if_neg (fun z => h4 z.1)]
/-- how long the figures are, and what they are worth -/
theorem figs_val {fs : List Nat} (all : fs.all isFig = true) (ne : ¬ fs = []) (nl : ¬ (fs.take 1 = [48] ∧ ¬ fs = [48])) (h4 : fs.length ≤ 4) :
    (fs.length = 1 → NumText.digitsVal fs ≤ 9) ∧ (2 ≤ fs.length → 10 ≤ NumText.digitsVal fs) ∧ (fs.length ≤ 3 → NumText.digitsVal fs ≤ 999) ∧ (fs.length = 4 → 1000 ≤ NumText.digitsVal fs) := by
  have ld : ∀ (a : Nat) (r : List Nat), fs = a :: r → ¬ r = [] → 49 ≤ a := fun a r e n => by
    subst e
    have h := fig_le (List.all_eq_true.mp all a (List.mem_cons_self ..))
    by_cases e : a = 48
    · subst e
      exact absurd ⟨rfl, fun z => n (by injection z)⟩ nl
    · omega
  have fg : ∀ a ∈ fs, 48 ≤ a ∧ a ≤ 57 := fun a h => fig_le (List.all_eq_true.mp all a h)
  match fs, ne, h4, ld, fg with
  | [a], _, _, _, fg =>
    have := fg a (by simp)
    simp [NumText.digitsVal]
    omega
  | [a, b], _, _, ld, fg =>
    have := ld a [b] rfl (by simp)
    have := fg a (by simp)
    have := fg b (by simp)
    simp [NumText.digitsVal]
    omega
  | [a, b, c], _, _, ld, fg =>
    have := ld a [b, c] rfl (by simp)
    have := fg a (by simp)
    have := fg b (by simp)
    have := fg c (by simp)
    simp [NumText.digitsVal]
    omega
  | [a, b, c, d], _, _, ld, fg =>
    have := ld a [b, c, d] rfl (by simp)
    have := fg a (by simp)
    have := fg b (by simp)
    have := fg c (by simp)
    have := fg d (by simp)
    simp [NumText.digitsVal]
    omega
  | _ :: _ :: _ :: _ :: _ :: _, _, h, _, _ => exact absurd h (by simp)
theorem reg_eq {r : Nat} {fs : List Nat} (h9 : r ≤ 9) (all : fs.all isFig = true) (ne : ¬ fs = []) (nl : ¬ (fs.take 1 = [48] ∧ ¬ fs = [48])) : regB r (114 :: fs) = (decide (fs.length = 1) && decide (NumText.digitsVal fs < r)) := by
  unfold regB
  rw [sort_val (.inr (.inl rfl)) all ne nl, List.drop_one, List.tail_cons]
  by_cases h1 : fs.length = 1
  · obtain ⟨a1, _⟩ := figs_val all ne nl (by omega)
    have a1 := a1 h1
    by_cases h8 : NumText.digitsVal fs ≤ 8
    · rw [if_pos ⟨by omega, h8⟩, decide_eq_true rfl, decide_eq_true h1]
    · rw [if_neg (fun z => h8 z.2), decide_eq_false (show ¬ NumText.digitsVal fs < r by omega)]
      simp
  · rw [decide_eq_false h1]
    by_cases h4 : fs.length ≤ 4
    · obtain ⟨_, a2, _⟩ := figs_val all ne nl h4
      have h0 : fs.length ≠ 0 := fun z => ne (List.length_eq_zero_iff.mp z)
      have a2 := a2 (by omega)
      rw [if_neg (fun z => by have z2 : NumText.digitsVal fs ≤ 8 := z.2; omega)]
      simp
    · rw [if_neg (fun z => h4 z.1)]
      simp
theorem slot_eq {fs : List Nat} (all : fs.all isFig = true) (ne : ¬ fs = []) (nl : ¬ (fs.take 1 = [48] ∧ ¬ fs = [48])) : slotB (115 :: fs) = decide (fs.length ≤ 3) := by
  unfold slotB
  rw [sort_val (.inr (.inr rfl)) all ne nl]
  by_cases h4 : fs.length ≤ 4
  · obtain ⟨_, _, a3, a4⟩ := figs_val all ne nl h4
    by_cases h3 : fs.length ≤ 3
    · have a3 := a3 h3
      rw [if_pos ⟨h4, a3⟩, decide_eq_true rfl, decide_eq_true h3]
    · have a4 := a4 (by omega)
      rw [if_neg (fun z => by have z2 : NumText.digitsVal fs ≤ 999 := z.2; omega), decide_eq_false h3]
      rfl
  · rw [if_neg (fun z => h4 z.1), decide_eq_false (show ¬ fs.length ≤ 3 by omega)]
    rfl
theorem sort_out {c : Nat} {fs : List Nat} (h : ¬ (c = 118 ∨ c = 114 ∨ c = 115) ∨ fs.all isFig = false ∨ (fs.take 1 = [48] ∧ ¬ fs = [48])) : sortP (c :: fs) = none := by
  show sortQ c fs = none
  unfold sortQ
  split
  · rfl
  split
  · rfl
  rename_i h2
  split
  · rfl
  rename_i h3
  split
  · rfl
  rename_i h4
  rcases h with h | h | h
  · exact absurd h h2
  · exact absurd (.inr h) h3
  · exact absurd h h4
theorem plc_none {r c : Nat} {t : List Nat} (h : sortP t = none) : plcB r c t = false := by
  unfold plcB regB slotB
  rw [h]
  simp
theorem sort_head {c x : Nat} {fs : List Nat} (h : sortP (c :: fs) = some x) : x = c := by
  obtain ⟨_, e, _⟩ := sort_some h
  injection e with e
  exact e.symm
theorem mem_figs2 (c : Nat) : decide (c ∈ ("0123456789" : Str).cps.toList) = isFig c := by
  rw [show ("0123456789" : Str).cps.toList = [48, 49, 50, 51, 52, 53, 54, 55, 56, 57] by decide +kernel]
  unfold isFig
  rw [Bool.eq_iff_iff, decide_eq_true_eq]
  simp
  omega
def spLPlc : Sp := fun vs H Q _ => ∃ (x : V) (d : PyData) (r c : Nat), vs = [x, .int (r : Int), .str (sT [c])] ∧ Dt anyA H x d ∧ TxD d ∧ r ≤ 9 ∧ ∀ H', Same H H' → Q (.bl (strD (plcB r c) d)) H'
section
variable {P : Program} {w : World} {K : PySem.W.Frag} {mg : Str → Option Value} {base : Heap}
end
/-! ## k83's law: parts and instructions judged -/
def rEqEL (K : PySem.W.Frag) : R2 := fun x y H Q => ∃ a b xs, x = .ref a ∧ y = .ref b ∧ SqL K H a xs ∧ SqL K H b [] ∧ Q (.bl xs.isEmpty) H
theorem op_eqEL {X : Cx} (hu : X.A.units < cLine) : OpR X (compareOp .Eq) (rEqEL X.K) := by
  intro pins s σ H x y v u Q I rx ry h
  obtain ⟨a, b, xs, rfl, rfl, h1, h2, q⟩ := h
  cases rx
  cases ry
  obtain ⟨its, rv, p1, _⟩ := I.list h1
  obtain ⟨its2, rv2, p2, _⟩ := I.list h2
  cases rv2
  cases rv with
  | nil =>
    have r := SeqAt.RcAt.lists (e := fun _ => true) (A := X.A) p1.isList p2.isList rfl hu (fun j _ h2 => absurd h2 (Nat.not_lt_zero _))
    exact r _ _ _ _ ⟨.bl true, H, I, rfl, q⟩
  | cons g r0 =>
    have r := SeqAt.RcAt.lists_lengths (A := X.A) p1.isList p2.isList (by simp) hu
    exact r _ _ _ _ ⟨.bl false, H, I, rfl, q⟩
theorem plc_r {r : Nat} {d : PyData} : strD (plcB r 114) d = strD (regB r) d := by
  cases d <;> first | rfl | (show plcB r 114 _ = regB r _; unfold plcB; rw [decide_eq_false (by decide), Bool.false_and, Bool.or_false])
theorem plc_c {r : Nat} {d : PyData} : strD (plcB r 99) d = (strD (regB r) d || strD slotB d) := by
  cases d <;> first | rfl | (show plcB r 99 _ = _; unfold plcB; rw [decide_eq_true rfl, Bool.true_and]; rfl)
theorem rc_in (c : Nat) : inV (.str (sT [c])) [V.str "r", V.str "c"] = (decide (c = 114) || decide (c = 99)) := by
  have h1 := let_eq c (cps1 (z := "r") (k := 114) (by decide +kernel))
  have h2 := let_eq c (cps1 (z := "c") (k := 99) (by decide +kernel))
  unfold inV
  simp only [List.any_cons, List.any_nil, Bool.or_false]
  rw [← h1, ← h2]
  show (( _ : Str) == _ || (_ : Str) == _) = _
  congr 1
  · rw [Bool.eq_iff_iff, beq_iff_eq, decide_eq_true_eq]
    exact ⟨fun z => congrArg V.str z.symm, fun z => by injection z with z; exact z.symm⟩
  · rw [Bool.eq_iff_iff, beq_iff_eq, decide_eq_true_eq]
    exact ⟨fun z => congrArg V.str z.symm, fun z => by injection z with z; exact z.symm⟩
theorem lp_in (z : Str) : inV (.str z) [V.str "short", V.str "long"] = isLp z := by
  unfold inV isLp
  simp only [List.any_cons, List.any_nil, Bool.or_false]
  show (( _ : Str) == _ || (_ : Str) == _) = _
  congr 1
  · rw [Bool.eq_iff_iff, beq_iff_eq, decide_eq_true_eq]
    exact ⟨fun z => z.symm, fun z => z.symm⟩
  · rw [Bool.eq_iff_iff, beq_iff_eq, decide_eq_true_eq]
    exact ⟨fun z => z.symm, fun z => z.symm⟩
def spLPt : Sp := fun vs H Q _ => ∃ (r c : Nat) (x : V) (d : PyData), vs = [.str (sT [c]), .int (r : Int), x] ∧ Dt anyA H x d ∧ TxD d ∧ r ≤ 9 ∧ ∀ H', Same H H' → Q (.bl (partD r c d)) H'
section
variable {P : Program} {w : World} {K : PySem.W.Frag} {mg : Str → Option Value} {base : Heap}
end
/-! ## k83's law: names drawn -/
def sLet : Str := "abcdefghijklmnopqrstuvwxyz"
def spNam : Sp := fun vs H Q _ => ∃ (t : Nat) (V0 : Hp) (d : Addr), vs = [.ref d, .int 1] ∧ Dw t V0 H d ∧ t + 20 < T40 ∧
  ∀ (z : Str) (a : Addr) (H' V' : Hp), Dw (t + 8) V' H' d → Same V0 V' → V0 a = none → V' a = some (.lst [.str z]) → tx z.cps.toList → nameB z.cps.toList = true → Q (.ref a) H'
theorem inV_strs (z : Str) : ∀ ws : List Str, inV (.str z) (ws.map V.str) = decide (z ∈ ws)
  | [] => rfl
  | w :: ws => by
    have ih := inV_strs z ws
    unfold inV at ih ⊢
    rw [List.map_cons, List.any_cons, ih]
    show ((w : Str) == z || decide (z ∈ ws)) = _
    rw [Bool.eq_iff_iff]
    simp only [Bool.or_eq_true, beq_iff_eq, decide_eq_true_eq, List.mem_cons]
    exact ⟨fun h => h.imp (fun e => e.symm) id, fun h => h.imp (fun e => e.symm) id⟩
def keptS : List Str := ["and", "at", "choice", "else", "fail", "false", "function", "if", "let", "long", "make", "match", "new", "not", "number", "of", "or", "over", "put", "rest", "return", "row", "set", "show", "true", "truth", "try", "unit", "uses", "while"]
def shortS : List Str := ["if", "of", "or", "at", "and", "new", "not", "let", "put", "row", "set", "try"]
theorem kept_is (t : List Nat) : keptB t = decide (sT t ∈ keptS) := inV_strs (sT t) keptS
theorem kept_short : ∀ k ∈ keptS, k.cps.toList.length ≤ 3 → k ∈ shortS := by decide +kernel
theorem kept_end : ∀ k ∈ keptS, k.cps.toList.drop (k.cps.toList.length - 2) ≠ [122, 97] := by decide +kernel
theorem kept_eight : ∀ k ∈ keptS, k.cps.toList.length = 8 → k = "function" := by decide +kernel
theorem name_of {t : List Nat} (h1 : 1 ≤ t.length) (h8 : t.length ≤ 8) (hk : sT t ∉ keptS) (hs : ∀ c ∈ t, 97 ≤ c ∧ c ≤ 122) : nameB t = true := by
  unfold nameB
  rw [kept_is, decide_eq_true h1, decide_eq_true h8, decide_eq_false hk]
  show (true && t.all isSmall) = true
  rw [Bool.true_and]
  refine List.all_eq_true.mpr fun c hc => ?_
  have := hs c hc
  unfold isSmall
  rw [decide_eq_true this.1, decide_eq_true this.2]
  rfl
theorem name_za {u : List Nat} (h : u.length ≤ 5) (hs : ∀ c ∈ u, 97 ≤ c ∧ c ≤ 122) : nameB (u ++ [122] ++ [97]) = true := by
  have e : u ++ [122] ++ [97] = u ++ [122, 97] := by simp
  rw [e]
  refine name_of (by simp) (by simp; omega) (fun hk => ?_) (fun c hc => ?_)
  · have := kept_end _ hk
    rw [sT_cps, List.length_append] at this
    exact this (by rw [show u.length + [122, 97].length - 2 = u.length from by simp, List.drop_left])
  · rcases List.mem_append.mp hc with hc | hc
    · exact hs c hc
    · simp at hc
      omega
theorem let_mem {v : V} (h : v ∈ (("abcdefghijklmnopqrstuvwxyz" : Str).cps.toList.map fun c => V.str ⟨#[c]⟩)) : ∃ c, v = .str (sT [c]) ∧ 97 ≤ c ∧ c ≤ 122 := by
  obtain ⟨c, hc, rfl⟩ := List.mem_map.mp h
  have key : ∀ c ∈ ("abcdefghijklmnopqrstuvwxyz" : Str).cps.toList, 97 ≤ c ∧ c ≤ 122 := by decide +kernel
  exact ⟨c, rfl, key c hc⟩
section
variable {P : Program} {w : World} {K : PySem.W.Frag} {mg : Str → Option Value} {base : Heap}
theorem sc__law_names : FnScope ["_law_draw", "_law_many", "_law_letters", "_law_found", "_law_turn", "_law_word", "_law_k"] ["_law_draw", "_law_many"] (defScope s_law_names) := ⟨rfl, rfl, rfl, by decide +kernel, rfl, by decide +kernel, by decide +kernel⟩
theorem ok_lnames {f : Addr} {fd : FuncData} (F : FnP K "_law_names" s_law_names f fd) (c__law_pick : Cal P w K mg base 3 "_law_pick" ["_law_draw", "_law_some"] (spPick K)) (G : NkF K mg) (rng : mg "range" = none) : FnOk P w K mg base CX0 4 f fd ["_law_draw", "_law_many"] spNam := by
  obtain ⟨f__law_pick, fd__law_pick, g__law_pick, k__law_pick, b__law_pick, G__law_pick⟩ := c__law_pick
  refine F.ok sc__law_names (fun vs H Q E h => ?_) (fun cdv A outer s H vs Q E hr h => ?_)
  · obtain ⟨t, V0, d, rfl, _⟩ := h
    rfl
  · obtain ⟨t, V0, d, rfl, hD, ht, k⟩ := h
    have ht : t + 20 < 1099511627776 := ht
    have nd := sc__law_names.nd
    apply Exists.intro
    apply And.intro
    case left =>
     apply PSs.nox
     apply pss_cons
     · exact (ps_asg (pe_tup (pa_cons pe_str (pa_cons (pe_lst pa_nil) pa_nil))) (pg_tup rfl (pgs_cons (pg_name (i := 2) nd rfl (Or.inr rfl)) (pgs_cons (pg_name (i := 3) nd rfl (Or.inl rfl)) pgs_nil))))
     apply pss_cons
     · apply ps_for PassesOwn.never rfl
       · exact (pi_range1 (by rfl) rng (pa_cons (pv 1) pa_nil))
       · exact (pg_name (i := 4) nd rfl (Or.inl rfl))
       · apply C8.pss_cut
         · exact (ps_set (i := 5) nd rfl (.inl rfl) (pe_join pe_str (pe_lc (own := [("_law_k", 6)]) (g := gName 6) rfl nd (pi_range1 (by rfl) rng (pa_cons (pe_call G__law_pick (hr.mono (by decide)) rfl g__law_pick k__law_pick b__law_pick .nil pass0 (pa_cons (pv 0) (pa_cons (pe_lst (pa_cons pe_int (pa_cons pe_int (pa_cons pe_int (pa_cons pe_int (pa_cons pe_int pa_nil)))))) pa_nil))) pa_nil)) (blkOk_by (own := [("_law_k", 6)]) (N := ["_law_draw", "_law_many", "_law_letters", "_law_found", "_law_turn", "_law_word", "_law_k"]) (sc := defScope s_law_names) (by decide +kernel)) (fun _ _ _ _ _ => (pg_name (i := 6) nd rfl (Or.inl rfl))) (fun _ _ _ _ _ => pts_nil) (fun _ _ _ _ _ => (pe_call G__law_pick (hr.mono (by decide)) rfl g__law_pick k__law_pick b__law_pick .nil pass0 (pa_cons (pv 0) (pa_cons (pv 2) pa_nil)))))))
         apply C8.pss_cut
         · exact (ps_if (PW.pt (pw_or (pt_cmpR op_in_seq (pv 5) (pv 3) (by rfl)) (pw_or (pt_cmpR op_in_seq (pv 5) (pe_lst (pa_cons pe_str (pa_cons pe_str (pa_cons pe_str (pa_cons pe_str (pa_cons pe_str (pa_cons pe_str (pa_cons pe_str (pa_cons pe_str (pa_cons pe_str (pa_cons pe_str (pa_cons pe_str (pa_cons pe_str pa_nil))))))))))))) (by rfl)) (pw_or1 (pt_cmpR op_gt (pe_callB call_len_str (by rfl) G.len PySem.boot_len (pa_cons (pv 5) pa_nil)) pe_int (nomark _)))))) (pss_one (ps_set (i := 5) nd rfl (.inl rfl) (pe_op op_add_str (pe_op op_add_str (pe_slice sl_str (pv 5) po_none (po_some pe_int)) pe_str) (pe_ix ix_str (pv 2) (pe_op op_modN (pv 4) pe_int) (fun _ _ => rfl))))) pss_nil)
         apply pss_one
         exact (ps_expr (pe_bm PySem.F.plainAttrs_list PySem.F.slot_list_append PySem.F.type_list_append mt_append (pv 3) (pa_cons (pe_ifExp (pt_cmpR op_notIn_seq (pv 5) (pv 3) (by rfl)) (pv 5) (pe_op op_add_str (pe_op op_add_str (pe_op op_add_str pe_str (pe_ix ix_str (pv 2) (pe_op op_modN (pv 4) pe_int) (fun _ _ => rfl))) pe_str) (pe_ix ix_str (pv 2) (pe_op op_fdivN (pv 4) pe_int) (fun _ _ => rfl)))) pa_nil)))
     apply pss_one
     exact (ps_ret (pv 3))
    case right =>
      refine ⟨(show 0 ≤ sizeLine by decide), fun pF hpF => ⟨(show 2 ≤ sizeLine by decide), fun q hq => ?_⟩⟩
      obtain ⟨V1, E1, y1, e1⟩ := hD.mk (o := .lst []) hpF
      obtain ⟨V2, E2, y2, _⟩ := E1.mk (o := .tup [.str "abcdefghijklmnopqrstuvwxyz", .ref pF]) hq
      have nF : V0 pF = none := hD.same.free hpF
      have eF : V2 pF = some (.lst []) := y2 _ _ e1
      have y12 := y1.trans y2
      refine ⟨q, _, rfl, SqT.of upd_same, rfl, _, _, rfl, _, _, rfl, rfl, ?_⟩
      refine ⟨_, rfl, 1, rfl, by decide, by decide, ?_⟩
      refine for_range (lo := 0) (n := 1) (fun i σ H' => ∃ v4 v5 v6, σ = [some (.ref d), some (.int 1), some (.str "abcdefghijklmnopqrstuvwxyz"), some (.ref pF), v4, v5, v6] ∧ ((i = 0 ∧ Dw t V2 H' d) ∨ (i = 1 ∧ ∃ w V', Dw (t + 8) V' H' d ∧ Same V0 V' ∧ V' pF = some (.lst [.str (sT w)]) ∧ tx w ∧ nameB w = true)))
        ⟨none, none, none, rfl, .inl ⟨rfl, E2⟩⟩ ?_ ?_
      · rintro j σ H' hj ⟨v4, v5, v6, rfl, (⟨_, D⟩ | ⟨rfl, _⟩)⟩
        · have hj : j = 0 := by omega
          subst hj
          refine ⟨fun σ H' => ∃ w Vw v6, σ = [some (.ref d), some (.int 1), some (.str "abcdefghijklmnopqrstuvwxyz"), some (.ref pF), some (.int 0), some (.str (sT w)), v6] ∧ (1 ≤ w.length ∧ w.length ≤ 6) ∧ (∀ c ∈ w, 97 ≤ c ∧ c ≤ 122) ∧ Dw (t + 7) Vw H' d ∧ Same V2 Vw, ?_, ?_⟩
          · refine ⟨⟨_, rfl⟩, _, rfl, (show 5 ≤ sizeLine by decide), fun p hp => ?_⟩
            obtain ⟨V3, D3, y3, e3⟩ := D.mk (o := .lst [.int 1, .int 1, .int 2, .int 4, .int 6]) hp
            refine ⟨t, V3, d, .ref p, _, rfl, D3, by show t < 1099511627776; omega, .lst (SqL.of e3), (show 0 < 5 by decide), (show 5 < 100000 by decide), fun v H2 hv D4 => ?_⟩
            obtain ⟨n, rfl, hn⟩ : ∃ n : Nat, v = .int (n : Int) ∧ 1 ≤ n ∧ n ≤ 6 := by
              simp only [List.mem_cons, List.not_mem_nil, or_false] at hv
              rcases hv with rfl | rfl | rfl | rfl | rfl
              · exact ⟨1, rfl, by decide, by decide⟩
              · exact ⟨1, rfl, by decide, by decide⟩
              · exact ⟨2, rfl, by decide, by decide⟩
              · exact ⟨4, rfl, by decide, by decide⟩
              · exact ⟨6, rfl, by decide, by decide⟩
            refine ⟨(n : Int), rfl, by omega, by omega, fun Dl hDl => ?_⟩
            obtain ⟨V5, D5, y5, e5⟩ := D4.mk (o := .lst []) hDl
            have nDl : V3 Dl = none := D4.same.free hDl
            refine lc_range (lo := 0) (n := n) (fun j H' => ∃ (V' : Hp) (acc : List Nat), Dw (t + 1 + j) V' H' d ∧ Same V3 V' ∧ V' Dl = some (.lst ((acc.map fun c => sT [c]).map V.str)) ∧ acc.length = j ∧ ∀ c ∈ acc, 97 ≤ c ∧ c ≤ 122)
              ⟨V5, [], D5, y5, e5, rfl, fun c hc => nomatch hc⟩ ?_ ?_
            · rintro j H' hj ⟨V', acc, c1, c2, c3, c4, c5⟩
              refine ⟨rfl, yesIf ?_⟩
              refine ⟨_, rfl, _, rfl, t + 1 + j, V', d, .str "abcdefghijklmnopqrstuvwxyz", _, rfl, c1, by show t + 1 + j < 1099511627776; omega, .str (by decide +kernel), by decide +kernel, by decide +kernel, fun v H3 hv D6 => ?_⟩
              obtain ⟨c, rfl, k1, k2⟩ := let_mem hv
              refine ⟨_, D6.same _ _ c3, ?_, upd V' Dl (.lst ((acc.map fun c => sT [c]).map V.str ++ [V.str (sT [c])])), acc ++ [c], D6.set c3, same_sub c2 nDl, ?_, ?_, ?_⟩
              · rw [List.length_map, List.length_map, c4]
                exact Nat.lt_of_lt_of_le (show j < 1000 by omega) (by decide)
              · rw [upd_same, List.map_append, List.map_append]
                rfl
              · rw [List.length_append, c4]
                rfl
              · intro x hx
                rcases List.mem_append.mp hx with hx | hx
                · exact c5 x hx
                · rw [List.mem_singleton] at hx
                  omega
            · rintro H6 ⟨V6, acc, D6, y6, e6, hlen, hc⟩
              refine ⟨"", Dl, acc.map fun c => sT [c], rfl, rfl, .inl (SqL.of (D6.same _ _ e6)), ?_, ?_⟩
              · rw [sum_one, show ("" : Str).length = 0 from rfl, Nat.mul_zero, Nat.add_zero]
                omega
              · rw [join_one]
                exact ⟨acc, V6, _, rfl, by omega, hc, D6.mono (by omega), y3.trans y6⟩
          · rintro σ H2 ⟨w, Vw, v6, rfl, hw, hc, D2, yw⟩
            have eF2 := yw _ _ eF
            refine ⟨fun σ H' => ∃ w Vw v6, σ = [some (.ref d), some (.int 1), some (.str "abcdefghijklmnopqrstuvwxyz"), some (.ref pF), some (.int 0), some (.str (sT w)), v6] ∧ w.length ≤ 7 ∧ (nameB w = true ∧ ∀ c ∈ w, 97 ≤ c ∧ c ≤ 122) ∧ Dw (t + 7) Vw H' d ∧ Same V2 Vw, ?_, ?_⟩
            · have sw : (sT w).length ≤ sizeLine := sl_of (by rw [sT_len]; omega)
              have more : ∀ (H3 : Hp) (V3 : Hp), Dw (t + 7) V3 H3 d → Same V2 V3 → tAsg (tOp (fun x y H Q => ∃ i j, x = V.str i ∧ y = V.str j ∧ i.length + j.length ≤ sizeLine ∧ Q (V.str (i ++ j)) H) (tOp (fun x y H Q => ∃ i j, x = V.str i ∧ y = V.str j ∧ i.length + j.length ≤ sizeLine ∧ Q (V.str (i ++ j)) H) (tSl rSlS (tVar 5) tNoPart (tPart (tC (V.int 5)))) (tC (V.str "z"))) (tOp rIxS (tVar 2) (tOp (fun x y H Q => ∃ i j, x = V.int i ∧ y = V.int j ∧ j ≠ 0 ∧ Q (V.int (i.fmod j)) H) (tVar 4) (tC (V.int 26))))) (gName 5) { nx := fun σ H' => ∃ w Vw v6, σ = [some (.ref d), some (.int 1), some (.str "abcdefghijklmnopqrstuvwxyz"), some (.ref pF), some (.int 0), some (.str (sT w)), v6] ∧ w.length ≤ 7 ∧ (nameB w = true ∧ ∀ c ∈ w, 97 ≤ c ∧ c ≤ 122) ∧ Dw (t + 7) Vw H' d ∧ Same V2 Vw, rt := Q } [some (.ref d), some (.int 1), some (.str "abcdefghijklmnopqrstuvwxyz"), some (.ref pF), some (.int 0), some (.str (sT w)), v6] H3 := by
                intro H3 V3 D3 y3
                have ez : ("z" : Str) = sT [122] := by decide +kernel
                have ec : cutS (sT w) none (some 5) = sT (w.take 5) := cut_to w 5
                refine ⟨_, rfl, _, rfl, _, rfl, sw, ?_⟩
                rw [ec]
                have l5 : (w.take 5).length ≤ 5 := List.length_take_le _ _
                refine ⟨_, _, rfl, rfl, ?_, ?_⟩
                · rw [ez, sT_len, sT_len]
                  exact sl_of (by show (w.take 5).length + 1 ≤ 100000; omega)
                rw [ez, sT_ap]
                refine ⟨_, rfl, _, rfl, _, _, rfl, rfl, (show (26 : Int) ≠ 0 by decide), _, _, 97, rfl, rfl, (by decide +kernel), (by decide +kernel), _, _, rfl, rfl, ?_, ?_⟩
                · rw [sT_len]
                  exact sl_of (by show (w.take 5 ++ [122]).length + 1 ≤ 100000; rw [List.length_append]; show (w.take 5).length + 1 + 1 ≤ 100000; omega)
                · refine ⟨w.take 5 ++ [122] ++ [97], V3, v6, ?_, ?_, ⟨name_za l5 fun c hc2 => hc c (List.mem_of_mem_take hc2), ?_⟩, D3, y3⟩
                  · rw [show (⟨#[97]⟩ : Str) = sT [97] from rfl, sT_ap]
                    rfl
                  · rw [List.length_append, List.length_append]
                    show (w.take 5).length + 1 + 1 ≤ 7
                    omega
                  · intro c hc2
                    rcases List.mem_append.mp hc2 with h | h
                    · rcases List.mem_append.mp h with h | h
                      · exact hc c (List.mem_of_mem_take h)
                      · rw [List.mem_singleton] at h
                        omega
                    · rw [List.mem_singleton] at h
                      omega
              refine ⟨_, rfl, _, rfl, pF, [], rfl, .inl (SqL.of (D2.same _ _ eF2)), rfl, rfl, _, rfl, iteF ?_⟩
              refine ⟨_, rfl, (show 12 ≤ sizeLine by decide), fun p hp => ⟨p, _, rfl, .inl (SqL.of upd_same), rfl, rfl, _, rfl, ?_⟩⟩
              obtain ⟨V3, D3, y3, e3⟩ := D2.mk (o := .lst [.str "if", .str "of", .str "or", .str "at", .str "and", .str "new", .str "not", .str "let", .str "put", .str "row", .str "set", .str "try"]) hp
              refine ite2 (fun _ => more _ _ D3 (yw.trans y3)) (fun k12 => ?_)
              refine ⟨_, rfl, _, rfl, sw, _, _, rfl, rfl, _, rfl, ?_⟩
              refine ite2 (fun _ => more _ _ D3 (yw.trans y3)) (fun k3 => ?_)
              have k3 : w.length ≤ 3 := by
                have k4 : ¬ ((3 : Int) < ((sT w).length : Int)) := fun z => k3 (decide_eq_true z)
                rw [sT_len] at k4
                omega
              have k12 : sT w ∉ shortS := fun z => k12 (by
                have := inV_strs (sT w) shortS
                rw [decide_eq_true z] at this
                exact this)
              exact ⟨w, V3, _, rfl, by omega, ⟨name_of hw.1 (by omega) (fun z => k12 (kept_short _ z (by rw [sT_cps]; exact k3))) hc, hc⟩, D3, yw.trans y3⟩
            · rintro σ H3 ⟨w2, V3, v6', rfl, hw2, hc2, D3, y3⟩
              have eF3 := y3 _ _ eF
              refine ⟨_, rfl, .inl ⟨rfl, _, SqL.of (D3.same _ _ eF3)⟩, _, rfl, _, rfl, pF, [], rfl, .inl (SqL.of (D3.same _ _ eF3)), rfl, rfl, _, rfl, iteT ⟨_, rfl, pF, [], _, rfl, rfl, D3.same _ _ eF3, by decide, ?_⟩⟩
              exact ⟨_, _, _, rfl, .inr ⟨rfl, w2, upd V3 pF (.lst [.str (sT w2)]), (D3.set eF3).mono (by omega), same_sub (y12.trans y3) nF, upd_same, ⟨by omega, fun c h => by have := hc2.2 c h; omega⟩, hc2.1⟩⟩
        · omega
      · rintro σ H' ⟨v4, v5, v6, rfl, (⟨z, _⟩ | ⟨_, w, V', D', y', e', ht', hn'⟩)⟩
        · omega
        · exact ⟨_, rfl, k (sT w) pF H' V' D' y' nF e' (by rw [sT_cps]; exact ht') (by rw [sT_cps]; exact hn')⟩
end
/-! ## k83's law: parts drawn -/
def pD (r c : Nat) (d : PyData) : Bool := partD r c d && (!(decide (c = 99)) || !(strD slotB d))
theorem pD_of {r c : Nat} {d : PyData} (hc : ¬ c = 99) (h : partD r c d = true) : pD r c d = true := by
  unfold pD
  rw [h, decide_eq_false hc]
  rfl
def spDrR : Sp := fun vs H Q _ => ∃ (t : Nat) (V0 : Hp) (d : Addr) (r : Nat), vs = [.ref d, .int (r : Int), .str (sT [114])] ∧ 1 ≤ r ∧ r ≤ 9 ∧ Dw t V0 H d ∧ t + 10 < T40 ∧
  ∀ (n : Nat) (H' : Hp), n < r → n < 9 → Dw (t + 1) V0 H' d → Q (.str (rT n)) H'
def spDrP : Sp := fun vs H Q _ => ∃ (t : Nat) (V0 : Hp) (d : Addr) (r c : Nat), vs = [.ref d, .int (r : Int), .str (sT [c])] ∧ 1 ≤ r ∧ r ≤ 9 ∧ Dw t V0 H d ∧ t + 100 < T40 ∧
  ∀ (x : V) (dd : PyData) (H' V' : Hp), Dw (t + 20) V' H' d → Same V0 V' → Dt (fun a => V0 a = none) V' x dd → TxD dd → smB dd = true → pD r c dd = true → Q x H'
theorem letv {c k : Nat} {z : Str} (hz : z = sT [k]) (e : decide (V.str (sT [c]) = V.str z) = true) : c = k := by
  rw [let_eq c hz] at e
  exact of_decide_eq_true e
theorem letn {c k : Nat} {z : Str} (hz : z = sT [k]) (e : ¬ decide (V.str (sT [c]) = V.str z) = true) : ¬ c = k := by
  rw [let_eq c hz] at e
  exact fun q => e (decide_eq_true q)
theorem reg_ok : ∀ n < 9, sortP (rT n).cps.toList = some 114 ∧ NumText.digitsVal ((rT n).cps.toList.drop 1) = n := by decide +kernel
theorem regB_rT {n r : Nat} (h : n < r) (h9 : r ≤ 9) : regB r (rT n).cps.toList = true := by
  obtain ⟨e1, e2⟩ := reg_ok n (by omega)
  unfold regB
  rw [e1, e2, decide_eq_true rfl, decide_eq_true h]
  rfl
theorem part_r {c n r : Nat} (h : n < r) (h9 : r ≤ 9) (hc : c = 114 ∨ c = 99) : partD r c (.str (rT n)) = true := by
  have e : strD (regB r) (.str (rT n)) = true := regB_rT h h9
  rcases hc with rfl | rfl
  · exact e
  · show (strD (regB r) (.str (rT n)) || strD slotB (.str (rT n))) = true
    rw [e]
    rfl
theorem reg_noslot : ∀ n < 9, slotB (rT n).cps.toList = false := by decide +kernel
theorem pD_r {c n r : Nat} (h : n < r) (h9 : r ≤ 9) (hc : c = 114 ∨ c = 99) : pD r c (.str (rT n)) = true := by
  unfold pD
  rw [part_r h h9 hc, show strD slotB (.str (rT n)) = false from reg_noslot n (by omega)]
  simp
theorem part_k {r : Nat} {z : Int} (h0 : 0 ≤ z) (h2 : z < 3) : partD r 107 (.int z) = true := by
  show (decide (0 ≤ z) && decide (z ≤ 2)) = true
  rw [decide_eq_true h0, decide_eq_true (by omega)]
  rfl
theorem part_l {r : Nat} {acc : List Nat} (hl : acc.length ≤ 3) (h9 : r ≤ 9) (h : ∀ m ∈ acc, m < r) : partD r 108 (.tuple ((acc.map rT).map PyData.str)) = true := by
  show (decide (((acc.map rT).map PyData.str).length ≤ 3) && (((acc.map rT).map PyData.str).map (strD (regB r))).all id) = true
  rw [List.length_map, List.length_map, decide_eq_true hl, Bool.true_and]
  refine List.all_eq_true.mpr fun x hx => ?_
  obtain ⟨y, hy, rfl⟩ := List.mem_map.mp hx
  obtain ⟨z, hz, rfl⟩ := List.mem_map.mp hy
  obtain ⟨m, hm, rfl⟩ := List.mem_map.mp hz
  exact regB_rT (h m hm) h9
theorem leapv {r c : Nat} {d : PyData} (h1 : ¬ (decide (c = 114) || decide (c = 99)) = true) (h2 : ¬ c = 110) (h3 : ¬ c = 119) (h4 : ¬ c = 107) (h5 : ¬ c = 108) : partD r c d = leapD d := by
  have a : ¬ c = 114 := fun z => h1 (by rw [decide_eq_true z]; rfl)
  have b : ¬ c = 99 := fun z => h1 (by rw [decide_eq_true z, Bool.or_true])
  unfold partD
  rw [if_neg a, if_neg b, if_neg h2, if_neg h3, if_neg h4, if_neg h5]
theorem lpd_short {m : Int} (h1 : -128 ≤ m) (h2 : m < 128) : leapD (.tuple [.str "short", .int m]) = true := by
  show (isLp "short" && lpOk "short" m) = true
  have e1 : isLp "short" = true := by decide +kernel
  have e2 : lpOk "short" m = true := by
    unfold lpOk
    rw [if_pos rfl, decide_eq_true h1, decide_eq_true h2]
    rfl
  rw [e1, e2]
  rfl
theorem lpd_long {m : Int} (h1 : -2147483648 ≤ m) (h2 : m < 2147483648) : leapD (.tuple [.str "long", .int m]) = true := by
  show (isLp "long" && lpOk "long" m) = true
  have e1 : isLp "long" = true := by decide +kernel
  have e3 : ¬ ("long" : Str) = "short" := by decide +kernel
  have e2 : lpOk "long" m = true := by
    unfold lpOk
    rw [if_neg e3, decide_eq_true h1, decide_eq_true h2]
    rfl
  rw [e1, e2]
  rfl
theorem rT_tx (n : Nat) (h : n < 9) : tx (rT n).cps.toList := by
  unfold rT
  rw [sT_cps]
  refine ⟨by show 2 ≤ 100000; decide, fun c hc => ?_⟩
  rcases List.mem_cons.mp hc with rfl | hc
  · decide
  · rw [List.mem_singleton] at hc
    omega
theorem r_cat (n : Nat) (h : n < 9) : ("r" : Str) ++ (toString ((n : Nat) : Int) : Str) = rT n ∧ (toString ((n : Nat) : Int) : Str).length = 1 := by
  rw [dec1 n (by omega), cps_r]
  exact ⟨sT_ap [114] [48 + n], sT_len [48 + n]⟩
theorem dtA_ofStrs {G : Addr → Prop} {H : Hp} : ∀ ws : List Str, DtA G H (ws.map V.str) (ws.map PyData.str)
  | [] => .nil
  | z :: r => .cons (.str z) (dtA_ofStrs r)
theorem txA_ofStrs : ∀ ws : List Str, (∀ z ∈ ws, tx z.cps.toList) → TxA (ws.map PyData.str)
  | [], _ => .nil
  | z :: r, h => .cons (.str (h z (List.mem_cons_self ..))) (txA_ofStrs r fun y hy => h y (List.mem_cons_of_mem _ hy))
section
variable {P : Program} {w : World} {K : PySem.W.Frag} {mg : Str → Option Value} {base : Heap}
theorem sc__law_part : FnScope ["_law_draw", "_law_registers_here", "_law_letter", "_law_word", "_law_k"] ["_law_draw", "_law_registers_here", "_law_letter"] (defScope s_law_part) := ⟨rfl, rfl, rfl, by decide +kernel, rfl, by decide +kernel, by decide +kernel⟩
theorem ok_lpartR {f : Addr} {fd : FuncData} (F : FnP K "_law_part" s_law_part f fd) (c__law_take : Cal P w K mg base 2 "_law_take" ["_law_draw", "_law_many"] spTake) (G : NkF K mg) : FnOk P w K mg base CX0 3 f fd ["_law_draw", "_law_registers_here", "_law_letter"] spDrR := by
  obtain ⟨f__law_take, fd__law_take, g__law_take, k__law_take, b__law_take, G__law_take⟩ := c__law_take
  refine F.ok sc__law_part (fun vs H Q E h => ?_) (fun cdv A outer s H vs Q E hr h => ?_)
  · obtain ⟨t, V0, d, r, rfl, _⟩ := h
    rfl
  · obtain ⟨t, V0, d, r, rfl, r1, r9, hD, ht, k⟩ := h
    have ht : t + 10 < 1099511627776 := ht
    have nd := sc__law_part.nd
    refine ⟨_, PSs.nox (pss_cons (ps_if (pt_cmpR op_in_seq (pv 2) (pe_lst (pa_cons pe_str (pa_cons pe_str pa_nil))) (by rfl)) (pss_one (ps_ret (pe_op op_add_str pe_str (pe_callTy call_str_int (by rfl) G.str (by decide +kernel) (pa_cons (pe_call G__law_take hr rfl g__law_take k__law_take b__law_take .nil pass0 (pa_cons (pv 0) (pa_cons (pv 1) pa_nil))) pa_nil))))) pss_nil) pss_never), ?_⟩
    refine ⟨_, rfl, (show 2 ≤ sizeLine by decide), fun p hp => ⟨p, _, rfl, .inl (SqL.of upd_same), rfl, rfl, _, rfl, ?_⟩⟩
    rw [rc_in, decide_eq_true rfl, Bool.true_or]
    obtain ⟨V1, D1, y1, _⟩ := hD.mk (o := .lst [V.str "r", V.str "c"]) hp
    refine iteT ⟨_, rfl, _, rfl, t, V1, d, _, rfl, D1, by show t < 1099511627776; omega, by omega, by omega, fun z H2 z0 z1 D2 => ?_⟩
    obtain ⟨n, rfl⟩ : ∃ n : Nat, z = (n : Int) := ⟨z.toNat, by omega⟩
    obtain ⟨e1, e2⟩ := r_cat n (by omega)
    refine ⟨_, rfl, Nat.lt_of_le_of_lt (Nat.log2_le_self _) (by show ((n : Nat) : Int).natAbs < 1920; omega), _, _, rfl, rfl, ?_, ?_⟩
    · rw [e2]
      exact sl_of (by decide)
    · rw [e1]
      exact k n _ (by omega) (by omega) (D2.less y1)
theorem ok_lpart {f : Addr} {fd : FuncData} (F : FnP K "_law_part" s_law_part f fd) (c__law_take : Cal P w K mg base 2 "_law_take" ["_law_draw", "_law_many"] spTake) (c__law_pick : Cal P w K mg base 3 "_law_pick" ["_law_draw", "_law_some"] (spPick K)) (c__law_figure : Cal P w K mg base 3 "_law_figure" ["_law_draw"] spFig)
    (c__law_names : Cal P w K mg base 4 "_law_names" ["_law_draw", "_law_many"] spNam) (g__law_part : mg "_law_part" = some (.ref f)) (b__law_part : Binds K fd ["_law_draw", "_law_registers_here", "_law_letter"] []) (G : NkF K mg) (rng : mg "range" = none) (tup : mg "tuple" = none) :
    FnOk P w K mg base CX0 5 f fd ["_law_draw", "_law_registers_here", "_law_letter"] spDrP := by
  have G__law_part : FnOk P w K mg base CX0 3 f fd ["_law_draw", "_law_registers_here", "_law_letter"] spDrR := ok_lpartR F c__law_take G
  have k__law_part := F.kp
  obtain ⟨f__law_take, fd__law_take, g__law_take, k__law_take, b__law_take, G__law_take⟩ := c__law_take
  obtain ⟨f__law_pick, fd__law_pick, g__law_pick, k__law_pick, b__law_pick, G__law_pick⟩ := c__law_pick
  obtain ⟨f__law_figure, fd__law_figure, g__law_figure, k__law_figure, b__law_figure, G__law_figure⟩ := c__law_figure
  obtain ⟨f__law_names, fd__law_names, g__law_names, k__law_names, b__law_names, G__law_names⟩ := c__law_names
  refine F.ok sc__law_part (fun vs H Q E h => ?_) (fun cdv A outer s H vs Q E hr h => ?_)
  · obtain ⟨t, V0, d, r, c, rfl, _⟩ := h
    rfl
  · obtain ⟨t, V0, d, r, c, rfl, r1, r9, hD, ht, k⟩ := h
    have ht : t + 100 < 1099511627776 := ht
    have nd := sc__law_part.nd
    apply Exists.intro
    apply And.intro
    case left =>
     apply PSs.nox
     apply pss_cons
     · exact (ps_if (pt_cmpR op_in_seq (pv 2) (pe_lst (pa_cons pe_str (pa_cons pe_str pa_nil))) (by rfl)) (pss_one (ps_ret (pe_op op_add_str pe_str (pe_callTy call_str_int (by rfl) G.str (by decide +kernel) (pa_cons (pe_call G__law_take (hr.mono (by decide)) rfl g__law_take k__law_take b__law_take .nil pass0 (pa_cons (pv 0) (pa_cons (pv 1) pa_nil))) pa_nil))))) pss_nil)
     apply pss_cons
     · exact (ps_if (pt_cmpR op_eq (pv 2) pe_str (nomark _)) (pss_one (ps_ret (pe_call G__law_figure (hr.mono (by decide)) rfl g__law_figure k__law_figure b__law_figure .nil pass0 (pa_cons (pv 0) pa_nil)))) pss_nil)
     apply pss_cons
     · exact (ps_if (pt_cmpR op_eq (pv 2) pe_str (nomark _)) (pss_cons (ps_set (i := 3) nd rfl (.inl rfl) (pe_join pe_str (pe_lc (own := [("_law_k", 4)]) (g := gName 4) rfl nd (pi_range1 (by rfl) rng (pa_cons pe_int pa_nil)) (blkOk_by (own := [("_law_k", 4)]) (N := ["_law_draw", "_law_registers_here", "_law_letter", "_law_word", "_law_k"]) (sc := defScope s_law_part) (by decide +kernel)) (fun _ _ _ _ _ => (pg_name (i := 4) nd rfl (Or.inl rfl))) (fun _ _ _ _ _ => pts_nil) (fun _ _ _ _ _ => (pe_call G__law_pick (hr.mono (by decide)) rfl g__law_pick k__law_pick b__law_pick .nil pass0 (pa_cons (pv 0) (pa_cons pe_str pa_nil))))))) (pss_one (ps_ret (pe_ifExp (PW.pt (pw_and (pt_cmpR op_eq (pe_call G__law_take (hr.mono (by decide)) rfl g__law_take k__law_take b__law_take .nil pass0 (pa_cons (pv 0) (pa_cons pe_int pa_nil))) pe_int (nomark _)) (pw_and1 (pt_cmpR op_ne (pv 3) pe_str (nomark _))))) (pv 3) (pe_ix ix_seq (pe_call G__law_names (hr.mono (by decide)) rfl g__law_names k__law_names b__law_names .nil pass0 (pa_cons (pv 0) (pa_cons pe_int pa_nil))) pe_int (fun _ _ => rfl)))))) pss_nil)
     apply pss_cons
     · exact (ps_if (pt_cmpR op_eq (pv 2) pe_str (nomark _)) (pss_one (ps_ret (pe_call G__law_take (hr.mono (by decide)) rfl g__law_take k__law_take b__law_take .nil pass0 (pa_cons (pv 0) (pa_cons pe_int pa_nil))))) pss_nil)
     apply pss_cons
     · exact (ps_if (pt_cmpR op_eq (pv 2) pe_str (nomark _)) (pss_one (ps_ret (pe_callTy call_tuple_of (by rfl) tup (by decide +kernel) (pa_cons (pe_lc (own := [("_law_k", 4)]) (g := gName 4) rfl nd (pi_range1 (by rfl) rng (pa_cons (pe_call G__law_take (hr.mono (by decide)) rfl g__law_take k__law_take b__law_take .nil pass0 (pa_cons (pv 0) (pa_cons pe_int pa_nil))) pa_nil)) (blkOk_by (own := [("_law_k", 4)]) (N := ["_law_draw", "_law_registers_here", "_law_letter", "_law_word", "_law_k"]) (sc := defScope s_law_part) (by decide +kernel)) (fun _ _ _ _ _ => (pg_name (i := 4) nd rfl (Or.inl rfl))) (fun _ _ _ _ _ => pts_nil) (fun _ _ _ _ _ => (pe_call G__law_part (hr.mono (by decide)) rfl g__law_part k__law_part b__law_part .nil pass0 (pa_cons (pv 0) (pa_cons (pv 1) (pa_cons pe_str pa_nil)))))) pa_nil)))) pss_nil)
     apply pss_cons
     · exact (ps_if (pt_cmpR op_eq (pe_call G__law_take (hr.mono (by decide)) rfl g__law_take k__law_take b__law_take .nil pass0 (pa_cons (pv 0) (pa_cons pe_int pa_nil))) pe_int (nomark _)) (pss_one (ps_ret (pe_tup (pa_cons pe_str (pa_cons (pe_call G__law_pick (hr.mono (by decide)) rfl g__law_pick k__law_pick b__law_pick .nil pass0 (pa_cons (pv 0) (pa_cons (pe_lst (pa_cons (pe_un un_neg pe_int) (pa_cons pe_int (pa_cons pe_int (pa_cons (pe_un un_neg pe_int) (pa_cons (pe_op op_sub (pe_call G__law_take (hr.mono (by decide)) rfl g__law_take k__law_take b__law_take .nil pass0 (pa_cons (pv 0) (pa_cons pe_int pa_nil))) pe_int) pa_nil)))))) pa_nil))) pa_nil))))) pss_nil)
     apply pss_one
     exact (ps_ret (pe_tup (pa_cons pe_str (pa_cons (pe_call G__law_pick (hr.mono (by decide)) rfl g__law_pick k__law_pick b__law_pick .nil pass0 (pa_cons (pv 0) (pa_cons (pe_lst (pa_cons (pe_un un_neg pe_int) (pa_cons pe_int (pa_cons pe_int (pa_cons (pe_un un_neg pe_int) (pa_cons (pe_op op_sub (pe_call G__law_take (hr.mono (by decide)) rfl g__law_take k__law_take b__law_take .nil pass0 (pa_cons (pv 0) (pa_cons pe_int pa_nil))) pe_int) pa_nil)))))) pa_nil))) pa_nil))))
    case right =>
      have cN : ("n" : Str) = sT [110] := cps1 (by decide +kernel)
      have cW : ("w" : Str) = sT [119] := cps1 (by decide +kernel)
      have cK : ("k" : Str) = sT [107] := cps1 (by decide +kernel)
      have cL : ("l" : Str) = sT [108] := cps1 (by decide +kernel)
      refine ⟨_, rfl, (show 2 ≤ sizeLine by decide), fun p hp => ⟨p, _, rfl, .inl (SqL.of upd_same), rfl, rfl, _, rfl, ?_⟩⟩
      rw [rc_in]
      obtain ⟨V1, D1, y1, _⟩ := hD.mk (o := .lst [V.str "r", V.str "c"]) hp
      generalize upd H p (.lst [V.str "r", V.str "c"]) = H1 at D1 ⊢
      refine ite2 (fun hc1 => ?_) (fun hn1 => ?_)
      · refine ⟨_, rfl, _, rfl, t, V1, d, _, rfl, D1, by show t < 1099511627776; omega, by omega, by omega, fun z H2 z0 z1 D2 => ?_⟩
        obtain ⟨n, rfl⟩ : ∃ n : Nat, z = (n : Int) := ⟨z.toNat, by omega⟩
        obtain ⟨e1, e2⟩ := r_cat n (by omega)
        refine ⟨_, rfl, Nat.lt_of_le_of_lt (Nat.log2_le_self _) (by show ((n : Nat) : Int).natAbs < 1920; omega), _, _, rfl, rfl, ?_, ?_⟩
        · rw [e2]
          exact sl_of (by decide)
        · rw [e1]
          refine k _ (.str (rT n)) _ V1 (D2.mono (by omega)) y1 (.str _) (.str (rT_tx n (by omega))) rfl ?_
          exact pD_r (by omega) (by omega) (by simpa using hc1)
      refine ⟨_, rfl, rfl, _, rfl, ?_⟩
      refine ite2 (fun hc2 => ?_) (fun hn2 => ?_)
      · exact ⟨_, rfl, t, V1, d, rfl, D1, by show t + 10 < 1099511627776; omega, fun z H2 hz D2 => k _ (.int z) _ V1 (D2.mono (by omega)) y1 (.int z) (.int z) (decide_eq_true (by omega)) (by have := letv cN hc2; subst this; exact pD_of (by decide) rfl)⟩
      refine ⟨_, rfl, rfl, _, rfl, ?_⟩
      refine ite2 (fun hc3 => ?_) (fun hn3 => ?_)
      · refine ⟨⟨_, rfl⟩, _, rfl, by decide, by decide, fun Dl hDl => ?_⟩
        obtain ⟨V5, D5, y5, e5⟩ := D1.mk (o := .lst []) hDl
        have nDl : V1 Dl = none := D1.same.free hDl
        refine lc_range (lo := 0) (n := 8) (fun j H' => ∃ (V' : Hp) (acc : List Nat), Dw (t + j) V' H' d ∧ Same V1 V' ∧ V' Dl = some (.lst ((acc.map fun c => sT [c]).map V.str)) ∧ acc.length = j ∧ ∀ c ∈ acc, 97 ≤ c ∧ c ≤ 122)
          ⟨V5, [], D5, y5, e5, rfl, fun c hc => nomatch hc⟩ ?_ ?_
        · rintro j H' hj ⟨V', acc, c1, c2, c3, c4, c5⟩
          refine ⟨rfl, yesIf ?_⟩
          refine ⟨_, rfl, t + j, V', d, .str "abcdefghijklmnopqrstuvwxyz", _, rfl, c1, by show t + j < 1099511627776; omega, .str (by decide +kernel), by decide +kernel, by decide +kernel, fun v H3 hv D6 => ?_⟩
          obtain ⟨c, rfl, k1, k2⟩ := let_mem hv
          refine ⟨_, D6.same _ _ c3, ?_, upd V' Dl (.lst ((acc.map fun c => sT [c]).map V.str ++ [V.str (sT [c])])), acc ++ [c], D6.set c3, same_sub c2 nDl, ?_, ?_, ?_⟩
          · rw [List.length_map, List.length_map, c4]
            exact Nat.lt_of_lt_of_le (show j < 1000 by omega) (by decide)
          · rw [upd_same, List.map_append, List.map_append]
            rfl
          · rw [List.length_append, c4]
            rfl
          · intro x hx
            rcases List.mem_append.mp hx with hx | hx
            · exact c5 x hx
            · rw [List.mem_singleton] at hx
              omega
        · rintro H6 ⟨V6, acc, D6, y6, e6, hlen, hc⟩
          refine ⟨"", Dl, acc.map fun c => sT [c], rfl, rfl, .inl (SqL.of (D6.same _ _ e6)), ?_, ?_⟩
          · rw [sum_one, show ("" : Str).length = 0 from rfl, Nat.mul_zero, Nat.add_zero]
            omega
          rw [join_one]
          have tacc : tx acc := ⟨by omega, fun c h => by have := hc c h; omega⟩
          refine ⟨_, rfl, t + 8, V6, d, 4, rfl, D6, by show t + 8 < 1099511627776; omega, by decide, by decide, fun z H7 z0 z1 D7 => ⟨rfl, _, rfl, ?_⟩⟩
          have nm : tOp (rIx K) (tCall spNam [] C8.E0 (tCons (tVar 0) (tCons (tC (V.int 1)) tNil))) (tC (V.int 0)) [some (.ref d), some (.int (r : Int)), some (.str (sT [c])), some (.str (sT acc)), none] H7 Q := by
            refine ⟨_, rfl, t + 9, V6, d, rfl, D7, by show t + 9 + 20 < 1099511627776; omega, fun z a H8 V8 D8 y8 n8 e8 tx8 nm8 => .inl ⟨_, _, _, _, rfl, rfl, SqL.of (D8.same _ _ e8), rfl, ?_⟩⟩
            exact k _ (.str z) _ V8 (D8.mono (by omega)) ((y1.trans y6).trans y8) (.str z) (.str tx8) rfl (by have := letv cW hc3; subst this; exact pD_of (by decide) nm8)
          refine ite2 (fun _ => ?_) (fun _ => nm)
          refine ⟨_, rfl, rfl, _, rfl, ?_⟩
          refine ite2 (fun hf => ?_) (fun _ => nm)
          refine ⟨_, rfl, k _ (.str (sT acc)) _ V6 (D7.mono (by omega)) (y1.trans y6) (.str _) (.str (by rw [sT_cps]; exact tacc)) rfl ?_⟩
          have := letv cW hc3
          subst this
          refine pD_of (by decide) ?_
          show nameB (sT acc).cps.toList = true
          rw [sT_cps]
          refine name_of (by omega) (by omega) (fun hk => ?_) hc
          have e8 := kept_eight _ hk (by rw [sT_cps]; omega)
          rw [decide_eq_true (congrArg V.str e8)] at hf
          cases hf
      refine ⟨_, rfl, rfl, _, rfl, ?_⟩
      refine ite2 (fun hc4 => ?_) (fun hn4 => ?_)
      · exact ⟨_, rfl, t, V1, d, 3, rfl, D1, by show t < 1099511627776; omega, by decide, by decide, fun z H2 z0 z1 D2 => k _ (.int z) _ V1 (D2.mono (by omega)) y1 (.int z) (.int z) (decide_eq_true (by omega)) (by have := letv cK hc4; subst this; exact pD_of (by decide) (part_k (by omega) (by omega)))⟩
      refine ⟨_, rfl, rfl, _, rfl, ?_⟩
      refine ite2 (fun hc5 => ?_) (fun hn5 => ?_)
      · refine ⟨_, rfl, t, V1, d, 4, rfl, D1, by show t < 1099511627776; omega, by decide, by decide, fun z H2 z0 z1 D2 => ?_⟩
        obtain ⟨n, rfl⟩ : ∃ n : Nat, z = (n : Int) := ⟨z.toNat, by omega⟩
        refine ⟨(n : Int), rfl, by omega, by omega, fun Dl hDl => ?_⟩
        obtain ⟨V5, D5, y5, e5⟩ := D2.mk (o := .lst []) hDl
        have nDl : V1 Dl = none := D2.same.free hDl
        refine lc_range (lo := 0) (n := n) (fun j H' => ∃ (V' : Hp) (acc : List Nat), Dw (t + 1 + j) V' H' d ∧ Same V1 V' ∧ V' Dl = some (.lst ((acc.map rT).map V.str)) ∧ acc.length = j ∧ ∀ c ∈ acc, c < r)
          ⟨V5, [], D5, y5, e5, rfl, fun c hc => nomatch hc⟩ ?_ ?_
        · rintro j H' hj ⟨V', acc, c1, c2, c3, c4, c5⟩
          refine ⟨rfl, yesIf ?_⟩
          refine ⟨_, rfl, _, rfl, t + 1 + j, V', d, r, by rw [← cps1 (z := "r") (k := 114) (by decide +kernel)]; rfl, r1, r9, c1, by show t + 1 + j + 10 < 1099511627776; omega, fun m H3 hmr hm D6 => ?_⟩
          refine ⟨_, D6.same _ _ c3, ?_, upd V' Dl (.lst ((acc.map rT).map V.str ++ [V.str (rT m)])), acc ++ [m], (D6.set c3).mono (by omega), same_sub c2 nDl, ?_, ?_, ?_⟩
          · rw [List.length_map, List.length_map, c4]
            exact Nat.lt_of_lt_of_le (show j < 1000 by omega) (by decide)
          · rw [upd_same, List.map_append, List.map_append]
            rfl
          · rw [List.length_append, c4]
            rfl
          · intro x hx
            rcases List.mem_append.mp hx with hx | hx
            · exact c5 x hx
            · rw [List.mem_singleton] at hx
              omega
        · rintro H6 ⟨V6, acc, D6, y6, e6, hlen, hc⟩
          refine ⟨Dl, _, rfl, .inl ⟨SqL.of (D6.same _ _ e6), fun q hq => ?_⟩⟩
          obtain ⟨V7, D7, y7, e7⟩ := D6.mk (o := .tup ((acc.map rT).map V.str)) hq
          refine k (.ref q) (.tuple ((acc.map rT).map PyData.str)) _ V7 (D7.mono (by omega)) ((y1.trans y6).trans y7) (.tup ((y1.trans y6).free (D6.same.free hq)) e7 (dtA_ofStrs _)) (.tup (txA_ofStrs _ fun z hz => ?_)) rfl (by have := letv cL hc5; subst this; exact pD_of (by decide) (part_l (by omega) r9 hc))
          obtain ⟨m, hm, rfl⟩ := List.mem_map.mp hz
          exact rT_tx m (by have := hc m hm; omega)
      refine ⟨_, rfl, t, V1, d, 2, rfl, D1, by show t < 1099511627776; omega, by decide, by decide, fun z H2 z0 z1 D2 => ⟨rfl, _, rfl, ?_⟩⟩
      have h99 : ¬ c = 99 := fun z => hn1 (by subst z; rfl)
      have lv : ∀ d, partD r c d = leapD d := fun d => leapv hn1 (letn cN hn2) (letn cW hn3) (letn cK hn4) (letn cL hn5)
      refine ite2 (fun hc6 => ?_) (fun hn6 => ?_)
      · refine ⟨_, rfl, _, rfl, _, rfl, _, rfl, t + 1, V1, d, 256, rfl, D2, by show t + 1 < 1099511627776; omega, by decide, by decide, fun y H3 y0 y9 D3 => ⟨_, _, rfl, rfl, (show 5 ≤ sizeLine by decide), fun p2 hp2 => ?_⟩⟩
        obtain ⟨V3, E3, y3, e3⟩ := D3.mk (o := .lst [.int (-128), .int 127, .int 0, .int (-1), .int (y - 128)]) hp2
        refine ⟨t + 2, V3, d, .ref p2, _, rfl, E3, by show t + 2 < 1099511627776; omega, .lst (SqL.of e3), (show 0 < 5 by decide), (show 5 < 100000 by decide), fun v H4 hv D4 => ?_⟩
        obtain ⟨m, rfl, m1, m2⟩ : ∃ m : Int, v = .int m ∧ -128 ≤ m ∧ m < 128 := by
          simp only [List.mem_cons, List.not_mem_nil, or_false] at hv
          rcases hv with rfl | rfl | rfl | rfl | rfl
          · exact ⟨_, rfl, by decide, by decide⟩
          · exact ⟨_, rfl, by decide, by decide⟩
          · exact ⟨_, rfl, by decide, by decide⟩
          · exact ⟨_, rfl, by decide, by decide⟩
          · exact ⟨_, rfl, by omega, by omega⟩
        refine ⟨(show 2 ≤ sizeLine by decide), fun q hq => ?_⟩
        obtain ⟨V5, D5, y5, e5⟩ := D4.mk (o := .tup [.str "short", .int m]) hq
        exact k (.ref q) (.tuple [.str "short", .int m]) _ V5 (D5.mono (by omega)) ((y1.trans y3).trans y5) (.tup ((y1.trans y3).free (D4.same.free hq)) e5 (.cons (.str _) (.cons (.int _) .nil))) (.tup (.cons (.str ⟨by decide +kernel, by decide +kernel⟩) (.cons (.int m) .nil))) rfl (pD_of h99 (by rw [lv]; exact lpd_short m1 m2))
      · refine ⟨_, rfl, _, rfl, _, rfl, _, rfl, t + 1, V1, d, 4294967296, rfl, D2, by show t + 1 < 1099511627776; omega, by decide, by decide, fun y H3 y0 y9 D3 => ⟨_, _, rfl, rfl, (show 5 ≤ sizeLine by decide), fun p2 hp2 => ?_⟩⟩
        obtain ⟨V3, E3, y3, e3⟩ := D3.mk (o := .lst [.int (-2147483648), .int 2147483647, .int 0, .int (-1), .int (y - 2147483648)]) hp2
        refine ⟨t + 2, V3, d, .ref p2, _, rfl, E3, by show t + 2 < 1099511627776; omega, .lst (SqL.of e3), (show 0 < 5 by decide), (show 5 < 100000 by decide), fun v H4 hv D4 => ?_⟩
        obtain ⟨m, rfl, m1, m2⟩ : ∃ m : Int, v = .int m ∧ -2147483648 ≤ m ∧ m < 2147483648 := by
          simp only [List.mem_cons, List.not_mem_nil, or_false] at hv
          rcases hv with rfl | rfl | rfl | rfl | rfl
          · exact ⟨_, rfl, by decide, by decide⟩
          · exact ⟨_, rfl, by decide, by decide⟩
          · exact ⟨_, rfl, by decide, by decide⟩
          · exact ⟨_, rfl, by decide, by decide⟩
          · exact ⟨_, rfl, by omega, by omega⟩
        refine ⟨(show 2 ≤ sizeLine by decide), fun q hq => ?_⟩
        obtain ⟨V5, D5, y5, e5⟩ := D4.mk (o := .tup [.str "long", .int m]) hq
        exact k (.ref q) (.tuple [.str "long", .int m]) _ V5 (D5.mono (by omega)) ((y1.trans y3).trans y5) (.tup ((y1.trans y3).free (D4.same.free hq)) e5 (.cons (.str _) (.cons (.int _) .nil))) (.tup (.cons (.str ⟨by decide +kernel, by decide +kernel⟩) (.cons (.int m) .nil))) rfl (pD_of h99 (by rw [lv]; exact lpd_long m1 m2))
end
theorem TxA.app : ∀ {as bs : List PyData}, TxA as → TxA bs → TxA (as ++ bs)
  | _, _, .nil, h => h
  | _, _, .cons a r, h => .cons a (r.app h)
/-! ## k83's law: instructions drawn -/
def keysK : List Str := ["const", "copy", "not", "make", "tag", "part", "long", "new", "plus", "minus", "times", "over", "rest", "less", "atmost", "same", "at", "put", "show", "call", "jump", "branch", "unless", "try", "return", "fail"]
theorem keysK_eq : lshK.map (·.1) = keysK.map Sum.inr := by decide +kernel
theorem keysK_wd : ∀ z ∈ keysK, isWd z = true := by decide +kernel
abbrev NewD (V : Hp) (D : Addr) : Addr → Prop := fun b => V b = none ∧ b ≠ D
theorem grow_snoc {V3 V' V'' : Hp} {Dl : Addr} {xs : List V} {ds : List PyData} {x : V} {dd : PyData} {o o' : HO} (y : Same V3 V') (y2 : Same V' V'') (eD : V' Dl = some o) (hA : DtA (NewD V3 Dl) V' xs ds) (hx : Dt (fun a => V' a = none) V'' x dd) :
    DtA (NewD V3 Dl) (upd V'' Dl o') (xs ++ [x]) (ds ++ [dd]) := by
  refine (hA.to fun b o g e => ⟨?_, g⟩).app (.cons (hx.to fun b o g e => ⟨?_, y.free g, ?_⟩) .nil)
  · rw [upd_ne g.2]
    exact y2 _ _ e
  · rw [upd_ne (by rintro rfl; rw [eD] at g; cases g)]
    exact e
  · rintro rfl
    rw [eD] at g
    cases g
theorem DtA.setAt {G : Addr → Prop} {H : Hp} : ∀ {xs : List V} {ds : List PyData} {x : V} {d : PyData} (n : Nat), DtA G H xs ds → Dt G H x d → DtA G H (xs.set n x) (ds.set n d)
  | _, _, _, _, _, .nil, _ => .nil
  | _, _, _, _, 0, .cons _ t, h => .cons h t
  | _, _, _, _, n + 1, .cons a t, h => .cons a (t.setAt n h)
theorem TxA.setAt : ∀ {ds : List PyData} {d : PyData} (n : Nat), TxA ds → TxD d → TxA (ds.set n d)
  | _, _, _, .nil, _ => .nil
  | _, _, 0, .cons _ t, h => .cons h t
  | _, _, n + 1, .cons a t, h => .cons a (t.setAt n h)
theorem smA_set : ∀ {ds : List PyData} {d : PyData} (n : Nat), ds.all smB = true → smB d = true → (ds.set n d).all smB = true
  | [], _, _, _, _ => rfl
  | a :: r, d, 0, h, hd => by
    rw [List.all_cons, Bool.and_eq_true] at h
    show (smB d && r.all smB) = true
    rw [hd, h.2]
    rfl
  | a :: r, d, n + 1, h, hd => by
    rw [List.all_cons, Bool.and_eq_true] at h
    show (smB a && (r.set n d).all smB) = true
    rw [h.1, smA_set n h.2 hd]
    rfl
theorem slot_txt : ∀ n < 1000, (("s" : Str) ++ (toString ((n : Nat) : Int) : Str)).cps.toList.length ≤ 5 ∧ (∀ c ∈ (("s" : Str) ++ (toString ((n : Nat) : Int) : Str)).cps.toList, c < 128) ∧ (toString ((n : Nat) : Int) : Str).length ≤ 4 := by decide +kernel
theorem parts_snoc {r : Nat} : ∀ (T : List Nat) (ds : List PyData) {c : Nat} {d : PyData}, ds.length = T.length → partsOk r T ds = true → partD r c d = true → partsOk r (T ++ [c]) (ds ++ [d]) = true
  | [], [], c, d, _, _, h => by
    show (partD r c d && true) = true
    rw [h]
    rfl
  | [], _ :: _, _, _, hl, _, _ => by simp at hl
  | _ :: _, [], _, _, hl, _, _ => by simp at hl
  | c0 :: T, d0 :: ds, c, d, hl, h, hd => by
    obtain ⟨h1, h2⟩ := Bool.and_eq_true_iff.mp (show (partD r c0 d0 && partsOk r T ds) = true from h)
    have ih := parts_snoc T ds (c := c) (d := d) (by simpa using hl) h2 hd
    show (partD r c0 d0 && partsOk r (T ++ [c]) (ds ++ [d])) = true
    rw [h1, ih]
    rfl
theorem slot_ok : ∀ n < 1000, slotB (("s" : Str) ++ (toString ((n : Nat) : Int) : Str)).cps.toList = true := by decide +kernel
theorem instr_plain {r : Nat} {z : Str} {dp : List PyData} (hw : isWd z = true) (hl : dp.length = (shapeT z).length) (hp : partsOk r (shapeT z) dp = true) (hs : z = "copy" → ∀ x ∈ dp, strD slotB x = false) : instrD r (.tuple (.str z :: dp)) = true := by
  show (isWd z && (decide (dp.length = (shapeT z).length) && (partsOk r (shapeT z) dp && copyOk z dp))) = true
  have hc : copyOk z dp = true := by
    unfold copyOk
    by_cases e : z = "copy"
    · have hh := hs e
      rw [decide_eq_true e]
      have : strD slotB (dp.getD 0 .none) = false := by
        rw [List.getD_eq_getElem?_getD]
        cases q : dp[0]? with
        | none => rfl
        | some x => exact hh x (List.mem_of_getElem? q)
      rw [this]
      rfl
    · rw [decide_eq_false e]
      rfl
  rw [hw, decide_eq_true hl, hp, hc]
  rfl
theorem instr_slot {r i n : Nat} {dp : List PyData} (hi : i < 2) (hn : n < 1000) (hl : dp.length = (shapeT "copy").length) (hp : partsOk r (shapeT "copy") dp = true) (hs : ∀ x ∈ dp, strD slotB x = false) :
    instrD r (.tuple ((.str "copy" :: dp).set (i + 1) (.str (("s" : Str) ++ (toString ((n : Nat) : Int) : Str))))) = true := by
  have e : shapeT "copy" = [99, 99] := by decide +kernel
  have hw : isWd "copy" = true := by decide +kernel
  have so := slot_ok n hn
  generalize (("s" : Str) ++ (toString ((n : Nat) : Int) : Str)) = y at so ⊢
  have so2 : strD slotB (.str y) = true := so
  rw [e] at hl hp
  match dp, hl with
  | [d1, d2], _ =>
    obtain ⟨p1, p⟩ := Bool.and_eq_true_iff.mp (show (partD r 99 d1 && partsOk r [99] [d2]) = true from hp)
    obtain ⟨p2, _⟩ := Bool.and_eq_true_iff.mp (show (partD r 99 d2 && partsOk r [] []) = true from p)
    have s1 := hs d1 (by simp)
    have s2 := hs d2 (by simp)
    have py : partD r 99 (.str y) = true := by
      show (strD (regB r) (.str y) || strD slotB (.str y)) = true
      rw [so2, Bool.or_true]
    have key : ∀ a b : PyData, partD r 99 a = true → partD r 99 b = true → (strD slotB a = false ∨ strD slotB b = false) → instrD r (.tuple [.str "copy", a, b]) = true := by
      intro a b ha hb hab
      show (isWd "copy" && (decide (([a, b] : List PyData).length = (shapeT "copy").length) && (partsOk r (shapeT "copy") [a, b] && copyOk "copy" [a, b]))) = true
      have c1 : partsOk r [99, 99] [a, b] = true := by
        show (partD r 99 a && (partD r 99 b && true)) = true
        rw [ha, hb]
        rfl
      have c2 : copyOk "copy" [a, b] = true := by
        unfold copyOk
        show (!(decide (("copy" : Str) = "copy")) || (!(strD slotB a) || !(strD slotB b))) = true
        rcases hab with h | h <;> rw [h] <;> simp
      rw [hw, e, c1, c2]
      rfl
    obtain rfl | rfl : i = 0 ∨ i = 1 := by omega
    · exact key (.str y) d2 py p2 (.inr s2)
    · exact key d1 (.str y) p1 py (.inl s1)
def spDrI : Sp := fun vs H Q _ => ∃ (t : Nat) (V0 : Hp) (d : Addr) (r : Nat), vs = [.ref d, .int (r : Int)] ∧ 1 ≤ r ∧ r ≤ 9 ∧ Dw t V0 H d ∧ t + 300 < T40 ∧
  ∀ (a : Addr) (xs : List V) (ds : List PyData) (H' V' : Hp), Dw (t + 100) V' H' d → Same V0 V' → V0 a = none → V' a = some (.tup xs) → DtA (fun b => V0 b = none) V' xs ds → TxA ds → ds.all smB = true → 1 ≤ ds.length → ds.length ≤ 5 → instrD r (.tuple ds) = true → Q (.ref a) H'
section
variable {P : Program} {w : World} {K : PySem.W.Frag} {mg : Str → Option Value} {base : Heap}
theorem sc__law_instruction : FnScope ["_law_draw", "_law_registers_here", "_law_shapes_here", "_law_word", "_law_found", "_law_letter"] ["_law_draw", "_law_registers_here"] (defScope s_law_instruction) := ⟨rfl, rfl, rfl, by decide +kernel, rfl, by decide +kernel, by decide +kernel⟩
theorem ok_linstr {f : Addr} {fd : FuncData} (F : FnP K "_law_instruction" s_law_instruction f fd) (c__law_shapes : Cal P w K mg base 1 "_law_shapes" [] spShp) (c__law_take : Cal P w K mg base 2 "_law_take" ["_law_draw", "_law_many"] spTake) (c__law_pick : Cal P w K mg base 3 "_law_pick" ["_law_draw", "_law_some"] (spPick K))
    (c__law_part : Cal P w K mg base 5 "_law_part" ["_law_draw", "_law_registers_here", "_law_letter"] spDrP) (G : NkF K mg) (tup : mg "tuple" = none) (m_sorted : mg "sorted" = none) : FnOk P w K mg base CX0 6 f fd ["_law_draw", "_law_registers_here"] spDrI := by
  obtain ⟨f__law_shapes, fd__law_shapes, g__law_shapes, k__law_shapes, b__law_shapes, G__law_shapes⟩ := c__law_shapes
  obtain ⟨f__law_take, fd__law_take, g__law_take, k__law_take, b__law_take, G__law_take⟩ := c__law_take
  obtain ⟨f__law_pick, fd__law_pick, g__law_pick, k__law_pick, b__law_pick, G__law_pick⟩ := c__law_pick
  obtain ⟨f__law_part, fd__law_part, g__law_part, k__law_part, b__law_part, G__law_part⟩ := c__law_part
  refine F.ok sc__law_instruction (fun vs H Q E h => ?_) (fun cdv A outer s H vs Q E hr h => ?_)
  · obtain ⟨t, V0, d, r, rfl, _⟩ := h
    rfl
  · obtain ⟨t, V0, d, r, rfl, r1, r9, hD, ht, k⟩ := h
    have ht : t + 300 < 1099511627776 := ht
    have nd := sc__law_instruction.nd
    have hu := hu_of hr
    apply Exists.intro
    apply And.intro
    case left =>
     apply PSs.nox
     apply pss_cons
     · exact (ps_set (i := 2) nd rfl (.inl rfl) (pe_call0 G__law_shapes (hr.mono (by decide)) rfl g__law_shapes k__law_shapes b__law_shapes .nil pass0))
     apply pss_cons
     · exact (ps_set (i := 3) nd rfl (.inl rfl) (pe_call G__law_pick (hr.mono (by decide)) rfl g__law_pick k__law_pick b__law_pick .nil pass0 (pa_cons (pv 0) (pa_cons (pe_callB (call_sortedD rfl) (by rfl) m_sorted (by decide +kernel) (pa_cons (pv 2) pa_nil)) pa_nil))))
     apply C8.pss_cut
     · exact (ps_set (i := 4) nd rfl (.inl rfl) (pe_op op_cat (pe_lst (pa_cons (pv 3) pa_nil)) (pe_lc (own := [("_law_letter", 5)]) (g := gName 5) rfl nd (pi_str (pe_dget hu (pv 2) (pv 3) (fun _ _ => rfl))) (blkOk_by (own := [("_law_letter", 5)]) (N := ["_law_draw", "_law_registers_here", "_law_shapes_here", "_law_word", "_law_found", "_law_letter"]) (sc := defScope s_law_instruction) (by decide +kernel)) (fun _ _ _ _ _ => (pg_name (i := 5) nd rfl (Or.inl rfl))) (fun _ _ _ _ _ => pts_nil) (fun _ _ _ _ _ => (pe_call G__law_part (hr.mono (by decide)) rfl g__law_part k__law_part b__law_part .nil pass0 (pa_cons (pv 0) (pa_cons (pv 1) (pa_cons (pv 5) pa_nil))))))))
     apply C8.pss_cut
     · exact (ps_if (PW.pt (pw_and (pt_cmpR op_eq (pv 3) pe_str (nomark _)) (pw_and1 (pt_cmpR op_eq (pe_call G__law_take (hr.mono (by decide)) rfl g__law_take k__law_take b__law_take .nil pass0 (pa_cons (pv 0) (pa_cons pe_int pa_nil))) pe_int (nomark _))))) (pss_one (ps_asg (pe_op op_add_str pe_str (pe_callTy call_str_int (by rfl) G.str (by decide +kernel) (pa_cons (pe_call G__law_pick (hr.mono (by decide)) rfl g__law_pick k__law_pick b__law_pick .nil pass0 (pa_cons (pv 0) (pa_cons (pe_lst (pa_cons pe_int (pa_cons pe_int (pa_cons pe_int (pa_cons pe_int (pa_cons pe_int (pa_cons pe_int (pa_cons pe_int (pa_cons pe_int (pa_cons (pe_call G__law_take (hr.mono (by decide)) rfl g__law_take k__law_take b__law_take .nil pass0 (pa_cons (pv 0) (pa_cons pe_int pa_nil))) pa_nil)))))))))) pa_nil))) pa_nil))) (pg_sub (pv 4) (pe_op op_add pe_int (pe_call G__law_take (hr.mono (by decide)) rfl g__law_take k__law_take b__law_take .nil pass0 (pa_cons (pv 0) (pa_cons pe_int pa_nil)))) set_list))) pss_nil)
     apply pss_one
     exact (ps_ret (pe_callTy call_tuple_of (by rfl) tup (by decide +kernel) (pa_cons (pv 4) pa_nil)))
    case right =>
      refine ⟨rfl, fun pS H1 s1 hpS e1 => ?_⟩
      obtain ⟨V1, D1, y1, gv1⟩ := hD.grow s1
      have eS : V1 pS = some (.dK lshK) := gv1 _ _ hpS e1
      refine ⟨_, rfl, _, rfl, pS, lshK, keysK, rfl, .inl e1, keysK_eq, by decide, fun ys q hperm _ hq => ?_⟩
      obtain ⟨V2, D2, y2, e2⟩ := D1.mk (o := .lst (ys.map V.str)) hq
      have ly : ys.length = 26 := hperm.length_eq
      refine ⟨t, V2, d, .ref q, _, rfl, D2, by show t < 1099511627776; omega, .lst (SqL.of e2), by rw [List.length_map, ly]; decide, by rw [List.length_map, ly]; decide, fun v H3 hv D3 => ?_⟩
      obtain ⟨z, hz, rfl⟩ := List.mem_map.mp hv
      have hw := keysK_wd z (hperm.mem_iff.mp hz)
      have y02 := y1.trans y2
      have eS2 := y2 _ _ eS
      refine ⟨fun σ H' => ∃ (V' : Hp) (xs : List V) (ds : List PyData) (p3 : Addr), σ = [some (.ref d), some (.int (r : Int)), some (.ref pS), some (.str z), some (.ref p3), none] ∧ Dw (t + 81) V' H' d ∧ Same V0 V' ∧ V0 p3 = none ∧ V' p3 = some (.lst xs) ∧ DtA (NewD V0 p3) V' xs ds ∧ TxA ds ∧ ds.all smB = true ∧ 1 ≤ ds.length ∧ ds.length ≤ 5 ∧ (z = "copy" → xs.length = 3) ∧ ∃ dp, ds = .str z :: dp ∧ dp.length = (shapeT z).length ∧ partsOk r (shapeT z) dp = true ∧ (z = "copy" → ∀ x ∈ dp, strD slotB x = false), ?_, ?_⟩
      · have gt := lsh_get hw
        have hTl : (shapeT z).length ≤ 4 := shape_len _ (word_idx hw).1
        have hcp : z = "copy" → (shapeT z).length = 2 := fun e => by rw [e]; decide +kernel
        have hc9 : z = "copy" → ∀ c ∈ shapeT z, c = 99 := fun e => by rw [e]; decide +kernel
        generalize hTz : shapeT z = T at gt hTl hcp hc9
        refine ⟨_, rfl, (show 1 ≤ sizeLine by decide), fun p1 hp1 => ?_⟩
        obtain ⟨V4, D4, y4, e4⟩ := D3.mk (o := .lst [.str z]) hp1
        refine ⟨_, rfl, _, rfl, pS, _, rfl, gt ▸ DGet.k (k := Sum.inr z) (D4.same _ _ (y4 _ _ eS2)), _, rfl, fun Dl hDl => ?_⟩
        obtain ⟨V5, D5, y5, e5⟩ := D4.mk (o := .lst []) hDl
        have nDl : V4 Dl = none := D4.same.free hDl
        refine lc_it walk_str (fun j H' => ∃ (V' : Hp) (xs : List V) (ds : List PyData), Dw (t + 1 + 20 * j) V' H' d ∧ Same V4 V' ∧ V' Dl = some (.lst xs) ∧ DtA (NewD V4 Dl) V' xs ds ∧ TxA ds ∧ ds.all smB = true ∧ xs.length = j ∧ partsOk r (T.take j) ds = true ∧ (z = "copy" → ∀ x ∈ ds, strD slotB x = false)) ⟨V5, [], [], D5, y5, e5, .nil, .nil, rfl, rfl, rfl, fun _ x hx => nomatch hx⟩ (fun _ _ _ _ => trivial) ?_ ?_
        · rintro j x0 H' H2 hj ⟨V', xs, ds, c1, c2, c3, c4, c5, c6, c7, c8, c9⟩ ⟨rfl, c, hc, rfl⟩
          have hj : j < T.length := by have := sT_len T; exact this ▸ hj
          have hcT : T[j]? = some c := by
            rw [← sT_cps T, Array.getElem?_toList]
            exact hc
          have hlj : ds.length = (T.take j).length := by rw [← c4.length, c7, List.length_take]; omega
          refine ⟨rfl, yesIf ⟨_, rfl, _, rfl, _, rfl, t + 1 + 20 * j, V', d, r, c, rfl, r1, r9, c1, by show t + 1 + 20 * j + 100 < 1099511627776; omega, fun x dd H6 V6 D6 y6 hx htx hsm hpd => ?_⟩⟩
          obtain ⟨hp1, hp2⟩ := Bool.and_eq_true_iff.mp (show (partD r c dd && (!(decide (c = 99)) || !(strD slotB dd))) = true from hpd)
          have c3' := y6 _ _ c3
          refine ⟨_, D6.same _ _ c3', ?_, upd V6 Dl (.lst (xs ++ [x])), xs ++ [x], ds ++ [dd], (D6.set c3').mono (by omega), same_sub (c2.trans y6) nDl, upd_same, grow_snoc c2 y6 c3 c4 hx, c5.app (.cons htx .nil), ?_, ?_, ?_, ?_⟩
          · rw [c7]
            exact Nat.lt_of_lt_of_le (show j < 1000 by omega) (by decide)
          · rw [List.all_append, c6, List.all_cons, hsm]
            rfl
          · rw [List.length_append, c7]
            rfl
          · rw [take_snoc2 hcT]
            exact parts_snoc _ _ hlj c8 hp1
          · intro ez x hx
            rcases List.mem_append.mp hx with hx | hx
            · exact c9 ez x hx
            · rw [List.mem_singleton] at hx
              subst hx
              have := hc9 ez c (List.mem_of_getElem? hcT)
              rw [decide_eq_true this] at hp2
              simpa using hp2
        · rintro H6 ⟨V6, xs, ds, D6, y6, e6, A6, T6, S6, l6, P6, C6⟩
          rw [show (sT T).cps.size = T.length from sT_len T, List.take_length] at P6
          have l6 : xs.length = T.length := l6.trans (sT_len T)
          refine ⟨p1, Dl, [.str z], xs, rfl, rfl, D6.same _ _ (y6 _ _ e4), D6.same _ _ e6, ?_, fun p3 hp3 => ?_⟩
          · show 1 + xs.length ≤ sizeLine
            exact sl_of (by omega)
          obtain ⟨V7, D7, y7, e7⟩ := D6.mk (o := .lst ([.str z] ++ xs)) hp3
          have y04 := y02.trans y4
          have n3 : V6 p3 = none := D6.same.free hp3
          have lA := A6.length
          have neP : ∀ (b : Addr) (o : HO), V6 b = some o → b ≠ p3 := fun b o e z => by
            rw [z, n3] at e
            cases e
          refine ⟨V7, .str z :: xs, .str z :: ds, p3, rfl, D7.mono (by have : (sT T).cps.size = T.length := sT_len T; rw [this]; omega), (y04.trans y6).trans y7, (y04.trans y6).free n3, e7, .cons (.str z) (A6.to fun b o g e => ⟨y7 _ _ e, y04.free g.1, neP b o e⟩), .cons (.str ?_) T6, ?_, ?_, ?_, fun e => ?_, ds, rfl, by rw [← A6.length, l6], P6, C6⟩
          · have hm : z ∈ keysK := hperm.mem_iff.mp hz
            have key : ∀ z ∈ keysK, z.cps.toList.length ≤ 100000 ∧ ∀ c ∈ z.cps.toList, c < 128 := by decide +kernel
            exact key z hm
          · rw [List.all_cons, S6]
            rfl
          · exact Nat.succ_le_succ (Nat.zero_le _)
          · rw [List.length_cons]
            omega
          · rw [List.length_cons, l6, hcp e]
      · rintro σ H2 ⟨V', xs, ds, p3, rfl, D', y', n3, e3, A3, T3, S3, l1, l5, lc, dp, edp, ldp, pdp, sdp⟩
        refine ⟨fun σ H' => ∃ (V' : Hp) (xs : List V) (ds : List PyData), σ = [some (.ref d), some (.int (r : Int)), some (.ref pS), some (.str z), some (.ref p3), none] ∧ Dw (t + 100) V' H' d ∧ Same V0 V' ∧ V' p3 = some (.lst xs) ∧ DtA (NewD V0 p3) V' xs ds ∧ TxA ds ∧ ds.all smB = true ∧ 1 ≤ ds.length ∧ ds.length ≤ 5 ∧ instrD r (.tuple ds) = true, ?_, ?_⟩
        · refine ⟨_, rfl, rfl, _, rfl, ?_⟩
          by_cases cz : z = "copy"
          · rw [decide_eq_true (congrArg V.str cz)]
            have l3 := lc cz
            have plain : instrD r (.tuple ds) = true := by rw [edp]; exact instr_plain hw ldp pdp sdp
            refine iteT ⟨_, rfl, t + 81, V', d, 2, rfl, D', by show t + 81 < 1099511627776; omega, by decide, by decide, fun u H3 u0 u1 D3 => ⟨rfl, _, rfl, ?_⟩⟩
            refine ite2 (fun _ => ?_) (fun _ => ⟨V', xs, ds, rfl, D3.mono (by omega), y', e3, A3, T3, S3, l1, l5, plain⟩)
            refine ⟨_, rfl, _, rfl, t + 82, V', d, 1000, rfl, D3, by show t + 82 < 1099511627776; omega, by decide, by decide, fun m H4 m0 m1 D4 => ⟨(show 9 ≤ sizeLine by decide), fun p hp => ?_⟩⟩
            obtain ⟨V5, D5, y5, e5⟩ := D4.mk (o := .lst [.int 0, .int 1, .int 2, .int 3, .int 6, .int 7, .int 14, .int 999, .int m]) hp
            refine ⟨t + 83, V5, d, .ref p, _, rfl, D5, by show t + 83 < 1099511627776; omega, .lst (SqL.of e5), (show 0 < 9 by decide), (show 9 < 100000 by decide), fun v H6 hv D6 => ?_⟩
            obtain ⟨n, rfl, hn⟩ : ∃ n : Nat, v = .int (n : Int) ∧ n < 1000 := by
              simp only [List.mem_cons, List.not_mem_nil, or_false] at hv
              rcases hv with rfl | rfl | rfl | rfl | rfl | rfl | rfl | rfl | rfl
              · exact ⟨0, rfl, by decide⟩
              · exact ⟨1, rfl, by decide⟩
              · exact ⟨2, rfl, by decide⟩
              · exact ⟨3, rfl, by decide⟩
              · exact ⟨6, rfl, by decide⟩
              · exact ⟨7, rfl, by decide⟩
              · exact ⟨14, rfl, by decide⟩
              · exact ⟨999, rfl, by decide⟩
              · exact ⟨m.toNat, congrArg V.int (by omega), by omega⟩
            obtain ⟨t1, t2, t3⟩ := slot_txt n hn
            refine ⟨_, rfl, Nat.lt_of_le_of_lt (Nat.log2_le_self _) (by show ((n : Nat) : Int).natAbs < 1920; omega), _, _, rfl, rfl, ?_, ?_⟩
            · exact sl_of (by have : ("s" : Str).length = 1 := rfl; omega)
            refine ⟨_, rfl, _, rfl, t + 84, V5, d, 2, rfl, D6, by show t + 84 < 1099511627776; omega, by decide, by decide, fun j H7 j0 j1 D7 => ?_⟩
            have e35 := y5 _ _ e3
            have fin : ∀ i : Nat, i < 2 → ∃ (V' : Hp) (xs2 : List V) (ds2 : List PyData), ([some (.ref d), some (.int (r : Int)), some (.ref pS), some (.str z), some (.ref p3), none] : L2.St) = [some (.ref d), some (.int (r : Int)), some (.ref pS), some (.str z), some (.ref p3), none] ∧ Dw (t + 100) V' (upd H7 p3 (.lst (xs.set (i + 1) (.str (("s" : Str) ++ (toString ((n : Nat) : Int) : Str)))))) d ∧ Same V0 V' ∧ V' p3 = some (.lst xs2) ∧ DtA (NewD V0 p3) V' xs2 ds2 ∧ TxA ds2 ∧ ds2.all smB = true ∧ 1 ≤ ds2.length ∧ ds2.length ≤ 5 ∧ instrD r (.tuple ds2) = true := fun i hi => ⟨upd V5 p3 (.lst (xs.set (i + 1) (.str (("s" : Str) ++ (toString ((n : Nat) : Int) : Str))))), xs.set (i + 1) (.str (("s" : Str) ++ (toString ((n : Nat) : Int) : Str))), ds.set (i + 1) (.str (("s" : Str) ++ (toString ((n : Nat) : Int) : Str))), rfl, (D7.set e35).mono (by omega), same_sub (y'.trans y5) n3, upd_same, (A3.to fun b o g e => ⟨by rw [upd_ne g.2]; exact y5 _ _ e, g⟩).setAt (i + 1) (.str _), T3.setAt (i + 1) (.str ⟨by omega, t2⟩), smA_set (i + 1) S3 rfl, by rw [List.length_set]; exact l1, by rw [List.length_set]; exact l5, by
              subst cz
              rw [edp]
              exact instr_slot hi hn ldp pdp (sdp rfl)⟩
            obtain rfl | rfl : j = 0 ∨ j = 1 := by omega
            · exact ⟨_, _, rfl, rfl, p3, xs, _, 1, rfl, rfl, D7.same _ _ e35, by rw [l3]; rfl, fin 0 (by decide)⟩
            · exact ⟨_, _, rfl, rfl, p3, xs, _, 2, rfl, rfl, D7.same _ _ e35, by rw [l3]; rfl, fin 1 (by decide)⟩
          · rw [decide_eq_false (fun q => cz (by injection q))]
            exact iteF ⟨V', xs, ds, rfl, D'.mono (by omega), y', e3, A3, T3, S3, l1, l5, by rw [edp]; exact instr_plain hw ldp pdp sdp⟩
        · rintro σ H3 ⟨V3, xs3, ds3, rfl, D3, y3, e3', A3', T3', S3', l1', l5', I3'⟩
          refine ⟨_, rfl, p3, _, rfl, .inl ⟨SqL.of (D3.same _ _ e3'), fun q hq => ?_⟩⟩
          obtain ⟨V4, D4, y4, e4⟩ := D3.mk (o := .tup xs3) hq
          exact k q xs3 ds3 _ V4 D4 (y3.trans y4) (y3.free (D3.same.free hq)) e4 (A3'.to fun b o g e => ⟨y4 _ _ e, g.1⟩) T3' S3' l1' l5' I3'
end
/-! ## what is written is read -/
theorem reg_form {r : Nat} {z : Str} (h : regB r z.cps.toList = true) : ∃ n, n < r ∧ n < 9 ∧ z = rT n ∧ NumText.digitsVal (z.cps.toList.drop 1) = n := by
  obtain ⟨fs, et, dig, ne, l4, hv, hs⟩ := regB_some h
  obtain ⟨fs2, et2, _, _, _, nl, hv8⟩ := sort_some hs
  have e2 : fs = fs2 := by rw [et] at et2; injection et2
  subst e2
  have hv8 : NumText.digitsVal fs ≤ 8 := hv8
  have all : fs.all isFig = true := List.all_eq_true.mpr fun x hx => by
    have := dig x hx
    unfold isFig
    simpa using this
  obtain ⟨_, a2, _, _⟩ := figs_val all ne nl l4
  have l1 : fs.length = 1 := by
    have h0 : fs.length ≠ 0 := fun z => ne (List.length_eq_zero_iff.mp z)
    by_cases h2 : 2 ≤ fs.length
    · have := a2 h2
      omega
    · omega
  obtain ⟨a, rfl⟩ := List.length_eq_one_iff.mp l1
  have ha := dig a (by simp)
  have ev : NumText.digitsVal [a] = a - 48 := by simp [NumText.digitsVal]
  rw [ev] at hv hv8
  refine ⟨a - 48, hv, by omega, ?_, by rw [et]; exact ev⟩
  rw [← sT_of z, et]
  unfold rT
  rw [show 48 + (a - 48) = a by omega]
theorem rd_reg {r : Nat} {d : PyData} (h9 : r ≤ 9) (h : strD (regB r) d = true) (pre suf : List Bool) : regA r (pre ++ (regW d ++ suf)) pre.length = some (d, pre.length + (regW d).length) := by
  obtain ⟨z, rfl, hz⟩ := strD_some h
  obtain ⟨n, h1, h2, rfl, h3⟩ := reg_form hz
  have e : regW (.str (rT n)) = digs n 4 := by
    show digs (NumText.digitsVal ((rT n).cps.toList.drop 1)) 4 = _
    rw [h3]
  rw [e]
  unfold regA
  rw [at_digs pre suf (show n < 2 ^ 4 by omega)]
  dsimp only
  rw [if_pos h1, digs_len]
theorem rd_num {r : Nat} {d : PyData} (h : numD d = true) (pre suf : List Bool) : numA r (pre ++ (numW d ++ suf)) pre.length = some (d, pre.length + (numW d).length) := by
  cases d <;> first | cases h | skip
  rename_i n
  show numA r (pre ++ (gam (sgn n) ++ suf)) pre.length = some (PyData.int n, pre.length + (gam (sgn n)).length)
  unfold numA
  rw [rdS_gam]
  rfl
theorem rd_ix {r : Nat} {d : PyData} (h : ixD d = true) (pre suf : List Bool) : ixA r (pre ++ (ixW d ++ suf)) pre.length = some (d, pre.length + (ixW d).length) := by
  cases d <;> first | cases h | skip
  rename_i n
  obtain ⟨n1, n2⟩ := Bool.and_eq_true_iff.mp h
  have n1 : 0 ≤ n := of_decide_eq_true n1
  have n2 : n ≤ 2 := of_decide_eq_true n2
  show ixA r (pre ++ (digs n.toNat 2 ++ suf)) pre.length = some (.int n, pre.length + (digs n.toNat 2).length)
  unfold ixA
  rw [at_digs pre suf (show n.toNat < 2 ^ 2 by omega)]
  dsimp only
  rw [if_pos (by omega), digs_len, show ((n.toNat : Nat) : Int) = n by omega]
theorem leap_back {n : Int} {h : Nat} (h1 : -(h : Int) ≤ n) (h2 : n < h) : leapNum (leapT n h) h = n := by
  unfold leapNum leapT
  split <;> split <;> omega
theorem rd_leap {r : Nat} {d : PyData} (h : leapD d = true) (pre suf : List Bool) : leapA r (pre ++ (lpW d ++ suf)) pre.length = some (d, pre.length + (lpW d).length) := by
  obtain ⟨z, n, rfl⟩ : ∃ z n, d = .tuple [.str z, .int n] := by
    unfold leapD at h
    split at h
    · exact ⟨_, _, rfl⟩
    · cases h
  obtain ⟨hz, hn⟩ := Bool.and_eq_true_iff.mp (show (isLp z && lpOk z n) = true from h)
  unfold isLp at hz
  unfold lpOk at hn
  rw [Bool.or_eq_true, decide_eq_true_eq, decide_eq_true_eq] at hz
  show leapA r (pre ++ (leapW z n ++ suf)) pre.length = some (_, pre.length + (leapW z n).length)
  unfold leapW
  by_cases c : z = "short"
  · subst c
    rw [if_pos rfl, Bool.and_eq_true, decide_eq_true_eq, decide_eq_true_eq] at hn
    rw [if_pos rfl]
    have hb := leapT_lt (h := 128) hn.1 hn.2
    unfold leapA
    have e1 : ((pre ++ (false :: digs (leapT n 128) 8 ++ suf)).drop pre.length).take 1 = [false] := by simp
    have e2 : pre ++ (false :: digs (leapT n 128) 8 ++ suf) = (pre ++ [false]) ++ (digs (leapT n 128) 8 ++ suf) := by simp
    rw [e1, if_neg (by decide), e2]
    have e3 := at_digs (pre ++ [false]) suf (n := leapT n 128) (m := 8) hb
    rw [show (pre ++ [false]).length = pre.length + 1 by simp] at e3
    rw [e3]
    dsimp only
    rw [leap_back (h := 128) hn.1 hn.2, List.length_cons, digs_len]
  · have hl := hz.resolve_left c
    subst hl
    rw [if_neg c, Bool.and_eq_true, decide_eq_true_eq, decide_eq_true_eq] at hn
    rw [if_neg c]
    have hb := leapT_lt (h := 2147483648) hn.1 hn.2
    unfold leapA
    have e1 : ((pre ++ (true :: digs (leapT n 2147483648) 32 ++ suf)).drop pre.length).take 1 = [true] := by simp
    have e2 : pre ++ (true :: digs (leapT n 2147483648) 32 ++ suf) = (pre ++ [true]) ++ (digs (leapT n 2147483648) 32 ++ suf) := by simp
    rw [e1, if_pos rfl, e2]
    have e3 := at_digs (pre ++ [true]) suf (n := leapT n 2147483648) (m := 32) hb
    rw [show (pre ++ [true]).length = pre.length + 1 by simp] at e3
    rw [e3]
    dsimp only
    rw [leap_back (h := 2147483648) hn.1 hn.2, List.length_cons, digs_len]
theorem rdI_gam8 (pre suf : List Bool) (n : Nat) : rdI (pre ++ (gam n ++ suf)) pre.length = some ((n : Int), pre.length + (gam n).length) := by
  unfold rdI
  rw [rd_gam]
  rfl
def dig3 (v : Nat) : List Nat := if v < 10 then [48 + v] else if v < 100 then [48 + v / 10, 48 + v % 10] else [48 + v / 100, 48 + v / 10 % 10, 48 + v % 10]
theorem sTx_dig : ∀ v < 1000, (sTx ((v : Nat) : Int)).cps.toList = 115 :: dig3 v := by decide +kernel
theorem dig3_back {fs : List Nat} (all : fs.all isFig = true) (ne : ¬ fs = []) (nl : ¬ (fs.take 1 = [48] ∧ ¬ fs = [48])) (l3 : fs.length ≤ 3) : dig3 (NumText.digitsVal fs) = fs := by
  have ld : ∀ (a : Nat) (r : List Nat), fs = a :: r → ¬ r = [] → 49 ≤ a := fun a r e n => by
    subst e
    have h := fig_le (List.all_eq_true.mp all a (List.mem_cons_self ..))
    by_cases e : a = 48
    · subst e
      exact absurd ⟨rfl, fun z => n (by injection z)⟩ nl
    · omega
  have fg : ∀ a ∈ fs, 48 ≤ a ∧ a ≤ 57 := fun a h => fig_le (List.all_eq_true.mp all a h)
  match fs, ne, l3, ld, fg with
  | [a], _, _, _, fg =>
    have := fg a (by simp)
    have ev : NumText.digitsVal [a] = a - 48 := by simp [NumText.digitsVal]
    rw [ev]
    unfold dig3
    rw [if_pos (by omega), show 48 + (a - 48) = a by omega]
  | [a, b], _, _, ld, fg =>
    have h0 := ld a [b] rfl (by simp)
    have h1 := fg a (by simp)
    have h2 := fg b (by simp)
    have ev : NumText.digitsVal [a, b] = (a - 48) * 10 + (b - 48) := by simp [NumText.digitsVal]
    rw [ev]
    unfold dig3
    rw [if_neg (by omega), if_pos (by omega), show 48 + ((a - 48) * 10 + (b - 48)) / 10 = a by omega, show 48 + ((a - 48) * 10 + (b - 48)) % 10 = b by omega]
  | [a, b, c], _, _, ld, fg =>
    have h0 := ld a [b, c] rfl (by simp)
    have h1 := fg a (by simp)
    have h2 := fg b (by simp)
    have h3 := fg c (by simp)
    have ev : NumText.digitsVal [a, b, c] = ((a - 48) * 10 + (b - 48)) * 10 + (c - 48) := by simp [NumText.digitsVal]
    rw [ev]
    unfold dig3
    rw [if_neg (by omega), if_neg (by omega), show 48 + (((a - 48) * 10 + (b - 48)) * 10 + (c - 48)) / 100 = a by omega, show 48 + (((a - 48) * 10 + (b - 48)) * 10 + (c - 48)) / 10 % 10 = b by omega, show 48 + (((a - 48) * 10 + (b - 48)) * 10 + (c - 48)) % 10 = c by omega]
theorem slot_form {z : Str} (h : slotB z.cps.toList = true) : ∃ n, n < 1000 ∧ z = sTx ((n : Nat) : Int) ∧ NumText.digitsVal (z.cps.toList.drop 1) = n := by
  have hs := of_decide_eq_true h
  obtain ⟨fs, et, dig, ne, l4, nl, hv⟩ := sort_some hs
  have hv : NumText.digitsVal fs ≤ 999 := hv
  have all : fs.all isFig = true := List.all_eq_true.mpr fun x hx => by
    have := dig x hx
    unfold isFig
    simpa using this
  have l3 : fs.length ≤ 3 := by
    obtain ⟨_, _, _, a4⟩ := figs_val all ne nl l4
    by_cases e : fs.length = 4
    · have := a4 e
      omega
    · omega
  have eb := dig3_back all ne nl l3
  refine ⟨NumText.digitsVal fs, by omega, ?_, by rw [et]; rfl⟩
  have e2 := sTx_dig (NumText.digitsVal fs) (by omega)
  rw [eb, ← et] at e2
  rw [← sT_of z, ← e2, sT_of]
theorem rd_place {r : Nat} {d : PyData} (h9 : r ≤ 9) (h : (strD (regB r) d || strD slotB d) = true) (pre suf : List Bool) : placeA r (pre ++ (plW d ++ suf)) pre.length = some (d, pre.length + (plW d).length) := by
  by_cases hs : strD slotB d = true
  · obtain ⟨z, rfl, hz⟩ := strD_some hs
    obtain ⟨n, h1, ez, h3⟩ := slot_form hz
    have e : plW (.str z) = true :: gam n := by
      show placeW z.cps.toList = _
      unfold placeW
      rw [if_pos hz, h3]
    rw [e]
    unfold placeA
    have e1 : ((pre ++ (true :: gam n ++ suf)).drop pre.length).take 1 = [true] := by simp
    have e2 : pre ++ (true :: gam n ++ suf) = (pre ++ [true]) ++ (gam n ++ suf) := by simp
    rw [e1, if_pos rfl, e2]
    have e3 := rdI_gam8 (pre ++ [true]) suf n
    rw [show (pre ++ [true]).length = pre.length + 1 by simp] at e3
    rw [e3]
    dsimp only
    rw [if_neg (by omega), ← ez, List.length_cons]
    congr 2
    omega
  · have hr : strD (regB r) d = true := by
      rcases Bool.or_eq_true_iff.mp h with h | h
      · exact h
      · exact absurd h hs
    obtain ⟨z, rfl, hz⟩ := strD_some hr
    have e : plW (.str z) = false :: regW (.str z) := by
      show placeW z.cps.toList = _
      unfold placeW
      rw [if_neg (show ¬ slotB z.cps.toList = true from hs)]
      rfl
    rw [e]
    unfold placeA
    have e1 : ((pre ++ (false :: regW (.str z) ++ suf)).drop pre.length).take 1 = [false] := by simp
    have e2 : pre ++ (false :: regW (.str z) ++ suf) = (pre ++ [false]) ++ (regW (.str z) ++ suf) := by simp
    rw [e1, if_neg (by decide), e2]
    have e3 := rd_reg h9 hr (pre ++ [false]) suf
    rw [show (pre ++ [false]).length = pre.length + 1 by simp] at e3
    rw [e3, List.length_cons]
    have e4 : pre.length + 1 + (regW (.str z)).length = pre.length + ((regW (.str z)).length + 1) := by omega
    rw [e4]
theorem regs_read {r : Nat} (h9 : r ≤ 9) : ∀ (ds : List PyData) (acc : List PyData) (pre suf : List Bool), (∀ d ∈ ds, strD (regB r) d = true) →
    regsA r (pre ++ ((ds.map regW).flatten ++ suf)) pre.length ds.length acc = some (.tuple (acc ++ ds), pre.length + ((ds.map regW).flatten).length)
  | [], acc, pre, suf, _ => by
    show some (PyData.tuple acc, pre.length) = _
    simp
  | d :: ds, acc, pre, suf, h => by
    have e1 := rd_reg h9 (h d (List.mem_cons_self ..)) pre ((ds.map regW).flatten ++ suf)
    have e2 : pre ++ (((d :: ds).map regW).flatten ++ suf) = pre ++ (regW d ++ ((ds.map regW).flatten ++ suf)) := by simp
    have e3 : pre ++ (regW d ++ ((ds.map regW).flatten ++ suf)) = (pre ++ regW d) ++ ((ds.map regW).flatten ++ suf) := by simp
    have ih := regs_read h9 ds (acc ++ [d]) (pre ++ regW d) suf fun x hx => h x (List.mem_cons_of_mem _ hx)
    rw [e2]
    rw [List.length_cons]
    unfold regsA
    rw [e1]
    dsimp only
    rw [e3, ← List.length_append, ih, List.append_assoc]
    simp [Nat.add_assoc]
theorem rd_parts {r : Nat} {d : PyData} (h9 : r ≤ 9) (h : partsD r d = true) (pre suf : List Bool) : partsA r (pre ++ (prW d ++ suf)) pre.length = some (d, pre.length + (prW d).length) := by
  cases d <;> first | cases h | skip
  rename_i ds
  obtain ⟨c3, hall⟩ := Bool.and_eq_true_iff.mp (show (decide (ds.length ≤ 3) && (ds.map (strD (regB r))).all id) = true from h)
  have c3 : ds.length ≤ 3 := of_decide_eq_true c3
  have hd : ∀ d ∈ ds, strD (regB r) d = true := fun d hd => List.all_eq_true.mp hall (strD (regB r) d) (List.mem_map.mpr ⟨d, hd, rfl⟩)
  show partsA r (pre ++ (digs ds.length 2 ++ (ds.map regW).flatten ++ suf)) pre.length = some (.tuple ds, pre.length + (digs ds.length 2 ++ (ds.map regW).flatten).length)
  have e1 := at_digs pre ((ds.map regW).flatten ++ suf) (n := ds.length) (m := 2) (by omega)
  have e2 : pre ++ (digs ds.length 2 ++ (ds.map regW).flatten ++ suf) = pre ++ (digs ds.length 2 ++ ((ds.map regW).flatten ++ suf)) := by simp
  have e3 : pre ++ (digs ds.length 2 ++ ((ds.map regW).flatten ++ suf)) = (pre ++ digs ds.length 2) ++ ((ds.map regW).flatten ++ suf) := by simp
  unfold partsA
  rw [e2, e1]
  dsimp only
  have e4 := regs_read h9 ds [] (pre ++ digs ds.length 2) suf hd
  rw [show (pre ++ digs ds.length 2).length = pre.length + 2 by rw [List.length_append, digs_len]] at e4
  rw [e3, e4, List.length_append, digs_len, List.nil_append, Nat.add_assoc]
/-! ## written instructions are read -/
theorem name_read : ∀ (ts acc : List Nat) (n : Nat) (pre suf : List Bool), ts.length < n → (∀ c ∈ ts, 97 ≤ c ∧ c ≤ 122) → nameB (acc ++ ts) = true →
    nameG (pre ++ (((ts.map fun c => digs (c - 96) 5).flatten ++ digs 0 5) ++ suf)) pre.length n acc = some (.str (sT (acc ++ ts)), pre.length + ((ts.map fun c => digs (c - 96) 5).flatten ++ digs 0 5).length)
  | [], acc, 0, _, _, h, _, _ => absurd h (by decide)
  | [], acc, n + 1, pre, suf, _, _, hn => by
    rw [List.append_nil] at hn
    have e2 : pre ++ ((([] : List Nat).map fun c => digs (c - 96) 5).flatten ++ digs 0 5 ++ suf) = pre ++ (digs 0 5 ++ suf) := by simp
    rw [e2]
    unfold nameG
    rw [at_digs pre suf (show 0 < 2 ^ 5 by decide)]
    dsimp only
    rw [if_neg (by decide), if_pos rfl, if_pos hn]
    simp [digs_len]
  | c :: ts, acc, 0, _, _, h, _, _ => absurd h (Nat.not_lt_zero _)
  | c :: ts, acc, n + 1, pre, suf, h, hc, hn => by
    have hc0 := hc c (List.mem_cons_self ..)
    have e2 : pre ++ (((c :: ts).map fun c => digs (c - 96) 5).flatten ++ digs 0 5 ++ suf) = pre ++ (digs (c - 96) 5 ++ ((ts.map fun c => digs (c - 96) 5).flatten ++ digs 0 5 ++ suf)) := by simp
    have e3 : pre ++ (digs (c - 96) 5 ++ ((ts.map fun c => digs (c - 96) 5).flatten ++ digs 0 5 ++ suf)) = (pre ++ digs (c - 96) 5) ++ ((ts.map fun c => digs (c - 96) 5).flatten ++ digs 0 5 ++ suf) := by simp
    have ih := name_read ts (acc ++ [c]) n (pre ++ digs (c - 96) 5) suf (by rw [List.length_cons] at h; omega) (fun x hx => hc x (List.mem_cons_of_mem _ hx)) (by rw [List.append_assoc]; exact hn)
    rw [show (pre ++ digs (c - 96) 5).length = pre.length + 5 by rw [List.length_append, digs_len]] at ih
    rw [e2]
    unfold nameG
    rw [at_digs pre _ (show c - 96 < 2 ^ 5 by omega)]
    dsimp only
    rw [if_neg (by omega), if_neg (by omega), show 96 + (c - 96) = c by omega, e3, ih, List.append_assoc]
    have el : pre.length + 5 + ((ts.map fun c => digs (c - 96) 5).flatten ++ digs 0 5).length = pre.length + (((c :: ts).map fun c => digs (c - 96) 5).flatten ++ digs 0 5).length := by
      rw [List.map_cons, List.flatten_cons, List.append_assoc, List.length_append (as := digs (c - 96) 5), digs_len]
      omega
    rw [el]
    rfl
theorem rd_name {r : Nat} {d : PyData} (h : strD nameB d = true) (pre suf : List Bool) : nameA r (pre ++ (nmW d ++ suf)) pre.length = some (d, pre.length + (nmW d).length) := by
  obtain ⟨z, rfl, hz⟩ := strD_some h
  obtain ⟨l8, lets⟩ := nameB_let hz
  have q := name_read z.cps.toList [] 9 pre suf (by omega) lets hz
  rw [List.nil_append, sT_of] at q
  exact q
theorem rd_part {r c : Nat} {d : PyData} (h9 : r ≤ 9) (h : partD r c d = true) (pre suf : List Bool) : readA c r (pre ++ (partW c d ++ suf)) pre.length = some (d, pre.length + (partW c d).length) := by
  unfold partD at h
  unfold readA partW
  by_cases c1 : c = 114
  · rw [if_pos c1] at h
    rw [if_pos c1, if_pos c1]
    exact rd_reg h9 h pre suf
  rw [if_neg c1] at h
  by_cases c2 : c = 99
  · rw [if_pos c2] at h
    rw [if_neg c1, if_neg c1, if_neg (by omega), if_pos c2, if_pos c2]
    exact rd_place h9 h pre suf
  rw [if_neg c2] at h
  by_cases c3 : c = 110
  · rw [if_pos c3] at h
    rw [if_neg c1, if_neg c1, if_pos c3, if_neg c2, if_pos c3]
    exact rd_num h pre suf
  rw [if_neg c3] at h
  by_cases c4 : c = 119
  · rw [if_pos c4] at h
    rw [if_neg c1, if_neg c1, if_neg c3, if_neg c2, if_pos c4, if_neg c2, if_neg c3, if_pos c4]
    exact rd_name h pre suf
  rw [if_neg c4] at h
  by_cases c5 : c = 107
  · rw [if_pos c5] at h
    rw [if_neg c1, if_neg c1, if_neg c3, if_neg c2, if_neg c4, if_pos c5, if_neg c2, if_neg c3, if_neg c4, if_pos c5]
    exact rd_ix h pre suf
  rw [if_neg c5] at h
  by_cases c6 : c = 108
  · rw [if_pos c6] at h
    rw [if_neg c1, if_neg c1, if_neg c3, if_neg c2, if_neg c4, if_neg c5, if_pos c6, if_neg c2, if_neg c3, if_neg c4, if_neg c5, if_pos c6]
    exact rd_parts h9 h pre suf
  rw [if_neg c6] at h
  rw [if_neg c1, if_neg c1, if_neg c3, if_neg c2, if_neg c4, if_neg c5, if_neg c6, if_neg c2, if_neg c3, if_neg c4, if_neg c5, if_neg c6]
  exact rd_leap h pre suf
theorem parts_read {r : Nat} (h9 : r ≤ 9) : ∀ (T : List Nat) (ds acc : List PyData) (pre suf : List Bool), ds.length = T.length → partsOk r T ds = true →
    rdParts r (pre ++ (((T.zip ds).map fun p => partW p.1 p.2).flatten ++ suf)) T pre.length acc = some (acc ++ ds, pre.length + ((T.zip ds).map fun p => partW p.1 p.2).flatten.length)
  | [], [], acc, pre, suf, _, _ => by
    unfold rdParts
    simp
  | [], _ :: _, _, _, _, h, _ => by cases h
  | _ :: _, [], _, _, _, h, _ => by cases h
  | c :: T, d :: ds, acc, pre, suf, hl, hp => by
    obtain ⟨h1, h2⟩ : partD r c d = true ∧ partsOk r T ds = true := by
      unfold partsOk at hp ⊢
      rw [List.zip_cons_cons, List.map_cons, List.all_cons, Bool.and_eq_true] at hp
      exact hp
    have e2 : pre ++ ((((c :: T).zip (d :: ds)).map fun p => partW p.1 p.2).flatten ++ suf) = pre ++ (partW c d ++ (((T.zip ds).map fun p => partW p.1 p.2).flatten ++ suf)) := by simp
    have e3 : pre ++ (partW c d ++ (((T.zip ds).map fun p => partW p.1 p.2).flatten ++ suf)) = (pre ++ partW c d) ++ (((T.zip ds).map fun p => partW p.1 p.2).flatten ++ suf) := by simp
    have ih := parts_read h9 T ds (acc ++ [d]) (pre ++ partW c d) suf (by simpa using hl) h2
    rw [List.length_append] at ih
    rw [e2]
    unfold rdParts
    rw [rd_part h9 h1 pre _]
    dsimp only
    rw [e3, ih, List.append_assoc, List.zip_cons_cons, List.map_cons, List.flatten_cons, List.length_append, Nat.add_assoc]
    rfl
theorem rd_one {r : Nat} {d : PyData} (h9 : r ≤ 9) (h : instrD r d = true) (pre suf : List Bool) : rdOne r (pre ++ (instrW d ++ suf)) pre.length = some (d, pre.length + (instrW d).length) := by
  obtain ⟨z, ds, rfl⟩ : ∃ z ds, d = .tuple (.str z :: ds) := by
    unfold instrD at h
    split at h
    · exact ⟨_, _, rfl⟩
    · cases h
  have h : (isWd z && (decide (ds.length = (shapeT z).length) && (partsOk r (shapeT z) ds && copyOk z ds))) = true := h
  simp only [Bool.and_eq_true, decide_eq_true_eq] at h
  obtain ⟨hw, hl, hp, hc⟩ := h
  obtain ⟨hi, hz⟩ := word_idx hw
  show rdOne r (pre ++ (headW z ds ++ suf)) pre.length = some (_, pre.length + (headW z ds).length)
  unfold headW
  have e2 : pre ++ (digs (wordsL.idxOf z) 5 ++ (((shapeT z).zip ds).map fun p => partW p.1 p.2).flatten ++ suf) = pre ++ (digs (wordsL.idxOf z) 5 ++ ((((shapeT z).zip ds).map fun p => partW p.1 p.2).flatten ++ suf)) := by simp
  have e3 : pre ++ (digs (wordsL.idxOf z) 5 ++ ((((shapeT z).zip ds).map fun p => partW p.1 p.2).flatten ++ suf)) = (pre ++ digs (wordsL.idxOf z) 5) ++ ((((shapeT z).zip ds).map fun p => partW p.1 p.2).flatten ++ suf) := by simp
  have q := parts_read h9 (shapeT z) ds [.str z] (pre ++ digs (wordsL.idxOf z) 5) suf hl hp
  rw [show (pre ++ digs (wordsL.idxOf z) 5).length = pre.length + 5 by rw [List.length_append, digs_len]] at q
  rw [e2]
  unfold rdOne
  rw [at_digs pre _ (show wordsL.idxOf z < 2 ^ 5 by omega)]
  dsimp only
  rw [if_neg (by omega), hz, e3]
  show rdEnd z (rdParts r _ (shapeT z) (pre.length + 5) [.str z]) = _
  rw [q]
  unfold rdEnd
  dsimp only
  rw [if_neg, List.length_append, digs_len, Nat.add_assoc]
  · rfl
  · rintro ⟨ez, s1, s2⟩
    unfold copyOk at hc
    rw [decide_eq_true ez] at hc
    match ds, s1, s2, hc with
    | [], s1, _, _ => cases s1
    | [_], _, s2, _ => cases s2
    | d1 :: d2 :: _, s1, s2, hc =>
      have a1 : strD slotB d1 = true := by
        cases d1 <;> first | exact s1 | cases s1
      have a2 : strD slotB d2 = true := by
        cases d2 <;> first | exact s2 | cases s2
      have hc : (!true || (!(strD slotB d1) || !(strD slotB d2))) = true := hc
      rw [a1, a2] at hc
      cases hc
/-! ## all that is written is read -/
def offs (i : Nat) : List PyData → List (Nat × PyData)
  | [] => []
  | d :: r => (i, d) :: offs (i + (instrW d).length) r
theorem instrW_five {r : Nat} {d : PyData} (h : instrD r d = true) : 5 ≤ (instrW d).length := by
  unfold instrD at h
  split at h
  · rename_i z ds
    show 5 ≤ (headW z ds).length
    unfold headW
    rw [List.length_append, digs_len]
    omega
  · cases h
theorem rdOne_end (r : Nat) (l : List Bool) : rdOne r l l.length = none := by
  unfold rdOne at_
  rw [if_neg (by omega)]
theorem all_step {r : Nat} (h9 : r ≤ 9) : ∀ (ds : List PyData) (n : Nat) (pre : List Bool) (acc : List (Nat × PyData)), ds.length < n → (∀ d ∈ ds, instrD r d = true) →
    rdAll r (pre ++ allW ds) n pre.length acc = (acc ++ offs pre.length ds, pre.length + (allW ds).length)
  | [], 0, _, _, h, _ => absurd h (by decide)
  | [], n + 1, pre, acc, _, _ => by
    have e : pre ++ allW [] = pre := by unfold allW; simp
    rw [e]
    unfold rdAll
    rw [rdOne_end]
    unfold offs allW
    simp
  | d :: ds, 0, _, _, h, _ => absurd h (Nat.not_lt_zero _)
  | d :: ds, n + 1, pre, acc, h, hd => by
    have e1 : allW (d :: ds) = instrW d ++ allW ds := by unfold allW; simp
    have q := rd_one h9 (hd d (List.mem_cons_self ..)) pre (allW ds)
    have ih := all_step h9 ds n (pre ++ instrW d) (acc ++ [(pre.length, d)]) (by rw [List.length_cons] at h; omega) fun x hx => hd x (List.mem_cons_of_mem _ hx)
    rw [List.length_append, List.append_assoc] at ih
    rw [e1]
    unfold rdAll
    rw [q]
    dsimp only
    rw [ih, List.length_append, Nat.add_assoc, List.append_assoc]
    rfl
theorem allW_ge {r : Nat} : ∀ {ds : List PyData}, (∀ d ∈ ds, instrD r d = true) → ds.length ≤ (allW ds).length
  | [], _ => Nat.zero_le _
  | d :: ds, h => by
    have h1 := instrW_five (h d (List.mem_cons_self ..))
    have h2 := allW_ge (ds := ds) fun x hx => h x (List.mem_cons_of_mem _ hx)
    have e1 : allW (d :: ds) = instrW d ++ allW ds := by unfold allW; simp
    rw [e1, List.length_append, List.length_cons]
    omega
/-- read_bits of what bits_of wrote -/
theorem rdA_allW {r : Nat} {ds : List PyData} (h9 : r ≤ 9) (h : ∀ d ∈ ds, instrD r d = true) : rdA r (allW ds) = (offs 0 ds, (allW ds).length) := by
  have q := all_step h9 ds ((allW ds).length + 1) [] [] (Nat.lt_succ_of_le (allW_ge h)) h
  rw [List.nil_append, List.nil_append, List.length_nil, Nat.zero_add] at q
  exact q
theorem offs_at : ∀ {ds : List PyData} {i k : Nat} {d : PyData}, ds[k]? = some d → (offs i ds)[k]? = some (i + (allW (ds.take k)).length, d)
  | [], _, k, _, h => by simp at h
  | d0 :: ds, i, 0, d, h => by
    simp at h
    subst h
    unfold offs allW
    simp
  | d0 :: ds, i, k + 1, d, h => by
    have ih := offs_at (ds := ds) (i := i + (instrW d0).length) (k := k) (d := d) (by simpa using h)
    have e1 : allW (d0 :: ds.take k) = instrW d0 ++ allW (ds.take k) := by unfold allW; simp
    rw [List.take_succ_cons, e1, List.length_append, ← Nat.add_assoc]
    exact ih
/-- instruction_at at a place of what bits_of wrote -/
theorem rdOne_at {r : Nat} {ds : List PyData} {k : Nat} {d : PyData} (h9 : r ≤ 9) (h : ∀ d ∈ ds, instrD r d = true) (hk : ds[k]? = some d) : rdOne r (allW ds) (allW (ds.take k)).length = some (d, (allW (ds.take k)).length + (instrW d).length) := by
  have e : allW ds = allW (ds.take k) ++ (instrW d ++ allW (ds.drop (k + 1))) := by
    have lt := (List.getElem?_eq_some_iff.mp hk).1
    have ed : ds[k] = d := (List.getElem?_eq_some_iff.mp hk).2
    have e0 : ds = ds.take k ++ d :: ds.drop (k + 1) := by
      rw [← ed, ← List.drop_eq_getElem_cons lt, List.take_append_drop]
    conv => lhs; rw [e0]
    unfold allW
    simp
  rw [e]
  exact rd_one h9 (h d (List.mem_of_getElem? hk)) _ _
/-! ## what is read is what is written: the bits of what is read stand there -/
def Bk (l : List Bool) (i : Nat) (w : List Bool) (b : Nat) : Prop := b = i + w.length ∧ b ≤ l.length ∧ (l.drop i).take w.length = w
theorem Bk.split {l w : List Bool} {i b : Nat} (h : Bk l i w b) : l = l.take i ++ (w ++ l.drop b) ∧ (l.take i).length = i := by
  obtain ⟨rfl, h2, h3⟩ := h
  refine ⟨?_, by rw [List.length_take]; omega⟩
  rw [← List.drop_drop]
  conv => rhs; rw [← h3, List.length_take, List.length_drop, Nat.min_eq_left (by omega)]
  rw [List.take_append_drop, List.take_append_drop]
theorem Bk.app {l w w' : List Bool} {i b c : Nat} (h : Bk l i w b) (h' : Bk l b w' c) : Bk l i (w ++ w') c := by
  obtain ⟨rfl, h2, h3⟩ := h
  obtain ⟨rfl, g2, g3⟩ := h'
  refine ⟨by rw [List.length_append, Nat.add_assoc], g2, ?_⟩
  rw [List.length_append, List.take_add, h3, List.drop_drop, g3]
theorem Bk.nil {l : List Bool} {i : Nat} (h : i ≤ l.length) : Bk l i [] i := ⟨rfl, h, rfl⟩
theorem at_bk {l : List Bool} {i m n : Nat} (h : at_ l i m = some n) : Bk l i (digs n m) (i + m) ∧ n < 2 ^ m := by
  obtain ⟨_, h2, h3⟩ := at_back h
  unfold at_ at h
  rw [if_pos h2] at h
  injection h with h
  have hl : ((l.drop i).take m).length = m := by rw [List.length_take, List.length_drop]; omega
  have e := digs_valB ((l.drop i).take m)
  rw [hl, h] at e
  refine ⟨⟨by rw [digs_len], h2, by rw [digs_len]; exact e.symm⟩, h3⟩
theorem one_bk {l : List Bool} {i : Nat} (h : (l.drop i).take 1 = [true]) : Bk l i [true] (i + 1) := by
  refine ⟨rfl, ?_, h⟩
  have := congrArg List.length h
  rw [List.length_take, List.length_drop] at this
  simp only [List.length_cons, List.length_nil] at this
  omega
theorem zero_bk {l : List Bool} {i : Nat} (h : ¬ (l.drop i).take 1 = [true]) (hl : i + 1 ≤ l.length) : Bk l i [false] (i + 1) := by
  refine ⟨rfl, hl, ?_⟩
  cases e : l.drop i with
  | nil =>
    have := congrArg List.length e
    rw [List.length_drop] at this
    simp at this
    omega
  | cons b r =>
    cases b with
    | true => rw [e] at h; exact absurd rfl h
    | false => rfl
theorem zer_tw : ∀ l : List Bool, l.take (zer l) = List.replicate (zer l) false
  | [] => rfl
  | true :: r => rfl
  | false :: r => by
    have e : zer (false :: r) = zer r + 1 := rfl
    rw [e, List.take_succ_cons, zer_tw r, List.replicate_succ]
theorem zer_next : ∀ {l : List Bool}, zer l < l.length → ∃ r, l.drop (zer l) = true :: r
  | [], h => absurd h (Nat.not_lt_zero _)
  | true :: r, _ => ⟨r, rfl⟩
  | false :: r, h => by
    have e : zer (false :: r) = zer r + 1 := rfl
    rw [e] at h ⊢
    obtain ⟨q, hq⟩ := zer_next (l := r) (by rw [List.length_cons] at h; omega)
    exact ⟨q, hq⟩
theorem valB_cons : ∀ (u : List Bool) (a : Nat), u.foldl (fun a b => a * 2 + bv b) a = a * 2 ^ u.length + valB u
  | [], a => by show a = a * 1 + 0; omega
  | b :: u, a => by
    show u.foldl (fun a b => a * 2 + bv b) (a * 2 + bv b) = a * 2 ^ (u.length + 1) + u.foldl (fun a b => a * 2 + bv b) (0 * 2 + bv b)
    rw [valB_cons u (a * 2 + bv b), valB_cons u (0 * 2 + bv b), Nat.pow_succ, Nat.add_mul, Nat.zero_mul, Nat.zero_add]
    have : a * 2 * 2 ^ u.length = a * (2 ^ u.length * 2) := by rw [Nat.mul_assoc, Nat.mul_comm 2]
    omega
theorem bin_true (u : List Bool) : binB (valB (true :: u)) = true :: u := by
  have hv : valB (true :: u) = 2 ^ u.length + valB u := by
    have := valB_cons u (0 * 2 + bv true)
    show u.foldl (fun a b => a * 2 + bv b) (0 * 2 + bv true) = _
    rw [this]
    show (0 * 2 + 1) * _ + _ = _
    omega
  have hlt : valB u < 2 ^ u.length := valB_lt' u
  have h1 : lg (valB (true :: u)) ≤ u.length := lg_low _ _ (by rw [hv, Nat.pow_succ]; omega)
  have h2 : u.length ≤ lg (valB (true :: u)) := by
    have := lt_lg (valB (true :: u))
    rw [hv] at this
    by_cases c : u.length ≤ lg (valB (true :: u))
    · exact c
    · have : 2 ^ (lg (2 ^ u.length + valB u) + 1) ≤ 2 ^ u.length := Nat.pow_le_pow_right (by decide) (by rw [← hv]; omega)
      omega
  have e : lg (valB (true :: u)) + 1 = (true :: u).length := by rw [List.length_cons]; omega
  rw [← digs_bin, e, digs_valB]
theorem rd_bk {l : List Bool} {i n b : Nat} (h : rd l i = some (n, b)) : Bk l i (gam n) b := by
  unfold rd at h
  split at h
  · cases h
  · rename_i c
    injection h with h
    injection h with h1 h2
    have hz : zer (l.drop i) < (l.drop i).length := by rw [List.length_drop]; omega
    obtain ⟨r, hr⟩ := zer_next hz
    rw [List.drop_drop] at hr
    have hu : (l.drop (i + zer (l.drop i))).take (zer (l.drop i) + 1) = true :: r.take (zer (l.drop i)) := by rw [hr, List.take_succ_cons]
    rw [hu] at h1
    have hlen : (r.take (zer (l.drop i))).length = zer (l.drop i) := by
      have := congrArg List.length hr
      rw [List.length_drop, List.length_cons] at this
      rw [List.length_take]
      omega
    have hv : valB (true :: r.take (zer (l.drop i))) = n + 1 := by
      obtain ⟨q, hq⟩ : ∃ q, valB (true :: r.take (zer (l.drop i))) = q + 1 := by
        have e := bin_true (r.take (zer (l.drop i)))
        cases hq : valB (true :: r.take (zer (l.drop i))) with
        | zero =>
          rw [hq] at e
          rw [binB_lt (by decide)] at e
          injection e with e _
          cases e
        | succ q => exact ⟨q, rfl⟩
      rw [hq] at h1 ⊢
      omega
    have hb := bin_true (r.take (zer (l.drop i)))
    rw [hv] at hb
    have hlg : lg (n + 1) = zer (l.drop i) := by
      have := binB_len (n + 1)
      rw [hb, List.length_cons, hlen] at this
      omega
    refine ⟨by rw [gam_len, hlg]; omega, by omega, ?_⟩
    rw [gam_len, hlg]
    unfold gam
    rw [hlg, hb, ← hu, show 2 * zer (l.drop i) + 1 = zer (l.drop i) + (zer (l.drop i) + 1) by omega, List.take_add, zer_tw, List.drop_drop]
theorem sgn_uns (m : Nat) : sgn (uns m) = m := by
  unfold sgn uns
  split <;> split <;> omega
theorem num_bk {r : Nat} {l : List Bool} {i b : Nat} {d : PyData} (h : numA r l i = some (d, b)) : numD d = true ∧ Bk l i (numW d) b := by
  unfold numA rdS at h
  cases q : rd l i with
  | none => rw [q] at h; cases h
  | some x =>
    obtain ⟨n, c⟩ := x
    rw [q] at h
    injection h with h
    injection h with h1 h2
    subst h1 h2
    refine ⟨rfl, ?_⟩
    show Bk l i (gam (sgn (uns n))) c
    rw [sgn_uns]
    exact rd_bk q
theorem reg_back : ∀ n < 9, sortP (rT n).cps.toList = some 114 ∧ NumText.digitsVal ((rT n).cps.toList.drop 1) = n ∧ slotB (rT n).cps.toList = false := by decide +kernel
theorem slot_back : ∀ n < 1000, (slotB (sTx ((n : Nat) : Int)).cps.toList && decide (NumText.digitsVal ((sTx ((n : Nat) : Int)).cps.toList.drop 1) = n)) = true := by decide +kernel
theorem reg_bk {r : Nat} {l : List Bool} {i b : Nat} {d : PyData} (h9 : r ≤ 9) (h : regA r l i = some (d, b)) : strD (regB r) d = true ∧ Bk l i (regW d) b ∧ plW d = false :: regW d := by
  unfold regA at h
  cases q : at_ l i 4 with
  | none => rw [q] at h; cases h
  | some n =>
    rw [q] at h
    dsimp only at h
    split at h
    · rename_i hn
      injection h with h
      injection h with h1 h2
      subst h1 h2
      obtain ⟨e1, e2, e3⟩ := reg_back n (by omega)
      have e4 : regW (.str (rT n)) = digs n 4 := by
        show digs (NumText.digitsVal ((rT n).cps.toList.drop 1)) 4 = _
        rw [e2]
      refine ⟨?_, ?_, ?_⟩
      · show regB r (rT n).cps.toList = true
        unfold regB
        rw [e1, e2, decide_eq_true rfl, decide_eq_true hn]
        rfl
      · rw [e4]
        exact (at_bk q).1
      · rw [e4]
        show placeW (rT n).cps.toList = _
        unfold placeW
        rw [e3, if_neg (by decide), e2]
    · cases h
theorem place_bk {r : Nat} {l : List Bool} {i b : Nat} {d : PyData} (h9 : r ≤ 9) (h : placeA r l i = some (d, b)) : (strD (regB r) d || strD slotB d) = true ∧ Bk l i (plW d) b := by
  unfold placeA at h
  split at h
  · rename_i c
    unfold rdI at h
    cases q : rd l (i + 1) with
    | none => rw [q] at h; cases h
    | some x =>
      obtain ⟨n, e⟩ := x
      rw [q] at h
      dsimp only [Option.map_some] at h
      split at h
      · cases h
      · rename_i hn
        injection h with h
        injection h with h1 h2
        subst h1 h2
        have hn : n < 1000 := by omega
        obtain ⟨e1, e2⟩ := Bool.and_eq_true_iff.mp (slot_back n hn)
        have e2 := of_decide_eq_true e2
        refine ⟨?_, ?_⟩
        · have : strD slotB (.str (sTx ((n : Nat) : Int))) = true := e1
          rw [this, Bool.or_true]
        · have : plW (.str (sTx ((n : Nat) : Int))) = [true] ++ gam n := by
            show placeW (sTx ((n : Nat) : Int)).cps.toList = _
            unfold placeW
            rw [e1, if_pos rfl, e2]
            rfl
          rw [this]
          exact (one_bk c).app (rd_bk q)
  · rename_i c
    obtain ⟨h1, h2, h3⟩ := reg_bk h9 h
    refine ⟨by rw [h1]; rfl, ?_⟩
    rw [h3]
    have hl : i + 1 ≤ l.length := by
      have := h2.1
      have := h2.2.1
      omega
    exact (zero_bk c hl).app h2
theorem ix_bk {r : Nat} {l : List Bool} {i b : Nat} {d : PyData} (h : ixA r l i = some (d, b)) : ixD d = true ∧ Bk l i (ixW d) b := by
  unfold ixA at h
  cases q : at_ l i 2 with
  | none => rw [q] at h; cases h
  | some n =>
    rw [q] at h
    dsimp only at h
    split at h
    · rename_i hn
      injection h with h
      injection h with h1 h2
      subst h1 h2
      refine ⟨?_, ?_⟩
      · show (decide ((0 : Int) ≤ (n : Int)) && decide ((n : Int) ≤ 2)) = true
        rw [decide_eq_true (by omega), decide_eq_true (by omega)]
        rfl
      · show Bk l i (digs ((n : Nat) : Int).toNat 2) (i + 2)
        rw [Int.toNat_natCast]
        exact (at_bk q).1
    · cases h
theorem leapT_num {m h : Nat} (hm : m < 2 * h) : leapT (leapNum m h) h = m := by
  unfold leapT leapNum
  split <;> split <;> omega
theorem lp_long {n : Nat} (hk : n < 4294967296) : leapD (.tuple [.str "long", .int (leapNum n 2147483648)]) = true ∧ lpW (.tuple [.str "long", .int (leapNum n 2147483648)]) = [true] ++ digs n 32 := by
  have e1 : isLp "long" = true := by decide +kernel
  have e2 : ¬ ("long" : Str) = "short" := by decide +kernel
  have b1 : -2147483648 ≤ leapNum n 2147483648 := by unfold leapNum; split <;> omega
  have b2 : leapNum n 2147483648 < 2147483648 := by unfold leapNum; split <;> omega
  have b3 : leapT (leapNum n 2147483648) 2147483648 = n := leapT_num (by omega)
  generalize leapNum n 2147483648 = m at b1 b2 b3 ⊢
  generalize ("long" : Str) = z at e1 e2 ⊢
  have k : lpOk z m = true := by
    unfold lpOk
    rw [if_neg e2, decide_eq_true b1, decide_eq_true b2]
    rfl
  refine ⟨?_, ?_⟩
  · show (isLp z && lpOk z m) = true
    rw [e1, k]
    rfl
  · show leapW z m = _
    unfold leapW
    rw [if_neg e2, b3]
    generalize digs n 32 = u
    rfl
theorem lp_short {n : Nat} (hk : n < 256) : leapD (.tuple [.str "short", .int (leapNum n 128)]) = true ∧ lpW (.tuple [.str "short", .int (leapNum n 128)]) = [false] ++ digs n 8 := by
  have e1 : isLp "short" = true := by decide +kernel
  have b1 : -128 ≤ leapNum n 128 := by unfold leapNum; split <;> omega
  have b2 : leapNum n 128 < 128 := by unfold leapNum; split <;> omega
  have b3 : leapT (leapNum n 128) 128 = n := leapT_num (by omega)
  generalize leapNum n 128 = m at b1 b2 b3 ⊢
  have k : lpOk "short" m = true := by
    unfold lpOk
    rw [if_pos rfl, decide_eq_true b1, decide_eq_true b2]
    rfl
  refine ⟨?_, ?_⟩
  · show (isLp "short" && lpOk "short" m) = true
    rw [e1, k]
    rfl
  · show leapW "short" m = _
    unfold leapW
    rw [if_pos rfl, b3]
    generalize digs n 8 = u
    rfl
theorem leap_bk {r : Nat} {l : List Bool} {i b : Nat} {d : PyData} (h : leapA r l i = some (d, b)) : leapD d = true ∧ Bk l i (lpW d) b := by
  unfold leapA at h
  split at h
  · rename_i c
    cases q : at_ l (i + 1) 32 with
    | none => rw [q] at h; cases h
    | some n =>
      rw [q] at h
      have h := Prod.mk.inj (Option.some.inj h)
      obtain ⟨k, hk⟩ := at_bk q
      obtain ⟨g1, g2⟩ := lp_long (n := n) (Nat.lt_of_lt_of_le hk (by decide))
      rw [← h.1, ← h.2]
      refine ⟨g1, ?_⟩
      rw [g2]
      exact (one_bk c).app k
  · rename_i c
    cases q : at_ l (i + 1) 8 with
    | none => rw [q] at h; cases h
    | some n =>
      rw [q] at h
      have h := Prod.mk.inj (Option.some.inj h)
      obtain ⟨k, hk⟩ := at_bk q
      obtain ⟨g1, g2⟩ := lp_short (n := n) (Nat.lt_of_lt_of_le hk (by decide))
      rw [← h.1, ← h.2]
      refine ⟨g1, ?_⟩
      rw [g2]
      have := k.2.1
      exact (zero_bk c (by omega)).app k
theorem nameG_bk {l : List Bool} : ∀ (n j : Nat) (acc : List Nat) {b : Nat} {d : PyData}, nameG l j n acc = some (d, b) →
    ∃ ts, d = .str (sT (acc ++ ts)) ∧ (∀ c ∈ ts, 97 ≤ c ∧ c ≤ 122) ∧ nameB (acc ++ ts) = true ∧ Bk l j ((ts.map fun c => digs (c - 96) 5).flatten ++ digs 0 5) b
  | 0, _, _, _, _, h => by cases h
  | n + 1, j, acc, b, d, h => by
    unfold nameG at h
    cases q : at_ l j 5 with
    | none => rw [q] at h; cases h
    | some c =>
      rw [q] at h
      dsimp only at h
      obtain ⟨k, _⟩ := at_bk q
      split at h
      · cases h
      rename_i c26
      split at h
      · rename_i c0
        split at h
        · rename_i hn
          injection h with h
          injection h with h1 h2
          subst h1 h2 c0
          exact ⟨[], by rw [List.append_nil], (fun c hc => nomatch hc), by rw [List.append_nil]; exact hn, k⟩
        · cases h
      · rename_i c0
        obtain ⟨ts, e1, e2, e3, e4⟩ := nameG_bk n (j + 5) (acc ++ [96 + c]) h
        refine ⟨(96 + c) :: ts, by rw [e1, List.append_assoc]; rfl, fun x hx => ?_, by rw [List.append_assoc] at e3; exact e3, ?_⟩
        · rcases List.mem_cons.mp hx with rfl | hx
          · omega
          · exact e2 x hx
        · rw [List.map_cons, List.flatten_cons, List.append_assoc, show 96 + c - 96 = c by omega]
          exact k.app e4
theorem name_bk {r : Nat} {l : List Bool} {i b : Nat} {d : PyData} (h : nameA r l i = some (d, b)) : strD nameB d = true ∧ Bk l i (nmW d) b := by
  obtain ⟨ts, rfl, h2, h3, h4⟩ := nameG_bk 9 i [] h
  rw [List.nil_append] at *
  refine ⟨by show nameB (sT ts).cps.toList = true; rw [sT_cps]; exact h3, ?_⟩
  show Bk l i (nameW (sT ts).cps.toList) b
  rw [sT_cps]
  exact h4
theorem regs_bk {r : Nat} {l : List Bool} (h9 : r ≤ 9) : ∀ (n j : Nat) (acc : List PyData) {b : Nat} {d : PyData}, j ≤ l.length → regsA r l j n acc = some (d, b) →
    ∃ ds, d = .tuple (acc ++ ds) ∧ ds.length = n ∧ (∀ x ∈ ds, strD (regB r) x = true) ∧ Bk l j (ds.map regW).flatten b
  | 0, j, acc, b, d, hj, h => by
    unfold regsA at h
    injection h with h
    injection h with h1 h2
    subst h1 h2
    exact ⟨[], by rw [List.append_nil], rfl, (fun x hx => nomatch hx), .nil hj⟩
  | n + 1, j, acc, b, d, hj, h => by
    unfold regsA at h
    cases q : regA r l j with
    | none => rw [q] at h; cases h
    | some x =>
      obtain ⟨d0, b0⟩ := x
      rw [q] at h
      dsimp only at h
      obtain ⟨k1, k2, _⟩ := reg_bk h9 q
      obtain ⟨ds, e1, e2, e3, e4⟩ := regs_bk h9 n b0 (acc ++ [d0]) k2.2.1 h
      refine ⟨d0 :: ds, by rw [e1, List.append_assoc]; rfl, by rw [List.length_cons, e2], fun x hx => ?_, ?_⟩
      · rcases List.mem_cons.mp hx with rfl | hx
        · exact k1
        · exact e3 x hx
      · rw [List.map_cons, List.flatten_cons]
        exact k2.app e4
theorem parts_bk {r : Nat} {l : List Bool} {i b : Nat} {d : PyData} (h9 : r ≤ 9) (h : partsA r l i = some (d, b)) : partsD r d = true ∧ Bk l i (prW d) b := by
  unfold partsA at h
  cases q : at_ l i 2 with
  | none => rw [q] at h; cases h
  | some n =>
    rw [q] at h
    dsimp only at h
    obtain ⟨k, hn⟩ := at_bk q
    obtain ⟨ds, rfl, e2, e3, e4⟩ := regs_bk h9 n (i + 2) [] k.2.1 h
    rw [List.nil_append]
    refine ⟨?_, ?_⟩
    · show (decide (ds.length ≤ 3) && (ds.map (strD (regB r))).all id) = true
      rw [decide_eq_true (by omega), Bool.true_and]
      refine List.all_eq_true.mpr fun x hx => ?_
      obtain ⟨y, hy, rfl⟩ := List.mem_map.mp hx
      exact e3 y hy
    · show Bk l i (digs ds.length 2 ++ (ds.map regW).flatten) b
      rw [e2]
      exact k.app e4
theorem part_bk {c r : Nat} {l : List Bool} {i b : Nat} {d : PyData} (h9 : r ≤ 9) (h : readA c r l i = some (d, b)) : partD r c d = true ∧ Bk l i (partW c d) b := by
  unfold readA at h
  unfold partD partW
  split at h
  · rename_i e
    rw [if_pos e, if_pos e]
    obtain ⟨h1, h2, _⟩ := reg_bk h9 h
    exact ⟨h1, h2⟩
  rename_i e1
  rw [if_neg e1, if_neg e1]
  split at h
  · rename_i e
    have e99 : ¬ c = 99 := by omega
    rw [if_neg e99, if_neg e99, if_pos e, if_pos e]
    exact num_bk h
  rename_i e2
  split at h
  · rename_i e
    rw [if_pos e, if_pos e]
    exact place_bk h9 h
  rename_i e3
  rw [if_neg e3, if_neg e3, if_neg e2, if_neg e2]
  split at h
  · rename_i e
    rw [if_pos e, if_pos e]
    exact name_bk h
  rename_i e4
  rw [if_neg e4, if_neg e4]
  split at h
  · rename_i e
    rw [if_pos e, if_pos e]
    exact ix_bk h
  rename_i e5
  rw [if_neg e5, if_neg e5]
  split at h
  · rename_i e
    rw [if_pos e, if_pos e]
    exact parts_bk h9 h
  rename_i e6
  rw [if_neg e6, if_neg e6]
  exact leap_bk h
theorem rdParts_bk {r : Nat} {l : List Bool} (h9 : r ≤ 9) : ∀ (T : List Nat) (j : Nat) (acc : List PyData) {b : Nat} {xs : List PyData}, j ≤ l.length → rdParts r l T j acc = some (xs, b) →
    ∃ ds, xs = acc ++ ds ∧ ds.length = T.length ∧ partsOk r T ds = true ∧ Bk l j ((T.zip ds).map fun p => partW p.1 p.2).flatten b
  | [], j, acc, b, xs, hj, h => by
    unfold rdParts at h
    injection h with h
    injection h with h1 h2
    subst h1 h2
    exact ⟨[], by rw [List.append_nil], rfl, rfl, .nil hj⟩
  | c :: T, j, acc, b, xs, hj, h => by
    unfold rdParts at h
    cases q : readA c r l j with
    | none => rw [q] at h; cases h
    | some x =>
      obtain ⟨d0, b0⟩ := x
      rw [q] at h
      dsimp only at h
      obtain ⟨k1, k2⟩ := part_bk h9 q
      obtain ⟨ds, e1, e2, e3, e4⟩ := rdParts_bk h9 T b0 (acc ++ [d0]) k2.2.1 h
      refine ⟨d0 :: ds, by rw [e1, List.append_assoc]; rfl, by rw [List.length_cons, List.length_cons, e2], ?_, ?_⟩
      · show (partD r c d0 && partsOk r T ds) = true
        rw [k1, e3]
        rfl
      · rw [List.zip_cons_cons, List.map_cons, List.flatten_cons]
        exact k2.app e4
theorem word_back : ∀ c < 26, wordsL.idxOf (wordsL.getD c "") = c ∧ isWd (wordsL.getD c "") = true := by decide +kernel
theorem slotD_getD (ds : List PyData) (k : Nat) : slotD ds[k]? = strD slotB (ds.getD k .none) := by
  rw [List.getD_eq_getElem?_getD]
  cases ds[k]? with
  | none => rfl
  | some d => cases d <;> rfl
theorem one_back {r : Nat} {l : List Bool} {i b : Nat} {d : PyData} (h9 : r ≤ 9) (h : rdOne r l i = some (d, b)) : instrD r d = true ∧ Bk l i (instrW d) b := by
  unfold rdOne at h
  cases q : at_ l i 5 with
  | none => rw [q] at h; cases h
  | some c =>
    rw [q] at h
    dsimp only at h
    split at h
    · cases h
    rename_i hc
    obtain ⟨k, _⟩ := at_bk q
    cases q2 : rdParts r l (shapesT.getD c []) (i + 5) [.str (wordsL.getD c "")] with
    | none => rw [q2] at h; cases h
    | some x =>
      obtain ⟨xs, b0⟩ := x
      rw [q2] at h
      obtain ⟨ds, e1, e2, e3, e4⟩ := rdParts_bk h9 _ _ _ k.2.1 q2
      subst e1
      unfold rdEnd at h
      dsimp only at h
      split at h
      · cases h
      rename_i hcp
      injection h with h
      injection h with h1 h2
      subst h1 h2
      obtain ⟨w1, w2⟩ := word_back c (by omega)
      have hsh : shapeT (wordsL.getD c "") = shapesT.getD c [] := by unfold shapeT; rw [w1]
      have hcopy : copyOk (wordsL.getD c "") ds = true := by
        unfold copyOk
        rw [← slotD_getD, ← slotD_getD]
        by_cases hz : wordsL.getD c "" = "copy"
        · rw [decide_eq_true hz]
          have hn : ¬ (slotD ds[0]? = true ∧ slotD ds[1]? = true) := fun z => hcp ⟨hz, z.1, z.2⟩
          cases a0 : slotD ds[0]? <;> cases a1 : slotD ds[1]? <;> first | rfl | exact absurd ⟨a0, a1⟩ hn
        · rw [decide_eq_false hz]
          rfl
      refine ⟨?_, ?_⟩
      · show (isWd (wordsL.getD c "") && (decide (ds.length = (shapeT (wordsL.getD c "")).length) && (partsOk r (shapeT (wordsL.getD c "")) ds && copyOk (wordsL.getD c "") ds))) = true
        rw [w2, hsh, decide_eq_true e2, e3, hcopy]
        rfl
      · show Bk l i (headW (wordsL.getD c "") ds) _
        unfold headW
        rw [w1, hsh]
        exact k.app e4
theorem one_take {r : Nat} {l : List Bool} {i b n : Nat} {d : PyData} (h9 : r ≤ 9) (h : rdOne r l i = some (d, b)) (hn : b ≤ n) : rdOne r (l.take n) i = some (d, b) := by
  obtain ⟨h1, h2⟩ := one_back h9 h
  obtain ⟨e, el⟩ := h2.split
  have hb := h2.1
  have : l.take n = l.take i ++ (instrW d ++ (l.drop b).take (n - b)) := by
    conv => lhs; rw [e]
    have hl := h2.2.1
    rw [List.take_append, List.take_of_length_le (show (l.take i).length ≤ n by rw [el]; omega), el, List.take_append, List.take_of_length_le (show (instrW d).length ≤ n - i by omega), show n - i - (instrW d).length = n - b by omega]
  rw [this]
  have := rd_one h9 h1 (l.take i) ((l.drop b).take (n - b))
  rw [el] at this
  rw [this, hb]
theorem all_back {r : Nat} {l : List Bool} (h9 : r ≤ 9) : ∀ (n a : Nat) (acc ps : List (Nat × PyData)) (e : Nat), a ≤ l.length → rdAll r l n a acc = (ps, e) →
    ∃ ds, ps = acc ++ offs a ds ∧ (∀ d ∈ ds, instrD r d = true) ∧ Bk l a (allW ds) e
  | 0, a, acc, ps, e, ha, h => by
    unfold rdAll at h
    injection h with h1 h2
    subst h1 h2
    exact ⟨[], by unfold offs; rw [List.append_nil], (fun d hd => nomatch hd), .nil ha⟩
  | n + 1, a, acc, ps, e, ha, h => by
    unfold rdAll at h
    cases q : rdOne r l a with
    | none =>
      rw [q] at h
      injection h with h1 h2
      subst h1 h2
      exact ⟨[], by unfold offs; rw [List.append_nil], (fun d hd => nomatch hd), .nil ha⟩
    | some x =>
      obtain ⟨d, b⟩ := x
      rw [q] at h
      dsimp only at h
      obtain ⟨k1, k2⟩ := one_back h9 q
      obtain ⟨ds, e1, e2, e3⟩ := all_back h9 n b (acc ++ [(a, d)]) ps e k2.2.1 h
      have hb := k2.1
      refine ⟨d :: ds, ?_, fun x hx => ?_, ?_⟩
      · rw [e1, List.append_assoc, hb]
        rfl
      · rcases List.mem_cons.mp hx with rfl | hx
        · exact k1
        · exact e2 x hx
      · have : allW (d :: ds) = instrW d ++ allW ds := by unfold allW; simp
        rw [this]
        exact k2.app e3
/-- what read_bits reads: instructions whose bits are the bits' beginning -/
theorem rdA_back {r : Nat} (h9 : r ≤ 9) (l : List Bool) : ∃ ds, (rdA r l).1 = offs 0 ds ∧ (∀ d ∈ ds, instrD r d = true) ∧ allW ds = l.take (rdA r l).2 ∧ (rdA r l).2 = (allW ds).length ∧ (rdA r l).2 ≤ l.length := by
  obtain ⟨ds, e1, e2, e3⟩ := all_back (r := r) (l := l) h9 (l.length + 1) 0 [] (rdA r l).1 (rdA r l).2 (Nat.zero_le _) rfl
  refine ⟨ds, by rw [e1, List.nil_append], e2, ?_, ?_, e3.2.1⟩
  · have := e3.2.2
    have h1 := e3.1
    rw [List.drop_zero] at this
    rw [h1, Nat.zero_add]
    exact this.symm
  · have h1 := e3.1
    omega
theorem rdA_take {r : Nat} (h9 : r ≤ 9) (l : List Bool) : rdA r (l.take (rdA r l).2) = ((rdA r l).1, (rdA r l).2) := by
  obtain ⟨ds, e1, e2, e3, e4, _⟩ := rdA_back h9 l
  rw [← e3, rdA_allW h9 e2, e1, e4]
theorem allW_five {r : Nat} : ∀ {ds : List PyData}, (∀ d ∈ ds, instrD r d = true) → 5 * ds.length ≤ (allW ds).length
  | [], _ => Nat.zero_le _
  | d :: ds, h => by
    have h1 := instrW_five (h d (List.mem_cons_self ..))
    have h2 := allW_five (ds := ds) fun x hx => h x (List.mem_cons_of_mem _ hx)
    have e1 : allW (d :: ds) = instrW d ++ allW ds := by unfold allW; simp
    rw [e1, List.length_append, List.length_cons]
    omega
/-! ## k84's law: its own reading of parts -/
theorem cutB (l : List Bool) (i m : Nat) : cutS (sT (bT l)) (some (i : Int)) (some ((i : Int) + (m : Int))) = sT (bT ((l.drop i).take m)) := by
  show cutS (sT (bT l)) (some (i : Int)) (some (((i + m : Nat)) : Int)) = _
  rw [cut_nat, show i + m - i = m by omega]
  unfold bT
  rw [List.map_take, List.map_drop]
theorem at_yes {l : List Bool} {i m : Nat} (h : i + m ≤ l.length) : at_ l i m = some (valB ((l.drop i).take m)) := by unfold at_; rw [if_pos h]
theorem at_no {l : List Bool} {i m : Nat} (h : ¬ i + m ≤ l.length) : at_ l i m = none := by unfold at_; rw [if_neg h]
theorem vl_lt (l : List Bool) (i m : Nat) : valB ((l.drop i).take m) < 2 ^ m := by
  have h := valB_lt' ((l.drop i).take m)
  exact Nat.lt_of_lt_of_le h (Nat.pow_le_pow_right (by decide) (List.length_take_le _ _))
def spLRd2 (g : Nat → List Bool → Nat → Option (PyData × Nat)) : Sp := fun vs H Q _ => ∃ (l : List Bool) (i : Nat), vs = [.str (sT (bT l)), .int (i : Int)] ∧ l.length ≤ 600 ∧ i ≤ l.length ∧ ∀ v H', Same H H' → ResD H H' v (g 0 l i) → Q v H'
section
variable {P : Program} {w : World} {K : PySem.W.Frag} {mg : Str → Option Value} {base : Heap}
theorem sc__law_register_at : FnScope ["_law_registers_here", "_law_bits_here", "_law_at", "_law_number"] ["_law_registers_here", "_law_bits_here", "_law_at"] (defScope s_law_register_at) := ⟨rfl, rfl, rfl, by decide +kernel, rfl, by decide +kernel, by decide +kernel⟩
theorem ok_lregat {CX : CXT} {e : Nat} {f : Addr} {fd : FuncData} (F : FnP K "_law_register_at" s_law_register_at f fd) (c__law_value : Cal P w K mg base 1 "_law_value" ["_law_bits_here"] spVal) (G : NkF K mg) : FnOk P w K mg base CX 2 f fd ["_law_registers_here", "_law_bits_here", "_law_at"] (spRd e regA) := by
  obtain ⟨f__law_value, fd__law_value, g__law_value, k__law_value, b__law_value, G__law_value⟩ := c__law_value
  refine F.ok sc__law_register_at (fun vs H Q E h => ?_) (fun cdv A outer s H vs Q E hr h => ?_)
  · obtain ⟨r, l, i, rfl, _⟩ := h
    rfl
  · obtain ⟨r, l, i, rfl, hl, hi, h9, k⟩ := h
    have nd := sc__law_register_at.nd
    apply Exists.intro
    apply And.intro
    case left =>
     apply PSs.nox
     apply pss_cons
     · exact (ps_set (i := 3) nd rfl (.inl rfl) (pe_call G__law_value (hr.mono (by decide)) rfl g__law_value k__law_value b__law_value .nil pass0 (pa_cons (pe_slice sl_str (pv 1) (po_some (pv 2)) (po_some (pe_op op_add (pv 2) pe_int))) pa_nil)))
     apply pss_one
     exact (ps_ret (pe_ifExp (PW.pt (pw_and (pt_cmpR op_le (pe_op op_add (pv 2) pe_int) (pe_callB call_len_str (by rfl) G.len PySem.boot_len (pa_cons (pv 1) pa_nil)) (nomark _)) (pw_and1 (pt_cmpR op_lt (pv 3) (pv 0) (nomark _))))) (pe_tup (pa_cons (pe_op op_add_str pe_str (pe_callTy call_str_int (by rfl) G.str (by decide +kernel) (pa_cons (pv 3) pa_nil))) (pa_cons (pe_op op_add (pv 2) pe_int) pa_nil))) pe_non))
    case right =>
      have sl : (sT (bT l)).length ≤ sizeLine := sl_of (by rw [sT_len, bT_len]; omega)
      refine ⟨_, rfl, _, rfl, _, rfl, _, rfl, _, _, rfl, rfl, _, rfl, _, rfl, sl, (l.drop i).take 4, by rw [← cutB]; rfl, by rw [List.length_take]; omega, ?_⟩
      refine ⟨_, rfl, _, _, rfl, rfl, _, rfl, _, rfl, sl, _, _, rfl, rfl, _, rfl, ?_⟩
      rw [sT_len, bT_len]
      have hv := vl_lt l i 4
      unfold regA at k
      by_cases c : i + 4 ≤ l.length
      · rw [at_yes c] at k
        rw [decide_eq_true (show (i : Int) + 4 ≤ (l.length : Int) by omega)]
        refine iteT ⟨_, rfl, _, rfl, _, _, rfl, rfl, _, rfl, ?_⟩
        generalize valB ((l.drop i).take 4) = n at k hv ⊢
        have k : ∀ v H', Same H H' → ResD H H' v (if n < r then some (.str (rT n), i + 4) else none) → Q v H' := k
        by_cases cn : n < r
        · rw [if_pos cn] at k
          rw [decide_eq_true (show (n : Int) < (r : Int) by omega)]
          have en : ("r" : Str) ++ (toString ((n : Nat) : Int) : Str) = rT n := by
            rw [cps_r, dec1 n (by omega), sT_ap]
            rfl
          refine iteT ⟨_, rfl, _, rfl, log_small (Nat.lt_of_lt_of_le (show n < 2 ^ 4 by omega) (Nat.pow_le_pow_right (by decide) (by decide))), _, _, rfl, rfl, ?_, _, rfl, _, _, rfl, rfl, (show 2 ≤ sizeLine by decide), fun p hp => k _ _ (same_new hp) ⟨p, _, rfl, upd_same, ?_⟩⟩
          · rw [cps_r, dec1 n (by omega), sT_len, sT_len]
            exact sl_of (show 2 ≤ 100000 by decide)
          · rw [en]
            exact .str _
        · rw [if_neg cn] at k
          rw [decide_eq_false (show ¬ (n : Int) < (r : Int) by omega)]
          exact iteF (k _ _ (Same.refl _) rfl)
      · rw [at_no c] at k
        rw [decide_eq_false (show ¬ (i : Int) + 4 ≤ (l.length : Int) by omega)]
        exact iteF (k _ _ (Same.refl _) rfl)
theorem sc__law_copied_at : FnScope ["_law_registers_here", "_law_bits_here", "_law_at", "_law_told"] ["_law_registers_here", "_law_bits_here", "_law_at"] (defScope s_law_copied_at) := ⟨rfl, rfl, rfl, by decide +kernel, rfl, by decide +kernel, by decide +kernel⟩
theorem ok_lcopat {CX : CXT} {f : Addr} {fd : FuncData} (F : FnP K "_law_copied_at" s_law_copied_at f fd) (c__law_register_at : Cal P w K mg base 2 "_law_register_at" ["_law_registers_here", "_law_bits_here", "_law_at"] (spRd 1 regA)) (c__law_read : Cal P w K mg base 2 "_law_read" ["_law_bits_here", "_law_at"] (spLRead rdI)) (G : NkF K mg) :
    FnOk P w K mg base CX 3 f fd ["_law_registers_here", "_law_bits_here", "_law_at"] (spRd 0 placeA) := by
  obtain ⟨f__law_register_at, fd__law_register_at, g__law_register_at, k__law_register_at, b__law_register_at, G__law_register_at⟩ := c__law_register_at
  obtain ⟨f__law_read, fd__law_read, g__law_read, k__law_read, b__law_read, G__law_read⟩ := c__law_read
  refine F.ok sc__law_copied_at (fun vs H Q E h => ?_) (fun cdv A outer s H vs Q E hr h => ?_)
  · obtain ⟨r, l, i, rfl, _⟩ := h
    rfl
  · obtain ⟨r, l, i, rfl, hl, hi, h9, k⟩ := h
    have nd := sc__law_copied_at.nd
    apply Exists.intro
    apply And.intro
    case left =>
     apply PSs.nox
     apply pss_cons
     · exact (ps_if (pt_cmpR op_ne (pe_slice sl_str (pv 1) (po_some (pv 2)) (po_some (pe_op op_add (pv 2) pe_int))) pe_str (nomark _)) (pss_one (ps_ret (pe_call G__law_register_at (hr.mono (by decide)) rfl g__law_register_at k__law_register_at b__law_register_at .nil pass0 (pa_cons (pv 0) (pa_cons (pv 1) (pa_cons (pe_op op_add (pv 2) pe_int) pa_nil)))))) pss_nil)
     apply pss_cons
     · exact (ps_set (i := 3) nd rfl (.inl rfl) (pe_call G__law_read (hr.mono (by decide)) rfl g__law_read k__law_read b__law_read .nil pass0 (pa_cons (pv 1) (pa_cons (pe_op op_add (pv 2) pe_int) pa_nil))))
     apply pss_one
     exact (ps_ret (pe_ifExp (PW.pt (pw_or (pt_cmpR op_isN (pv 3) pe_non (nomark _)) (pw_or1 (pt_cmpR op_gt (pe_ix ix_seq (pv 3) pe_int (fun _ _ => rfl)) pe_int (nomark _))))) pe_non (pe_tup (pa_cons (pe_op op_add_str pe_str (pe_callTy call_str_int (by rfl) G.str (by decide +kernel) (pa_cons (pe_ix ix_seq (pv 3) pe_int (fun _ _ => rfl)) pa_nil))) (pa_cons (pe_ix ix_seq (pv 3) pe_int (fun _ _ => rfl)) pa_nil)))))
    case right =>
      have sl : (sT (bT l)).length ≤ sizeLine := sl_of (by rw [sT_len, bT_len]; omega)
      refine ⟨_, rfl, _, rfl, _, rfl, _, rfl, _, _, rfl, rfl, _, rfl, _, rfl, sl, rfl, _, rfl, ?_⟩
      rw [cut1]
      unfold placeA at k
      by_cases c : (l.drop i).take 1 = [true]
      · rw [if_pos c] at k
        rw [decide_eq_true c]
        have hi1 : i + 1 ≤ l.length := (one_bk c).2.1
        refine iteF ⟨_, rfl, _, rfl, _, _, rfl, rfl, l, i + 1, rfl, hl, hi1, fun v H1 s1 hv => ?_⟩
        cases e : rdI l (i + 1) with
        | none =>
          rw [e] at hv k
          have hv : v = .non := hv
          subst hv
          refine ⟨_, rfl, rfl, _, rfl, ?_⟩
          rw [decide_eq_true rfl]
          exact iteT (iteT (k _ _ s1 rfl))
        | some x =>
          obtain ⟨n, b⟩ := x
          rw [e] at hv k
          obtain ⟨p, rfl, hp⟩ := hv
          have q0 : SqT K H1 p [V.int n, V.int (b : Int)] := SqT.of hp
          refine ⟨_, rfl, rfl, _, rfl, ?_⟩
          rw [decide_eq_false (fun z => by cases z)]
          refine iteF ⟨_, rfl, .inr (.inl ⟨_, _, _, _, rfl, rfl, q0, rfl, _, _, rfl, rfl, _, rfl, ?_⟩)⟩
          have k : ∀ v H', Same H H' → ResD H H' v (if 999 < n then none else some (.str (sTx n), b)) → Q v H' := k
          by_cases c2 : 999 < n
          · rw [if_pos c2] at k
            rw [decide_eq_true c2]
            exact iteT (k _ _ s1 rfl)
          · rw [if_neg c2] at k
            rw [decide_eq_false c2]
            have n0 : 0 ≤ n := by
              unfold rdI at e
              cases e2 : rd l (i + 1) with
              | none => rw [e2] at e; cases e
              | some x => rw [e2] at e; injection e with e; injection e with e1 e2; omega
            have ln : n.natAbs.log2 < 1920 := by
              have := log_small (n := n.toNat) (Nat.lt_of_lt_of_le (show n.toNat < 2 ^ 10 by omega) (Nat.pow_le_pow_right (by decide) (by decide)))
              rw [show ((n.toNat : Nat) : Int) = n by omega] at this
              exact this
            have lt : (toString n : Str).length ≤ 100 := by
              have := PyProof.Rows.toString_length_le n0 (show 0 < 4 by decide) (show n < 10 ^ 4 by omega)
              omega
            refine iteF ⟨_, rfl, .inr (.inl ⟨_, _, _, _, rfl, rfl, q0, rfl, _, rfl, ln, _, _, rfl, rfl, ?_, _, rfl, .inr (.inl ⟨_, _, _, _, rfl, rfl, q0, rfl, (show 2 ≤ sizeLine by decide), fun p2 hp2 => k _ _ (s1.trans (same_new hp2)) ⟨p2, _, rfl, upd_same, .str _⟩⟩)⟩)⟩
            rw [show ("s" : Str).length = 1 by decide +kernel]
            exact sl_of (by omega)
      · rw [if_neg c] at k
        rw [decide_eq_false c]
        refine iteT ⟨_, rfl, _, rfl, _, rfl, _, _, rfl, rfl, r, l, i + 1, rfl, hl, by omega, h9, k⟩
theorem sc__law_name_at : FnScope ["_law_bits_here", "_law_at", "_law_found", "_law_place", "_law_turn", "_law_code"] ["_law_bits_here", "_law_at"] (defScope s_law_name_at) := ⟨rfl, rfl, rfl, by decide +kernel, rfl, by decide +kernel, by decide +kernel⟩
theorem ok_lnameat {CX : CXT} {f : Addr} {fd : FuncData} (F : FnP K "_law_name_at" s_law_name_at f fd) (c__law_value : Cal P w K mg base 1 "_law_value" ["_law_bits_here"] spVal) (c__law_is_name : Cal P w K mg base 1 "_law_is_name" ["_law_thing"] (spTxO K nameB)) (G : NkF K mg) (rng : mg "range" = none) :
    FnOk P w K mg base CX 2 f fd ["_law_bits_here", "_law_at"] (spLRd2 nameA) := by
  obtain ⟨f__law_value, fd__law_value, g__law_value, k__law_value, b__law_value, G__law_value⟩ := c__law_value
  obtain ⟨f__law_is_name, fd__law_is_name, g__law_is_name, k__law_is_name, b__law_is_name, G__law_is_name⟩ := c__law_is_name
  refine F.ok sc__law_name_at (fun vs H Q E h => ?_) (fun cdv A outer s H vs Q E hr h => ?_)
  · obtain ⟨l, i, rfl, _⟩ := h
    rfl
  · obtain ⟨l, i, rfl, hl, hi, k⟩ := h
    have nd := sc__law_name_at.nd
    apply Exists.intro
    apply And.intro
    case left =>
     apply PSs.nox
     apply pss_cons
     · exact (ps_par (X := (cxOf CX P w K mg base ["_law_bits_here", "_law_at", "_law_found", "_law_place", "_law_turn", "_law_code"] "_law_name_at" (defScope s_law_name_at) f cdv A outer s H E).nox) (i := 2) (j := 3) rfl nd rfl rfl (by decide) rfl rfl (pa_cons pe_str (pa_cons (pv 1) pa_nil)) (by rfl))
     apply pss_cons
     · apply ps_for PassesOwn.never rfl
       · exact (pi_range1 (by rfl) rng (pa_cons pe_int pa_nil))
       · exact (pg_name (i := 4) nd rfl (Or.inl rfl))
       · apply pss_cons
         · exact (ps_set (i := 5) nd rfl (.inl rfl) (pe_call G__law_value (hr.mono (by decide)) rfl g__law_value k__law_value b__law_value .nil pass0 (pa_cons (pe_slice sl_str (pv 0) (po_some (pv 3)) (po_some (pe_op op_add (pv 3) pe_int))) pa_nil)))
         apply pss_cons
         · exact (ps_if (PW.pt (pw_or (pt_cmpR op_gt (pe_op op_add (pv 3) pe_int) (pe_callB call_len_str (by rfl) G.len PySem.boot_len (pa_cons (pv 0) pa_nil)) (nomark _)) (pw_or1 (pt_cmpR op_gt (pv 5) pe_int (nomark _))))) (pss_one (ps_ret pe_non)) pss_nil)
         apply pss_cons
         · exact (ps_set (i := 3) nd rfl (.inl rfl) (pe_op op_add (pv 3) pe_int))
         apply pss_cons
         · exact (ps_if (pt_cmpR op_eq (pv 5) pe_int (nomark _)) (pss_one (ps_ret (pe_ifExp (pt_val (pe_call G__law_is_name (hr.mono (by decide)) rfl g__law_is_name k__law_is_name b__law_is_name .nil pass0 (pa_cons (pv 2) pa_nil))) (pe_tup (pa_cons (pv 2) (pa_cons (pv 3) pa_nil))) pe_non))) pss_nil)
         apply pss_one
         exact (ps_set (i := 2) nd rfl (.inl rfl) (pe_op op_add_str (pv 2) (pe_ix ix_str pe_str (pe_op op_sub (pv 5) pe_int) (fun _ _ => rfl))))
     apply pss_one
     exact (ps_ret pe_non)
    case right =>
      have sl : (sT (bT l)).length ≤ sizeLine := sl_of (by rw [sT_len, bT_len]; omega)
      refine ⟨_, rfl, _, _, rfl, ?_⟩
      refine ⟨9, rfl, by decide, by decide, ?_⟩
      unfold nameA at k
      refine for_range (lo := 0) (n := 9) (fun j σ H' => ∃ (acc : List Nat) (b : Nat) (v4 v5 : Option V), σ = [some (.str (sT (bT l))), some (.int (i : Int)), some (.str (sT acc)), some (.int (b : Int)), v4, v5] ∧ H' = H ∧ acc.length = j ∧ (∀ c ∈ acc, 97 ≤ c ∧ c ≤ 122) ∧ nameG l i 9 [] = nameG l b (9 - j) acc) ⟨[], i, none, none, rfl, rfl, rfl, (fun _ h => nomatch h), rfl⟩ ?_ ?_
      · rintro j σ H' hj ⟨acc, b, v4, v5, rfl, rfl, el, hac, he⟩
        obtain ⟨m, hm⟩ : ∃ m, 9 - j = m + 1 := ⟨9 - j - 1, by omega⟩
        rw [hm] at he
        have he : nameG l i 9 [] = (match at_ l b 5 with
          | none => none
          | some c => if 26 < c then none else if c = 0 then (if nameB acc = true then some (.str (sT acc), b + 5) else none) else nameG l (b + 5) m (acc ++ [96 + c])) := he
        refine ⟨_, rfl, _, rfl, _, rfl, _, rfl, _, _, rfl, rfl, _, rfl, _, rfl, sl, (l.drop b).take 5, by rw [← cutB]; rfl, by rw [List.length_take]; omega, ?_⟩
        refine ⟨_, rfl, _, _, rfl, rfl, _, rfl, _, rfl, sl, _, _, rfl, rfl, _, rfl, ?_⟩
        rw [sT_len, bT_len]
        have hv := vl_lt l b 5
        by_cases c : b + 5 ≤ l.length
        · rw [at_yes c] at he
          rw [decide_eq_false (show ¬ (l.length : Int) < (b : Int) + 5 by omega)]
          refine iteF ⟨_, rfl, _, _, rfl, rfl, _, rfl, ?_⟩
          generalize valB ((l.drop b).take 5) = n at he hv ⊢
          have he : nameG l i 9 [] = (if 26 < n then none else if n = 0 then (if nameB acc = true then some (.str (sT acc), b + 5) else none) else nameG l (b + 5) m (acc ++ [96 + n])) := he
          by_cases c26 : 26 < n
          · rw [if_pos c26] at he
            rw [decide_eq_true (show (26 : Int) < (n : Int) by omega)]
            exact iteT (k _ _ (Same.refl _) (by rw [he]; rfl))
          · rw [if_neg c26] at he
            rw [decide_eq_false (show ¬ (26 : Int) < (n : Int) by omega)]
            refine iteF ⟨_, rfl, _, _, rfl, rfl, _, rfl, rfl, _, rfl, ?_⟩
            by_cases c0 : n = 0
            · subst c0
              rw [if_pos rfl] at he
              rw [decide_eq_true (show V.int ((0 : Nat) : Int) = V.int 0 from rfl)]
              refine iteT ⟨_, rfl, _, rfl, .inl ⟨acc, rfl, ⟨by omega, fun c hc => by have := hac c hc; omega⟩, fun H2 s2 => ⟨_, rfl, ?_⟩⟩⟩
              cases hn : nameB acc with
              | true =>
                rw [hn, if_pos rfl] at he
                refine iteT ⟨_, rfl, _, rfl, (show 2 ≤ sizeLine by decide), fun p hp => k _ _ (s2.trans (same_new hp)) ?_⟩
                rw [he]
                exact ⟨p, _, rfl, upd_same, .str _⟩
              | false =>
                rw [hn] at he
                exact iteF (k _ _ s2 (by rw [he]; rfl))
            · rw [if_neg c0] at he
              rw [decide_eq_false (show ¬ V.int (n : Int) = V.int 0 from fun z => c0 (by injection z with z; omega))]
              have at0 : atI ("abcdefghijklmnopqrstuvwxyz" : Str).cps.toList ((n : Int) - 1) = some (96 + n : Nat) := letter_at n (by omega) (by omega)
              refine iteF ⟨_, rfl, _, rfl, _, _, rfl, rfl, _, _, _, rfl, rfl, (by decide), at0, ?_⟩
              refine ⟨_, _, rfl, rfl, ?_, ?_⟩
              · rw [sT_len, show ({ cps := #[96 + n] } : Str).length = 1 from rfl]
                exact sl_of (by omega)
              · refine ⟨acc ++ [96 + n], b + 5, some (.int (0 + (j : Int))), some (.int (n : Int)), ?_, rfl, by rw [List.length_append, el]; rfl, fun c hc => ?_, by rw [he, show 9 - (j + 1) = m by omega]⟩
                · rw [← sT_ap]
                  rfl
                · rcases List.mem_append.mp hc with hc | hc
                  · exact hac c hc
                  · rw [List.mem_singleton] at hc
                    omega
        · rw [at_no c] at he
          rw [decide_eq_true (show (l.length : Int) < (b : Int) + 5 by omega)]
          exact iteT (iteT (k _ _ (Same.refl _) (by rw [he]; rfl)))
      · rintro σ H' ⟨acc, b, v4, v5, rfl, rfl, el, hac, he⟩
        exact k _ _ (Same.refl _) (by rw [he]; rfl)
theorem sc__law_some_at : FnScope ["_law_registers_here", "_law_bits_here", "_law_at", "_law_found", "_law_place", "_law_turn", "_law_told"] ["_law_registers_here", "_law_bits_here", "_law_at"] (defScope s_law_some_at) := ⟨rfl, rfl, rfl, by decide +kernel, rfl, by decide +kernel, by decide +kernel⟩
theorem ok_lsomeat {CX : CXT} {f : Addr} {fd : FuncData} (F : FnP K "_law_some_at" s_law_some_at f fd) (c__law_value : Cal P w K mg base 1 "_law_value" ["_law_bits_here"] spVal) (c__law_register_at : Cal P w K mg base 2 "_law_register_at" ["_law_registers_here", "_law_bits_here", "_law_at"] (spRd 1 regA)) (G : NkF K mg) (rng : mg "range" = none) (tup : mg "tuple" = none) :
    FnOk P w K mg base CX 3 f fd ["_law_registers_here", "_law_bits_here", "_law_at"] (spRd 0 partsA) := by
  obtain ⟨f__law_value, fd__law_value, g__law_value, k__law_value, b__law_value, G__law_value⟩ := c__law_value
  obtain ⟨f__law_register_at, fd__law_register_at, g__law_register_at, k__law_register_at, b__law_register_at, G__law_register_at⟩ := c__law_register_at
  refine F.ok sc__law_some_at (fun vs H Q E h => ?_) (fun cdv A outer s H vs Q E hr h => ?_)
  · obtain ⟨r, l, i, rfl, _⟩ := h
    rfl
  · obtain ⟨r, l, i, rfl, hl, hi, h9, k⟩ := h
    have nd := sc__law_some_at.nd
    apply Exists.intro
    apply And.intro
    case left =>
     apply PSs.nox
     apply pss_cons
     · exact (ps_if (pt_cmpR op_gt (pe_op op_add (pv 2) pe_int) (pe_callB call_len_str (by rfl) G.len PySem.boot_len (pa_cons (pv 1) pa_nil)) (nomark _)) (pss_one (ps_ret pe_non)) pss_nil)
     apply pss_cons
     · exact (ps_par (X := (cxOf CX P w K mg base ["_law_registers_here", "_law_bits_here", "_law_at", "_law_found", "_law_place", "_law_turn", "_law_told"] "_law_some_at" (defScope s_law_some_at) f cdv A outer s H E).nox) (i := 3) (j := 4) rfl nd rfl rfl (by decide) rfl rfl (pa_cons (pe_lst pa_nil) (pa_cons (pe_op op_add (pv 2) pe_int) pa_nil)) (by rfl))
     apply pss_cons
     · apply ps_for PassesOwn.never rfl
       · exact (pi_range1 (by rfl) rng (pa_cons (pe_call G__law_value (hr.mono (by decide)) rfl g__law_value k__law_value b__law_value .nil pass0 (pa_cons (pe_slice sl_str (pv 1) (po_some (pv 2)) (po_some (pe_op op_add (pv 2) pe_int))) pa_nil)) pa_nil))
       · exact (pg_name (i := 5) nd rfl (Or.inl rfl))
       · apply pss_cons
         · exact (ps_set (i := 6) nd rfl (.inl rfl) (pe_call G__law_register_at (hr.mono (by decide)) rfl g__law_register_at k__law_register_at b__law_register_at .nil pass0 (pa_cons (pv 0) (pa_cons (pv 1) (pa_cons (pv 4) pa_nil)))))
         apply pss_cons
         · exact (ps_if (pt_cmpR op_isN (pv 6) pe_non (nomark _)) (pss_one (ps_ret pe_non)) pss_nil)
         apply pss_cons
         · exact (ps_expr (pe_bm PySem.F.plainAttrs_list PySem.F.slot_list_append PySem.F.type_list_append mt_append (pv 3) (pa_cons (pe_ix ix_seq (pv 6) pe_int (fun _ _ => rfl)) pa_nil)))
         apply pss_one
         exact (ps_set (i := 4) nd rfl (.inl rfl) (pe_ix ix_seq (pv 6) pe_int (fun _ _ => rfl)))
     apply pss_one
     exact (ps_ret (pe_tup (pa_cons (pe_callTy call_tuple_of (by rfl) tup (by decide +kernel) (pa_cons (pv 3) pa_nil)) (pa_cons (pv 4) pa_nil))))
    case right =>
      have sl : (sT (bT l)).length ≤ sizeLine := sl_of (by rw [sT_len, bT_len]; omega)
      refine ⟨_, rfl, _, _, rfl, rfl, _, rfl, _, rfl, sl, _, _, rfl, rfl, _, rfl, ?_⟩
      rw [sT_len, bT_len]
      unfold partsA at k
      by_cases c : i + 2 ≤ l.length
      · rw [at_yes c] at k
        have hv := vl_lt l i 2
        rw [decide_eq_false (show ¬ (l.length : Int) < (i : Int) + 2 by omega)]
        refine iteF ⟨(show 0 ≤ sizeLine by decide), fun D hD => ⟨_, rfl, _, _, rfl, rfl, _, _, rfl, ?_⟩⟩
        refine ⟨_, rfl, _, rfl, _, rfl, _, rfl, _, _, rfl, rfl, _, rfl, _, rfl, sl, (l.drop i).take 2, by rw [← cutB]; rfl, by rw [List.length_take]; omega, ?_⟩
        generalize valB ((l.drop i).take 2) = n at k hv ⊢
        have k : ∀ v H', Same H H' → ResD H H' v (regsA r l (i + 2) n []) → Q v H' := k
        refine ⟨(n : Int), rfl, by omega, by omega, ?_⟩
        refine for_range (lo := 0) (n := (n : Int).toNat) (fun j σ H' => ∃ (ts : List Str) (b : Nat) (v5 v6 : Option V), σ = [some (.int (r : Int)), some (.str (sT (bT l))), some (.int (i : Int)), some (.ref D), some (.int (b : Int)), v5, v6] ∧ Same H H' ∧ H' D = some (.lst (ts.map V.str)) ∧ ts.length = j ∧ b ≤ l.length ∧ regsA r l (i + 2) n [] = regsA r l b (n - j) (ts.map PyData.str)) ⟨[], i + 2, none, none, rfl, same_new hD, upd_same, rfl, c, rfl⟩ ?_ ?_
        · rintro j σ H' hj ⟨ts, b, v5, v6, rfl, sj, eD, el, hb, he⟩
          obtain ⟨m, hm⟩ : ∃ m, n - j = m + 1 := ⟨n - j - 1, by omega⟩
          rw [hm] at he
          refine ⟨_, rfl, _, rfl, _, rfl, r, l, b, rfl, hl, by omega, h9, fun v H2 s2 hv => ?_⟩
          cases e : regA r l b with
          | none =>
            rw [e] at hv
            have hv : v = .non := hv
            subst hv
            refine ⟨_, rfl, rfl, _, rfl, ?_⟩
            rw [decide_eq_true rfl]
            exact iteT (k _ _ (sj.trans s2) (by rw [he]; unfold regsA; rw [e]; rfl))
          | some x =>
            obtain ⟨dd, b2⟩ := x
            rw [e] at hv
            obtain ⟨⟨n1, rfl, hn1⟩, hb2⟩ := regA_str e
            obtain ⟨p, x, rfl, hp, hx⟩ := hv
            cases hx
            have q0 : SqT K H2 p [V.str (rT n1), V.int (b2 : Int)] := SqT.of hp
            refine ⟨_, rfl, rfl, _, rfl, ?_⟩
            rw [decide_eq_false (fun z => by cases z)]
            have e2 : H2 D = some (.lst (ts.map V.str)) := s2 _ _ eD
            refine iteF ⟨_, rfl, .inl ⟨rfl, _, SqL.of e2⟩, _, rfl, .inr (.inl ⟨_, _, _, _, rfl, rfl, q0, rfl, D, _, _, rfl, rfl, e2, ?_, ?_⟩)⟩
            · rw [List.length_map]
              exact Nat.lt_of_lt_of_le (show ts.length < 1000 by omega) (by decide)
            · have npD : p ≠ D := fun z => by rw [z, e2] at hp; cases hp
              refine ⟨_, rfl, .inr (.inl ⟨p, _, _, _, rfl, rfl, SqT.of (by rw [upd_ne npD]; exact hp), rfl, ts ++ [rT n1], b2, _, _, rfl, same_sub (sj.trans s2) hD, ?_, ?_, hb2, ?_⟩)⟩
              · rw [upd_same, List.map_append]
                rfl
              · rw [List.length_append, el]
                rfl
              · rw [he, show n - (j + 1) = m by omega, List.map_append]
                show (match regA r l b with | none => none | some (d, b) => regsA r l b m (ts.map PyData.str ++ [d])) = _
                rw [e]
                rfl
        · rintro σ H' ⟨ts, b, v5, v6, rfl, sj, eD, el, hb, he⟩
          rw [show n - (n : Int).toNat = 0 by omega] at he
          refine ⟨_, rfl, D, _, rfl, .inl ⟨SqL.of eD, fun T hT => ⟨_, rfl, (show 2 ≤ sizeLine by decide), fun v hv => k _ _ ((sj.trans (same_new hT)).trans (same_new hv)) ?_⟩⟩⟩
          rw [he]
          have allS : ∀ (G : Addr → Prop) (H : Hp) (ts : List Str), DtA G H (ts.map V.str) (ts.map PyData.str) := fun G H ts => by
            induction ts with
            | nil => exact .nil
            | cons z ts ih => exact .cons (.str z) ih
          exact ⟨v, _, rfl, upd_same, .tup (sj.free hT) ((same_new hv) _ _ upd_same) (allS _ _ _)⟩
      · rw [at_no c] at k
        rw [decide_eq_true (show (l.length : Int) < (i : Int) + 2 by omega)]
        exact iteT (k _ _ (Same.refl _) rfl)
theorem sc__law_leap_at : FnScope ["_law_bits_here", "_law_at", "_law_many", "_law_word", "_law_number", "_law_half"] ["_law_bits_here", "_law_at"] (defScope s_law_leap_at) := ⟨rfl, rfl, rfl, by decide +kernel, rfl, by decide +kernel, by decide +kernel⟩
theorem ok_lleapat {CX : CXT} {f : Addr} {fd : FuncData} (F : FnP K "_law_leap_at" s_law_leap_at f fd) (c__law_value : Cal P w K mg base 1 "_law_value" ["_law_bits_here"] spVal) (G : NkF K mg) : FnOk P w K mg base CX 2 f fd ["_law_bits_here", "_law_at"] (spLRd2 leapA) := by
  obtain ⟨f__law_value, fd__law_value, g__law_value, k__law_value, b__law_value, G__law_value⟩ := c__law_value
  refine F.ok sc__law_leap_at (fun vs H Q E h => ?_) (fun cdv A outer s H vs Q E hr h => ?_)
  · obtain ⟨l, i, rfl, _⟩ := h
    rfl
  · obtain ⟨l, i, rfl, hl, hi, k⟩ := h
    have nd := sc__law_leap_at.nd
    apply Exists.intro
    apply And.intro
    case left =>
     apply PSs.nox
     apply C8.pss_cut
     · exact (ps_asg (pe_ifExp (pt_cmpR op_eq (pe_slice sl_str (pv 0) (po_some (pv 1)) (po_some (pe_op op_add (pv 1) pe_int))) pe_str (nomark _)) (pe_tup (pa_cons pe_int (pa_cons pe_str pa_nil))) (pe_tup (pa_cons pe_int (pa_cons pe_str pa_nil)))) (pg_tup rfl (pgs_cons (pg_name (i := 2) nd rfl (Or.inl rfl)) (pgs_cons (pg_name (i := 3) nd rfl (Or.inl rfl)) pgs_nil))))
     apply pss_cons
     · exact (ps_if (pt_cmpR op_gt (pe_op op_add (pe_op op_add (pv 1) pe_int) (pv 2)) (pe_callB call_len_str (by rfl) G.len PySem.boot_len (pa_cons (pv 0) pa_nil)) (nomark _)) (pss_one (ps_ret pe_non)) pss_nil)
     apply C8.pss_cut
     · exact (ps_par (X := (cxOf CX P w K mg base ["_law_bits_here", "_law_at", "_law_many", "_law_word", "_law_number", "_law_half"] "_law_leap_at" (defScope s_law_leap_at) f cdv A outer s H E).nox) (i := 4) (j := 5) rfl nd rfl rfl (by decide) rfl rfl (pa_cons (pe_call G__law_value (hr.mono (by decide)) rfl g__law_value k__law_value b__law_value .nil pass0 (pa_cons (pe_slice sl_str (pv 0) (po_some (pe_op op_add (pv 1) pe_int)) (po_some (pe_op op_add (pe_op op_add (pv 1) pe_int) (pv 2)))) pa_nil)) (pa_cons (pe_ifExp (pt_cmpR op_eq (pv 3) pe_str (nomark _)) pe_int pe_int) pa_nil)) (by rfl))
     apply pss_one
     exact (ps_ret (pe_tup (pa_cons (pe_tup (pa_cons (pv 3) (pa_cons (pe_ifExp (pt_cmpR op_lt (pv 4) (pv 5) (nomark _)) (pv 4) (pe_op op_sub (pv 4) (pe_op op_mul pe_int (pv 5)))) pa_nil))) (pa_cons (pe_op op_add (pe_op op_add (pv 1) pe_int) (pv 2)) pa_nil))))
    case right =>
      have sl : (sT (bT l)).length ≤ sizeLine := sl_of (by rw [sT_len, bT_len]; omega)
      refine ⟨fun σ H' => Same H H' ∧ ∃ (wd : Str) (m hf : Nat), σ = [some (.str (sT (bT l))), some (.int (i : Int)), some (.int (m : Int)), some (.str wd), none, none] ∧ m ≤ 32 ∧ hf = (if wd = "short" then 128 else 2147483648) ∧ leapA 0 l i = (match at_ l (i + 1) m with | none => none | some n => some (.tuple [.str wd, .int (leapNum n hf)], i + 1 + m)), ?_, ?_⟩
      · refine ⟨_, rfl, _, rfl, _, rfl, _, rfl, _, _, rfl, rfl, _, rfl, _, rfl, sl, rfl, _, rfl, ?_⟩
        rw [cut1]
        refine ite2 (fun c => ?_) (fun c => ?_)
        · have c := of_decide_eq_true c
          refine ⟨(show 2 ≤ sizeLine by decide), fun q hq => ⟨q, _, rfl, SqT.of upd_same, rfl, _, _, rfl, _, _, rfl, rfl, same_new hq, "long", 32, 2147483648, rfl, Nat.le_refl _, by rw [if_neg (by decide +kernel)], ?_⟩⟩
          unfold leapA
          rw [if_pos c]
          all_goals (cases at_ l (i + 1) 32 <;> rfl)
        · have c : ¬ (l.drop i).take 1 = [true] := fun z => c (decide_eq_true z)
          refine ⟨(show 2 ≤ sizeLine by decide), fun q hq => ⟨q, _, rfl, SqT.of upd_same, rfl, _, _, rfl, _, _, rfl, rfl, same_new hq, "short", 8, 128, rfl, by decide, by rw [if_pos rfl], ?_⟩⟩
          unfold leapA
          rw [if_neg c]
          all_goals (cases at_ l (i + 1) 8 <;> rfl)
      · rintro σ H1 ⟨s1, wd, m, hf, rfl, hm, hhf, he⟩
        refine ⟨_, rfl, _, _, rfl, rfl, _, rfl, _, _, rfl, rfl, _, rfl, _, rfl, sl, _, _, rfl, rfl, _, rfl, ?_⟩
        rw [sT_len, bT_len]
        rw [he] at k
        by_cases c : i + 1 + m ≤ l.length
        · rw [at_yes c] at k
          rw [decide_eq_false (show ¬ (l.length : Int) < (i : Int) + 1 + (m : Int) by omega)]
          have ec : [V.str (cutS (sT (bT l)) (some ((i : Int) + 1)) (some ((i : Int) + 1 + (m : Int))))] = [V.str (sT (bT ((l.drop (i + 1)).take m)))] := by rw [← cutB]; rfl
          refine iteF ?_
          generalize hn : valB ((l.drop (i + 1)).take m) = n at k
          have k : ∀ v H', Same H H' → ResD H H' v (some (.tuple [.str wd, .int (leapNum n hf)], i + 1 + m)) → Q v H' := k
          refine ⟨fun σ H' => H' = H1 ∧ σ = [some (.str (sT (bT l))), some (.int (i : Int)), some (.int (m : Int)), some (.str wd), some (.int (n : Int)), some (.int (hf : Int))], ?_, ?_⟩
          · refine ⟨_, rfl, _, rfl, _, _, rfl, rfl, _, rfl, _, rfl, _, _, rfl, rfl, _, rfl, _, _, rfl, rfl, _, rfl, _, rfl, sl, (l.drop (i + 1)).take m, ec, by rw [List.length_take]; omega, ?_⟩
            rw [hn]
            refine ⟨_, rfl, rfl, _, rfl, ?_⟩
            by_cases hw : wd = "short"
            · rw [if_pos hw] at hhf
              rw [decide_eq_true (congrArg V.str hw)]
              subst hhf
              exact iteT ⟨_, _, rfl, rfl, rfl⟩
            · rw [if_neg hw] at hhf
              rw [decide_eq_false (fun z => hw (by injection z))]
              subst hhf
              exact iteF ⟨_, _, rfl, rfl, rfl⟩
          · rintro σ H2 ⟨rfl, rfl⟩
            have hf3 : hf ≤ 2147483648 := by rw [hhf]; split <;> decide
            have el : V.int (leapNum n hf) = (if n < hf then V.int (n : Int) else V.int ((n : Int) - 2 * (hf : Int))) := by
              unfold leapNum
              split <;> rfl
            refine ⟨_, rfl, _, rfl, _, rfl, _, _, rfl, rfl, _, rfl, ?_⟩
            by_cases cn : n < hf
            · rw [decide_eq_true (show (n : Int) < (hf : Int) by omega)]
              rw [if_pos cn] at el
              refine iteT ⟨_, rfl, (show 2 ≤ sizeLine by decide), fun p hp => ⟨_, rfl, _, _, rfl, rfl, _, rfl, _, _, rfl, rfl, (show 2 ≤ sizeLine by decide), fun q hq => k _ _ (s1.trans ((same_new hp).trans (same_new hq))) ⟨q, _, rfl, upd_same, .tup (s1.free hp) ((same_new hq) _ _ upd_same) (.cons (.str _) (.cons ?_ .nil))⟩⟩⟩
              rw [← el]
              exact .int _
            · rw [decide_eq_false (show ¬ (n : Int) < (hf : Int) by omega)]
              rw [if_neg cn] at el
              refine iteF ⟨_, rfl, _, rfl, _, _, rfl, rfl, .inl ⟨by decide, by decide⟩, _, _, rfl, rfl, (show 2 ≤ sizeLine by decide), fun p hp => ⟨_, rfl, _, _, rfl, rfl, _, rfl, _, _, rfl, rfl, (show 2 ≤ sizeLine by decide), fun q hq => k _ _ (s1.trans ((same_new hp).trans (same_new hq))) ⟨q, _, rfl, upd_same, .tup (s1.free hp) ((same_new hq) _ _ upd_same) (.cons (.str _) (.cons ?_ .nil))⟩⟩⟩
              show Dt _ _ (V.int ((n : Int) - 2 * (hf : Int))) _
              rw [← el]
              exact .int _
        · rw [at_no c] at k
          rw [decide_eq_true (show (l.length : Int) < (i : Int) + 1 + (m : Int) by omega)]
          exact iteT (k _ _ s1 rfl)
end
/-! ## k84's law: parts and instructions read -/
theorem resv_num {H H' : Hp} {v : V} {r : Nat} {l : List Bool} {i : Nat} (hv : ResV H' v (rdS l i)) : ResD H H' v (numA r l i) := by
  unfold numA
  cases q : rdS l i with
  | none =>
    rw [q] at hv
    exact hv
  | some z =>
    obtain ⟨a, b⟩ := z
    rw [q] at hv
    obtain ⟨p, e, hp⟩ := hv
    exact ⟨p, _, e, hp, .int a⟩
def spLPA : Sp := fun vs H Q _ => ∃ (c r : Nat) (l : List Bool) (i : Nat), vs = [.str (sT [c]), .int (r : Int), .str (sT (bT l)), .int (i : Int)] ∧ (c = 114 ∨ c = 110 ∨ c = 99 ∨ c = 119 ∨ c = 107 ∨ c = 108 ∨ c = 106) ∧ l.length ≤ 600 ∧ i ≤ l.length ∧ r ≤ 9 ∧ ∀ v H', Same H H' → ResD H H' v (readA c r l i) → Q v H'
/-- the words whose five bits are told -/
theorem hit_words : ∀ n < 26, keysK.filter (fun z => decide (digs (wordsL.idxOf z) 5 = digs n 5)) = [wordsL.getD n ""] := by decide +kernel
def hits (ys : List Str) (u : List Bool) : List Str := ys.filter fun z => decide (digs (wordsL.idxOf z) 5 = u)
theorem hits_one {ys : List Str} (hp : ys.Perm keysK) {n : Nat} (h : n < 26) : hits ys (digs n 5) = [wordsL.getD n ""] := by
  have := hp.filter fun z => decide (digs (wordsL.idxOf z) 5 = digs n 5)
  rw [hit_words n h] at this
  exact List.perm_singleton.mp this
theorem hits_none {ys : List Str} (hp : ys.Perm keysK) {u : List Bool} (h : ∀ n < 26, digs n 5 ≠ u) : hits ys u = [] := by
  refine List.filter_eq_nil_iff.mpr fun z hz => ?_
  have hw := keysK_wd z (hp.mem_iff.mp hz)
  rw [decide_eq_false (h _ (word_idx hw).1)]
  decide
theorem hits_snoc (ys : List Str) (u : List Bool) (z : Str) : hits (ys ++ [z]) u = hits ys u ++ (if digs (wordsL.idxOf z) 5 = u then [z] else []) := by
  unfold hits
  rw [List.filter_append]
  by_cases c : digs (wordsL.idxOf z) 5 = u
  · rw [if_pos c, List.filter_cons, decide_eq_true c]
    rfl
  · rw [if_neg c, List.filter_cons, decide_eq_false c]
    rfl
theorem bT_inj : ∀ {a b : List Bool}, bT a = bT b → a = b
  | [], [], _ => rfl
  | [], _ :: _, h => by cases h
  | _ :: _, [], h => by cases h
  | x :: a, y :: b, h => by
    have h : bit x :: bT a = bit y :: bT b := h
    injection h with h1 h2
    rw [bT_inj h2]
    cases x <;> cases y <;> first | rfl | cases h1
theorem hit_or {ys : List Str} (hp : ys.Perm keysK) (r : Nat) (l : List Bool) (i : Nat) : (hits ys ((l.drop i).take 5) = [] ∧ rdOne r l i = none) ∨
    ∃ n < 26, at_ l i 5 = some n ∧ hits ys ((l.drop i).take 5) = [wordsL.getD n ""] := by
  by_cases c : i + 5 ≤ l.length
  · have e := at_yes c
    obtain ⟨⟨_, _, hb⟩, hn⟩ := at_bk e
    rw [digs_len] at hb
    generalize valB ((l.drop i).take 5) = n at e hb hn
    rw [hb]
    by_cases h : n < 26
    · exact .inr ⟨n, h, e, hits_one hp h⟩
    · refine .inl ⟨hits_none hp fun m hm z => ?_, ?_⟩
      · have h1 := valB_digs 5 m (by omega)
        have h2 := valB_digs 5 n hn
        rw [z, h2] at h1
        omega
      · unfold rdOne
        rw [e]
        show (if 26 ≤ n then none else _) = none
        rw [if_pos (by omega)]
  · refine .inl ⟨hits_none hp fun m _ z => ?_, by unfold rdOne; rw [at_no c]⟩
    have := congrArg List.length z
    rw [digs_len, List.length_take, List.length_drop] at this
    omega
theorem eqv_strs0 : ∀ ws : List Str, PyData.eqv (.list (ws.map PyData.str)) (.list []) = ws.isEmpty
  | [] => rfl
  | w :: ws => rfl
theorem dp_strs {K : PySem.W.Frag} {H : Hp} : ∀ ws : List Str, DpAll K H (ws.map V.str) (ws.map PyData.str)
  | [] => .nil
  | w :: ws => .cons (.str w) (dp_strs ws)
theorem place_head {r : Nat} {l : List Bool} {i b : Nat} {d : PyData} (h9 : r ≤ 9) (h : placeA r l i = some (d, b)) : ∃ c fs, d = .str (sT (c :: fs)) ∧ fs.length ≤ 10 ∧ decide (c = 115) = strD slotB d := by
  obtain ⟨h1, _⟩ := place_bk h9 h
  rcases Bool.or_eq_true_iff.mp h1 with h | h
  · obtain ⟨z, rfl, hz⟩ := strD_some h
    obtain ⟨n, _, hn, rfl, _⟩ := reg_form hz
    refine ⟨114, [48 + n], rfl, by simp, ?_⟩
    show _ = slotB (rT n).cps.toList
    rw [(reg_back n hn).2.2]
    rfl
  · obtain ⟨z, rfl, hz⟩ := strD_some h
    have hs : sortP z.cps.toList = some 115 := of_decide_eq_true hz
    obtain ⟨fs, et, _, _, l4, _, _⟩ := sort_some hs
    refine ⟨115, fs, ?_, by omega, ?_⟩
    · rw [← et, sT_of]
    · rw [h]
      rfl
section
variable {P : Program} {w : World} {K : PySem.W.Frag} {mg : Str → Option Value} {base : Heap}
theorem sc__law_part_at : FnScope ["_law_letter", "_law_registers_here", "_law_bits_here", "_law_at", "_law_number"] ["_law_letter", "_law_registers_here", "_law_bits_here", "_law_at"] (defScope s_law_part_at) := ⟨rfl, rfl, rfl, by decide +kernel, rfl, by decide +kernel, by decide +kernel⟩
theorem ok_lpartat {CX : CXT} {f : Addr} {fd : FuncData} (F : FnP K "_law_part_at" s_law_part_at f fd) (c__law_register_at : Cal P w K mg base 2 "_law_register_at" ["_law_registers_here", "_law_bits_here", "_law_at"] (spRd 1 regA)) (c__law_copied_at : Cal P w K mg base 3 "_law_copied_at" ["_law_registers_here", "_law_bits_here", "_law_at"] (spRd 0 placeA))
    (c__law_signed_at : Cal P w K mg base 3 "_law_signed_at" ["_law_bits_here", "_law_at"] (spLRead rdS)) (c__law_name_at : Cal P w K mg base 2 "_law_name_at" ["_law_bits_here", "_law_at"] (spLRd2 nameA)) (c__law_some_at : Cal P w K mg base 3 "_law_some_at" ["_law_registers_here", "_law_bits_here", "_law_at"] (spRd 0 partsA))
    (c__law_leap_at : Cal P w K mg base 2 "_law_leap_at" ["_law_bits_here", "_law_at"] (spLRd2 leapA)) (c__law_value : Cal P w K mg base 1 "_law_value" ["_law_bits_here"] spVal) (G : NkF K mg) : FnOk P w K mg base CX 4 f fd ["_law_letter", "_law_registers_here", "_law_bits_here", "_law_at"] spLPA := by
  obtain ⟨f__law_register_at, fd__law_register_at, g__law_register_at, k__law_register_at, b__law_register_at, G__law_register_at⟩ := c__law_register_at
  obtain ⟨f__law_copied_at, fd__law_copied_at, g__law_copied_at, k__law_copied_at, b__law_copied_at, G__law_copied_at⟩ := c__law_copied_at
  obtain ⟨f__law_signed_at, fd__law_signed_at, g__law_signed_at, k__law_signed_at, b__law_signed_at, G__law_signed_at⟩ := c__law_signed_at
  obtain ⟨f__law_name_at, fd__law_name_at, g__law_name_at, k__law_name_at, b__law_name_at, G__law_name_at⟩ := c__law_name_at
  obtain ⟨f__law_some_at, fd__law_some_at, g__law_some_at, k__law_some_at, b__law_some_at, G__law_some_at⟩ := c__law_some_at
  obtain ⟨f__law_leap_at, fd__law_leap_at, g__law_leap_at, k__law_leap_at, b__law_leap_at, G__law_leap_at⟩ := c__law_leap_at
  obtain ⟨f__law_value, fd__law_value, g__law_value, k__law_value, b__law_value, G__law_value⟩ := c__law_value
  refine F.ok sc__law_part_at (fun vs H Q E h => ?_) (fun cdv A outer s H vs Q E hr h => ?_)
  · obtain ⟨c, r, l, i, rfl, _⟩ := h
    rfl
  · obtain ⟨c, r, l, i, rfl, hc, hl, hi, h9, k⟩ := h
    have nd := sc__law_part_at.nd
    apply Exists.intro
    apply And.intro
    case left =>
     apply PSs.nox
     apply pss_cons
     · exact (ps_if (pt_cmpR op_eq (pv 0) pe_str (nomark _)) (pss_one (ps_ret (pe_call G__law_register_at (hr.mono (by decide)) rfl g__law_register_at k__law_register_at b__law_register_at .nil pass0 (pa_cons (pv 1) (pa_cons (pv 2) (pa_cons (pv 3) pa_nil)))))) pss_nil)
     apply pss_cons
     · exact (ps_if (pt_cmpR op_eq (pv 0) pe_str (nomark _)) (pss_one (ps_ret (pe_call G__law_copied_at (hr.mono (by decide)) rfl g__law_copied_at k__law_copied_at b__law_copied_at .nil pass0 (pa_cons (pv 1) (pa_cons (pv 2) (pa_cons (pv 3) pa_nil)))))) pss_nil)
     apply pss_cons
     · exact (ps_if (pt_cmpR op_eq (pv 0) pe_str (nomark _)) (pss_one (ps_ret (pe_call G__law_signed_at (hr.mono (by decide)) rfl g__law_signed_at k__law_signed_at b__law_signed_at .nil pass0 (pa_cons (pv 2) (pa_cons (pv 3) pa_nil))))) pss_nil)
     apply pss_cons
     · exact (ps_if (pt_cmpR op_eq (pv 0) pe_str (nomark _)) (pss_one (ps_ret (pe_call G__law_name_at (hr.mono (by decide)) rfl g__law_name_at k__law_name_at b__law_name_at .nil pass0 (pa_cons (pv 2) (pa_cons (pv 3) pa_nil))))) pss_nil)
     apply pss_cons
     · exact (ps_if (pt_cmpR op_eq (pv 0) pe_str (nomark _)) (pss_one (ps_ret (pe_call G__law_some_at (hr.mono (by decide)) rfl g__law_some_at k__law_some_at b__law_some_at .nil pass0 (pa_cons (pv 1) (pa_cons (pv 2) (pa_cons (pv 3) pa_nil)))))) pss_nil)
     apply pss_cons
     · exact (ps_if (pt_cmpR op_eq (pv 0) pe_str (nomark _)) (pss_one (ps_ret (pe_call G__law_leap_at (hr.mono (by decide)) rfl g__law_leap_at k__law_leap_at b__law_leap_at .nil pass0 (pa_cons (pv 2) (pa_cons (pv 3) pa_nil))))) pss_nil)
     apply pss_cons
     · exact (ps_set (i := 4) nd rfl (.inl rfl) (pe_call G__law_value (hr.mono (by decide)) rfl g__law_value k__law_value b__law_value .nil pass0 (pa_cons (pe_slice sl_str (pv 2) (po_some (pv 3)) (po_some (pe_op op_add (pv 3) pe_int))) pa_nil)))
     apply pss_one
     exact (ps_ret (pe_ifExp (PW.pt (pw_and (pt_cmpR op_le (pe_op op_add (pv 3) pe_int) (pe_callB call_len_str (by rfl) G.len PySem.boot_len (pa_cons (pv 2) pa_nil)) (nomark _)) (pw_and1 (pt_cmpR op_lt (pv 4) pe_int (nomark _))))) (pe_tup (pa_cons (pv 4) (pa_cons (pe_op op_add (pv 3) pe_int) pa_nil))) pe_non))
    case right =>
      have sl : (sT (bT l)).length ≤ sizeLine := sl_of (by rw [sT_len, bT_len]; omega)
      have cr : ("r" : Str) = sT [114] := cps1 (by decide +kernel)
      have cc : ("c" : Str) = sT [99] := cps1 (by decide +kernel)
      have cn : ("n" : Str) = sT [110] := cps1 (by decide +kernel)
      have cw : ("w" : Str) = sT [119] := cps1 (by decide +kernel)
      have cl : ("l" : Str) = sT [108] := cps1 (by decide +kernel)
      have cj : ("j" : Str) = sT [106] := cps1 (by decide +kernel)
      refine ⟨_, rfl, rfl, _, rfl, ?_⟩
      rw [let_eq c cr]
      by_cases e1 : c = 114
      · subst e1
        exact iteT ⟨_, rfl, _, rfl, _, rfl, r, l, i, rfl, hl, by omega, h9, k⟩
      rw [decide_eq_false e1]
      refine iteF ⟨_, rfl, rfl, _, rfl, ?_⟩
      rw [let_eq c cc]
      by_cases e2 : c = 99
      · subst e2
        exact iteT ⟨_, rfl, _, rfl, _, rfl, r, l, i, rfl, hl, by omega, h9, k⟩
      rw [decide_eq_false e2]
      refine iteF ⟨_, rfl, rfl, _, rfl, ?_⟩
      rw [let_eq c cn]
      by_cases e3 : c = 110
      · subst e3
        exact iteT ⟨_, rfl, _, rfl, l, i, rfl, hl, hi, fun v H' s1 hv => k v H' s1 (resv_num (r := r) hv)⟩
      rw [decide_eq_false e3]
      refine iteF ⟨_, rfl, rfl, _, rfl, ?_⟩
      rw [let_eq c cw]
      by_cases e4 : c = 119
      · subst e4
        exact iteT ⟨_, rfl, _, rfl, l, i, rfl, hl, hi, k⟩
      rw [decide_eq_false e4]
      refine iteF ⟨_, rfl, rfl, _, rfl, ?_⟩
      rw [let_eq c cl]
      by_cases e5 : c = 108
      · subst e5
        exact iteT ⟨_, rfl, _, rfl, _, rfl, r, l, i, rfl, hl, by omega, h9, k⟩
      rw [decide_eq_false e5]
      refine iteF ⟨_, rfl, rfl, _, rfl, ?_⟩
      rw [let_eq c cj]
      by_cases e6 : c = 106
      · subst e6
        exact iteT ⟨_, rfl, _, rfl, l, i, rfl, hl, hi, k⟩
      rw [decide_eq_false e6]
      have e7 : c = 107 := by omega
      subst e7
      have k : ∀ v H', Same H H' → ResD H H' v (ixA r l i) → Q v H' := k
      refine iteF ⟨_, rfl, _, rfl, _, rfl, _, rfl, _, _, rfl, rfl, _, rfl, _, rfl, sl, (l.drop i).take 2, by rw [← cutB]; rfl, by rw [List.length_take]; omega, ?_⟩
      refine ⟨_, rfl, _, _, rfl, rfl, _, rfl, _, rfl, sl, _, _, rfl, rfl, _, rfl, ?_⟩
      rw [sT_len, bT_len]
      unfold ixA at k
      by_cases c : i + 2 ≤ l.length
      · rw [at_yes c] at k
        rw [decide_eq_true (show (i : Int) + 2 ≤ (l.length : Int) by omega)]
        generalize valB ((l.drop i).take 2) = n at k ⊢
        have k : ∀ v H', Same H H' → ResD H H' v (if n ≤ 2 then some (.int (n : Int), i + 2) else none) → Q v H' := k
        refine iteT ⟨_, rfl, _, _, rfl, rfl, _, rfl, ?_⟩
        by_cases cn : n ≤ 2
        · rw [if_pos cn] at k
          rw [decide_eq_true (show (n : Int) < 3 by omega)]
          exact iteT ⟨_, rfl, _, rfl, _, _, rfl, rfl, (show 2 ≤ sizeLine by decide), fun p hp => k _ _ (same_new hp) ⟨p, _, rfl, upd_same, .int _⟩⟩
        · rw [if_neg cn] at k
          rw [decide_eq_false (show ¬ (n : Int) < 3 by omega)]
          exact iteF (k _ _ (Same.refl _) rfl)
      · rw [at_no c] at k
        rw [decide_eq_false (show ¬ (i : Int) + 2 ≤ (l.length : Int) by omega)]
        exact iteF (k _ _ (Same.refl _) rfl)
theorem sc__law_one_at : FnScope ["_law_registers_here", "_law_bits_here", "_law_at", "_law_words", "_law_word", "_law_found", "_law_place", "_law_letter", "_law_told"] ["_law_registers_here", "_law_bits_here", "_law_at"] (defScope s_law_one_at) := ⟨rfl, rfl, rfl, by decide +kernel, rfl, by decide +kernel, by decide +kernel⟩
theorem ok_loneat {CX : CXT} {f : Addr} {fd : FuncData} (F : FnP K "_law_one_at" s_law_one_at f fd) (c__law_shapes : Cal P w K mg base 1 "_law_shapes" [] spShp) (c__law_first : Cal P w K mg base 2 "_law_first" ["_law_word"] spLFst) (c__law_part_at : Cal P w K mg base 4 "_law_part_at" ["_law_letter", "_law_registers_here", "_law_bits_here", "_law_at"] spLPA)
    (G : NkF K mg) (tup : mg "tuple" = none) (m_sorted : mg "sorted" = none) : FnOk P w K mg base CX 5 f fd ["_law_registers_here", "_law_bits_here", "_law_at"] (spRd 0 rdOne) := by
  obtain ⟨f__law_shapes, fd__law_shapes, g__law_shapes, k__law_shapes, b__law_shapes, G__law_shapes⟩ := c__law_shapes
  obtain ⟨f__law_first, fd__law_first, g__law_first, k__law_first, b__law_first, G__law_first⟩ := c__law_first
  obtain ⟨f__law_part_at, fd__law_part_at, g__law_part_at, k__law_part_at, b__law_part_at, G__law_part_at⟩ := c__law_part_at
  refine F.ok sc__law_one_at (fun vs H Q E h => ?_) (fun cdv A outer s H vs Q E hr h => ?_)
  · obtain ⟨r, l, i, rfl, _⟩ := h
    rfl
  · obtain ⟨r, l, i, rfl, hl, hi, h9, k⟩ := h
    have nd := sc__law_one_at.nd
    have hu := hu_of hr
    apply Exists.intro
    apply And.intro
    case left =>
     apply PSs.nox
     apply C8.pss_cut
     · exact (ps_setLc (i := 3) (own := [("_law_word", 4)]) (g := gName 4) rfl nd rfl rfl (sw_true rfl rfl rfl (by decide +kernel)) (pi_list (pe_callB (call_sortedD rfl) (by rfl) m_sorted (by decide +kernel) (pa_cons (pe_call0 G__law_shapes (hr.mono (by decide)) rfl g__law_shapes k__law_shapes b__law_shapes .nil pass0) pa_nil))) (blkOk_by (own := [("_law_word", 4)]) (N := ["_law_registers_here", "_law_bits_here", "_law_at", "_law_words", "_law_word", "_law_found", "_law_place", "_law_letter", "_law_told"]) (sc := defScope s_law_one_at) (by decide +kernel)) (fun _ _ _ _ _ => (pg_name (i := 4) nd rfl (Or.inl rfl))) (fun _ _ _ _ _ => pts_one (pt_cmpR op_eq (pe_call G__law_first (hr.mono (by decide)) rfl g__law_first k__law_first b__law_first .nil pass0 (pa_cons (pv 4) pa_nil)) (pe_slice sl_str (pv 1) (po_some (pv 2)) (po_some (pe_op op_add (pv 2) pe_int))) (nomark _))) (fun _ _ _ _ _ => (pv 4)))
     apply pss_cons
     · exact (ps_if (pt_cmpR (op_eqD hr.units) (pv 3) (pe_lst pa_nil) (nomark _)) (pss_one (ps_ret pe_non)) pss_nil)
     apply pss_cons
     · exact (ps_par (X := (cxOf CX P w K mg base ["_law_registers_here", "_law_bits_here", "_law_at", "_law_words", "_law_word", "_law_found", "_law_place", "_law_letter", "_law_told"] "_law_one_at" (defScope s_law_one_at) f cdv A outer s H E).nox) (i := 5) (j := 6) rfl nd rfl rfl (by decide) rfl rfl (pa_cons (pe_lst (pa_cons (pe_ix ix_list (pv 3) pe_int (fun _ _ => rfl)) pa_nil)) (pa_cons (pe_op op_add (pv 2) pe_int) pa_nil)) (by rfl))
     apply pss_cons
     · apply ps_for PassesOwn.never rfl
       · exact (pi_str (pe_dget hu (pe_call0 G__law_shapes (hr.mono (by decide)) rfl g__law_shapes k__law_shapes b__law_shapes .nil pass0) (pe_ix ix_list (pv 3) pe_int (fun _ _ => rfl)) (fun _ _ => rfl)))
       · exact (pg_name (i := 7) nd rfl (Or.inl rfl))
       · apply pss_cons
         · exact (ps_set (i := 8) nd rfl (.inl rfl) (pe_call G__law_part_at (hr.mono (by decide)) rfl g__law_part_at k__law_part_at b__law_part_at .nil pass0 (pa_cons (pv 7) (pa_cons (pv 0) (pa_cons (pv 1) (pa_cons (pv 6) pa_nil))))))
         apply pss_cons
         · exact (ps_if (pt_cmpR op_isN (pv 8) pe_non (nomark _)) (pss_one (ps_ret pe_non)) pss_nil)
         apply pss_cons
         · exact (ps_expr (pe_bm PySem.F.plainAttrs_list PySem.F.slot_list_append PySem.F.type_list_append mt_append (pv 5) (pa_cons (pe_ix ix_seq (pv 8) pe_int (fun _ _ => rfl)) pa_nil)))
         apply pss_one
         exact (ps_set (i := 6) nd rfl (.inl rfl) (pe_ix ix_seq (pv 8) pe_int (fun _ _ => rfl)))
     apply C8.pss_cut
     · exact (ps_if (PW.pt (pw_and (pt_cmpR op_eq (pe_ix ix_list (pv 3) pe_int (fun _ _ => rfl)) pe_str (nomark _)) (pw_and (pt_cmpR op_eq (pe_ix ix_str (pe_ix ix_list (pv 5) pe_int (fun _ _ => rfl)) pe_int (fun _ _ => rfl)) pe_str (nomark _)) (pw_and1 (pt_cmpR op_eq (pe_ix ix_str (pe_ix ix_list (pv 5) pe_int (fun _ _ => rfl)) pe_int (fun _ _ => rfl)) pe_str (nomark _)))))) (pss_one (ps_ret pe_non)) pss_nil)
     apply pss_one
     exact (ps_ret (pe_tup (pa_cons (pe_callTy call_tuple_of (by rfl) tup (by decide +kernel) (pa_cons (pv 5) pa_nil)) (pa_cons (pv 6) pa_nil))))
    case right =>
      have sl : (sT (bT l)).length ≤ sizeLine := sl_of (by rw [sT_len, bT_len]; omega)
      refine ⟨fun σ H' => ∃ (ys : List Str) (p : Addr), σ = [some (.int (r : Int)), some (.str (sT (bT l))), some (.int (i : Int)), some (.ref p), none, none, none, none, none] ∧ Same H H' ∧ ys.Perm keysK ∧ H' p = some (.lst ((hits ys ((l.drop i).take 5)).map V.str)), ?_, ?_⟩
      · refine ⟨rfl, fun pS H1 s1 hpS e1 => ⟨pS, lshK, keysK, rfl, .inl e1, keysK_eq, by decide, fun ys q hperm _ hq => ?_⟩⟩
        have ly : ys.length = 26 := hperm.length_eq
        have sq := s1.trans (same_new (o := .lst (ys.map V.str)) hq)
        have eq : (upd H1 q (.lst (ys.map V.str))) q = some (.lst (ys.map V.str)) := upd_same
        generalize upd H1 q (.lst (ys.map V.str)) = H2 at sq eq ⊢
        refine ⟨q, rfl, ⟨_, SqL.of eq⟩, fun Dl hDl => ?_⟩
        have hnD : H Dl = none := sq.free hDl
        refine lc_list (K := K) (a := q) (xs := ys.map V.str) (fun j H' => Same H2 H' ∧ H' Dl = some (.lst ((hits (ys.take j) ((l.drop i).take 5)).map V.str))) ⟨same_new hDl, upd_same⟩ (fun j H' _ h => SqL.of (h.1 _ _ eq)) ?_ ?_
        · rintro j x H' hj ⟨sj, ej⟩
          rw [List.getElem?_map] at hj
          obtain ⟨z, hz, rfl⟩ : ∃ z, ys[j]? = some z ∧ x = V.str z := by
            cases e : ys[j]? with
            | none => rw [e] at hj; cases hj
            | some z => rw [e] at hj; exact ⟨z, rfl, (Option.some.inj hj).symm⟩
          have hw := keysK_wd z (hperm.mem_iff.mp (List.mem_of_getElem? hz))
          have es := hits_snoc (ys.take j) ((l.drop i).take 5) z
          rw [← take_snoc2 hz] at es
          refine ⟨rfl, ?_⟩
          refine ⟨_, rfl, z, rfl, hw, fun Ha sa => ?_⟩
          refine ⟨_, rfl, _, rfl, _, rfl, _, rfl, _, _, rfl, rfl, _, rfl, _, rfl, sl, rfl, _, rfl, ?_⟩
          rw [show cutS (sT (bT l)) (some (i : Int)) (some ((i : Int) + 5)) = sT (bT ((l.drop i).take 5)) from cutB l i 5]
          by_cases c : digs (wordsL.idxOf z) 5 = (l.drop i).take 5
          · rw [if_pos c] at es
            rw [decide_eq_true (by rw [c])]
            refine iteT ⟨_, rfl, _, sa _ _ ej, ?_, same_sub (sj.trans sa) hDl, ?_⟩
            · rw [List.length_map]
              exact Nat.lt_of_le_of_lt (List.length_filter_le _ _) (Nat.lt_of_le_of_lt (List.length_take_le' _ _) (by rw [ly]; decide))
            · rw [upd_same, es, List.map_append]
              rfl
          · rw [if_neg c, List.append_nil] at es
            rw [decide_eq_false (fun z2 => c (bT_inj (sT_inj (by injection z2))))]
            refine iteF ⟨sj.trans sa, ?_⟩
            rw [es]
            exact sa _ _ ej
        · rintro H3 ⟨s3, e3⟩
          rw [List.length_map, List.take_length] at e3
          exact ⟨ys, Dl, rfl, sq.trans s3, hperm, e3⟩
      · rintro σ H1 ⟨ys, p, rfl, s1, hperm, ep⟩
        refine ⟨_, rfl, (show 0 ≤ sizeLine by decide), fun p0 hp0 => ?_⟩
        have sp := same_new (o := .lst []) hp0
        have sh : SeqAt.shaped (.list ((hits ys ((l.drop i).take 5)).map PyData.str)) = true := by
          rcases hit_or hperm r l i with ⟨e, _⟩ | ⟨n, hn, _, e⟩
          · rw [e]
            decide
          · rw [e]
            have key : ∀ n < 26, SeqAt.shaped (.list ([wordsL.getD n ""].map PyData.str)) = true := by decide +kernel
            exact key n hn
        refine ⟨.list ((hits ys ((l.drop i).take 5)).map PyData.str), .list [], .lst (SqL.of (sp _ _ ep)) (dp_strs _), .lst (SqL.of upd_same) .nil, sh, by decide, _, rfl, ?_⟩
        rw [eqv_strs0]
        rcases hit_or hperm r l i with ⟨e, en⟩ | ⟨n, hn, e5, e⟩
        · rw [e]
          rw [en] at k
          exact iteT (k _ _ (s1.trans sp) rfl)
        rw [e] at ep ⊢
        refine iteF ?_
        unfold rdOne at k
        rw [e5] at k
        have k : ∀ v H', Same H H' → ResD H H' v (if 26 ≤ n then none else rdEnd (wordsL.getD n "") (rdParts r l (shapesT.getD n []) (i + 5) [.str (wordsL.getD n "")])) → Q v H' := k
        rw [if_neg (by omega)] at k
        replace ep := sp _ _ ep
        replace s1 := s1.trans sp
        clear sp sh hp0
        generalize upd H1 p0 (.lst []) = H2 at s1 ep ⊢
        have hT := shape_ok n hn
        have hL := shape_len n hn
        have hC := copy_is n hn
        obtain ⟨w1, w2⟩ := word_back n hn
        have gt := lsh_get w2
        have hsh : shapeT (wordsL.getD n "") = shapesT.getD n [] := by unfold shapeT; rw [w1]
        rw [hsh] at gt
        have hc1 : wordsL.getD n "" = "copy" → shapesT.getD n [] = [99, 99] := fun z => by rw [hC z]; rfl
        have hi5 : i + 5 ≤ l.length := at_lt e5
        clear hC w1 w2 hsh e
        generalize wordsL.getD n "" = z at k gt hc1 ep ⊢
        generalize shapesT.getD n [] = T at k gt hT hL hc1 ⊢
        refine ⟨_, rfl, p, _, _, _, rfl, rfl, SqL.of ep, atI_nat (j := 0) rfl, (show 1 ≤ sizeLine by decide), fun D hD => ⟨_, rfl, _, _, rfl, rfl, _, _, rfl, ?_⟩⟩
        have epD := (same_new (o := .lst [.str z]) hD) _ _ ep
        have nD : H D = none := s1.free hD
        have neP : p ≠ D := ne_of_none ep hD
        have s3 := s1.trans (same_new (o := .lst [.str z]) hD)
        have eD3 : (upd H2 D (.lst [.str z])) D = some (.lst [.str z]) := upd_same
        generalize upd H2 D (.lst [.str z]) = H3 at epD s3 eD3 ⊢
        refine ⟨rfl, fun pS H4 s4 hpS eS => ?_⟩
        replace epD := s4 _ _ epD
        replace eD3 := s4 _ _ eD3
        replace s3 := s3.trans s4
        refine ⟨_, rfl, p, _, _, _, rfl, rfl, SqL.of epD, atI_nat (j := 0) rfl, pS, _, rfl, gt ▸ DGet.k (k := Sum.inr z) eS, _, rfl, ?_⟩
        refine for_it walk_str (fun j σ H' => ∃ (xs : List V) (ds : List PyData) (b : Nat) (v7 v8 : Option V), σ = [some (.int (r : Int)), some (.str (sT (bT l))), some (.int (i : Int)), some (.ref p), none, some (.ref D), some (.int (b : Int)), v7, v8] ∧ Same H H' ∧ H' p = some (.lst [.str z]) ∧ H' D = some (.lst xs) ∧ DtA (fun a => H a = none ∧ a ≠ D) H' xs ds ∧ ds.length = j + 1 ∧ b ≤ l.length ∧
            rdParts r l T (i + 5) [.str z] = rdParts r l (T.drop j) b ds ∧ (T = [99, 99] → ∀ m, 1 ≤ m → m ≤ j → ∃ c fs, ds[m]? = some (.str (sT (c :: fs))) ∧ fs.length ≤ 10 ∧ decide (c = 115) = slotD ds[m]?))
          ⟨[.str z], [.str z], i + 5, none, none, rfl, s3, epD, eD3, .cons (.str _) .nil, rfl, hi5, rfl, fun _ m m1 m2 => absurd m2 (by omega)⟩ (fun _ _ _ _ _ => trivial) ?_ ?_
        · rintro j x σ H' H6 hj ⟨xs, ds, b, v7, v8, rfl, sj, epj, eD, hA, hdl, hb, he, hcp⟩ ⟨rfl, d, hd, rfl⟩
          have hd : T[j]? = some d := by
            rw [← sT_cps T, Array.getElem?_toList]
            exact hd
          have hdm := hT d (List.mem_of_getElem? hd)
          have hdr : T.drop j = d :: T.drop (j + 1) := by
            obtain ⟨hlt, e⟩ := List.getElem?_eq_some_iff.mp hd
            rw [List.drop_eq_getElem_cons hlt, e]
          rw [hdr] at he
          have he : rdParts r l T (i + 5) [.str z] = (match readA d r l b with | none => none | some (d, b) => rdParts r l (T.drop (j + 1)) b (ds ++ [d])) := he
          have hjT : j < T.length := (List.getElem?_eq_some_iff.mp hd).1
          refine ⟨_, rfl, _, rfl, _, rfl, _, rfl, d, r, l, b, rfl, by omega, hl, hb, h9, fun v H7 s7 hv => ?_⟩
          cases e : readA d r l b with
          | none =>
            rw [e] at hv he
            have hv : v = .non := hv
            subst hv
            refine ⟨_, rfl, rfl, _, rfl, ?_⟩
            rw [decide_eq_true rfl]
            exact iteT (k _ _ (sj.trans s7) (by rw [he]; rfl))
          | some y =>
            obtain ⟨dd, b2⟩ := y
            rw [e] at hv he
            obtain ⟨pR, x, rfl, hp, hx⟩ := hv
            have q0 : SqT K H7 pR [x, V.int (b2 : Int)] := SqT.of hp
            refine ⟨_, rfl, rfl, _, rfl, ?_⟩
            rw [decide_eq_false (fun z => by cases z)]
            have e3 : H7 D = some (.lst xs) := s7 _ _ eD
            have hxl := hA.length
            refine iteF ⟨_, rfl, .inl ⟨rfl, _, SqL.of e3⟩, _, rfl, .inr (.inl ⟨_, _, _, _, rfl, rfl, q0, rfl, D, _, _, rfl, rfl, e3, ?_, ?_⟩)⟩
            · exact Nat.lt_of_lt_of_le (show xs.length < 1000 by omega) (by decide)
            · have npD : pR ≠ D := fun z => by rw [z, e3] at hp; cases hp
              have old : DtA (fun a => H a = none ∧ a ≠ D) (upd H7 D (.lst (xs ++ [x]))) xs ds := hA.to fun b o g eo => ⟨by rw [upd_ne g.2]; exact s7 _ _ eo, g⟩
              have new : Dt (fun a => H a = none ∧ a ≠ D) (upd H7 D (.lst (xs ++ [x]))) x dd := hx.to fun b o g eo => by
                have nb : b ≠ D := fun z => by rw [z, eD] at g; cases g
                exact ⟨by rw [upd_ne nb]; exact eo, sj.free g, nb⟩
              refine ⟨_, rfl, .inr (.inl ⟨pR, _, _, _, rfl, rfl, SqT.of (by rw [upd_ne npD]; exact hp), rfl, xs ++ [x], ds ++ [dd], b2, _, _, rfl, same_sub (sj.trans s7) nD, by rw [upd_ne neP]; exact s7 _ _ epj, upd_same, old.app (.cons new .nil), ?_, readA_le e, ?_, ?_⟩)⟩
              · rw [List.length_append, hdl]
                rfl
              · rw [he]
              · intro hT9 m m1 m2
                by_cases hm : m ≤ j
                · obtain ⟨c, fs, hy, h10, hs⟩ := hcp hT9 m m1 hm
                  refine ⟨c, fs, by rw [List.getElem?_append_left (by omega)]; exact hy, h10, ?_⟩
                  rw [List.getElem?_append_left (by omega)]
                  exact hs
                · have : m = ds.length := by omega
                  subst this
                  have hd9 : d = 99 := by
                    rw [hT9] at hd
                    have := List.mem_of_getElem? hd
                    simpa using this
                  subst hd9
                  obtain ⟨c, fs, hy, h10, hs⟩ := place_head h9 (show placeA r l b = some (dd, b2) from e)
                  have eg : (ds ++ [dd])[ds.length]? = some dd := by rw [List.getElem?_append_right (Nat.le_refl _), Nat.sub_self]; rfl
                  refine ⟨c, fs, by rw [eg, hy], h10, ?_⟩
                  rw [eg, hs]
                  cases dd <;> rfl
        · rintro σ H' ⟨xs, ds, b, v7, v8, rfl, sj, epj, eD, hA, hdl, hb, he, hcp⟩
          have eT : (sT T).cps.size = T.length := sT_len T
          rw [eT] at hdl he hcp
          rw [List.drop_length] at he
          rw [he] at k
          have k : ∀ v H', Same H H' → ResD H H' v (if z = "copy" ∧ slotD ds[1]? = true ∧ slotD ds[2]? = true then none else some (.tuple ds, b)) → Q v H' := k
          refine ⟨fun σ H2 => H2 = H' ∧ ¬ (z = "copy" ∧ slotD ds[1]? = true ∧ slotD ds[2]? = true) ∧ σ = [some (.int (r : Int)), some (.str (sT (bT l))), some (.int (i : Int)), some (.ref p), none, some (.ref D), some (.int (b : Int)), v7, v8], ?_, ?_⟩
          · refine ⟨_, rfl, p, _, _, _, rfl, rfl, SqL.of epj, atI_nat (j := 0) rfl, rfl, _, rfl, ?_⟩
            by_cases hz : z = "copy"
            · rw [decide_eq_true (congrArg V.str hz)]
              have hT9 := hc1 hz
              have hl2 : T.length = 2 := by rw [hT9]; rfl
              obtain ⟨c1, fs1, g1, t1, q1⟩ := hcp hT9 1 (by omega) (by omega)
              obtain ⟨c2, fs2, g2, t2, q2⟩ := hcp hT9 2 (by omega) (by omega)
              obtain ⟨x1, f1, d1⟩ := hA.get g1
              obtain ⟨x2, f2, d2⟩ := hA.get g2
              cases d1
              cases d2
              have cs : ("s" : Str) = sT [115] := cps1 (by decide +kernel)
              have a1 : atI (sT (c1 :: fs1)).cps.toList 0 = some c1 := by rw [sT_cps]; exact atI_nat (j := 0) rfl
              have a2 : atI (sT (c2 :: fs2)).cps.toList 0 = some c2 := by rw [sT_cps]; exact atI_nat (j := 0) rfl
              refine iteT ⟨_, rfl, D, _, _, _, rfl, rfl, SqL.of eD, atI_nat (j := 1) f1, _, _, c1, rfl, rfl, sl_of (by rw [sT_len, List.length_cons]; omega), a1, rfl, _, rfl, ?_⟩
              rw [show decide (V.str ({ cps := #[c1] } : Str) = V.str "s") = decide (c1 = 115) from let_eq c1 cs, q1]
              refine ite2 (fun k1 => ?_) (fun k1 => ?_)
              · refine ⟨_, rfl, D, _, _, _, rfl, rfl, SqL.of eD, atI_nat (j := 2) f2, _, _, c2, rfl, rfl, sl_of (by rw [sT_len, List.length_cons]; omega), a2, rfl, _, rfl, ?_⟩
                rw [show decide (V.str ({ cps := #[c2] } : Str) = V.str "s") = decide (c2 = 115) from let_eq c2 cs, q2]
                refine ite2 (fun k2 => ?_) (fun k2 => ?_)
                · exact k _ _ sj (by rw [if_pos ⟨hz, k1, k2⟩]; rfl)
                · exact ⟨rfl, fun q => k2 q.2.2, rfl⟩
              · exact ⟨rfl, fun q => k1 q.2.1, rfl⟩
            · rw [decide_eq_false (fun q => hz (by injection q))]
              exact iteF ⟨rfl, fun q => hz q.1, rfl⟩
          · rintro σ H2 ⟨rfl, hno, rfl⟩
            rw [if_neg hno] at k
            refine ⟨_, rfl, D, _, rfl, .inl ⟨SqL.of eD, fun U hU => ⟨_, rfl, (show 2 ≤ sizeLine by decide), fun v hv => k _ _ ((sj.trans (same_new hU)).trans (same_new hv)) ⟨v, _, rfl, upd_same, .tup (sj.free hU) ((same_new hv) _ _ upd_same) ?_⟩⟩⟩⟩
            exact hA.to fun x o g e => ⟨(same_new hv) _ _ ((same_new hU) _ _ e), g.1⟩
end
/-! ## a dict is no text -/
namespace Dq
open PySem PySem.Calls PyProof.Rows PySem.Spec PySem.SeqAt
theorem dict_declines (l : Addr) (es : Array DictEntry) (ep : Nat) (b : Str) (u : Tok) :
    Meets (Builtin.«dict.__eq__» ⟨[.ref l, .str b u], []⟩) (fun _ R s => s.heap.get? l = some { cls := .type "dict", dict := none, data := .dict es ep, slots := #[] } ∧ R (.ok (.ret .notImplemented)) s) :=
  .of_wp fun prog w A R s h => by obtain ⟨hp, g, d, tk, os⟩ := s; obtain ⟨hl, h⟩ := h; have f1 := F.sub_str_dict; wp_walk using wpAny_loadPart' hl, wpAny_load hl; exact ⟨_, rfl, h⟩
theorem str_declines (l : Addr) (es : Array DictEntry) (ep : Nat) (b : Str) (u : Tok) :
    Meets (Builtin.«str.__eq__» ⟨[.str b u, .ref l], []⟩) (fun _ R s => s.heap.get? l = some { cls := .type "dict", dict := none, data := .dict es ep, slots := #[] } ∧ R (.ok (.ret .notImplemented)) s) :=
  .of_wp fun prog w A R s h => by obtain ⟨hp, g, d, tk, os⟩ := s; obtain ⟨hl, h⟩ := h; wp_walk using wpAny_loadPart' hl, wpAny_load hl; exact ⟨_, rfl, h⟩
end Dq
section
variable {X : Cx}
open PySem PySem.Calls PyProof.Rows PySem.Spec PySem.SeqAt in
def rEqDS : R2 := fun x y H Q => ∃ d kvs z, x = .ref d ∧ y = .str z ∧ H d = some (.dK kvs) ∧ Q (.bl false) H
open PySem PySem.Calls PyProof.Rows PySem.Spec PySem.SeqAt in
theorem op_eqDS (hu : X.A.units < cLine) : OpR X (compareOp .Eq) rEqDS := by
  intro pins s σ H x y v u Q I rx ry h
  obtain ⟨d, kvs, z, rfl, rfl, ed, q⟩ := h
  obtain rfl : v = Value.ref d := rx
  obtain ⟨t, rfl⟩ := ry
  obtain ⟨_, yd, vd, rd, o, es, ep, ho, ⟨hc, hn, hs⟩, hdat, _⟩ := (show ObjOk X.prog X.w H s.heap d (.dK kvs) from I.hok d _ ed)
  have ho2 : s.heap.get? d = some { cls := .type "dict", dict := none, data := .dict es ep, slots := #[] } := by
    obtain ⟨c, dd, dt, sl⟩ := o
    simp only at hc hn hs hdat
    subst hc hn hs hdat
    exact ho
  exact rc_eq_decline_or (k := false) ⟨_, ho2, rfl⟩ (typeIs_str s z t) (by decide) F.sub_str_dict F.slot_dict_eq F.slot_str_eq_refl
    (fun _ hq => call_meets F.slot_dict_eq ⟨_, ho2, rfl⟩ F.entry_dict_eq (F.args_dict_eq_2 _ _) (Dq.dict_declines d es ep z t) ⟨ho2, hq⟩)
    (fun _ hq => call_meets F.slot_str_eq_refl (typeIs_str s z t) F.entry_str_eq (F.args_str_eq_2 _ _) (Dq.str_declines d es ep z t) ⟨ho2, hq⟩)
    (fun _ hq => wpAny_of_eq (rfl : isSame (.ref d) (.str z t) = pure false) hq) (.inr hu) ⟨.bl false, H, I, rfl, q⟩
end
/-! ## a call of a local name, what is raised wished for at the caller's slots -/
def tCallLS (i : Nat) (f : Addr) (sp : Sp) (E : L2.St → XK) (t : TA) : TE := fun σ H Q => σ[i]? = some (some (.ref f)) ∧ t σ H fun vs H1 => sp vs H1 Q (E σ)
theorem pe_callLS {X : Cx} {CX : CXT} {k i : Nat} {f : Addr} {fd : FuncData} {ps : List Str} {sp : Sp} {E : L2.St → XK} {x : Str} {p pos : Pos} {e : Expr} {es : List Expr} {t : TA}
    (F : FnOk X.prog X.w X.K X.mg X.base CX k f fd ps sp) (hr : Room k X.A) (hN : X.N[i]? = some x) (hv : Vis X.env.scope x) (hk : PySem.W.keepIn X.K (.ref f) = true) (hb : Binds X.K fd ps []) (hx : ∀ σ, PassesAt CX X σ (E σ)) (ha : PA X (e :: es) t)
    (hdb : (x == ("__debug__" : Str)) = false := by decide) (hcd : (x == ("__classdict__" : Str)) = false := by decide)
    (he : starEach (e :: es) X.env = (false, eval e X.env) :: starEach es X.env := by rfl) (hpl : (backTo pos (starEach es X.env)).any (·.1) = false := by rfl) : PE X (.Call (.Name x p) (e :: es) [] pos) (tCallLS i f sp E t) := by
  refine ⟨fun pins s σ H Q I h => ?_⟩
  obtain ⟨hs, ht⟩ := h
  refine wpAny_Call_Name_kw (thn ((pe_var (pos := p) hN hv hdb hcd).run pins s σ H (fun v H1 => v = .ref f ∧ H1 = H) I ⟨.ref f, hs, rfl, rfl⟩) fun u s1 ⟨v, H1, I1, r1, q1⟩ => ?_)
  obtain ⟨rfl, rfl⟩ := q1
  cases r1
  refine PySem.W.callWith_K (h₀ := X.base) I.ok.mod.kin hk (thn (ha.run pos pins s1 σ _ _ I1 ht) fun us s2 ⟨vs, H2, I2, r, q⟩ => ⟨I2.kIn, ?_⟩) he hpl
  exact run_fnS F hr hb (hx σ) I2 r q
theorem takes_lenN {X : Cx} {W : WX} (n : Nat) (t : Takes X W) (hn : X.N.length = n) : Takes X (fun cls d σ H => σ.length = n → W cls d σ H) := fun u s' ⟨a, B, sI, pins, σ, H, cls, d, e, I, nb, up, sky, na, os, ag, w⟩ =>
  t u s' ⟨a, B, sI, pins, σ, H, cls, d, e, I, nb, up, sky, na, os, ag, w (I.len.trans hn)⟩
/-! ## k84's law: what reading must do, and what it does -/
def dueD (r : Nat) (l : List Bool) : PyData := if (rdA r l).2 = l.length then .tuple [.str "value", .list ((rdA r l).1.map pairD)] else .tuple [.str "BadBits", .int (((rdA r l).2 : Nat) : Int)]
def adD (r : Nat) (l : List Bool) (o : Option Nat) : PyData := match askA r l o with
  | none => .tuple [.str "BadAddress"]
  | some (d, b) => .tuple [.str "value", .tuple [d, .int ((b : Nat) : Int)]]
inductive AdV (H : Hp) : V → Prop
  | non : AdV H .non
  | bl (b : Bool) : AdV H (.bl b)
  | int (i : Int) : AdV H (.int i)
  | str {z : Str} (h : ¬ z = "all") : AdV H (.str z)
  | tup {a : Addr} (h : H a = some (.tup [.int 0])) : AdV H (.ref a)
  | dic {a : Addr} {kvs : List (Key × V)} (h : H a = some (.dK kvs)) : AdV H (.ref a)
theorem AdV.same {H H' : Hp} {z : V} (s : Same H H') (h : AdV H z) : AdV H' z := by
  cases h with
  | non => exact .non
  | bl b => exact .bl b
  | int i => exact .int i
  | str h => exact .str h
  | tup h => exact .tup (s _ _ h)
  | dic h => exact .dic (s _ _ h)
theorem AdV.eq {K : PySem.W.Frag} {H : Hp} {z : V} {Q : VK} (h : AdV H z) (q : Q (.bl false) H) : rEq z (.str "all") H Q ∨ rEqD K z (.str "all") H Q ∨ rEqDS z (.str "all") H Q := by
  cases h with
  | non => exact .inl ⟨rfl, by rw [decide_eq_false (fun z => by cases z)]; exact q⟩
  | bl b => exact .inl ⟨rfl, by rw [decide_eq_false (fun z => by cases z)]; exact q⟩
  | int i => exact .inl ⟨rfl, by rw [decide_eq_false (fun z => by cases z)]; exact q⟩
  | str h => exact .inl ⟨rfl, by rw [decide_eq_false (fun z => h (by injection z))]; exact q⟩
  | tup h => exact .inr (.inl ⟨.tuple [.int 0], .str "all", .tup (SqT.of h) (.cons (.int 0) .nil), .str _, by decide, by decide +kernel, q⟩)
  | dic h => exact .inr (.inr ⟨_, _, _, rfl, rfl, h, q⟩)
def spDue : Sp := fun vs H Q _ => ∃ (r : Nat) (l : List Bool), vs = [.int (r : Int), .str (sT (bT l))] ∧ l.length ≤ 600 ∧ r ≤ 9 ∧ ∀ H' t, Same H H' → Dt (fun c => H c = none) H' (.ref t) (dueD r l) → Q (.ref t) H'
def spRefu : Sp := fun vs H Q _ => ∃ (r : Nat) (x z : V), vs = [.int (r : Int), x, z] ∧ 6 ≤ r ∧ r ≤ 9 ∧
  ((NbV H x ∧ (z = .str "all" ∨ AdV H z) ∧ ∀ H' t, Same H H' → Dt anyA H' (.ref t) (.tuple [.str "BadBits", .none]) → Q (.ref t) H') ∨
   ∃ l : List Bool, x = .str (sT (bT l)) ∧ l.length ≤ 600 ∧ ((z = .str "all" ∧ ∀ H' t, Same H H' → Dt anyA H' (.ref t) (dueD r l) → Q (.ref t) H') ∨
     ∃ o, AdV H z ∧ PlV H l.length z o ∧ ∀ H' t, Same H H' → Dt anyA H' (.ref t) (adD r l o) → Q (.ref t) H'))
structure OuR (K : PySem.W.Frag) (mg : Str → Option Value) (CS CB CA : Addr) : Prop where
  gS : mg "StopError" = some (.ref CS)
  gB : mg "BadBits" = some (.ref CB)
  gA : mg "BadAddress" = some (.ref CA)
  xB : PySem.W.exmOne K (.ref CB) (.ref CS) = some true
  xA : PySem.W.exmOne K (.ref CA) (.ref CS) = some true
  rB : ExcR K CB
  rA : ExcR K CA
  iBB : PySem.W.kitOne K (.ref CB) (.ref CB) = some true
  iAB : PySem.W.kitOne K (.ref CA) (.ref CB) = some false
  iAA : PySem.W.kitOne K (.ref CA) (.ref CA) = some true
  nB : PySem.W.findIn K (.ref CB) "at" = some none
section
variable {P : Program} {w : World} {K : PySem.W.Frag} {mg : Str → Option Value} {base : Heap}
theorem sc__law_due : FnScope ["_law_registers_here", "_law_bits_here", "_law_found", "_law_at", "_law_turn", "_law_told"] ["_law_registers_here", "_law_bits_here"] (defScope s_law_due) := ⟨rfl, rfl, rfl, by decide +kernel, rfl, by decide +kernel, by decide +kernel⟩
theorem ok_ldue {CX : CXT} {f : Addr} {fd : FuncData} (F : FnP K "_law_due" s_law_due f fd) (c__law_one_at : Cal P w K mg base 5 "_law_one_at" ["_law_registers_here", "_law_bits_here", "_law_at"] (spRd 0 rdOne)) (G : NkF K mg) (rng : mg "range" = none) : FnOk P w K mg base CX 6 f fd ["_law_registers_here", "_law_bits_here"] spDue := by
  obtain ⟨f__law_one_at, fd__law_one_at, g__law_one_at, k__law_one_at, b__law_one_at, G__law_one_at⟩ := c__law_one_at
  refine F.ok sc__law_due (fun vs H Q E h => ?_) (fun cdv A outer s H vs Q E hr h => ?_)
  · obtain ⟨r, l, rfl, _⟩ := h
    rfl
  · obtain ⟨r, l, rfl, hl, h9, k⟩ := h
    have nd := sc__law_due.nd
    apply Exists.intro
    apply And.intro
    case left =>
     apply PSs.nox
     apply pss_cons
     · exact (ps_par (X := (cxOf CX P w K mg base ["_law_registers_here", "_law_bits_here", "_law_found", "_law_at", "_law_turn", "_law_told"] "_law_due" (defScope s_law_due) f cdv A outer s H E).nox) (i := 2) (j := 3) rfl nd rfl rfl (by decide) rfl rfl (pa_cons (pe_lst pa_nil) (pa_cons pe_int pa_nil)) (by rfl))
     apply pss_cons
     · apply ps_for PassesOwn.never rfl
       · exact (pi_range1 (by rfl) rng (pa_cons (pe_callB call_len_str (by rfl) G.len PySem.boot_len (pa_cons (pv 1) pa_nil)) pa_nil))
       · exact (pg_name (i := 4) nd rfl (Or.inl rfl))
       · apply pss_cons
         · exact (ps_set (i := 5) nd rfl (.inl rfl) (pe_call G__law_one_at (hr.mono (by decide)) rfl g__law_one_at k__law_one_at b__law_one_at .nil pass0 (pa_cons (pv 0) (pa_cons (pv 1) (pa_cons (pv 3) pa_nil)))))
         apply pss_cons
         · exact (ps_if (pt_cmpR op_isN (pv 5) pe_non (nomark _)) (pss_one (ps_ret (pe_ifExp (pt_cmpR op_eq (pv 3) (pe_callB call_len_str (by rfl) G.len PySem.boot_len (pa_cons (pv 1) pa_nil)) (nomark _)) (pe_tup (pa_cons pe_str (pa_cons (pv 2) pa_nil))) (pe_tup (pa_cons pe_str (pa_cons (pv 3) pa_nil)))))) pss_nil)
         apply pss_cons
         · exact (ps_expr (pe_bm PySem.F.plainAttrs_list PySem.F.slot_list_append PySem.F.type_list_append mt_append (pv 2) (pa_cons (pe_tup (pa_cons (pv 3) (pa_cons (pe_ix ix_seq (pv 5) pe_int (fun _ _ => rfl)) pa_nil))) pa_nil)))
         apply pss_one
         exact (ps_set (i := 3) nd rfl (.inl rfl) (pe_ix ix_seq (pv 5) pe_int (fun _ _ => rfl)))
     apply pss_one
     exact (ps_ret (pe_tup (pa_cons pe_str (pa_cons (pv 2) pa_nil))))
    case right =>
      have sl : (sT (bT l)).length ≤ sizeLine := sl_of (by rw [sT_len, bT_len]; omega)
      refine ⟨(show 0 ≤ sizeLine by decide), fun D hD => ⟨_, _, rfl, ?_⟩⟩
      refine ⟨_, rfl, _, rfl, sl, _, rfl, by omega, by rw [sT_len, bT_len]; omega, ?_⟩
      refine for_range (lo := 0) (n := (((sT (bT l)).length : Nat) : Int).toNat) (fun j σ H' => ∃ (xs : List V) (ps : List (Nat × PyData)) (a : Nat) (v4 v5 : Option V), σ = [some (.int (r : Int)), some (.str (sT (bT l))), some (.ref D), some (.int (a : Int)), v4, v5] ∧ Same H H' ∧ H' D = some (.lst xs) ∧ DtA (fun a => H a = none ∧ a ≠ D) H' xs (ps.map pairD) ∧ ps.length = j ∧ j ≤ a ∧ a ≤ l.length ∧ rdA r l = rdAll r l (l.length + 1 - j) a ps)
        ⟨[], [], 0, none, none, rfl, same_new hD, upd_same, .nil, rfl, Nat.le_refl _, Nat.zero_le _, rfl⟩ ?_ ?_
      · rintro j σ H' hj ⟨xs, ps, a, v4, v5, rfl, sj, eD, hA, hpl, hja, hal, he⟩
        have hj : j < l.length := by
          have : (((sT (bT l)).length : Nat) : Int).toNat = l.length := by rw [sT_len, bT_len]; omega
          omega
        obtain ⟨m, hm⟩ : ∃ m, l.length + 1 - j = m + 1 := ⟨l.length - j, by omega⟩
        rw [hm] at he
        have he : rdA r l = (match rdOne r l a with | none => (ps, a) | some (d, b) => rdAll r l m b (ps ++ [(a, d)])) := he
        refine ⟨_, rfl, _, rfl, _, rfl, r, l, a, rfl, hl, by omega, h9, fun v H2 s2 hv => ?_⟩
        cases e : rdOne r l a with
        | none =>
          rw [e] at hv he
          have hv : v = .non := hv
          subst hv
          refine ⟨_, rfl, rfl, _, rfl, ?_⟩
          rw [decide_eq_true rfl]
          have he : rdA r l = (ps, a) := he
          refine iteT ⟨_, rfl, _, rfl, _, rfl, sl, rfl, _, rfl, ?_⟩
          rw [sT_len, bT_len]
          unfold dueD at k
          rw [he] at k
          by_cases c : a = l.length
          · rw [if_pos (show (ps, a).2 = l.length from c)] at k
            rw [decide_eq_true (by rw [c])]
            refine iteT ⟨_, rfl, (show 2 ≤ sizeLine by decide), fun q hq => k _ q (sj.trans (s2.trans (same_new hq))) (.tup ((sj.trans s2).free hq) upd_same (.cons (.str _) (.cons ?_ .nil)))⟩
            have s3 := s2.trans (same_new (o := .tup [V.str "value", V.ref D]) hq)
            exact .lst hD (s3 _ _ eD) (hA.to fun b o g e => ⟨s3 _ _ e, g.1⟩)
          · rw [if_neg (show ¬ (ps, a).2 = l.length from c)] at k
            rw [decide_eq_false (fun z => c (by injection z with z; omega))]
            exact iteF ⟨_, rfl, (show 2 ≤ sizeLine by decide), fun q hq => k _ q (sj.trans (s2.trans (same_new hq))) (.tup ((sj.trans s2).free hq) upd_same (.cons (.str _) (.cons (.int _) .nil)))⟩
        | some y =>
          obtain ⟨dd, b⟩ := y
          rw [e] at hv he
          obtain ⟨hab, hbl⟩ := rdOne_ge e
          obtain ⟨pR, x, rfl, hp, hx⟩ := hv
          have q0 : SqT K H2 pR [x, V.int (b : Int)] := SqT.of hp
          refine ⟨_, rfl, rfl, _, rfl, ?_⟩
          rw [decide_eq_false (fun z => by cases z)]
          have e3 : H2 D = some (.lst xs) := s2 _ _ eD
          have hxl := hA.length
          rw [List.length_map] at hxl
          refine iteF ⟨_, rfl, .inl ⟨rfl, _, SqL.of e3⟩, _, rfl, _, rfl, .inr (.inl ⟨_, _, _, _, rfl, rfl, q0, rfl, (show 2 ≤ sizeLine by decide), fun q hq => ?_⟩)⟩
          have sq := same_new (o := .tup [V.int (a : Int), x]) hq
          have nqD : q ≠ D := fun z => by rw [z, e3] at hq; cases hq
          have npD : pR ≠ D := fun z => by rw [z, e3] at hp; cases hp
          refine ⟨D, _, _, rfl, rfl, sq _ _ e3, ?_, ?_⟩
          · exact Nat.lt_of_lt_of_le (show xs.length < 1000 by omega) (by decide)
          refine ⟨_, rfl, .inr (.inl ⟨pR, _, _, _, rfl, rfl, SqT.of (by rw [upd_ne npD]; exact sq _ _ hp), rfl, xs ++ [.ref q], ps ++ [(a, dd)], b, _, _, rfl, same_sub (sj.trans (s2.trans sq)) hD, upd_same, ?_, ?_, by omega, hbl, ?_⟩)⟩
          · rw [List.map_append]
            have nb : ∀ c o, H' c = none → H2 c = some o → (upd (upd H2 q (.tup [V.int (a : Int), x])) D (.lst (xs ++ [V.ref q]))) c = some o ∧ H c = none ∧ c ≠ D := fun c o g eo => by
              have n1 : c ≠ D := fun z => by rw [z, eD] at g; cases g
              exact ⟨by rw [upd_ne n1]; exact sq _ _ eo, sj.free g, n1⟩
            refine (hA.to fun c o g eo => ⟨by rw [upd_ne g.2]; exact sq _ _ (s2 _ _ eo), g⟩).app (.cons (.tup ⟨(sj.trans s2).free hq, nqD⟩ (by rw [upd_ne nqD]; exact upd_same) (.cons (.int _) (.cons (hx.to nb) .nil))) .nil)
          · rw [List.length_append, hpl]
            rfl
          · rw [he, show l.length + 1 - (j + 1) = m by omega]
      · rintro σ H' ⟨xs, ps, a, v4, v5, rfl, sj, eD, hA, hpl, hja, hal, he⟩
        have hn : (((sT (bT l)).length : Nat) : Int).toNat = l.length := by rw [sT_len, bT_len]; omega
        rw [hn] at he hja
        have ha : a = l.length := by omega
        subst ha
        rw [show l.length + 1 - l.length = 1 by omega] at he
        have he : rdA r l = (match rdOne r l l.length with | none => (ps, l.length) | some (d, b) => rdAll r l 0 b (ps ++ [(l.length, d)])) := he
        rw [rdOne_end] at he
        have he : rdA r l = (ps, l.length) := he
        unfold dueD at k
        rw [he, if_pos (show (ps, l.length).2 = l.length from rfl)] at k
        refine ⟨_, rfl, (show 2 ≤ sizeLine by decide), fun q hq => k _ q (sj.trans (same_new hq)) (.tup (sj.free hq) upd_same (.cons (.str _) (.cons ?_ .nil)))⟩
        have s3 := same_new (o := .tup [V.str "value", V.ref D]) hq
        exact .lst hD (s3 _ _ eD) (hA.to fun b o g e => ⟨s3 _ _ e, g.1⟩)
theorem sc__law_refusal : FnScope ["_law_registers_here", "_law_bits_here", "_law_address", "_law_error", "_law_told", "e"] ["_law_registers_here", "_law_bits_here", "_law_address"] (defScope s_law_refusal) := ⟨rfl, rfl, rfl, by decide +kernel, rfl, by decide +kernel, by decide +kernel⟩
def tRefu (KK : PySem.W.Frag) (CR CB CA : Addr) (W : WX) : TS := tAsg (tIf (tTest (tOp (fun x y H Q => rEq x y H Q ∨ rEqD KK x y H Q ∨ rEqDS x y H Q) (tVar 2) (tC (.str "all")))) (tCallS (spRdB CR CB) (WE fun cls d σ H => σ.length = 6 → W cls d σ H) (tCons (tVar 0) (tCons (tVar 1) tNil))) (tCallS (spInAt CR CB CA) (WE fun cls d σ H => σ.length = 6 → W cls d σ H) (tCons (tVar 0) (tCons (tVar 1) (tCons (tVar 2) tNil))))) (gName 4)
theorem ok_refu {f CS CR CB CA : Addr} {fd : FuncData} (F : FnP K "_law_refusal" s_law_refusal f fd) (c_read_bits : CalX P w K mg base 6 "read_bits" ["registers", "bits"] (spRdB CR CB)) (c_instruction_at : CalX P w K mg base 6 "instruction_at" ["registers", "bits", "address"] (spInAt CR CB CA)) (G : NkF K mg) (X : OuR K mg CS CB CA) :
    FnOk P w K mg base CX0 7 f fd ["_law_registers_here", "_law_bits_here", "_law_address"] spRefu := by
  obtain ⟨f_read_bits, fd_read_bits, g_read_bits, k_read_bits, b_read_bits, G_read_bits⟩ := c_read_bits
  obtain ⟨f_instruction_at, fd_instruction_at, g_instruction_at, k_instruction_at, b_instruction_at, G_instruction_at⟩ := c_instruction_at
  refine F.ok sc__law_refusal (fun vs H Q E h => ?_) (fun cdv A outer s H vs Q E hr h => ?_)
  · obtain ⟨r, x, z, rfl, _⟩ := h
    rfl
  · obtain ⟨r, x, z, rfl, h6, h9, h⟩ := h
    have nd := sc__law_refusal.nd
    have hu := hu_of hr
    apply Exists.intro
    apply And.intro
    case left =>
     apply PSs.nox
     apply pss_cons
     · exact ps_asg (pe_tup (pa_cons pe_non (pa_cons pe_non pa_nil))) (pg_tup rfl (pgs_cons (pg_name (i := 3) nd rfl (Or.inl rfl)) (pgs_cons (pg_name (i := 4) nd rfl (Or.inl rfl)) pgs_nil)))
     apply C8.pss_cut
     · refine ps_try_held (X := (cxOf CX0 P w K mg base ["_law_registers_here", "_law_bits_here", "_law_address", "_law_error", "_law_told", "e"] "_law_refusal" (defScope s_law_refusal) f cdv A outer s H E).nox) (c := .ref CS) (i := 5)
         (tb := tRefu K CR CB CA) (ts := fun a cls d => tAsg (tVar 5) (gName 3)) (Wout := fun _ _ _ _ => False)
         rfl rfl rfl nd rfl rfl ⟨rfl, by decide, .inl X.gS⟩ LamX.takes0 (fun W pn xe tk _ => ?_) (fun a oe cls d pn _ _ => pss_one (ps_set (i := 3) nd rfl (.inl rfl) (pv 5)))
       exact pss_one (ps_set (i := 4) nd rfl (.inl rfl) (pe_ifExp (pt_cmpR (op_eq.or ((op_eqD hr.units).or (op_eqDS (Nat.lt_of_le_of_lt (Nat.le_add_right _ 64) hr.units)))) (pv 2) pe_str (nomark _))
         (pe_callS G_read_bits hr rfl g_read_bits k_read_bits b_read_bits (fun σ => passAt (takes_lenN 6 tk rfl) σ) (pa_cons (pv 0) (pa_cons (pv 1) pa_nil)))
         (pe_callS G_instruction_at hr rfl g_instruction_at k_instruction_at b_instruction_at (fun σ => passAt (takes_lenN 6 tk rfl) σ) (pa_cons (pv 0) (pa_cons (pv 1) (pa_cons (pv 2) pa_nil))))))
     apply pss_cons
     · exact ps_if (pt_cmpR op_isN (pv 3) pe_non (nomark _)) (pss_one (ps_ret (pe_tup (pa_cons pe_str (pa_cons (pv 4) pa_nil))))) pss_nil
     apply pss_cons
     · exact ps_if (pt_val (pe_callB call_isiX (by rfl) G.isi (by decide +kernel) (pa_cons (pv 3) (pa_cons (pe_glob (v := .ref CB) (by rfl) X.gB rfl) pa_nil)))) (pss_one (ps_ret (pe_tup (pa_cons pe_str (pa_cons (pe_exF (pv 3)) pa_nil))))) pss_nil
     apply pss_one
     exact ps_ret (pe_ifExp (pt_val (pe_callB call_isiX (by rfl) G.isi (by decide +kernel) (pa_cons (pv 3) (pa_cons (pe_glob (v := .ref CA) (by rfl) X.gA rfl) pa_nil)))) (pe_tup (pa_cons pe_str pa_nil)) (pe_tup (pa_cons pe_str pa_nil)))
    case right =>
      let Good : XK := fun cls d H' => (cls = .ref CA ∧ d = none ∧ ∀ H2 q, Same H' H2 → H' q = none → H2 q = some (.tup [.str "BadAddress"]) → Q (.ref q) H2) ∨ (∃ dx v, cls = .ref CB ∧ d = some dx ∧ H' dx = some (.xd [("at", v)]) ∧ ∀ H2 q, Same H' H2 → H' q = none → H2 q = some (.tup [.str "BadBits", v]) → Q (.ref q) H2)
      let Val : VK := fun v H' => ∀ H2 q, Same H' H2 → H' q = none → H2 q = some (.tup [.str "value", v]) → Q (.ref q) H2
      refine ⟨(show 2 ≤ sizeLine by decide), fun q hq => ⟨q, _, rfl, SqT.of upd_same, rfl, _, _, rfl, _, _, rfl, rfl, ?_⟩⟩
      have s1 : Same H (upd H q (.tup [.non, .non])) := same_new hq
      generalize upd H q (.tup [.non, .non]) = H1 at s1
      refine ⟨fun σ H' => (∃ a cls d H2, Good cls d H2 ∧ H2 a = none ∧ H' = upd H2 a (ExH cls a d) ∧ σ = [some (.int (r : Int)), some x, some z, some (.ref a), some .non, none]) ∨ (∃ v, Val v H' ∧ σ = [some (.int (r : Int)), some x, some z, some .non, some v, none]), ?_, ?_⟩
      · have take : ∀ cls d H', Good cls d H' → wHeld K (.ref CS) 5 (fun a cls d => tAsg (tVar 5) (gName 3)) (fun _ _ _ _ => False) { nx := fun σ H' => (∃ a cls d H2, Good cls d H2 ∧ H2 a = none ∧ H' = upd H2 a (ExH cls a d) ∧ σ = [some (.int (r : Int)), some x, some z, some (.ref a), some .non, none]) ∨ (∃ v, Val v H' ∧ σ = [some (.int (r : Int)), some x, some z, some .non, some v, none]), rt := Q } cls d [some (.int (r : Int)), some x, some z, some .non, some .non, none] H' := by
          intro cls d H' hg
          have e : PySem.W.exmOne K cls (.ref CS) = some true := by
            rcases id hg with ⟨rfl, _⟩ | ⟨_, _, rfl, _⟩
            · exact X.xA
            · exact X.xB
          exact ⟨true, e, fun _ a ha => ⟨_, rfl, .inl ⟨a, cls, d, H', hg, ha, rfl, rfl⟩⟩, fun z => nomatch z⟩
        have val : ∀ v H', Val v H' → (∃ a cls d H2, Good cls d H2 ∧ H2 a = none ∧ H' = upd H2 a (ExH cls a d) ∧ ([some (.int (r : Int)), some x, some z, some .non, some v, none] : L2.St) = [some (.int (r : Int)), some x, some z, some (.ref a), some .non, none]) ∨ (∃ v', Val v' H' ∧ ([some (.int (r : Int)), some x, some z, some .non, some v, none] : L2.St) = [some (.int (r : Int)), some x, some z, some .non, some v', none]) := fun v H' hv => .inr ⟨v, hv, rfl⟩
        have bad : ∀ (v : V) (d : PyData), (∀ H2, Same H H2 → Dt anyA H2 v d) → (∀ H' t, Same H H' → Dt anyA H' (.ref t) (.tuple [.str "BadBits", d]) → Q (.ref t) H') → ∀ H' dx, Same H1 H' → H' dx = some (.xd [("at", v)]) → Good (.ref CB) (some dx) H' := fun v d hv k H' dx s' e => .inr ⟨dx, v, rfl, rfl, e, fun H2 q s2 n2 e2 => k H2 q (s1.trans (s'.trans s2)) (.tup trivial e2 (.cons (.str _) (.cons (hv H2 (s1.trans (s'.trans s2))) .nil)))⟩
        rcases h with ⟨hx, hz, k⟩ | ⟨l, rfl, hl, ⟨rfl, k⟩ | ⟨o, hz, ho, k⟩⟩
        · have hb : atE CB .non H1 fun cls d H' => Good cls d H' := fun H' dx s' e n => bad .non .none (fun _ _ => .non) k H' dx s' e
          rcases hz with rfl | hz
          · refine ⟨_, rfl, .inl ⟨rfl, _, rfl, ?_⟩⟩
            rw [decide_eq_true rfl]
            exact iteT ⟨_, rfl, _, rfl, _, _, rfl, .inr ⟨r, rfl, h6, h9, .inl ⟨hx.imp (fun y => y) (NtV.same s1), fun H' dx s' e n _ => take _ _ _ (hb H' dx s' e n)⟩⟩⟩
          · refine ⟨_, rfl, (hz.same s1).eq ⟨_, rfl, iteF ?_⟩⟩
            exact ⟨_, rfl, _, rfl, _, rfl, _, _, _, rfl, .inr ⟨r, rfl, h6, h9, .inl ⟨hx.imp (fun y => y) (NtV.same s1), fun H' dx s' e n _ => take _ _ _ (hb H' dx s' e n)⟩⟩⟩
        · refine ⟨_, rfl, .inl ⟨rfl, _, rfl, ?_⟩⟩
          rw [decide_eq_true rfl]
          unfold dueD at k
          have hle := (rdA_back h9 l).choose_spec.2.2.2.2
          by_cases c : (rdA r l).2 = l.length
          · rw [if_pos c] at k
            exact iteT ⟨_, rfl, _, rfl, _, _, rfl, .inr ⟨r, rfl, h6, h9, .inr ⟨l, rfl, hl, .inr ⟨by omega, fun H' v s' hv => val v H' fun H2 q s2 n2 e2 => k H2 q (s1.trans (s'.trans s2)) (.tup trivial e2 (.cons (.str _) (.cons (hv.to fun b o g e => ⟨s2 _ _ e, trivial⟩) .nil)))⟩⟩⟩⟩
          · rw [if_neg c] at k
            exact iteT ⟨_, rfl, _, rfl, _, _, rfl, .inr ⟨r, rfl, h6, h9, .inr ⟨l, rfl, hl, .inl ⟨by omega, fun H' dx s' e n _ => take _ _ _ (bad _ _ (fun _ _ => .int _) k H' dx s' e)⟩⟩⟩⟩
        · refine ⟨_, rfl, (hz.same s1).eq ⟨_, rfl, iteF ?_⟩⟩
          unfold adD at k
          have ho1 : PlV H1 l.length z o := by
            cases o with
            | some i => exact ho
            | none => exact ho.imp (fun y => y) (OtV.same s1)
          refine ⟨_, rfl, _, rfl, _, rfl, _, _, _, rfl, .inr ⟨r, rfl, h6, h9, .inr ⟨l, o, rfl, hl, ho1, ?_⟩⟩⟩
          cases e : askA r l o with
          | none =>
            rw [e] at k
            exact .inl ⟨rfl, fun H' s' _ => take _ _ _ (.inl ⟨rfl, rfl, fun H2 q s2 n2 e2 => k H2 q (s1.trans (s'.trans s2)) (.tup trivial e2 (.cons (.str _) .nil))⟩)⟩
          | some y =>
            obtain ⟨d, b⟩ := y
            rw [e] at k
            refine .inr ⟨d, b, rfl, fun H' v s' hv => val v H' fun H2 q s2 n2 e2 => ?_⟩
            obtain ⟨p, x, rfl, hp, hx⟩ := hv
            exact k H2 q (s1.trans (s'.trans s2)) (.tup trivial e2 (.cons (.str _) (.cons (.tup trivial (s2 _ _ hp) (.cons (hx.to fun b o g e => ⟨s2 _ _ e, trivial⟩) (.cons (.int _) .nil))) .nil)))
      · rintro σ H' (⟨a, cls, d, H2, hg, ha, rfl, rfl⟩ | ⟨v, hv, rfl⟩)
        · refine ⟨_, rfl, rfl, _, rfl, ?_⟩
          rw [decide_eq_false (fun z => by cases z)]
          refine iteF ?_
          rcases hg with ⟨rfl, rfl, k⟩ | ⟨dx, v, rfl, rfl, ed, k⟩
          · have ex : ExAt (upd H2 a (ExH (.ref CA) a none)) a CA := .inr (.inr ⟨none, upd_same, fun dx e => nomatch e⟩)
            refine ⟨_, rfl, a, CA, .ref CB, .ref CB, false, rfl, .own CB, X.rA, ex, X.iAB, _, rfl, iteF ?_⟩
            refine ⟨_, rfl, a, CA, .ref CA, .ref CA, true, rfl, .own CA, X.rA, ex, X.iAA, _, rfl, iteT ?_⟩
            refine ⟨(show 1 ≤ sizeLine by decide), fun t ht => k _ t ((same_new ha).trans (same_new ht)) ?_ upd_same⟩
            exact (same_new ha).free ht
          · have ed' : (upd H2 a (ExH (.ref CB) a (some dx))) dx = some (.xd [("at", v)]) := (same_new ha) _ _ ed
            have ex : ExAt (upd H2 a (ExH (.ref CB) a (some dx))) a CB := .inr (.inr ⟨some dx, upd_same, fun dx' e => by cases e; exact ⟨_, ed'⟩⟩)
            refine ⟨_, rfl, a, CB, .ref CB, .ref CB, true, rfl, .own CB, X.rB, ex, X.iBB, _, rfl, iteT ?_⟩
            refine ⟨_, rfl, a, CB, dx, _, v, rfl, X.rB, X.nB, .inr ⟨upd_same, ed'⟩, rfl, ?_⟩
            refine ⟨(show 2 ≤ sizeLine by decide), fun t ht => k _ t ((same_new ha).trans (same_new ht)) ?_ upd_same⟩
            exact (same_new ha).free ht
        · refine ⟨_, rfl, rfl, _, rfl, ?_⟩
          rw [decide_eq_true rfl]
          exact iteT ⟨_, rfl, (show 2 ≤ sizeLine by decide), fun t ht => hv _ t (same_new ht) ht upd_same⟩
end
/-! ## k84's law: bits changed -/
theorem bl_len (l : List Bool) : (sT (bT l)).length = l.length := by rw [sT_len, bT_len]
theorem bS (a b : List Bool) : sT (bT a) ++ sT (bT b) = sT (bT (a ++ b)) := by rw [sT_ap, ← bT_app]
theorem bTo (l : List Bool) (a : Nat) : cutS (sT (bT l)) none (some (a : Int)) = sT (bT (l.take a)) := by
  rw [cut_to]
  unfold bT
  rw [List.map_take]
theorem bFrom (l : List Bool) (a : Nat) : cutS (sT (bT l)) (some (a : Int)) none = sT (bT (l.drop a)) := by
  rw [cut_from]
  unfold bT
  rw [List.map_drop]
theorem bFrom1 (l : List Bool) (a : Nat) : cutS (sT (bT l)) (some ((a : Int) + 1)) none = sT (bT (l.drop (a + 1))) := bFrom l (a + 1)
theorem b01 {v : V} (h : v ∈ (("01" : Str).cps.toList.map fun c => V.str ⟨#[c]⟩)) : ∃ b : Bool, v = .str (sT (bT [b])) := by
  obtain ⟨c, hc, rfl⟩ := List.mem_map.mp h
  have key : ∀ c ∈ ("01" : Str).cps.toList, c = 48 ∨ c = 49 := by decide +kernel
  rcases key c hc with rfl | rfl
  · exact ⟨false, rfl⟩
  · exact ⟨true, rfl⟩
def spChg : Sp := fun vs H Q _ => ∃ (t : Nat) (V0 : Hp) (d : Addr) (l : List Bool), vs = [.ref d, .str (sT (bT l))] ∧ Dw t V0 H d ∧ t + 300 < T40 ∧ l.length ≤ 480 ∧ ∀ (l' : List Bool) (H' : Hp), l'.length ≤ 492 → Dw (t + 30) V0 H' d → Q (.str (sT (bT l'))) H'
section
variable {P : Program} {w : World} {K : PySem.W.Frag} {mg : Str → Option Value} {base : Heap}
theorem sc__law_changed : FnScope ["_law_draw", "_law_bits_here", "_law_way", "_law_at"] ["_law_draw", "_law_bits_here"] (defScope s_law_changed) := ⟨rfl, rfl, rfl, by decide +kernel, rfl, by decide +kernel, by decide +kernel⟩
theorem ok_lchanged {f : Addr} {fd : FuncData} (F : FnP K "_law_changed" s_law_changed f fd) (c__law_take : Cal P w K mg base 2 "_law_take" ["_law_draw", "_law_many"] spTake) (c__law_pick : Cal P w K mg base 3 "_law_pick" ["_law_draw", "_law_some"] (spPick K))
    (c__law_bits : Cal P w K mg base 4 "_law_bits" ["_law_draw", "_law_most"] spBits) (G : NkF K mg) : FnOk P w K mg base CX0 5 f fd ["_law_draw", "_law_bits_here"] spChg := by
  obtain ⟨f__law_take, fd__law_take, g__law_take, k__law_take, b__law_take, G__law_take⟩ := c__law_take
  obtain ⟨f__law_pick, fd__law_pick, g__law_pick, k__law_pick, b__law_pick, G__law_pick⟩ := c__law_pick
  obtain ⟨f__law_bits, fd__law_bits, g__law_bits, k__law_bits, b__law_bits, G__law_bits⟩ := c__law_bits
  refine F.ok sc__law_changed (fun vs H Q E h => ?_) (fun cdv A outer s H vs Q E hr h => ?_)
  · obtain ⟨t, V0, d, l, rfl, _⟩ := h
    rfl
  · obtain ⟨t, V0, d, l, rfl, hD, ht, hl, k⟩ := h
    have ht : t + 300 < 1099511627776 := ht
    have nd := sc__law_changed.nd
    apply Exists.intro
    apply And.intro
    case left =>
     apply PSs.nox
     apply pss_cons
     · exact (ps_par (X := (cxOf CX0 P w K mg base ["_law_draw", "_law_bits_here", "_law_way", "_law_at"] "_law_changed" (defScope s_law_changed) f cdv A outer s H E).nox) (i := 2) (j := 3) rfl nd rfl rfl (by decide) rfl rfl (pa_cons (pe_call G__law_take (hr.mono (by decide)) rfl g__law_take k__law_take b__law_take .nil pass0 (pa_cons (pv 0) (pa_cons pe_int pa_nil))) (pa_cons (pe_call G__law_take (hr.mono (by decide)) rfl g__law_take k__law_take b__law_take .nil pass0 (pa_cons (pv 0) (pa_cons (pe_op op_add (pe_callB call_len_str (by rfl) G.len PySem.boot_len (pa_cons (pv 1) pa_nil)) pe_int) pa_nil))) pa_nil)) (by rfl))
     apply pss_cons
     · exact (ps_if (pt_cmpR op_lt (pv 2) pe_int (nomark _)) (pss_one (ps_ret (pv 1))) pss_nil)
     apply pss_cons
     · exact (ps_if (pt_cmpR op_eq (pv 2) pe_int (nomark _)) (pss_one (ps_ret (pe_slice sl_str (pv 1) po_none (po_some (pv 3))))) pss_nil)
     apply pss_cons
     · exact (ps_if (pt_cmpR op_eq (pv 2) pe_int (nomark _)) (pss_one (ps_ret (pe_op op_add_str (pv 1) (pe_call G__law_bits (hr.mono (by decide)) rfl g__law_bits k__law_bits b__law_bits .nil pass0 (pa_cons (pv 0) (pa_cons pe_int pa_nil)))))) pss_nil)
     apply pss_cons
     · exact (ps_if (pt_cmpR op_eq (pv 2) pe_int (nomark _)) (pss_one (ps_ret (pe_op op_add_str (pe_op op_add_str (pe_slice sl_str (pv 1) po_none (po_some (pv 3))) (pe_call G__law_pick (hr.mono (by decide)) rfl g__law_pick k__law_pick b__law_pick .nil pass0 (pa_cons (pv 0) (pa_cons pe_str pa_nil)))) (pe_slice sl_str (pv 1) (po_some (pv 3)) po_none)))) pss_nil)
     apply pss_cons
     · exact (ps_if (PW.pt (pw_or (pt_cmpR op_eq (pv 2) pe_int (nomark _)) (pw_or1 (pt_cmpR op_eq (pv 3) (pe_callB call_len_str (by rfl) G.len PySem.boot_len (pa_cons (pv 1) pa_nil)) (nomark _))))) (pss_one (ps_ret (pe_op op_add_str (pe_slice sl_str (pv 1) po_none (po_some (pv 3))) (pe_slice sl_str (pv 1) (po_some (pe_op op_add (pv 3) pe_int)) po_none)))) pss_nil)
     apply pss_one
     exact (ps_ret (pe_op op_add_str (pe_op op_add_str (pe_slice sl_str (pv 1) po_none (po_some (pv 3))) (pe_ifExp (pt_cmpR op_eq (pe_ix ix_str (pv 1) (pv 3) (fun _ _ => rfl)) pe_str (nomark _)) pe_str pe_str)) (pe_slice sl_str (pv 1) (po_some (pe_op op_add (pv 3) pe_int)) po_none)))
    case right =>
      have sl : (sT (bT l)).length ≤ sizeLine := sl_of (by rw [sT_len, bT_len]; omega)
      refine ⟨_, rfl, t, V0, d, 7, rfl, hD, by show t < 1099511627776; omega, by decide, by decide, fun wy H1 w0 w1 D1 => ?_⟩
      refine ⟨_, rfl, _, rfl, _, rfl, sl, _, _, rfl, rfl, t + 1, V0, d, _, rfl, D1, by show t + 1 < 1099511627776; omega, by omega, by rw [bl_len]; omega, fun a H2 a0 a1 D2 => ⟨_, _, rfl, ?_⟩⟩
      rw [bl_len] at a1
      obtain ⟨a, rfl⟩ : ∃ n : Nat, a = (n : Int) := ⟨a.toNat, by omega⟩
      have D2' : Dw (t + 30) V0 H2 d := D2.mono (by omega)
      have lt1 : (l.take a).length ≤ 480 := Nat.le_trans (List.length_take_le' _ _) hl
      have ld1 : (l.drop a).length ≤ 480 := by rw [List.length_drop]; omega
      have ld2 : (l.drop (a + 1)).length ≤ 480 := by rw [List.length_drop]; omega
      refine ⟨_, rfl, _, _, rfl, rfl, _, rfl, ?_⟩
      refine ite2 (fun _ => ?_) (fun _ => ?_)
      · exact ⟨_, rfl, k l _ (by omega) D2'⟩
      refine ⟨_, rfl, rfl, _, rfl, ?_⟩
      refine ite2 (fun _ => ?_) (fun _ => ?_)
      · refine ⟨_, rfl, _, rfl, _, rfl, _, rfl, sl, ?_⟩
        rw [bTo]
        exact k _ _ (by omega) D2'
      refine ⟨_, rfl, rfl, _, rfl, ?_⟩
      refine ite2 (fun _ => ?_) (fun _ => ?_)
      · refine ⟨_, rfl, _, rfl, t + 2, V0, d, 12, rfl, D2, by show t + 2 + 200 < 1099511627776; omega, by decide, fun l2 H3 hl2 D3 => ?_⟩
        refine ⟨_, _, rfl, rfl, sl_of (by rw [bl_len, bl_len]; omega), ?_⟩
        rw [bS]
        exact k _ _ (by rw [List.length_append]; omega) (D3.mono (by omega))
      refine ⟨_, rfl, rfl, _, rfl, ?_⟩
      refine ite2 (fun _ => ?_) (fun _ => ?_)
      · refine ⟨_, rfl, _, rfl, _, rfl, _, rfl, sl, ?_⟩
        rw [bTo]
        refine ⟨_, rfl, t + 2, V0, d, .str "01", _, rfl, D2, by show t + 2 < 1099511627776; omega, .str (by decide +kernel), by decide +kernel, by decide +kernel, fun v H3 hv D3 => ?_⟩
        obtain ⟨b, rfl⟩ := b01 hv
        refine ⟨_, _, rfl, rfl, sl_of (by rw [bl_len, bl_len]; simp; omega), ?_⟩
        rw [bS]
        refine ⟨_, rfl, _, rfl, _, rfl, _, rfl, sl, ?_⟩
        rw [bFrom]
        refine ⟨_, _, rfl, rfl, sl_of (by rw [bl_len, bl_len]; simp only [List.length_append, List.length_cons, List.length_nil]; omega), ?_⟩
        rw [bS]
        refine k _ _ ?_ (D3.mono (by omega))
        have e1 := List.length_take_le' a l
        have e2 : (l.take a).length + (l.drop a).length = l.length := by rw [← List.length_append, List.take_append_drop]
        simp only [List.length_append, List.length_cons, List.length_nil]
        omega
      have e1 := List.length_take_le' a l
      have e2 : (l.take a).length + (l.drop a).length = l.length := by rw [← List.length_append, List.take_append_drop]
      have e3 : (l.drop (a + 1)).length ≤ (l.drop a).length := by rw [List.length_drop, List.length_drop]; omega
      have fin : Q (.str (sT (bT (l.take a ++ l.drop (a + 1))))) H2 := k _ _ (by rw [List.length_append]; omega) D2'
      have la : (sT (bT (l.take a))).length + (sT (bT (l.drop (a + 1)))).length ≤ sizeLine := sl_of (by rw [bl_len, bl_len]; omega)
      refine ⟨_, rfl, rfl, _, rfl, ?_⟩
      refine ite2 (fun _ => ?_) (fun _ => ?_)
      · refine iteT ⟨_, rfl, _, rfl, _, rfl, _, rfl, sl, ?_⟩
        rw [bTo]
        refine ⟨_, rfl, _, rfl, _, _, rfl, rfl, _, rfl, _, rfl, sl, ?_⟩
        rw [bFrom1]
        refine ⟨_, _, rfl, rfl, la, ?_⟩
        rw [bS]
        exact fin
      refine ⟨_, rfl, _, rfl, _, rfl, sl, rfl, _, rfl, ?_⟩
      rw [bl_len]
      refine ite2 (fun _ => ?_) (fun cl => ?_)
      · refine ⟨_, rfl, _, rfl, _, rfl, _, rfl, sl, ?_⟩
        rw [bTo]
        refine ⟨_, rfl, _, rfl, _, _, rfl, rfl, _, rfl, _, rfl, sl, ?_⟩
        rw [bFrom1]
        refine ⟨_, _, rfl, rfl, la, ?_⟩
        rw [bS]
        exact fin
      have hal : a < l.length := by
        have : ¬ a = l.length := fun z => cl (decide_eq_true (by rw [z]))
        omega
      have at0 : atI (sT (bT l)).cps.toList (a : Int) = some (bit l[a]) := by
        rw [sT_cps]
        exact atI_nat (by unfold bT; rw [List.getElem?_map, List.getElem?_eq_getElem hal]; rfl)
      have z0 : ("0" : Str) = sT (bT [false]) := cps1 (by decide +kernel)
      have z1 : ("1" : Str) = sT (bT [true]) := cps1 (by decide +kernel)
      refine ⟨_, rfl, _, rfl, _, rfl, _, rfl, sl, ?_⟩
      rw [bTo]
      refine ⟨_, rfl, _, rfl, _, _, _, rfl, rfl, sl, at0, rfl, _, rfl, ?_⟩
      have end_ : ∀ b : Bool, Q (.str (sT (bT (l.take a ++ [b] ++ l.drop (a + 1))))) H2 := fun b => k _ _ (by rw [List.length_append, List.length_append, List.length_singleton]; omega) D2'
      refine ite2 (fun _ => ?_) (fun _ => ?_)
      · rw [z0]
        refine ⟨_, _, rfl, rfl, sl_of (by rw [bl_len, bl_len, List.length_singleton]; omega), ?_⟩
        rw [bS]
        refine ⟨_, rfl, _, rfl, _, _, rfl, rfl, _, rfl, _, rfl, sl, ?_⟩
        rw [bFrom1]
        refine ⟨_, _, rfl, rfl, sl_of (by rw [bl_len, bl_len, List.length_append, List.length_singleton]; omega), ?_⟩
        rw [bS]
        exact end_ false
      · rw [z1]
        refine ⟨_, _, rfl, rfl, sl_of (by rw [bl_len, bl_len, List.length_singleton]; omega), ?_⟩
        rw [bS]
        refine ⟨_, rfl, _, rfl, _, _, rfl, rfl, _, rfl, _, rfl, sl, ?_⟩
        rw [bFrom1]
        refine ⟨_, _, rfl, rfl, sl_of (by rw [bl_len, bl_len, List.length_append, List.length_singleton]; omega), ?_⟩
        rw [bS]
        exact end_ true
end
/-! ## the law's bits, readings and numbers -/
theorem flat_bits (l : List Bool) : (l.map fun b => [bit b]).flatten = bT l := by
  induction l with
  | nil => rfl
  | cons b l ih =>
    rw [List.map_cons, List.flatten_cons, ih]
    rfl
theorem join_bits (l : List Bool) : Txt.join "" (l.map fun b => sT [bit b]) = sT (bT l) := by
  rw [← flat_bits, ← join_sT, List.map_map]
  rfl
theorem sum_bits (l : List Bool) : ((l.map fun b => sT [bit b]).map (·.length)).sum = l.length := by
  induction l with
  | nil => rfl
  | cons b l ih =>
    rw [List.map_cons, List.map_cons, List.sum_cons, ih, sT_len, List.length_cons]
    exact Nat.add_comm 1 _
section
variable {P : Program} {w : World} {K : PySem.W.Frag} {mg : Str → Option Value} {base : Heap}
theorem sc_lbits : FnScope ["_law_draw", "_law_most", "_law_many", "_law_slow", "_law_k"] ["_law_draw", "_law_most"] (defScope s_law_bits) := ⟨rfl, rfl, rfl, by decide +kernel, rfl, by decide +kernel, by decide +kernel⟩
theorem ok_lbits {f : Addr} {fd : FuncData} (F : FnP K "_law_bits" s_law_bits f fd) (D : DrF P w K mg base) : FnOk P w K mg base CX0 4 f fd ["_law_draw", "_law_most"] spBits := by
  obtain ⟨fT, fdT, gT, kT, bT', GT⟩ := D.take
  obtain ⟨fP, fdP, gP, kP, bP, GP⟩ := D.pick
  refine F.ok sc_lbits (fun vs H Q E h => ?_) (fun cdv A outer s H vs Q E hr h => ?_)
  · obtain ⟨t, V0, d, m, rfl, _⟩ := h
    rfl
  · obtain ⟨t, V0, d, m, rfl, hD, ht, hm, k⟩ := h
    have ht : t + 200 < 1099511627776 := ht
    have nd := sc_lbits.nd
    have hr2 := hr.mono (show 2 ≤ 3 by decide)
    refine ⟨_, PSs.nox (pss_cons (ps_asg (pe_tup (pa_cons (pe_call GT hr2 rfl gT kT bT' .nil pass0 (pa_cons (pv 0) (pa_cons (pe_op op_add (pv 1) pe_int) pa_nil))) (pa_cons (pe_call GP hr rfl gP kP bP .nil pass0 (pa_cons (pv 0) (pa_cons (pe_lst (pa_cons pe_int (pa_cons pe_int (pa_cons pe_int pa_nil)))) pa_nil))) pa_nil))) (pg_tup rfl (pgs_cons (pg_name (i := 2) nd rfl (Or.inl rfl)) (pgs_cons (pg_name (i := 3) nd rfl (Or.inr rfl)) pgs_nil))))
      (pss_one (ps_ret (pe_join pe_str (pe_lc (own := [("_law_k", 4)]) (g := gName 4) rfl nd (pi_range1 (by rfl) D.rng (pa_cons (pv 2) pa_nil)) (blkOk_by (own := [("_law_k", 4)]) (N := ["_law_draw", "_law_most", "_law_many", "_law_slow", "_law_k"]) (sc := defScope s_law_bits) (by decide +kernel))
        (fun _ _ _ _ _ => pg_name (i := 4) nd rfl (Or.inl rfl)) (fun _ _ _ _ _ => pts_nil) (fun _ _ _ _ _ => pe_ifExp (pt_cmpR op_eq (pe_call GT hr2 rfl gT kT bT' .nil pass0 (pa_cons (pv 0) (pa_cons (pv 3) pa_nil))) pe_int (nomark _)) pe_str pe_str)))))), ?_⟩
    refine ⟨_, rfl, _, rfl, _, _, rfl, rfl, t, V0, d, _, rfl, hD, by show t < 1099511627776; omega, by omega, by omega, fun a H1 a0 a1 D1 => ?_⟩
    refine ⟨_, rfl, (show 3 ≤ sizeLine by decide), fun p hp => ?_⟩
    obtain ⟨V1, E1, y1, e1⟩ := D1.mk (o := .lst [V.int 2, V.int 2, V.int 7]) hp
    refine ⟨t + 1, V1, d, .ref p, _, rfl, E1, by show t + 1 < 1099511627776; omega, .lst (SqL.of e1), (show 0 < 3 by decide), (show 3 < 100000 by decide), fun v H2 hv D2 => ?_⟩
    obtain ⟨s, rfl, s0, s1⟩ : ∃ s : Int, v = .int s ∧ 0 < s ∧ s < 10 := by
      rcases List.mem_cons.mp hv with rfl | hv
      · exact ⟨2, rfl, by decide, by decide⟩
      rcases List.mem_cons.mp hv with rfl | hv
      · exact ⟨2, rfl, by decide, by decide⟩
      rw [List.mem_singleton] at hv
      exact ⟨7, hv, by decide, by decide⟩
    refine ⟨(show 2 ≤ sizeLine by decide), fun q hq => ?_⟩
    obtain ⟨V2, E2, y2, e2⟩ := D2.mk (o := .tup [V.int a, V.int s]) hq
    refine ⟨q, _, rfl, SqT.of upd_same, rfl, _, _, rfl, _, _, rfl, rfl, ?_⟩
    refine ⟨⟨_, rfl⟩, _, rfl, a, rfl, by omega, by omega, fun Dl hDl => ?_⟩
    obtain ⟨V3, D3, y3, e3⟩ := E2.mk (o := .lst []) hDl
    have y12 := y1.trans y2
    have y13 := y12.trans y3
    have nDl : V0 Dl = none := y12.free (E2.same.free hDl)
    refine lc_range (lo := 0) (n := a.toNat) (fun j H' => ∃ (V' : Hp) (acc : List Bool), Dw (t + 2 + j) V' H' d ∧ Same V0 V' ∧ V' Dl = some (.lst ((acc.map fun b => sT [bit b]).map V.str)) ∧ acc.length = j)
      ⟨V3, [], D3, y13, e3, rfl⟩ ?_ ?_
    · rintro j H' hj ⟨V', acc, c1, c2, c3, c4⟩
      refine ⟨rfl, yesIf ?_⟩
      refine ⟨_, rfl, _, rfl, t + 2 + j, V', d, s, rfl, c1, by show t + 2 + j < 1099511627776; omega, s0, by omega, fun z H3 z0 z1 D4 => ?_⟩
      have more : ∀ b : Bool, ∃ acc', H3 Dl = some (.lst acc') ∧ acc'.length < sizeLine ∧ ∃ (V' : Hp) (acc2 : List Bool), Dw (t + 2 + (j + 1)) V' (upd H3 Dl (.lst (acc' ++ [V.str (sT [bit b])]))) d ∧ Same V0 V' ∧ V' Dl = some (.lst ((acc2.map fun b => sT [bit b]).map V.str)) ∧ acc2.length = j + 1 := by
        intro b
        refine ⟨_, D4.same _ _ c3, ?_, upd V' Dl (.lst ((acc.map fun b => sT [bit b]).map V.str ++ [V.str (sT [bit b])])), acc ++ [b], D4.set c3, same_sub c2 ?_, ?_, ?_⟩
        · rw [List.length_map, List.length_map, c4]
          exact Nat.lt_of_lt_of_le (show j < 1000 by omega) (by decide)
        · exact nDl
        · rw [upd_same, List.map_append, List.map_append]
          rfl
        · rw [List.length_append, c4]
          rfl
      refine ⟨rfl, _, rfl, ?_⟩
      refine ite2 (fun c => ?_) (fun c => ?_)
      · rw [one_eq]
        exact more true
      · rw [zero_eq]
        exact more false
    · rintro H6 ⟨V6, acc, D6, y6, e6, hlen⟩
      have hl : acc.length ≤ m := by omega
      refine ⟨"", Dl, acc.map fun b => sT [bit b], rfl, rfl, .inl (SqL.of (D6.same _ _ e6)), ?_, ?_⟩
      · rw [sum_bits, show ("" : Str).length = 0 from rfl, Nat.mul_zero, Nat.add_zero]
        omega
      rw [join_bits]
      exact k _ _ hl ((D6.mono (by omega)).less y6)
theorem sc_lread : FnScope ["_law_bits_here", "_law_at", "_law_first_here", "_law_behind"] ["_law_bits_here", "_law_at"] (defScope s_law_read) := ⟨rfl, rfl, rfl, by decide +kernel, rfl, by decide +kernel, by decide +kernel⟩
theorem ok_lread {f fV : Addr} {fd fdV : FuncData} (F : FnP K "_law_read" s_law_read f fd) (FV : FnP K "_law_value" s_law_value fV fdV) (gV : mg "_law_value" = some (.ref fV)) (G : NkF K mg) : FnOk P w K mg base CX0 2 f fd ["_law_bits_here", "_law_at"] (spLRead rdI) := by
  have GV : FnOk P w K mg base CX0 1 fV fdV ["_law_bits_here"] spVal := ok_value FV G
  have bV : Binds K fdV ["_law_bits_here"] [] := FV.bindsN fun _ _ _ _ _ _ us hl => match us, hl with | [_], _ => rfl
  refine F.ok sc_lread (fun vs H Q E h => ?_) (fun cdv A outer s H vs Q E hr h => ?_)
  · obtain ⟨l, i, rfl, _⟩ := h
    rfl
  · obtain ⟨l, i, rfl, hl, hi, k⟩ := h
    have nd := sc_lread.nd
    refine ⟨_, PSs.nox (pss_cons (ps_set (i := 2) nd rfl (.inl rfl) (pv 1))
      (C8.pss_cut (ps_while PassesOwn.never (PW.pt (pw_and (pt_cmpR op_lt (pv 2) (pe_callB call_len (by rfl) G.len PySem.boot_len (pa_cons (pv 0) pa_nil)) (nomark _)) (pw_and1 (pt_cmpR op_eq (pe_ix ix_seq (pv 0) (pv 2) (fun _ _ => rfl)) pe_str (nomark _))))) (pss_one (ps_set (i := 2) nd rfl (.inl rfl) (pe_op op_add (pv 2) pe_int))))
      (pss_cons (ps_set (i := 3) nd rfl (.inl rfl) (pe_op op_add (pe_op op_sub (pe_op op_mul pe_int (pv 2)) (pv 1)) pe_int))
      (pss_cons (ps_if (pt_cmpR op_gt (pv 3) (pe_callB call_len (by rfl) G.len PySem.boot_len (pa_cons (pv 0) pa_nil)) (nomark _)) (pss_one (ps_ret pe_non)) pss_nil)
      (pss_one (ps_ret (pe_tup (pa_cons (pe_op op_sub (pe_call GV hr rfl gV FV.kp bV .nil pass0 (pa_cons (pe_slice sl_str (pv 0) (po_some (pv 2)) (po_some (pv 3))) pa_nil)) pe_int) (pa_cons (pv 3) pa_nil))))))))), ?_⟩
    have sl : (sT (bT l)).length ≤ sizeLine := sl_of (by rw [sT_len, bT_len]; omega)
    have zl := zer_le (l.drop i)
    rw [List.length_drop] at zl
    obtain ⟨z, ez⟩ : ∃ z, z = zer (l.drop i) := ⟨_, rfl⟩
    have er : rdI l i = if l.length < i + 2 * z + 1 then none else some (((valB ((l.drop (i + z)).take (z + 1)) - 1 : Nat) : Int), i + 2 * z + 1) := by
      unfold rdI rd
      rw [← ez]
      split <;> rfl
    refine ⟨_, rfl, fun σ H' => H' = H ∧ σ = [some (.str (sT (bT l))), some (.int (i : Int)), some (.int ((i + z : Nat) : Int)), none], ?_, ?_⟩
    · refine ⟨fun x σ H' => H' = H ∧ ∃ j : Nat, x + j = z ∧ σ = [some (.str (sT (bT l))), some (.int (i : Int)), some (.int ((i + j : Nat) : Int)), none], ⟨z, rfl, 0, by omega, rfl⟩, ?_⟩
      rintro x σ H' ⟨rfl, j, hj, rfl⟩
      refine ⟨_, rfl, _, rfl, _, _, rfl, ⟨sl, rfl⟩, _, _, rfl, rfl, _, rfl, ?_⟩
      rw [sT_len, bT_len]
      by_cases c : i + j < l.length
      · rw [decide_eq_true (show ((i + j : Nat) : Int) < (l.length : Int) by omega)]
        have at_ : ∀ b, l[i + j]? = some b → atI (sT (bT l)).cps.toList ((i + j : Nat) : Int) = some (bit b) := fun b e => by
          apply atI_nat
          rw [sT_cps]
          unfold bT
          rw [List.getElem?_map, e]
          rfl
        by_cases c2 : j < z
        · have e : l[i + j]? = some false := by
            have := zer_in (l := l.drop i) (j := j) (by omega)
            rw [List.getElem?_drop] at this
            exact this
          refine iteT ⟨_, rfl, _, rfl, .inr (.inr ⟨_, _, _, rfl, rfl, sl, at_ _ e, ?_⟩)⟩
          refine ⟨rfl, _, rfl, ?_⟩
          rw [decide_eq_true (show V.str ⟨#[bit false]⟩ = V.str "0" from congrArg V.str zero_eq.symm)]
          refine iteT ⟨fun σ' H2 => H2 = H' ∧ σ' = [some (.str (sT (bT l))), some (.int (i : Int)), some (.int ((i + (j + 1) : Nat) : Int)), none], fun _ _ h => ?_, ?_⟩
          · exact ⟨x - 1, by omega, h.1, j + 1, by omega, h.2⟩
          · exact ⟨_, rfl, _, _, rfl, rfl, rfl, rfl⟩
        · have e : l[i + j]? = some true := by
            have hjz : j = z := by omega
            have := zer_at (l := l.drop i) (by rw [List.length_drop]; omega)
            rw [← ez, List.getElem?_drop, ← hjz] at this
            exact this
          refine iteT ⟨_, rfl, _, rfl, .inr (.inr ⟨_, _, _, rfl, rfl, sl, at_ _ e, ?_⟩)⟩
          refine ⟨rfl, _, rfl, ?_⟩
          rw [decide_eq_false (show ¬ V.str ⟨#[bit true]⟩ = V.str "0" from fun z => by rw [zero_eq] at z; injection z with z; injection z with z; exact absurd z (by decide))]
          have hjz : j = z := by omega
          subst hjz
          exact iteF ⟨rfl, rfl⟩
      · rw [decide_eq_false (show ¬ ((i + j : Nat) : Int) < (l.length : Int) by omega)]
        have hjz : j = z := by omega
        subst hjz
        exact iteF ⟨rfl, rfl⟩
    · rintro σ H' ⟨rfl, rfl⟩
      refine ⟨_, rfl, _, _, rfl, rfl, .inl ⟨by decide, by decide⟩, _, rfl, _, _, rfl, rfl, _, _, rfl, rfl, ?_⟩
      have eb : (2 : Int) * ((i + z : Nat) : Int) - (i : Int) + 1 = ((i + 2 * z + 1 : Nat) : Int) := by omega
      refine ⟨_, rfl, _, rfl, _, _, rfl, ⟨sl, rfl⟩, _, _, rfl, rfl, _, rfl, ?_⟩
      rw [sT_len, bT_len, eb]
      by_cases c2 : l.length < i + 2 * z + 1
      · rw [if_pos c2] at er
        rw [decide_eq_true (show (l.length : Int) < ((i + 2 * z + 1 : Nat) : Int) by omega)]
        exact iteT (k _ _ (Same.refl _) (by rw [er]; rfl))
      · rw [if_neg c2] at er
        rw [decide_eq_false (show ¬ (l.length : Int) < ((i + 2 * z + 1 : Nat) : Int) by omega)]
        refine iteF ⟨_, rfl, _, rfl, _, rfl, _, rfl, _, rfl, _, rfl, sl, (l.drop (i + z)).take (z + 1), ?_, by rw [List.length_take]; omega, _, _, rfl, rfl, _, rfl, (show 2 ≤ sizeLine by decide), fun p hp => ?_⟩
        · show [V.str (cutS (sT (bT l)) (some ((i + z : Nat) : Int)) (some ((2 : Int) * ((i + z : Nat) : Int) - (i : Int) + 1)))] = _
          rw [eb, cut_nat, show i + 2 * z + 1 - (i + z) = z + 1 by omega]
          unfold bT
          rw [List.map_take, List.map_drop]
        · refine k _ _ (same_new hp) ?_
          rw [er]
          refine ⟨p, rfl, ?_⟩
          rw [upd_same]
          have h1 : 1 ≤ valB ((l.drop (i + z)).take (z + 1)) := by
            have c : i + z < l.length := by omega
            have ha := zer_at (l := l.drop i) (by rw [List.length_drop]; omega)
            rw [← ez, List.getElem?_drop] at ha
            have e2 : l.drop (i + z) = true :: l.drop (i + z + 1) := by
              rw [List.drop_eq_getElem_cons c]
              congr 1
              rw [List.getElem?_eq_getElem c] at ha
              exact Option.some.inj ha
            rw [e2, List.take_succ_cons]
            exact valB_pos _
          rw [show ((valB ((l.drop (i + z)).take (z + 1)) - 1 : Nat) : Int) = ((valB ((l.drop (i + z)).take (z + 1)) : Nat) : Int) - 1 by omega]
          exact congrArg (fun u : Int => some (HO.tup [V.int (((valB ((l.drop (i + z)).take (z + 1)) : Nat) : Int) - 1), V.int u])) eb
theorem sc_lsat : FnScope ["_law_bits_here", "_law_at", "_law_told"] ["_law_bits_here", "_law_at"] (defScope s_law_signed_at) := ⟨rfl, rfl, rfl, by decide +kernel, rfl, by decide +kernel, by decide +kernel⟩
theorem ok_lsat {f fR : Addr} {fd fdR : FuncData} (F : FnP K "_law_signed_at" s_law_signed_at f fd) (kR : PySem.W.keepIn K (.ref fR) = true) (gR : mg "_law_read" = some (.ref fR)) (bR : Binds K fdR ["_law_bits_here", "_law_at"] []) (GR : FnOk P w K mg base CX0 2 fR fdR ["_law_bits_here", "_law_at"] (spLRead rdI)) (G : NkF K mg) : FnOk P w K mg base CX0 3 f fd ["_law_bits_here", "_law_at"] (spLRead rdS) := by
  refine F.ok sc_lsat (fun vs H Q E h => ?_) (fun cdv A outer s H vs Q E hr h => ?_)
  · obtain ⟨l, i, rfl, _⟩ := h
    rfl
  · obtain ⟨l, i, rfl, hl, hi, k⟩ := h
    have nd := sc_lsat.nd
    refine ⟨_, PSs.nox (pss_cons (ps_set (i := 2) nd rfl (.inl rfl) (pe_call GR hr rfl gR kR bR .nil pass0 (pa_cons (pv 0) (pa_cons (pv 1) pa_nil))))
      (pss_cons (ps_if (pt_cmpR op_isN (pv 2) pe_non (nomark _)) (pss_one (ps_ret pe_non)) pss_nil)
      (pss_one (ps_ret (pe_tup (pa_cons (pe_ifExp (pt_cmpR op_eq (pe_op op_modN (pe_callTy call_int1 (by rfl) G.int (by decide +kernel) (pa_cons (pe_ix ix_seq (pv 2) pe_int (fun _ _ => rfl)) pa_nil)) pe_int) pe_int (nomark _)) (pe_op op_fdivN (pe_ix ix_seq (pv 2) pe_int (fun _ _ => rfl)) pe_int) (pe_op op_fdivN (pe_un un_neg (pe_op op_add (pe_ix ix_seq (pv 2) pe_int (fun _ _ => rfl)) pe_int)) pe_int)) (pa_cons (pe_ix ix_seq (pv 2) pe_int (fun _ _ => rfl)) pa_nil))))))), ?_⟩
    refine ⟨_, rfl, _, rfl, l, i, rfl, hl, hi, fun v H1 s1 hv => ?_⟩
    unfold rdI at hv
    unfold rdS at k
    cases e : rd l i with
    | none =>
      rw [e] at hv k
      have hv : v = .non := hv
      subst hv
      refine ⟨_, rfl, rfl, _, rfl, ?_⟩
      rw [decide_eq_true rfl]
      exact iteT (k _ _ s1 rfl)
    | some x =>
      obtain ⟨n, b⟩ := x
      rw [e] at hv k
      obtain ⟨p, rfl, hp⟩ := hv
      refine ⟨_, rfl, rfl, _, rfl, ?_⟩
      rw [decide_eq_false (fun z => by cases z)]
      have q0 : SqT K H1 p [V.int ((n : Nat) : Int), V.int ((b : Nat) : Int)] := SqT.of hp
      refine iteF ⟨_, rfl, .inr (.inl ⟨_, _, _, _, rfl, rfl, q0, rfl, ?_⟩)⟩
      refine .inl ⟨_, rfl, _, _, rfl, rfl, (show (2 : Int) ≠ 0 by decide), rfl, _, rfl, ?_⟩
      have hm : decide (V.int ((n : Int).fmod 2) = V.int 0) = decide (n % 2 = 0) := by
        rw [Int.fmod_eq_emod_of_nonneg _ (by decide)]
        apply decide_eq_decide.mpr
        constructor
        · intro z
          injection z with z
          omega
        · intro z
          congr 1
          omega
      show (if decide (V.int ((n : Int).fmod 2) = V.int 0) = true then _ else _)
      rw [hm]
      have fin : ∀ z : Int, z = uns n → ∀ q, H1 q = none → Q (.ref q) (upd H1 q (.tup [.int z, .int (b : Int)])) := by
        rintro z rfl q hq
        exact k _ _ (s1.trans (same_new hq)) ⟨q, rfl, upd_same⟩
      refine ite2 (fun c => ?_) (fun c => ?_)
      · have c := of_decide_eq_true c
        refine ⟨_, rfl, .inr (.inl ⟨_, _, _, _, rfl, rfl, q0, rfl, _, _, rfl, rfl, ⟨by decide, by decide⟩, _, rfl, .inr (.inl ⟨_, _, _, _, rfl, rfl, q0, rfl, (show 2 ≤ sizeLine by decide), fin _ ?_⟩)⟩)⟩
        unfold uns
        rw [if_pos c, Int.fdiv_eq_ediv_of_nonneg _ (by decide)]
        omega
      · have c : ¬ n % 2 = 0 := fun z => c (decide_eq_true z)
        refine ⟨_, rfl, .inr (.inl ⟨_, _, _, _, rfl, rfl, q0, rfl, _, _, rfl, rfl, _, rfl, _, _, rfl, rfl, ⟨by decide, by decide⟩, _, rfl, .inr (.inl ⟨_, _, _, _, rfl, rfl, q0, rfl, (show 2 ≤ sizeLine by decide), fin _ ?_⟩)⟩)⟩
        unfold uns
        rw [if_neg c]
        show (-((n : Int) + 1)).fdiv 2 = _
        rw [Int.fdiv_eq_ediv_of_nonneg _ (by decide)]
        omega
end
/-! ## sizes -/
def bndW (c : Nat) : Nat := if c = 114 then 4 else if c = 99 then 20 else if c = 110 then 87 else if c = 119 then 45 else if c = 107 then 2 else if c = 108 then 14 else 33
theorem partW_len2 {r c : Nat} {d : PyData} (h : partD r c d = true) (hs : smB d = true) : (partW c d).length ≤ bndW c := by
  unfold partD at h
  unfold partW bndW
  by_cases c1 : c = 114
  · rw [if_pos c1, if_pos c1]
    have := regW_len d
    rw [bT_len] at this
    omega
  rw [if_neg c1] at h ⊢
  rw [if_neg c1]
  by_cases c2 : c = 99
  · rw [if_pos c2] at h ⊢
    rw [if_pos c2]
    cases d <;> first | exact Nat.zero_le _ | skip
    rename_i z
    show (placeW z.cps.toList).length ≤ 20
    unfold placeW
    split
    · rename_i hz
      have hz := of_decide_eq_true hz
      obtain ⟨fs, et, _, _, _, _, hv⟩ := sort_some hz
      rw [et]
      have hv : NumText.digitsVal fs ≤ 999 := hv
      have := lg_low 9 (NumText.digitsVal fs + 1) (by omega)
      rw [List.length_cons]
      show (gam (NumText.digitsVal fs)).length + 1 ≤ 20
      rw [gam_len]
      omega
    · rw [List.length_cons, digs_len]
      decide
  rw [if_neg c2] at h ⊢
  rw [if_neg c2]
  by_cases c3 : c = 110
  · rw [if_pos c3] at h ⊢
    rw [if_pos c3]
    cases d <;> first | exact Nat.zero_le _ | skip
    rename_i n
    have hs : n.natAbs < 2 ^ 42 := of_decide_eq_true hs
    have hn : sgn n < 2 ^ 43 := by unfold sgn; split <;> omega
    have := lg_low 43 (sgn n + 1) (by omega)
    show (gam (sgn n)).length ≤ 87
    rw [gam_len]
    omega
  rw [if_neg c3] at h ⊢
  rw [if_neg c3]
  by_cases c4 : c = 119
  · rw [if_pos c4] at h ⊢
    rw [if_pos c4]
    obtain ⟨z, rfl, hz⟩ := strD_some h
    obtain ⟨l1, l2⟩ := nameB_let hz
    show (nameW z.cps.toList).length ≤ 45
    have key : ∀ t : List Nat, ((t.map fun c => digs (c - 96) 5).flatten).length = 5 * t.length := fun t => by
      induction t with
      | nil => rfl
      | cons c t ih => rw [List.map_cons, List.flatten_cons, List.length_append, digs_len, ih, List.length_cons]; omega
    unfold nameW
    rw [List.length_append, key, digs_len]
    omega
  rw [if_neg c4] at h ⊢
  rw [if_neg c4]
  by_cases c5 : c = 107
  · rw [if_pos c5, if_pos c5]
    cases d <;> first | exact Nat.zero_le _ | (show (digs _ 2).length ≤ 2; rw [digs_len]; decide)
  rw [if_neg c5] at h ⊢
  rw [if_neg c5]
  by_cases c6 : c = 108
  · rw [if_pos c6] at h ⊢
    rw [if_pos c6]
    cases d <;> first | exact Nat.zero_le _ | skip
    rename_i ds
    obtain ⟨c3, _⟩ := Bool.and_eq_true_iff.mp (show (decide (ds.length ≤ 3) && (ds.map (strD (regB r))).all id) = true from h)
    have c3 : ds.length ≤ 3 := of_decide_eq_true c3
    have := regs_len ds
    show (digs ds.length 2 ++ (ds.map regW).flatten).length ≤ 14
    rw [regs_bT, bT_len] at this
    rw [List.length_append, digs_len]
    omega
  rw [if_neg c6, if_neg c6]
  unfold lpW
  split
  · unfold leapW
    split <;> (rw [List.length_cons, digs_len]; decide)
  · exact Nat.zero_le _
theorem partsW_len {r : Nat} : ∀ (T : List Nat) (ds : List PyData), partsOk r T ds = true → ds.all smB = true → (((T.zip ds).map fun p => partW p.1 p.2).flatten).length ≤ (T.map bndW).sum
  | [], _, _, _ => Nat.zero_le _
  | _ :: _, [], _, _ => Nat.zero_le _
  | c :: T, d :: ds, h, hs => by
    obtain ⟨h1, h2⟩ := Bool.and_eq_true_iff.mp (show (partD r c d && partsOk r T ds) = true from h)
    obtain ⟨s1, s2⟩ := Bool.and_eq_true_iff.mp (show (smB d && ds.all smB) = true from hs)
    have ih := partsW_len T ds h2 s2
    have h0 := partW_len2 h1 s1
    rw [List.zip_cons_cons, List.map_cons, List.flatten_cons, List.length_append, List.map_cons, List.sum_cons]
    exact Nat.add_le_add h0 ih
theorem bnd_shape : ∀ c < 26, ((shapesT.getD c []).map bndW).sum ≤ 91 := by decide +kernel
theorem instrW_len96 {r : Nat} {d : PyData} (h : instrD r d = true) (hs : smI d = true) : (instrW d).length ≤ 96 := by
  unfold instrD at h
  split at h
  · rename_i z ds
    obtain ⟨h1, h2⟩ := Bool.and_eq_true_iff.mp h
    obtain ⟨_, h3⟩ := Bool.and_eq_true_iff.mp h2
    obtain ⟨h4, _⟩ := Bool.and_eq_true_iff.mp h3
    have hs2 : ds.all smB = true := (Bool.and_eq_true_iff.mp (show (smB (.str z) && ds.all smB) = true from hs)).2
    have a := partsW_len _ _ h4 hs2
    have b : ((shapeT z).map bndW).sum ≤ 91 := bnd_shape _ (word_idx h1).1
    show (headW z ds).length ≤ 96
    unfold headW
    rw [List.length_append, digs_len]
    omega
  · cases h
theorem allW_len {r : Nat} {ds : List PyData} (h : ∀ d ∈ ds, instrD r d = true ∧ smI d = true) : (allW ds).length ≤ 96 * ds.length := by
  have := flat_le (m := 96) (L := ds.map instrW) fun l hl => by
    obtain ⟨d, hd, rfl⟩ := List.mem_map.mp hl
    exact instrW_len96 (h d hd).1 (h d hd).2
  rw [List.length_map] at this
  exact this
/-! ## data shown -/
structure RpB (k n : Nat) (d : PyData) : Prop where
  sh : d.showable = true
  dp : d.depth ≤ k
  ln : d.shown.length ≤ n
  lay : d.canLay0 = true
theorem RpB.mono {k n k' n' : Nat} {d : PyData} (h : RpB k n d) (hk : k ≤ k') (hn : n ≤ n') : RpB k' n' d := ⟨h.sh, Nat.le_trans h.dp hk, Nat.le_trans h.ln hn, h.lay⟩
theorem RpB.ok {k n : Nat} {d : PyData} (h : RpB k n d) (hk : k ≤ 64) (hn : n ≤ 16777216) : d.showable = true ∧ d.depth ≤ 100 ∧ d.shown.length ≤ sizeLine := ⟨h.sh, Nat.le_trans h.dp (Nat.le_trans hk (by decide)), by rw [sizeLine_eq]; exact Nat.le_trans h.ln hn⟩
theorem RpB.shp {k n : Nat} {d : PyData} (h : RpB k n d) (hk : k ≤ 64) : SeqAt.shaped d = true := by
  unfold SeqAt.shaped
  rw [h.lay, Bool.true_and]
  exact decide_eq_true (Nat.le_trans h.dp hk)
theorem rpb_str {z : Str} {m : Nat} (h : ∀ c ∈ z.cps.toList, c < 128) (hm : z.length ≤ m) : RpB 0 (10 * m + 2) (.str z) := by
  refine ⟨by simp only [PyData.showable], by simp only [PyData.depth]; decide, ?_, ?_⟩
  rotate_left
  · simp only [PyData.canLay0, PyData.strOk]
    rw [← Array.all_toList]
    exact List.all_eq_true.mpr fun c hc => decide_eq_true (Nat.lt_of_lt_of_le (h c hc) (by decide))
  rw [PyData.shown_str]
  have := PySem.StrLaws.reprText_len z fun c hc => Nat.lt_of_lt_of_le (h c hc) (by decide)
  omega
theorem rpb_int {a : Int} (ha : a.natAbs < 2 ^ 700) : RpB 0 702 (.int a) := by
  have k : a.natAbs.log2 < 701 := by
    by_cases h0 : a.natAbs = 0
    · rw [h0]; decide
    · exact Nat.lt_of_lt_of_le ((Nat.log2_lt h0).2 ha) (by decide)
  refine ⟨?_, by simp only [PyData.depth]; decide, ?_, by simp only [PyData.canLay0]⟩
  · simp only [PyData.showable, decide_eq_true_eq]
    exact Nat.lt_of_lt_of_le k (by decide)
  · rw [PyData.shown_int, ofString_length]
    exact int_text_length_le (by decide) k
theorem rpb_none : RpB 0 702 .none := ⟨by simp only [PyData.showable], by simp only [PyData.depth]; decide, by rw [PyData.shown_none]; decide +kernel, by simp only [PyData.canLay0]⟩
theorem rpb_bool (b : Bool) : RpB 0 702 (.bool b) := ⟨by simp only [PyData.showable], by simp only [PyData.depth]; decide, by cases b <;> decide +kernel, by simp only [PyData.canLay0]⟩
theorem rpb_all {k n : Nat} : ∀ {ds : List PyData}, (∀ d ∈ ds, RpB k n d) → PyData.showableAll ds = true ∧ PyData.depthAll ds ≤ k ∧ PyData.canLayAll0 ds = true ∧ ((PyData.shownAll ds).map (·.length)).sum ≤ ds.length * n
  | [], _ => ⟨by simp only [PyData.showableAll], by simp only [PyData.depthAll]; exact Nat.zero_le _, by simp only [PyData.canLayAll0], by rw [PyData.shownAll_nil]; exact Nat.zero_le _⟩
  | d :: ds, h => by
    have hd := h d (List.mem_cons_self ..)
    obtain ⟨a, b, c, e⟩ := rpb_all (ds := ds) fun x hx => h x (List.mem_cons_of_mem _ hx)
    refine ⟨?_, ?_, ?_, ?_⟩
    · simp only [PyData.showableAll, Bool.and_eq_true]
      exact ⟨hd.sh, a⟩
    · simp only [PyData.depthAll]
      exact Nat.max_le.mpr ⟨hd.dp, b⟩
    · simp only [PyData.canLayAll0, Bool.and_eq_true]
      exact ⟨hd.lay, c⟩
    · rw [PyData.shownAll_cons, List.map_cons, List.sum_cons, List.length_cons, Nat.add_mul, Nat.one_mul, Nat.add_comm]
      exact Nat.add_le_add e hd.ln
theorem rpb_seq {k n m : Nat} {ds : List PyData} (h : ∀ d ∈ ds, RpB k n d) (hm : ds.length ≤ m) : RpB (k + 1) (m * (n + 2) + 4) (.list ds) ∧ RpB (k + 1) (m * (n + 2) + 4) (.tuple ds) := by
  obtain ⟨a, b, c, e⟩ := rpb_all h
  have j := PySem.StrLaws.join_length_le ", " (PyData.shownAll ds)
  have hs : (", " : Str).length = 2 := by decide +kernel
  rw [hs, PyData.shownAll_length] at j
  have hj : (Str.join ", " (PyData.shownAll ds)).length ≤ m * (n + 2) := by
    have h1 : ds.length * n ≤ m * n := Nat.mul_le_mul_right _ hm
    have h2 : ds.length * 2 ≤ m * 2 := Nat.mul_le_mul_right _ hm
    rw [Nat.mul_add]
    omega
  have t : ∀ q : String, q = ",)" ∨ q = ")" → ((q : String) : Str).length ≤ 2 := fun q hq => by
    rcases hq with rfl | rfl <;> decide +kernel
  refine ⟨⟨by simp only [PyData.showable]; exact a, by simp only [PyData.depth]; omega, ?_, by simp only [PyData.canLay0]; exact c⟩, ⟨by simp only [PyData.showable]; exact a, by simp only [PyData.depth]; omega, ?_, by simp only [PyData.canLay0]; exact c⟩⟩
  · rw [PyData.shown_list, Str.length_append, Str.length_append]
    have h3 : ("[" : Str).length = 1 := by decide +kernel
    have h4 : ("]" : Str).length = 1 := by decide +kernel
    omega
  · rw [PyData.shown_tuple, Str.length_append, Str.length_append]
    have h3 : ("(" : Str).length = 1 := by decide +kernel
    have h4 := t (if ds.length == 1 then ",)" else ")") (by split <;> simp)
    omega
theorem let_lt {z : Str} (h : ∀ c ∈ z.cps.toList, 97 ≤ c ∧ c ≤ 122) : ∀ c ∈ z.cps.toList, c < 128 := fun c hc => by have := h c hc; omega
theorem str_len (z : Str) : z.length = z.cps.toList.length := by simp [Str.length]
theorem reg_rp {r : Nat} {d : PyData} (h : strD (regB r) d = true) : RpB 0 702 d := by
  obtain ⟨z, rfl, hz⟩ := strD_some h
  obtain ⟨n, _, h9, rfl, _⟩ := reg_form hz
  refine (rpb_str (m := 2) (fun c hc => (rT_tx n h9).2 c hc) ?_).mono (Nat.le_refl _) (by decide)
  unfold rT
  rw [sT_len]
  exact Nat.le_refl 2
theorem slot_rp {d : PyData} (h : strD slotB d = true) : RpB 0 702 d := by
  obtain ⟨z, rfl, hz⟩ := strD_some h
  obtain ⟨n, hn, rfl, _⟩ := slot_form hz
  have q := sTx_tx n hn
  obtain ⟨q1, q2⟩ := Bool.and_eq_true_iff.mp q
  refine (rpb_str (m := 10) (fun c hc => of_decide_eq_true (List.all_eq_true.mp q2 c hc)) ?_).mono (Nat.le_refl _) (by decide)
  rw [str_len]
  exact of_decide_eq_true q1
theorem part_rp {r c : Nat} {d : PyData} (h : partD r c d = true) (hs : smB d = true) : RpB 1 2120 d := by
  unfold partD at h
  by_cases c1 : c = 114
  · rw [if_pos c1] at h
    exact (reg_rp h).mono (by decide) (by decide)
  rw [if_neg c1] at h
  by_cases c2 : c = 99
  · rw [if_pos c2] at h
    rcases Bool.or_eq_true_iff.mp h with h | h
    · exact (reg_rp h).mono (by decide) (by decide)
    · exact (slot_rp h).mono (by decide) (by decide)
  rw [if_neg c2] at h
  by_cases c3 : c = 110
  · rw [if_pos c3] at h
    cases d <;> first | cases h | skip
    rename_i n
    have hs : n.natAbs < 2 ^ 42 := of_decide_eq_true hs
    exact (rpb_int (Nat.lt_trans hs (Nat.pow_lt_pow_right (by decide) (by decide)))).mono (by decide) (by decide)
  rw [if_neg c3] at h
  by_cases c4 : c = 119
  · rw [if_pos c4] at h
    obtain ⟨z, rfl, hz⟩ := strD_some h
    obtain ⟨l1, l2⟩ := nameB_let hz
    exact (rpb_str (m := 8) (let_lt l2) (by rw [str_len]; exact l1)).mono (by decide) (by decide)
  rw [if_neg c4] at h
  by_cases c5 : c = 107
  · rw [if_pos c5] at h
    cases d <;> first | cases h | skip
    rename_i n
    obtain ⟨h1, h2⟩ := Bool.and_eq_true_iff.mp (show (decide (0 ≤ n) && decide (n ≤ 2)) = true from h)
    have h1 := of_decide_eq_true h1
    have h2 := of_decide_eq_true h2
    exact (rpb_int (Nat.lt_of_lt_of_le (show n.natAbs < 2 ^ 2 by omega) (Nat.pow_le_pow_right (by decide) (by decide)))).mono (by decide) (by decide)
  rw [if_neg c5] at h
  by_cases c6 : c = 108
  · rw [if_pos c6] at h
    cases d <;> first | cases h | skip
    rename_i ds
    obtain ⟨q3, q⟩ := Bool.and_eq_true_iff.mp (show (decide (ds.length ≤ 3) && (ds.map (strD (regB r))).all id) = true from h)
    have q3 : ds.length ≤ 3 := of_decide_eq_true q3
    exact (rpb_seq (fun d hd => reg_rp (List.all_eq_true.mp q _ (List.mem_map.mpr ⟨d, hd, rfl⟩))) q3).2.mono (by decide) (by decide)
  rw [if_neg c6] at h
  unfold leapD at h
  split at h
  · rename_i z n
    obtain ⟨h1, h2⟩ := Bool.and_eq_true_iff.mp h
    have b : z.length ≤ 5 ∧ ∀ c ∈ z.cps.toList, c < 128 := by
      unfold isLp at h1
      rcases Bool.or_eq_true_iff.mp h1 with e | e
      · rw [of_decide_eq_true e]; exact ⟨by decide +kernel, by decide +kernel⟩
      · rw [of_decide_eq_true e]; exact ⟨by decide +kernel, by decide +kernel⟩
    have hn : n.natAbs < 2 ^ 42 := by
      unfold lpOk at h2
      split at h2
      · obtain ⟨h3, h4⟩ := Bool.and_eq_true_iff.mp h2
        have h3 := of_decide_eq_true h3
        have h4 := of_decide_eq_true h4
        omega
      · obtain ⟨h3, h4⟩ := Bool.and_eq_true_iff.mp h2
        have h3 := of_decide_eq_true h3
        have h4 := of_decide_eq_true h4
        omega
    refine (rpb_seq (k := 0) (n := 702) (m := 2) (fun d hd => ?_) (by simp)).2.mono (by decide) (by decide)
    rcases List.mem_cons.mp hd with rfl | hd
    · exact (rpb_str (m := 5) b.2 b.1).mono (by decide) (by decide)
    · rw [List.mem_singleton] at hd
      subst hd
      exact rpb_int (Nat.lt_trans hn (Nat.pow_lt_pow_right (by decide) (by decide)))
  · cases h
theorem words_tx : ∀ z ∈ wordsL, z.length ≤ 8 ∧ ∀ c ∈ z.cps.toList, c < 128 := by decide +kernel
theorem parts_rp {r : Nat} : ∀ (T : List Nat) (ds : List PyData), ds.length = T.length → partsOk r T ds = true → ds.all smB = true → ∀ d ∈ ds, RpB 1 2120 d
  | _, [], _, _, _, _, h => nomatch h
  | [], _ :: _, h, _, _, _, _ => by simp at h
  | c :: T, d :: ds, hl, h, hs, x, hx => by
    obtain ⟨h1, h2⟩ := Bool.and_eq_true_iff.mp (show (partD r c d && partsOk r T ds) = true from h)
    obtain ⟨s1, s2⟩ := Bool.and_eq_true_iff.mp (show (smB d && ds.all smB) = true from hs)
    rcases List.mem_cons.mp hx with rfl | hx
    · exact part_rp h1 s1
    · exact parts_rp T ds (by simpa using hl) h2 s2 x hx
theorem instr_rp {r : Nat} {d : PyData} (h : instrD r d = true) (hs : smI d = true) : RpB 2 10700 d := by
  unfold instrD at h
  split at h
  · rename_i z ds
    obtain ⟨h1, h2⟩ := Bool.and_eq_true_iff.mp h
    obtain ⟨hl, h3⟩ := Bool.and_eq_true_iff.mp h2
    obtain ⟨h4, _⟩ := Bool.and_eq_true_iff.mp h3
    have hl : ds.length = (shapeT z).length := of_decide_eq_true hl
    have hs2 : ds.all smB = true := (Bool.and_eq_true_iff.mp (show (smB (.str z) && ds.all smB) = true from hs)).2
    have l4 : (shapeT z).length ≤ 4 := shape_len _ (word_idx h1).1
    have wz := words_tx z (of_decide_eq_true h1)
    refine (rpb_seq (k := 1) (n := 2120) (m := 5) (fun d hd => ?_) (by rw [List.length_cons]; omega)).2.mono (by decide) (by decide)
    rcases List.mem_cons.mp hd with rfl | hd
    · exact (rpb_str (m := 8) wz.2 wz.1).mono (by decide) (by decide)
    · exact parts_rp _ _ hl h4 hs2 d hd
  · cases h
theorem off_rp {r : Nat} : ∀ (ds : List PyData) (i : Nat), i + 96 * ds.length ≤ 1000 → (∀ d ∈ ds, instrD r d = true ∧ smI d = true) → ∀ e ∈ (offs i ds).map pairD, RpB 3 21420 e
  | [], _, _, _, _, h => by unfold offs at h; simp at h
  | d :: ds, i, hi, h, e, he => by
    have hd := h d (List.mem_cons_self ..)
    rw [List.length_cons] at hi
    have l := instrW_len96 hd.1 hd.2
    unfold offs at he
    rw [List.map_cons] at he
    rcases List.mem_cons.mp he with rfl | he
    · unfold pairD
      refine (rpb_seq (k := 2) (n := 10700) (m := 2) (fun x hx => ?_) (by simp)).2.mono (by decide) (by decide)
      rcases List.mem_cons.mp hx with rfl | hx
      · refine (rpb_int ?_).mono (by decide) (by decide)
        rw [Int.natAbs_natCast]
        exact Nat.lt_of_lt_of_le (show i < 2 ^ 10 by omega) (Nat.pow_le_pow_right (by decide) (by decide))
      · rw [List.mem_singleton] at hx
        subst hx
        exact instr_rp hd.1 hd.2
    · exact off_rp ds _ (by omega) (fun x hx => h x (List.mem_cons_of_mem _ hx)) e he
/-! ## data as repr and == want it -/
mutual
theorem Dt.dx {K : PySem.W.Frag} {G : Addr → Prop} {H : Hp} : ∀ {d : PyData} {v : V}, Dt G H v d → Dx K H v d
  | _, _, .non => .non
  | _, _, .bl b => .bl b
  | _, _, .int i => .int i
  | _, _, .str x => .str x
  | _, _, .lst _ e h => .lst (SqL.of e) h.dx
  | _, _, .tup _ e h => .tup (SqT.of e) h.dx
  | _, _, .dic _ e => .dic (kvs := []) (ds := []) e .nil
theorem DtA.dx {K : PySem.W.Frag} {G : Addr → Prop} {H : Hp} : ∀ {ds : List PyData} {vs : List V}, DtA G H vs ds → DxAll K H vs ds
  | _, _, .nil => .nil
  | _, _, .cons a t => .cons a.dx t.dx
end
mutual
theorem Dt.dp {K : PySem.W.Frag} {G : Addr → Prop} {H : Hp} : ∀ {d : PyData} {v : V}, d.canLay0 = true → Dt G H v d → Dp K H v d
  | _, _, _, .non => .non
  | _, _, _, .bl b => .bl b
  | _, _, _, .int i => .int i
  | _, _, _, .str x => .str x
  | _, _, l, .lst _ e h => .lst (SqL.of e) (h.dp (by simpa only [PyData.canLay0] using l))
  | _, _, l, .tup _ e h => .tup (SqT.of e) (h.dp (by simpa only [PyData.canLay0] using l))
  | _, _, l, .dic _ e => nomatch l
theorem DtA.dp {K : PySem.W.Frag} {G : Addr → Prop} {H : Hp} : ∀ {ds : List PyData} {vs : List V}, PyData.canLayAll0 ds = true → DtA G H vs ds → DpAll K H vs ds
  | _, _, _, .nil => .nil
  | _, _, l, .cons a t => by
    have l' := Bool.and_eq_true_iff.mp (by simpa only [PyData.canLayAll0] using l)
    exact .cons (a.dp l'.1) (t.dp l'.2)
end
/-! ## data that is read, shown -/
theorem gam_abs {n : Int} (h : (gam (sgn n)).length ≤ 600) : n.natAbs < 2 ^ 700 := by
  rw [gam_len] at h
  have h1 := lt_lg (sgn n + 1)
  have h2 : 2 ^ (lg (sgn n + 1) + 1) ≤ 2 ^ 700 := Nat.pow_le_pow_right (by decide) (by omega)
  have h3 : n.natAbs ≤ sgn n + 1 := by unfold sgn; split <;> omega
  omega
theorem part_rpN {r c : Nat} {d : PyData} (h : partD r c d = true) (hw : (partW c d).length ≤ 600) : RpB 1 2120 d := by
  unfold partD at h
  by_cases c1 : c = 114
  · rw [if_pos c1] at h
    exact (reg_rp h).mono (by decide) (by decide)
  rw [if_neg c1] at h
  by_cases c2 : c = 99
  · rw [if_pos c2] at h
    rcases Bool.or_eq_true_iff.mp h with h | h
    · exact (reg_rp h).mono (by decide) (by decide)
    · exact (slot_rp h).mono (by decide) (by decide)
  rw [if_neg c2] at h
  by_cases c3 : c = 110
  · rw [if_pos c3] at h
    cases d <;> first | cases h | skip
    rename_i n
    have hw : (gam (sgn n)).length ≤ 600 := by
      have e : partW c (.int n) = gam (sgn n) := by unfold partW; rw [if_neg c1, if_neg c2, if_pos c3]; rfl
      rw [← e]
      exact hw
    exact (rpb_int (gam_abs hw)).mono (by decide) (by decide)
  rw [if_neg c3] at h
  by_cases c4 : c = 119
  · rw [if_pos c4] at h
    obtain ⟨z, rfl, hz⟩ := strD_some h
    obtain ⟨l1, l2⟩ := nameB_let hz
    exact (rpb_str (m := 8) (let_lt l2) (by rw [str_len]; exact l1)).mono (by decide) (by decide)
  rw [if_neg c4] at h
  by_cases c5 : c = 107
  · rw [if_pos c5] at h
    cases d <;> first | cases h | skip
    rename_i n
    obtain ⟨h1, h2⟩ := Bool.and_eq_true_iff.mp (show (decide (0 ≤ n) && decide (n ≤ 2)) = true from h)
    have h1 := of_decide_eq_true h1
    have h2 := of_decide_eq_true h2
    exact (rpb_int (Nat.lt_of_lt_of_le (show n.natAbs < 2 ^ 2 by omega) (Nat.pow_le_pow_right (by decide) (by decide)))).mono (by decide) (by decide)
  rw [if_neg c5] at h
  by_cases c6 : c = 108
  · rw [if_pos c6] at h
    cases d <;> first | cases h | skip
    rename_i ds
    obtain ⟨q3, q⟩ := Bool.and_eq_true_iff.mp (show (decide (ds.length ≤ 3) && (ds.map (strD (regB r))).all id) = true from h)
    have q3 : ds.length ≤ 3 := of_decide_eq_true q3
    exact (rpb_seq (fun d hd => reg_rp (List.all_eq_true.mp q _ (List.mem_map.mpr ⟨d, hd, rfl⟩))) q3).2.mono (by decide) (by decide)
  rw [if_neg c6] at h
  unfold leapD at h
  split at h
  · rename_i z n
    obtain ⟨h1, h2⟩ := Bool.and_eq_true_iff.mp h
    have b : z.length ≤ 5 ∧ ∀ c ∈ z.cps.toList, c < 128 := by
      unfold isLp at h1
      rcases Bool.or_eq_true_iff.mp h1 with e | e
      · rw [of_decide_eq_true e]; exact ⟨by decide +kernel, by decide +kernel⟩
      · rw [of_decide_eq_true e]; exact ⟨by decide +kernel, by decide +kernel⟩
    have hn : n.natAbs < 2 ^ 42 := by
      unfold lpOk at h2
      split at h2
      · obtain ⟨h3, h4⟩ := Bool.and_eq_true_iff.mp h2
        have h3 := of_decide_eq_true h3
        have h4 := of_decide_eq_true h4
        omega
      · obtain ⟨h3, h4⟩ := Bool.and_eq_true_iff.mp h2
        have h3 := of_decide_eq_true h3
        have h4 := of_decide_eq_true h4
        omega
    refine (rpb_seq (k := 0) (n := 702) (m := 2) (fun d hd => ?_) (by simp)).2.mono (by decide) (by decide)
    rcases List.mem_cons.mp hd with rfl | hd
    · exact (rpb_str (m := 5) b.2 b.1).mono (by decide) (by decide)
    · rw [List.mem_singleton] at hd
      subst hd
      exact rpb_int (Nat.lt_trans hn (Nat.pow_lt_pow_right (by decide) (by decide)))
  · cases h
theorem parts_rpN {r : Nat} : ∀ (T : List Nat) (ds : List PyData), ds.length = T.length → partsOk r T ds = true → (((T.zip ds).map fun p => partW p.1 p.2).flatten).length ≤ 600 → ∀ d ∈ ds, RpB 1 2120 d
  | _, [], _, _, _, _, h => nomatch h
  | [], _ :: _, h, _, _, _, _ => by simp at h
  | c :: T, d :: ds, hl, h, hw, x, hx => by
    obtain ⟨h1, h2⟩ := Bool.and_eq_true_iff.mp (show (partD r c d && partsOk r T ds) = true from h)
    rw [List.zip_cons_cons, List.map_cons, List.flatten_cons, List.length_append] at hw
    rcases List.mem_cons.mp hx with rfl | hx
    · exact part_rpN h1 (Nat.le_trans (Nat.le_add_right _ _) hw)
    · exact parts_rpN T ds (by simpa using hl) h2 (Nat.le_trans (Nat.le_add_left _ _) hw) x hx
theorem instr_rpN {r : Nat} {d : PyData} (h : instrD r d = true) (hw : (instrW d).length ≤ 600) : RpB 2 10700 d := by
  unfold instrD at h
  split at h
  · rename_i z ds
    obtain ⟨h1, h2⟩ := Bool.and_eq_true_iff.mp h
    obtain ⟨hl, h3⟩ := Bool.and_eq_true_iff.mp h2
    obtain ⟨h4, _⟩ := Bool.and_eq_true_iff.mp h3
    have hl : ds.length = (shapeT z).length := of_decide_eq_true hl
    have hw : (headW z ds).length ≤ 600 := hw
    unfold headW at hw
    rw [List.length_append] at hw
    have l4 : (shapeT z).length ≤ 4 := shape_len _ (word_idx h1).1
    have wz := words_tx z (of_decide_eq_true h1)
    refine (rpb_seq (k := 1) (n := 2120) (m := 5) (fun d hd => ?_) (by rw [List.length_cons]; omega)).2.mono (by decide) (by decide)
    rcases List.mem_cons.mp hd with rfl | hd
    · exact (rpb_str (m := 8) wz.2 wz.1).mono (by decide) (by decide)
    · exact parts_rpN _ _ hl h4 (by omega) d hd
  · cases h
theorem off_rpN {r : Nat} : ∀ (ds : List PyData) (i : Nat), i + (allW ds).length ≤ 600 → (∀ d ∈ ds, instrD r d = true) → ∀ e ∈ (offs i ds).map pairD, RpB 3 21420 e
  | [], _, _, _, _, h => by unfold offs at h; simp at h
  | d :: ds, i, hi, h, e, he => by
    have hd := h d (List.mem_cons_self ..)
    have e1 : allW (d :: ds) = instrW d ++ allW ds := by unfold allW; simp
    rw [e1, List.length_append] at hi
    unfold offs at he
    rw [List.map_cons] at he
    rcases List.mem_cons.mp he with rfl | he
    · unfold pairD
      refine (rpb_seq (k := 2) (n := 10700) (m := 2) (fun x hx => ?_) (by simp)).2.mono (by decide) (by decide)
      rcases List.mem_cons.mp hx with rfl | hx
      · refine (rpb_int ?_).mono (by decide) (by decide)
        rw [Int.natAbs_natCast]
        exact Nat.lt_of_lt_of_le (show i < 2 ^ 10 by omega) (Nat.pow_le_pow_right (by decide) (by decide))
      · rw [List.mem_singleton] at hx
        subst hx
        exact instr_rpN hd (by omega)
    · exact off_rpN ds _ (by omega) (fun x hx => h x (List.mem_cons_of_mem _ hx)) e he
theorem rp_two {a b : PyData} {k n : Nat} (ha : RpB k n a) (hb : RpB k n b) : RpB (k + 1) (2 * (n + 2) + 4) (.tuple [a, b]) := (rpb_seq (fun d hd => by
  rcases List.mem_cons.mp hd with rfl | hd
  · exact ha
  · rw [List.mem_singleton] at hd
    exact hd ▸ hb) (by simp)).2
theorem rpb_bits {l : List Bool} (h : l.length ≤ 600) : RpB 0 6002 (.str (sT (bT l))) := rpb_str (m := 600) (fun c hc => by
  rw [sT_cps] at hc
  obtain ⟨b, _, rfl⟩ := List.mem_map.mp hc
  cases b <;> decide) (by rw [bl_len]; exact h)
theorem rpb_lit {z : Str} (h : (decide (z.length ≤ 500) && z.cps.toList.all fun c => decide (c < 128)) = true) : RpB 0 6002 (.str z) := by
  obtain ⟨h1, h2⟩ := Bool.and_eq_true_iff.mp h
  exact (rpb_str (m := 500) (fun c hc => of_decide_eq_true (List.all_eq_true.mp h2 c hc)) (of_decide_eq_true h1)).mono (Nat.le_refl _) (by decide)
theorem rpb_nat {n : Nat} (h : n ≤ 100000) : RpB 0 702 (.int (n : Int)) := rpb_int (by
  rw [Int.natAbs_natCast]
  exact Nat.lt_of_le_of_lt h (Nat.lt_of_lt_of_le (show 100000 < 2 ^ 20 by decide) (Nat.pow_le_pow_right (by decide) (by decide))))
theorem offs_len : ∀ (ds : List PyData) (i : Nat), (offs i ds).length = ds.length
  | [], _ => rfl
  | d :: ds, i => by
    unfold offs
    rw [List.length_cons, List.length_cons, offs_len ds]
theorem all_rp {r : Nat} (h9 : r ≤ 9) {l : List Bool} (hl : l.length ≤ 600) : RpB 4 2600000 (.list ((rdA r l).1.map pairD)) := by
  obtain ⟨ds, e1, e2, e3, e4, e5⟩ := rdA_back h9 l
  rw [e1]
  have h5 := allW_five e2
  refine (rpb_seq (k := 3) (n := 21420) (m := 120) (off_rpN (r := r) ds 0 (by omega) e2) (by rw [List.length_map, offs_len]; omega)).1.mono (by decide) (by decide)
theorem due_rp {r : Nat} (h9 : r ≤ 9) {l : List Bool} (hl : l.length ≤ 600) : RpB 5 5200100 (dueD r l) := by
  unfold dueD
  split
  · exact (rp_two ((rpb_lit (z := "value") (by decide +kernel)).mono (by decide) (by decide)) (all_rp h9 hl)).mono (by decide) (by decide)
  · have h5 := (rdA_back h9 l).choose_spec.2.2.2.2
    exact (rp_two (rpb_lit (z := "BadBits") (by decide +kernel)) ((rpb_nat (n := (rdA r l).2) (by omega)).mono (by decide) (by decide))).mono (by decide) (by decide)
theorem one_rp {r : Nat} (h9 : r ≤ 9) {l : List Bool} (hl : l.length ≤ 600) {i b : Nat} {d : PyData} (h : rdOne r l i = some (d, b)) : RpB 4 50000 (.tuple [.str "value", .tuple [d, .int ((b : Nat) : Int)]]) := by
  obtain ⟨h1, h2, h3, _⟩ := one_back h9 h
  have hi := instr_rpN h1 (by omega)
  exact (rp_two ((rpb_lit (z := "value") (by decide +kernel)).mono (by decide) (by decide)) (rp_two hi ((rpb_nat (n := b) (by omega)).mono (by decide) (by decide)))).mono (by decide) (by decide)
theorem shape_n : ∀ c < 26, wordsL.getD c "" ≠ "const" → 110 ∉ shapesT.getD c [] := by decide +kernel
theorem part_sm {r c : Nat} {d : PyData} (h : partD r c d = true) (hc : c ≠ 110) : smB d = true := by
  unfold partD at h
  cases d with
  | int n =>
    by_cases c1 : c = 114
    · rw [if_pos c1] at h; cases h
    rw [if_neg c1] at h
    by_cases c2 : c = 99
    · rw [if_pos c2] at h; cases h
    rw [if_neg c2, if_neg hc] at h
    by_cases c4 : c = 119
    · rw [if_pos c4] at h; cases h
    rw [if_neg c4] at h
    by_cases c5 : c = 107
    · rw [if_pos c5] at h
      obtain ⟨h1, h2⟩ := Bool.and_eq_true_iff.mp (show (decide (0 ≤ n) && decide (n ≤ 2)) = true from h)
      have h1 := of_decide_eq_true h1
      have h2 := of_decide_eq_true h2
      exact decide_eq_true (by omega)
    rw [if_neg c5] at h
    by_cases c6 : c = 108
    · rw [if_pos c6] at h; cases h
    rw [if_neg c6] at h
    cases h
  | _ => rfl
theorem parts_sm {r : Nat} : ∀ (T : List Nat) (ds : List PyData), ds.length = T.length → partsOk r T ds = true → 110 ∉ T → ds.all smB = true
  | _, [], _, _, _ => rfl
  | [], _ :: _, h, _, _ => by simp at h
  | c :: T, d :: ds, hl, h, hn => by
    obtain ⟨h1, h2⟩ := Bool.and_eq_true_iff.mp (show (partD r c d && partsOk r T ds) = true from h)
    have a := part_sm h1 (fun z => hn (by rw [z]; exact List.mem_cons_self ..))
    have b := parts_sm T ds (by simpa using hl) h2 (fun z => hn (List.mem_cons_of_mem _ z))
    show (smB d && ds.all smB) = true
    rw [a, b]
    rfl
/-- what an instruction that is read looks like to the law's question for far numbers -/
theorem instr_far {r : Nat} {d : PyData} (h : instrD r d = true) : ∃ z ds, d = .tuple (.str z :: ds) ∧ ((¬ z = "const" ∧ smI d = true) ∨ (z = "const" ∧ ∃ x n, ds = [x, .int n] ∧ (n.natAbs < 1000000000000 → smI d = true))) := by
  unfold instrD at h
  split at h
  · rename_i z ds
    refine ⟨z, ds, rfl, ?_⟩
    obtain ⟨h1, h2⟩ := Bool.and_eq_true_iff.mp h
    obtain ⟨hl, h3⟩ := Bool.and_eq_true_iff.mp h2
    obtain ⟨h4, _⟩ := Bool.and_eq_true_iff.mp h3
    have hl : ds.length = (shapeT z).length := of_decide_eq_true hl
    obtain ⟨w1, w2⟩ := word_idx h1
    by_cases hz : z = "const"
    · refine .inr ⟨hz, ?_⟩
      have hs : shapeT z = [114, 110] := by rw [hz]; decide +kernel
      rw [hs] at hl h4
      match ds, hl, h4 with
      | [x, y], _, h4 =>
        obtain ⟨g1, g2⟩ := Bool.and_eq_true_iff.mp (show (partD r 114 x && partsOk r [110] [y]) = true from h4)
        obtain ⟨g3, _⟩ := Bool.and_eq_true_iff.mp (show (partD r 110 y && partsOk r [] []) = true from g2)
        have g3 : numD y = true := g3
        obtain ⟨n, rfl⟩ : ∃ n, y = .int n := by
          cases y with
          | int n => exact ⟨n, rfl⟩
          | _ => cases g3
        refine ⟨x, n, rfl, fun hn => ?_⟩
        show (smB (.str z) && (smB x && (smB (.int n) && true))) = true
        rw [part_sm g1 (by decide), show smB (.int n) = true from decide_eq_true (Nat.lt_of_lt_of_le hn (by decide))]
        rfl
    · refine .inl ⟨hz, ?_⟩
      have hn : 110 ∉ shapeT z := by
        have := shape_n _ w1 (by rw [w2]; exact hz)
        exact this
      show (smB (.str z) && ds.all smB) = true
      rw [parts_sm _ _ hl h4 hn]
      rfl
  · cases h
/-! ## more for k84's law -/
theorem join_L (L : List (List Bool)) : Txt.join "" (L.map fun l => sT (bT l)) = sT (bT L.flatten) := by
  have j := join_sT (L.map bT)
  rw [List.map_map, flat_bT] at j
  exact j
theorem sum_L {L : List (List Bool)} (h : ∀ l ∈ L, l.length ≤ 96) (hl : L.length ≤ 5) : ((L.map fun l => sT (bT l)).map (·.length)).sum + (L.map fun l => sT (bT l)).length * ("" : Str).length ≤ 16777216 := by
  have := sum_le2 96 L h
  rw [show ("" : Str).length = 0 from rfl, Nat.mul_zero, Nat.add_zero]
  omega
theorem isB_app (a b : List Nat) : isB (a ++ b) = (isB a && isB b) := by
  unfold isB
  rw [List.all_append]
def badZ (z : Str) : Bool := decide (z.cps.toList.length ≤ 100) && !isB z.cps.toList
theorem NbV.of {H : Hp} {z : Str} (h : badZ z = true) : NbV H (.str z) := by
  unfold badZ at h
  simp only [Bool.and_eq_true, decide_eq_true_eq, Bool.not_eq_true'] at h
  exact .inl ⟨z.cps.toList, by rw [sT_of], by omega, h.2⟩
theorem NbV.app {H : Hp} {l : List Bool} {z : Str} (hl : l.length ≤ 600) (h : badZ z = true) : NbV H (.str (sT (bT l) ++ z)) := by
  unfold badZ at h
  simp only [Bool.and_eq_true, decide_eq_true_eq, Bool.not_eq_true'] at h
  refine .inl ⟨bT l ++ z.cps.toList, by rw [← sT_ap, sT_of], by rw [List.length_append, bT_len]; omega, ?_⟩
  rw [isB_app, h.2, Bool.and_false]
theorem NbV.same {H H' : Hp} {v : V} (s : Same H H') (h : NbV H v) : NbV H' v := h.imp (fun x => x) (NtV.same s)
theorem Dt.two {H : Hp} {t : Addr} {z : Str} {d : PyData} (h : Dt anyA H (.ref t) (.tuple [.str z, d])) : ∃ x, H t = some (.tup [.str z, x]) ∧ Dt anyA H x d := by
  cases h with
  | tup _ e h =>
    cases h with
    | cons h1 h2 =>
      cases h1
      cases h2 with
      | cons h3 h4 =>
        cases h4
        exact ⟨_, e, h3⟩
theorem Dt.one {H : Hp} {t : Addr} {z : Str} (h : Dt anyA H (.ref t) (.tuple [.str z])) : H t = some (.tup [.str z]) := by
  cases h with
  | tup _ e h =>
    cases h with
    | cons h1 h2 =>
      cases h1
      cases h2
      exact e
theorem Dt.intI {G : Addr → Prop} {H : Hp} {x : V} {n : Int} (h : Dt G H x (.int n)) : x = .int n := by cases h; rfl
theorem Dt.lstI {G : Addr → Prop} {H : Hp} {x : V} {ds : List PyData} (h : Dt G H x (.list ds)) : ∃ a xs, x = .ref a ∧ H a = some (.lst xs) ∧ DtA G H xs ds := by
  cases h with
  | lst _ e h => exact ⟨_, _, rfl, e, h⟩
theorem Dt.pairI {G : Addr → Prop} {H : Hp} {x : V} {i : Nat} {d : PyData} (h : Dt G H x (pairD (i, d))) : ∃ a y, x = .ref a ∧ H a = some (.tup [.int (i : Int), y]) ∧ Dt G H y d := by
  unfold pairD at h
  cases h with
  | tup _ e h =>
    cases h with
    | cons h1 h2 =>
      cases h1
      cases h2 with
      | cons h3 h4 =>
        cases h4
        exact ⟨_, _, rfl, e, h3⟩
theorem Dt.headI {G : Addr → Prop} {H : Hp} {x : V} {z : Str} {ds : List PyData} (h : Dt G H x (.tuple (.str z :: ds))) : ∃ a ys, x = .ref a ∧ H a = some (.tup (.str z :: ys)) ∧ DtA G H ys ds := by
  cases h with
  | tup _ e h =>
    cases h with
    | cons h1 h2 =>
      cases h1
      exact ⟨_, _, rfl, e, h2⟩
theorem Dt.constI {G : Addr → Prop} {H : Hp} {x : V} {z : Str} {d : PyData} {n : Int} (h : Dt G H x (.tuple [.str z, d, .int n])) : ∃ a y, x = .ref a ∧ H a = some (.tup [.str z, y, .int n]) := by
  obtain ⟨a, ys, rfl, e, h⟩ := h.headI
  cases h with
  | cons h1 h2 =>
    cases h2 with
    | cons h3 h4 =>
      cases h3
      cases h4
      exact ⟨_, _, rfl, e⟩
theorem TxA.of : ∀ {ds : List PyData}, (∀ d ∈ ds, TxD d) → TxA ds
  | [], _ => .nil
  | d :: r, h => .cons (h d (List.mem_cons_self ..)) (TxA.of fun x hx => h x (List.mem_cons_of_mem _ hx))
theorem reg_tx {r : Nat} {d : PyData} (h : strD (regB r) d = true) : TxD d := by
  obtain ⟨z, rfl, hz⟩ := strD_some h
  obtain ⟨n, _, h9, rfl, _⟩ := reg_form hz
  exact .str (rT_tx n h9)
theorem slot_tx {d : PyData} (h : strD slotB d = true) : TxD d := by
  obtain ⟨z, rfl, hz⟩ := strD_some h
  obtain ⟨n, hn, rfl, _⟩ := slot_form hz
  obtain ⟨q1, q2⟩ := Bool.and_eq_true_iff.mp (sTx_tx n hn)
  exact .str ⟨Nat.le_trans (of_decide_eq_true q1) (by decide), fun c hc => of_decide_eq_true (List.all_eq_true.mp q2 c hc)⟩
theorem part_tx {r c : Nat} {d : PyData} (h : partD r c d = true) : TxD d := by
  unfold partD at h
  by_cases c1 : c = 114
  · rw [if_pos c1] at h
    exact reg_tx h
  rw [if_neg c1] at h
  by_cases c2 : c = 99
  · rw [if_pos c2] at h
    rcases Bool.or_eq_true_iff.mp h with h | h
    · exact reg_tx h
    · exact slot_tx h
  rw [if_neg c2] at h
  by_cases c3 : c = 110
  · rw [if_pos c3] at h
    cases d <;> first | cases h | skip
    exact .int _
  rw [if_neg c3] at h
  by_cases c4 : c = 119
  · rw [if_pos c4] at h
    obtain ⟨z, rfl, hz⟩ := strD_some h
    obtain ⟨l1, l2⟩ := nameB_let hz
    exact .str ⟨by omega, fun c hc => by have := l2 c hc; omega⟩
  rw [if_neg c4] at h
  by_cases c5 : c = 107
  · rw [if_pos c5] at h
    cases d <;> first | cases h | skip
    exact .int _
  rw [if_neg c5] at h
  by_cases c6 : c = 108
  · rw [if_pos c6] at h
    cases d <;> first | cases h | skip
    rename_i ds
    obtain ⟨_, q⟩ := Bool.and_eq_true_iff.mp (show (decide (ds.length ≤ 3) && (ds.map (strD (regB r))).all id) = true from h)
    exact .tup (.of fun d hd => reg_tx (List.all_eq_true.mp q _ (List.mem_map.mpr ⟨d, hd, rfl⟩)))
  rw [if_neg c6] at h
  unfold leapD at h
  split at h
  · rename_i z n
    obtain ⟨h1, _⟩ := Bool.and_eq_true_iff.mp h
    unfold isLp at h1
    have : tx z.cps.toList := by
      rcases Bool.or_eq_true_iff.mp h1 with e | e
      · rw [of_decide_eq_true e]; exact ⟨by decide +kernel, by decide +kernel⟩
      · rw [of_decide_eq_true e]; exact ⟨by decide +kernel, by decide +kernel⟩
    exact .tup (.cons (.str this) (.cons (.int n) .nil))
  · cases h
theorem parts_tx {r : Nat} : ∀ (T : List Nat) (ds : List PyData), ds.length = T.length → partsOk r T ds = true → TxA ds
  | _, [], _, _ => .nil
  | [], _ :: _, h, _ => by simp at h
  | c :: T, d :: ds, hl, h => by
    obtain ⟨h1, h2⟩ := Bool.and_eq_true_iff.mp (show (partD r c d && partsOk r T ds) = true from h)
    exact .cons (part_tx h1) (parts_tx T ds (by simpa using hl) h2)
theorem instr_tx {r : Nat} {d : PyData} (h : instrD r d = true) : TxD d := by
  unfold instrD at h
  split at h
  · rename_i z ds
    obtain ⟨h1, h2⟩ := Bool.and_eq_true_iff.mp h
    obtain ⟨hl, h3⟩ := Bool.and_eq_true_iff.mp h2
    obtain ⟨h4, _⟩ := Bool.and_eq_true_iff.mp h3
    have wz := words_tx z (of_decide_eq_true h1)
    exact .tup (.cons (.str ⟨by have := wz.1; rw [str_len] at this; omega, wz.2⟩) (parts_tx _ _ (of_decide_eq_true hl) h4))
  · cases h
/-! ## calls by keyword -/
section
variable {X : Cx} {CX : CXT} {k : Nat} {f : Addr} {fd : FuncData} {ps ks : List Str} {sp : Sp} {E : XK} {x : Str} {p pos : Pos} {kws : List Keyword} {tk : TA} {g : List Value → List Value → List Value} {gV : List V → List V → List V}
/-- f(k = v, ..) -/
theorem pe_callN0 (F : FnOk X.prog X.w X.K X.mg X.base CX k f fd ps sp) (hr : Room k X.A) (hg : Gl X x) (hm : X.mg x = some (.ref f)) (hk : PySem.W.keepIn X.K (.ref f) = true) (hb : KBn X.K fd ps 0 ks g gV) (hx : Passes CX X E)
    (hkw : PK X kws tk) (hall : (backToKw pos (keywordEach kws X.env)).all (·.1.isSome) = true := by rfl) (hks : (backToKw pos (keywordEach kws X.env)).filterMap (·.1) = ks := by rfl)
    (hdb : (x == ("__debug__" : Str)) = false := by decide)
    (hpl : ((backTo pos (starEach [] X.env)).any (·.1) || (backToKw pos (keywordEach kws X.env)).any (·.1.isNone)) = false := by rfl) :
    PE X (.Call (.Name x p) [] kws pos) (tCallN 0 ks.length sp gV E tNil tk) := by
  refine ⟨fun pins s σ H Q I h => ?_⟩
  refine wpAny_Call_Name_kw (ld_glob I hg hm ?_ hdb)
  refine PySem.W.callWith_KW0 (h₀ := X.base) I.ok.mod.kin hk hall ?_ hpl
  refine thn (hkw.run pos pins s σ H _ I h) fun ws s2 ⟨zs, H2, I2, rz, l1, l2, q2⟩ => ⟨I2.kIn, ?_⟩
  rw [hks]
  exact run_fnN (us := []) (vs := []) F hr hb hx I2 .nil rz rfl l2 q2
end
section
variable {K : PySem.W.Frag} {x qual : Str} {params : Arguments} {body : List Stmt} {scope : Scope} {kws : List (Str × V)} {f : Addr} {fd : FuncData} {ps : List Str}
/-- every parameter by its name, in the order of the parameters -/
theorem FunD.kbindsA (F : FunD K x qual params body scope [] kws f fd)
    (h : ∀ (kV doc pm : Value) (an : Option Addr) (cdv ct : Value) (ws : List Value), ws.length = ps.length → bindArgs (PySem.W.fnOf x qual params body scope .none kV doc pm an cdv ct) ⟨[], ps.zip ws⟩ = pure (ps.zip ws)) : KBn K fd ps 0 ps (fun _ ws => ws) (fun _ zs => zs) := by
  obtain ⟨oc, od, dV, kV, doc, pm, an, cdv, ct, osl, rfl, lk, hcd, hD, hK⟩ := F.ex
  rcases hD with ⟨_, rfl⟩ | ⟨e, _⟩
  · refine ⟨fun s us ws X l1 l2 => ?_, fun _ r2 => r2⟩
    cases us with
    | nil => exact .of_eq (h kV doc pm an cdv ct ws l2)
    | cons a b => cases l1
  · exact absurd rfl e
end
/-! ## what k84's law shares with k83's -/
theorem ix_listK {X : Cx} {K : PySem.W.Frag} (e : X.K = K := by rfl) : IxR X (rIxL K) := by
  subst e
  exact ix_list
theorem join_due (ds : List PyData) : Txt.join "" (ds.map fun d => sT (bT (instrW d))) = sT (bT (allW ds)) := by
  have j := join_sT ((ds.map instrW).map bT)
  rw [List.map_map, List.map_map] at j
  have j : Txt.join "" (ds.map fun d => sT (bT (instrW d))) = _ := j
  rw [j, flat_bT]
  rfl
theorem sum_due {r : Nat} {ds : List PyData} (h : ∀ d ∈ ds, instrD r d = true ∧ smI d = true) (hl : ds.length ≤ 6) : ((ds.map fun d => sT (bT (instrW d))).map (·.length)).sum + (ds.map fun d => sT (bT (instrW d))).length * ("" : Str).length ≤ 16777216 := by
  have := sum_le2 96 (ds.map instrW) fun l hl => by
    obtain ⟨d, hd, rfl⟩ := List.mem_map.mp hl
    exact instrW_len96 (h d hd).1 (h d hd).2
  have e : (ds.map instrW).map (fun l => sT (bT l)) = ds.map fun d => sT (bT (instrW d)) := List.map_map
  rw [e, List.length_map] at this
  rw [show ("" : Str).length = 0 from rfl, Nat.mul_zero, Nat.add_zero]
  omega
theorem iteNeB {b : Bool} {A B : Prop} (e : b = true) (h : B) : if (!b) = true then A else B := by
  rw [e]
  exact h
theorem Dw.keep {t : Nat} {V0 H H1 : Hp} {d : Addr} (h : Dw t V0 H d) (e : Same H H1) : Dw t V0 H1 d := by
  obtain ⟨s, w, c, ws, cs, rest, turn, h1, h2, h3, ht, D⟩ := h
  exact ⟨s.trans e, w, c, ws, cs, rest, turn, h1, h2, h3, ht, D.same e⟩
def CalK (P : Program) (w : World) (K : PySem.W.Frag) (mg : Str → Option Value) (base : Heap) (k : Nat) (x : Str) (ps ks : List Str) (sp : Sp) : Prop :=
  ∃ (f : Addr) (fd : FuncData), mg x = some (.ref f) ∧ PySem.W.keepIn K (.ref f) = true ∧ Binds K fd ps [] ∧ KBn K fd ps 0 ks (fun _ ws => ws.reverse) (fun _ zs => zs.reverse) ∧ FnOk P w K mg base (L2.CX P w) k f fd ps sp
def spLaw (K : PySem.W.Frag) : Sp := fun vs H Q _ => ∃ (a : Addr) (ns : List Int), vs = [.ref a] ∧ SqL K H a (ns.map V.int) ∧ ns.length ≤ 63 ∧ ∀ H', Q (.bl true) H'
theorem dtA_pairs {G : Addr → Prop} {H : Hp} {vs : List V} {ds : List PyData} {v : V} {d : PyData} (h : DtA G H vs ds) (h1 : Dt G H v d) : DtA G H (vs ++ [v]) (ds ++ [d]) := h.app (.cons h1 .nil)
/-! ## k84's law -/
theorem ix_tupK {X : Cx} {K : PySem.W.Frag} (e : X.K = K := by rfl) : IxR X (rIxT K) := by
  subst e
  exact ix_tup
structure LawF (P : Program) (w : World) (K : PySem.W.Frag) (mg : Str → Option Value) (base : Heap) (CI CR CB CA : Addr) : Prop where
  G : NkF K mg
  S : SmD K
  m_repr : mg "repr" = none
  rng : mg "range" = none
  m_abs : mg "abs" = none
  begun : Cal P w K mg base 1 "_law_begun" ["_law_script"] (spBegun K)
  take : Cal P w K mg base 2 "_law_take" ["_law_draw", "_law_many"] spTake
  pick : Cal P w K mg base 3 "_law_pick" ["_law_draw", "_law_some"] (spPick K)
  instr : Cal P w K mg base 6 "_law_instruction" ["_law_draw", "_law_registers_here"] spDrI
  told : Cal P w K mg base 5 "_law_told_bits" ["_law_instruction_here"] spHdW
  bits : Cal P w K mg base 4 "_law_bits" ["_law_draw", "_law_most"] spBits
  changed : Cal P w K mg base 5 "_law_changed" ["_law_draw", "_law_bits_here"] spChg
  due : Cal P w K mg base 6 "_law_due" ["_law_registers_here", "_law_bits_here"] spDue
  refu : Cal P w K mg base 7 "_law_refusal" ["_law_registers_here", "_law_bits_here", "_law_address"] spRefu
  oneat : Cal P w K mg base 5 "_law_one_at" ["_law_registers_here", "_law_bits_here", "_law_at"] (spRd 0 rdOne)
  bitsof : CalX P w K mg base 6 "bits_of" ["registers", "instructions"] (spBitsOf CR CI)
  rdb : CalK P w K mg base 6 "read_bits" ["registers", "bits"] ["bits", "registers"] (spRdB CR CB)
section
variable {P : Program} {w : World} {K : PySem.W.Frag} {mg : Str → Option Value} {base : Heap}
theorem sc_law : FnScope ["_law_script", "_law_draw", "_law_registers_here", "_law_way", "_law_items", "_law_k", "_law_bits_here", "_law_due_here", "_law_told", "_law_far", "_law_at", "_law_item", "_law_one", "_law_strange"] ["_law_script"] (defScope s_law) := ⟨rfl, rfl, rfl, by decide +kernel, rfl, by decide +kernel, by decide +kernel⟩
theorem ok_law {f CI CR CB CA : Addr} {fd : FuncData} (F : FnP K "law" s_law f fd) (R : LawF P w K mg base CI CR CB CA) : FnG P w K mg base 8 f fd ["_law_script"] (spLaw K) := by
  obtain ⟨f__law_begun, fd__law_begun, g__law_begun, k__law_begun, b__law_begun, G__law_begun⟩ := R.begun
  obtain ⟨f__law_take, fd__law_take, g__law_take, k__law_take, b__law_take, G__law_take⟩ := R.take
  obtain ⟨f__law_pick, fd__law_pick, g__law_pick, k__law_pick, b__law_pick, G__law_pick⟩ := R.pick
  obtain ⟨f__law_instruction, fd__law_instruction, g__law_instruction, k__law_instruction, b__law_instruction, G__law_instruction⟩ := R.instr
  obtain ⟨f__law_told_bits, fd__law_told_bits, g__law_told_bits, k__law_told_bits, b__law_told_bits, G__law_told_bits⟩ := R.told
  obtain ⟨f__law_bits, fd__law_bits, g__law_bits, k__law_bits, b__law_bits, G__law_bits⟩ := R.bits
  obtain ⟨f__law_changed, fd__law_changed, g__law_changed, k__law_changed, b__law_changed, G__law_changed⟩ := R.changed
  obtain ⟨f__law_due, fd__law_due, g__law_due, k__law_due, b__law_due, G__law_due⟩ := R.due
  obtain ⟨f__law_refusal, fd__law_refusal, g__law_refusal, k__law_refusal, b__law_refusal, G__law_refusal⟩ := R.refu
  obtain ⟨f__law_one_at, fd__law_one_at, g__law_one_at, k__law_one_at, b__law_one_at, G__law_one_at⟩ := R.oneat
  obtain ⟨f_bits_of, fd_bits_of, g_bits_of, k_bits_of, b_bits_of, G_bits_of⟩ := R.bitsof
  obtain ⟨f3, fd3, g3, k3, b3, kb3, G3⟩ := R.rdb
  have G := R.G
  have S := R.S
  have m_repr := R.m_repr
  have rng := R.rng
  have m_abs := R.m_abs
  refine FunD.okG F sc_law (fun vs H Q E h => ?_) (fun cdv A outer s H vs Q E hgd hr h => ?_)
  · obtain ⟨a, ns, rfl, _⟩ := h
    rfl
  · obtain ⟨a, ns, rfl, hS, hl, k⟩ := h
    have nd := sc_law.nd
    have hu := hu_of hr
    apply Exists.intro
    apply And.intro
    case left =>
     apply PSs.nox
     apply pss_cons
     · exact (ps_set (i := 1) nd rfl (.inr rfl) (pe_call G__law_begun (hr.mono (by decide)) rfl g__law_begun k__law_begun b__law_begun .nil pass0 (pa_cons (pv 0) pa_nil)))
     apply pss_cons
     · exact (ps_asg (pe_tup (pa_cons (pe_op op_add pe_int (pe_call G__law_take (hr.mono (by decide)) rfl g__law_take k__law_take b__law_take .nil pass0 (pa_cons (pv 1) (pa_cons pe_int pa_nil)))) (pa_cons (pe_call G__law_take (hr.mono (by decide)) rfl g__law_take k__law_take b__law_take .nil pass0 (pa_cons (pv 1) (pa_cons pe_int pa_nil))) pa_nil))) (pg_tup rfl (pgs_cons (pg_name (i := 2) nd rfl (Or.inr rfl)) (pgs_cons (pg_name (i := 3) nd rfl (Or.inl rfl)) pgs_nil))))
     apply C8.pss_cut
     · exact (ps_setLc (i := 4) (own := [("_law_k", 5)]) (g := gName 5) rfl nd rfl rfl (sw_true rfl rfl rfl (by decide +kernel)) (pi_range1 (by rfl) rng (pa_cons (pe_call G__law_take (hr.mono (by decide)) rfl g__law_take k__law_take b__law_take .nil pass0 (pa_cons (pv 1) (pa_cons pe_int pa_nil))) pa_nil)) (blkOk_by (own := [("_law_k", 5)]) (N := ["_law_script", "_law_draw", "_law_registers_here", "_law_way", "_law_items", "_law_k", "_law_bits_here", "_law_due_here", "_law_told", "_law_far", "_law_at", "_law_item", "_law_one", "_law_strange"]) (sc := defScope s_law) (by decide +kernel)) (fun _ _ _ _ _ => (pg_name (i := 5) nd rfl (Or.inl rfl))) (fun _ _ _ _ _ => pts_nil) (fun _ _ _ _ _ => (pe_call G__law_told_bits (hr.mono (by decide)) rfl g__law_told_bits k__law_told_bits b__law_told_bits .nil pass0 (pa_cons (pe_call G__law_instruction (hr.mono (by decide)) rfl g__law_instruction k__law_instruction b__law_instruction .nil pass0 (pa_cons (pv 1) (pa_cons (pv 2) pa_nil))) pa_nil))))
     apply C8.pss_cut
     · exact (ps_set (i := 6) nd rfl (.inl rfl) (pe_ifExp (pt_cmpR op_eq (pv 3) pe_int (nomark _)) (pe_call G__law_bits (hr.mono (by decide)) rfl g__law_bits k__law_bits b__law_bits .nil pass0 (pa_cons (pv 1) (pa_cons pe_int pa_nil))) (pe_call G__law_changed (hr.mono (by decide)) rfl g__law_changed k__law_changed b__law_changed .nil pass0 (pa_cons (pv 1) (pa_cons (pe_join pe_str (pv 4)) pa_nil)))))
     apply C8.pss_cut
     · exact (ps_par (X := (cxOf CX0 P w K mg base ["_law_script", "_law_draw", "_law_registers_here", "_law_way", "_law_items", "_law_k", "_law_bits_here", "_law_due_here", "_law_told", "_law_far", "_law_at", "_law_item", "_law_one", "_law_strange"] "law" (defScope s_law) f cdv A outer s H E).nox) (i := 7) (j := 8) rfl nd rfl rfl (by decide) rfl rfl (pa_cons (pe_call G__law_due (hr.mono (by decide)) rfl g__law_due k__law_due b__law_due .nil pass0 (pa_cons (pv 2) (pa_cons (pv 6) pa_nil))) (pa_cons (pe_call G__law_refusal (hr.mono (by decide)) rfl g__law_refusal k__law_refusal b__law_refusal .nil pass0 (pa_cons (pv 2) (pa_cons (pv 6) (pa_cons pe_str pa_nil)))) pa_nil)) (by rfl))
     apply pss_cons
     · exact (ps_if (pt_cmpR op_ne (pe_callB (call_reprA hgd (Room.u101 hr) S) (by rfl) m_repr (by decide +kernel) (pa_cons (pv 8) pa_nil)) (pe_callB (call_reprA hgd (Room.u101 hr) S) (by rfl) m_repr (by decide +kernel) (pa_cons (pv 7) pa_nil)) (nomark _)) (pss_one (ps_ret pe_bl)) pss_nil)
     apply C8.pss_cut
     · exact (ps_if (pt_cmpR op_eq (pe_ix ix_tup (pv 7) pe_int (fun _ _ => rfl)) pe_str (nomark _)) (pss_cons (ps_setLc (i := 9) (own := [("_law_at", 10), ("_law_item", 11)]) (g := gTup K 2 (gCons (gName 10) (gCons (gName 11) gNil))) rfl nd rfl rfl (sw_true rfl rfl rfl (by decide +kernel)) (pi_list (pe_ix ix_tup (pv 7) pe_int (fun _ _ => rfl))) (blkOk_by (own := [("_law_at", 10), ("_law_item", 11)]) (N := ["_law_script", "_law_draw", "_law_registers_here", "_law_way", "_law_items", "_law_k", "_law_bits_here", "_law_due_here", "_law_told", "_law_far", "_law_at", "_law_item", "_law_one", "_law_strange"]) (sc := defScope s_law) (by decide +kernel)) (fun _ _ _ _ _ => by exact (pg_tup rfl (pgs_cons (pg_name (i := 10) nd rfl (Or.inl rfl)) (pgs_cons (pg_name (i := 11) nd rfl (Or.inl rfl)) pgs_nil)))) (fun _ _ _ _ _ => pts_one (PW.pt (pw_and (pt_cmpR op_eq (pe_ix (ix_tupK (K := K)) (pv 11) pe_int (fun _ _ => rfl)) pe_str (nomark _)) (pw_and1 (pt_cmpR op_ge (pe_callB call_abs (by rfl) m_abs (by decide +kernel) (pa_cons (pe_ix (ix_tupK (K := K)) (pv 11) pe_int (fun _ _ => rfl)) pa_nil)) (pe_op op_pow pe_int pe_int) (nomark _)))))) (fun _ _ _ _ _ => (pv 11))) (pss_cons (ps_if (PW.pt (pw_and (pt_cmpR (op_eqEL (Nat.lt_of_le_of_lt (Nat.le_add_right _ 64) hr.units)) (pv 9) (pe_lst pa_nil) (nomark _)) (pw_and1 (pt_cmpR op_ne (pe_call G_bits_of (hr.mono (by decide)) rfl g_bits_of k_bits_of b_bits_of .nil (passes_call LamX.takes0 (fun _ _ _ _ h => h)) (pa_cons (pv 2) (pa_cons (pe_lc (own := [("_law_at", 10), ("_law_item", 11)]) (g := gTup K 2 (gCons (gName 10) (gCons (gName 11) gNil))) rfl nd (pi_list (pe_ix ix_tup (pv 8) pe_int (fun _ _ => rfl))) (blkOk_by (own := [("_law_at", 10), ("_law_item", 11)]) (N := ["_law_script", "_law_draw", "_law_registers_here", "_law_way", "_law_items", "_law_k", "_law_bits_here", "_law_due_here", "_law_told", "_law_far", "_law_at", "_law_item", "_law_one", "_law_strange"]) (sc := defScope s_law) (by decide +kernel)) (fun _ _ _ _ _ => by exact (pg_tup rfl (pgs_cons (pg_name (i := 10) nd rfl (Or.inl rfl)) (pgs_cons (pg_name (i := 11) nd rfl (Or.inl rfl)) pgs_nil)))) (fun _ _ _ _ _ => pts_nil) (fun _ _ _ _ _ => (pv 11))) pa_nil))) (pv 6) (nomark _))))) (pss_one (ps_ret pe_bl)) pss_nil) (pss_one (ps_if (pt_cmpR op_ne (pe_callB (call_reprA hgd (Room.u101 hr) S) (by rfl) m_repr (by decide +kernel) (pa_cons (pe_callN0 G3 (hr.mono (by decide)) rfl g3 k3 kb3 (passes_call LamX.takes0 (fun _ _ _ _ h => h)) (pk_cons (pv 6) (pk_cons (pv 2) pk_nil))) pa_nil)) (pe_callB (call_reprA hgd (Room.u101 hr) S) (by rfl) m_repr (by decide +kernel) (pa_cons (pe_ix ix_tup (pv 7) pe_int (fun _ _ => rfl)) pa_nil)) (nomark _)) (pss_one (ps_ret pe_bl)) pss_nil)))) (pss_one (ps_if (pt_cmpR op_ne (pe_callB (call_reprA hgd (Room.u101 hr) S) (by rfl) m_repr (by decide +kernel) (pa_cons (pe_call G__law_refusal (hr.mono (by decide)) rfl g__law_refusal k__law_refusal b__law_refusal .nil pass0 (pa_cons (pv 2) (pa_cons (pe_slice sl_str (pv 6) po_none (po_some (pe_ix ix_tup (pv 7) pe_int (fun _ _ => rfl)))) (pa_cons pe_str pa_nil)))) pa_nil)) (pe_callB (call_reprA hgd (Room.u101 hr) S) (by rfl) m_repr (by decide +kernel) (pa_cons (pe_tup (pa_cons pe_str (pa_cons (pe_ix ix_seq (pe_call G__law_due (hr.mono (by decide)) rfl g__law_due k__law_due b__law_due .nil pass0 (pa_cons (pv 2) (pa_cons (pe_slice sl_str (pv 6) po_none (po_some (pe_ix ix_tup (pv 7) pe_int (fun _ _ => rfl)))) pa_nil))) pe_int (fun _ _ => rfl)) pa_nil))) pa_nil)) (nomark _)) (pss_one (ps_ret pe_bl)) pss_nil)))
     apply pss_cons
     · apply ps_for PassesOwn.never rfl
       · exact (pi_range1 (by rfl) rng (pa_cons pe_int pa_nil))
       · exact (pg_name (i := 5) nd rfl (Or.inl rfl))
       · apply pss_cons
         · exact (ps_set (i := 10) nd rfl (.inl rfl) (pe_call G__law_take (hr.mono (by decide)) rfl g__law_take k__law_take b__law_take .nil pass0 (pa_cons (pv 1) (pa_cons (pe_op op_add (pe_callB call_len_str (by rfl) G.len PySem.boot_len (pa_cons (pv 6) pa_nil)) pe_int) pa_nil))))
         apply pss_cons
         · exact (ps_set (i := 12) nd rfl (.inl rfl) (pe_call G__law_one_at (hr.mono (by decide)) rfl g__law_one_at k__law_one_at b__law_one_at .nil pass0 (pa_cons (pv 2) (pa_cons (pv 6) (pa_cons (pv 10) pa_nil)))))
         apply pss_one
         exact (ps_if (pt_cmpR op_ne (pe_callB (call_reprA hgd (Room.u101 hr) S) (by rfl) m_repr (by decide +kernel) (pa_cons (pe_call G__law_refusal (hr.mono (by decide)) rfl g__law_refusal k__law_refusal b__law_refusal .nil pass0 (pa_cons (pv 2) (pa_cons (pv 6) (pa_cons (pv 10) pa_nil)))) pa_nil)) (pe_callB (call_reprA hgd (Room.u101 hr) S) (by rfl) m_repr (by decide +kernel) (pa_cons (pe_ifExp (pt_cmpR op_isN (pv 12) pe_non (nomark _)) (pe_tup (pa_cons pe_str pa_nil)) (pe_tup (pa_cons pe_str (pa_cons (pv 12) pa_nil)))) pa_nil)) (nomark _)) (pss_one (ps_ret pe_bl)) pss_nil)
     apply pss_cons
     · apply ps_for PassesOwn.never rfl
       · exact (pi_list (pe_lst (pa_cons pe_non (pa_cons pe_bl (pa_cons (pe_un un_neg pe_int) (pa_cons (pe_callB call_len_str (by rfl) G.len PySem.boot_len (pa_cons (pv 6) pa_nil)) (pa_cons (pe_op op_add (pe_callB call_len_str (by rfl) G.len PySem.boot_len (pa_cons (pv 6) pa_nil)) pe_int) (pa_cons pe_str (pa_cons (pe_tup (pa_cons pe_int pa_nil)) (pa_cons pe_dnewK pa_nil))))))))))
       · exact (pg_name (i := 10) nd rfl (Or.inl rfl))
       · apply pss_one
         exact (ps_if (pt_cmpR (op_neD hr.units) (pe_call G__law_refusal (hr.mono (by decide)) rfl g__law_refusal k__law_refusal b__law_refusal .nil pass0 (pa_cons (pv 2) (pa_cons (pv 6) (pa_cons (pv 10) pa_nil)))) (pe_tup (pa_cons pe_str pa_nil)) (nomark _)) (pss_one (ps_ret pe_bl)) pss_nil)
     apply pss_cons
     · exact (ps_set (i := 13) nd rfl (.inr rfl) (pe_call G__law_pick (hr.mono (by decide)) rfl g__law_pick k__law_pick b__law_pick .nil pass0 (pa_cons (pv 1) (pa_cons (pe_lst (pa_cons pe_non (pa_cons pe_int (pa_cons (pe_lst (pa_cons pe_str pa_nil)) (pa_cons pe_str (pa_cons (pe_op op_add_str (pv 6) pe_str) (pa_cons pe_str (pa_cons (pe_tup (pa_cons pe_str (pa_cons pe_str pa_nil))) (pa_cons pe_dnewK pa_nil))))))))) pa_nil))))
     apply pss_one
     exact (ps_ret (pe_cmpR op_eq (pe_callB (call_reprA hgd (Room.u101 hr) S) (by rfl) m_repr (by decide +kernel) (pa_cons (pe_lc (own := [("_law_at", 10)]) (g := gName 10) rfl nd (pi_list (pe_lst (pa_cons pe_str (pa_cons pe_int (pa_cons pe_non pa_nil))))) (blkOk_by (own := [("_law_at", 10)]) (N := ["_law_script", "_law_draw", "_law_registers_here", "_law_way", "_law_items", "_law_k", "_law_bits_here", "_law_due_here", "_law_told", "_law_far", "_law_at", "_law_item", "_law_one", "_law_strange"]) (sc := defScope s_law) (by decide +kernel)) (fun _ _ _ _ _ => (pg_name (i := 10) nd rfl (Or.inl rfl))) (fun _ _ _ _ _ => pts_nil) (fun _ _ _ _ _ => (pe_call G__law_refusal (hr.mono (by decide)) rfl g__law_refusal k__law_refusal b__law_refusal .nil pass0 (pa_cons (pv 2) (pa_cons (pv 13) (pa_cons (pv 10) pa_nil)))))) pa_nil)) (pe_callB (call_reprA hgd (Room.u101 hr) S) (by rfl) m_repr (by decide +kernel) (pa_cons (pe_op op_rep (pe_lst (pa_cons (pe_tup (pa_cons pe_str (pa_cons pe_non pa_nil))) pa_nil)) pe_int) pa_nil)) (nomark _)))
    case right =>
      refine ⟨_, rfl, a, ns, rfl, hS, hl, fun H1 d D1 _ => ?_⟩
      refine ⟨_, rfl, 0, H, d, 4, rfl, D1, by decide, by decide, by decide, fun c H2 c0 c1 D2 => ⟨_, _, rfl, rfl, ?_⟩⟩
      obtain ⟨r, hr6, h6, h9⟩ : ∃ r : Nat, (6 : Int) + c = (r : Int) ∧ 6 ≤ r ∧ r ≤ 9 := ⟨(6 + c).toNat, by omega, by omega, by omega⟩
      have e6 : ((fun i j : Int => V.int (i + j)) 6 c) = V.int (r : Int) := congrArg V.int hr6
      rw [e6]
      refine ⟨_, rfl, 1, H, d, 5, rfl, D2, by decide, by decide, by decide, fun wy H3 w0 w1 D3 => ?_⟩
      refine ⟨(show 2 ≤ sizeLine by decide), fun q hq => ⟨q, _, rfl, SqT.of upd_same, rfl, _, _, rfl, _, _, rfl, rfl, ?_⟩⟩
      obtain ⟨V4, D4, y4, _⟩ := D3.mk (o := .tup [.int (r : Int), .int wy]) hq
      generalize upd H3 q (.tup [.int (r : Int), .int wy]) = H4 at D4 ⊢
      clear D1 D2 D3 hq y4
      -- the items
      refine ⟨fun σ H' => ∃ (pI : Addr) (VI : Hp) (L : List (List Bool)), σ = [some (.ref a), some (.ref d), some (.int (r : Int)), some (.int wy), some (.ref pI), none, none, none, none, none, none, none, none, none] ∧ Dw 2000 VI H' d ∧ VI pI = some (.lst ((L.map fun l => sT (bT l)).map V.str)) ∧ (∀ l ∈ L, l.length ≤ 96) ∧ L.length ≤ 5, ?_, ?_⟩
      · refine ⟨_, rfl, 2, V4, d, 6, rfl, D4, by decide, by decide, by decide, fun z H5 z0 z1 D5 => ?_⟩
        obtain ⟨n, rfl⟩ : ∃ n : Nat, z = (n : Int) := ⟨z.toNat, by omega⟩
        refine ⟨(n : Int), rfl, by omega, by omega, fun Dl hDl => ?_⟩
        have nDl : V4 Dl = none := D5.same.free hDl
        obtain ⟨V5, D5, y5, e5⟩ := D5.mk (o := .lst []) hDl
        refine lc_range (lo := 0) (n := n) (fun j H' => ∃ (V' : Hp) (L : List (List Bool)), Dw (3 + 200 * j) V' H' d ∧ Same V4 V' ∧ V' Dl = some (.lst ((L.map fun l => sT (bT l)).map V.str)) ∧ (∀ l ∈ L, l.length ≤ 96) ∧ L.length = j)
          ⟨V5, [], D5, y5, e5, (fun x hx => nomatch hx), rfl⟩ ?_ ?_
        · rintro j H' hj ⟨V', L, D', y, eD, hL, ll⟩
          refine ⟨rfl, yesIf ?_⟩
          refine ⟨_, rfl, _, rfl, 3 + 200 * j, V', d, r, rfl, by omega, h9, D', by show 3 + 200 * j + 300 < 1099511627776; omega, fun ai xi di H6 V6 D6 y6 n6 e6 A6 T6 S6 l1 l5 I6 => ?_⟩
          have tI : Dt anyA H6 (.ref ai) (.tuple di) := (Dt.tup (G := anyA) trivial e6 (A6.to fun b o _ e => ⟨e, trivial⟩)).same D6.same
          refine ⟨_, .tuple di, r, rfl, tI, .tup T6, I6, S6, h9, fun H7 s7 => ?_⟩
          have D7 := D6.keep s7
          have e7 := y6 _ _ eD
          refine ⟨_, D7.same _ _ e7, ?_, upd V6 Dl (.lst (((L ++ [instrW (.tuple di)]).map fun l => sT (bT l)).map V.str)), L ++ [instrW (.tuple di)], ?_, same_sub (y.trans y6) nDl, upd_same, ?_, by rw [List.length_append, ll]; rfl⟩
          · rw [List.length_map, List.length_map, ll]
            exact Nat.lt_of_lt_of_le (show j < 1000 by omega) (by decide)
          · have := D7.set (o' := .lst (((L ++ [instrW (.tuple di)]).map fun l => sT (bT l)).map V.str)) e7
            rw [List.map_append, List.map_append] at this ⊢
            exact this.mono (by omega)
          · intro l hl
            rcases List.mem_append.mp hl with hl | hl
            · exact hL l hl
            · rw [List.mem_singleton] at hl
              rw [hl]
              exact instrW_len96 I6 S6
        · rintro H6 ⟨V6, L, D6, y6, e6, hL, ll⟩
          exact ⟨Dl, V6, L, rfl, D6.mono (by omega), e6, hL, by omega⟩
      rintro σ H5 ⟨pI, VI, L, rfl, D5, eI, hL, l5⟩
      -- the bits
      refine ⟨fun σ H' => ∃ (l : List Bool), σ = [some (.ref a), some (.ref d), some (.int (r : Int)), some (.int wy), some (.ref pI), none, some (.str (sT (bT l))), none, none, none, none, none, none, none] ∧ Dw 3000 VI H' d ∧ l.length ≤ 492, ?_, ?_⟩
      · refine ⟨_, rfl, rfl, _, rfl, ?_⟩
        refine ite2 (fun _ => ?_) (fun _ => ?_)
        · exact ⟨_, rfl, 2000, VI, d, 60, rfl, D5, by decide, by decide, fun l H6 hl D6 => ⟨l, rfl, D6.mono (by decide), by omega⟩⟩
        · refine ⟨_, rfl, ⟨_, rfl⟩, _, rfl, "", pI, _, rfl, rfl, .inl (SqL.of (D5.same _ _ eI)), sum_L hL l5, ?_⟩
          rw [join_L]
          have := flat_le (m := 96) hL
          exact ⟨2000, VI, d, L.flatten, rfl, D5, by decide, by omega, fun l' H6 hl D6 => ⟨l', rfl, D6.mono (by decide), hl⟩⟩
      rintro σ H6 ⟨l, rfl, D6, hl⟩
      clear D5 eI
      -- what is due and what is told
      refine ⟨fun σ H' => ∃ t1 t2, σ = [some (.ref a), some (.ref d), some (.int (r : Int)), some (.int wy), some (.ref pI), none, some (.str (sT (bT l))), some (.ref t1), some (.ref t2), none, none, none, none, none] ∧ Same H6 H' ∧ Dt anyA H' (.ref t1) (dueD r l) ∧ Dt anyA H' (.ref t2) (dueD r l), ?_, ?_⟩
      · refine ⟨_, rfl, _, rfl, r, l, rfl, by omega, h9, fun H7 t1 s7 d7 => ?_⟩
        refine ⟨_, rfl, _, rfl, r, _, _, rfl, h6, h9, .inr ⟨l, rfl, by omega, .inl ⟨rfl, fun H8 t2 s8 d8 => ?_⟩⟩⟩
        exact ⟨_, _, rfl, t1, t2, rfl, s7.trans s8, d7.to fun b o g e => ⟨s8 _ _ e, trivial⟩, d8⟩
      rintro σ H7 ⟨t1, t2, rfl, s7, d1, d2⟩
      have sl0 : (sT (bT l)).length ≤ sizeLine := sl_of (by rw [bl_len]; omega)
      have rd := (due_rp h9 (l := l) (by omega)).ok (by decide) (by decide)
      refine ⟨_, rfl, _, _, rfl, d2.dx, rd.1, rd.2.1, rd.2.2, ?_⟩
      refine ⟨_, rfl, _, _, rfl, d1.dx, rd.1, rd.2.1, rd.2.2, rfl, _, rfl, iteNe rfl ?_⟩
      -- the value, or where it ends
      refine ⟨fun σ H' => ∃ v9, σ = [some (.ref a), some (.ref d), some (.int (r : Int)), some (.int wy), some (.ref pI), none, some (.str (sT (bT l))), some (.ref t1), some (.ref t2), v9, none, none, none, none] ∧ Same H6 H', ?_, ?_⟩
      · by_cases c : (rdA r l).2 = l.length
        · have ed : dueD r l = .tuple [.str "value", .list ((rdA r l).1.map pairD)] := by unfold dueD; rw [if_pos c]
          rw [ed] at d1 d2
          obtain ⟨x1, e1, l1⟩ := d1.two
          obtain ⟨x2, e2, l2⟩ := d2.two
          obtain ⟨p1, xs1, rfl, f1, A1⟩ := l1.lstI
          obtain ⟨p2, xs2, rfl, f2, A2⟩ := l2.lstI
          obtain ⟨ds, g1, g2, g3, g4, g5⟩ := rdA_back h9 l
          rw [c, List.take_length] at g3
          refine ⟨_, rfl, _, _, _, _, rfl, rfl, SqT.of e1, rfl, rfl, _, rfl, ?_⟩
          refine iteT ?_
          have rk := (all_rp (r := r) h9 (l := l) (by omega)).ok (by decide) (by decide)
          rw [g1] at A1 A2 rk
          have l1' : Dt anyA H7 (.ref p1) (.list ((offs 0 ds).map pairD)) := .lst trivial f1 A1
          have hl5 := allW_five g2
          rw [g3] at hl5
          refine ⟨_, rfl, _, _, _, _, rfl, rfl, SqT.of e1, rfl, p1, rfl, ⟨_, SqL.of f1⟩, fun Dl hDl => ?_⟩
          have item : ∀ {xs : List V} {H' : Hp} {j : Nat} {x : V}, DtA anyA H7 xs ((offs 0 ds).map pairD) → xs[j]? = some x → Same H7 H' → ∃ d0 pp y, ds[j]? = some d0 ∧ x = .ref pp ∧ H' pp = some (.tup [.int ((allW (ds.take j)).length : Int), y]) ∧ Dt anyA H7 y d0 := by
            intro xs H' j x A hj sj
            obtain ⟨dd, hdd, hx⟩ := A.at hj
            have hjl : j < ds.length := by
              have := (List.getElem?_eq_some_iff.mp hdd).1
              rw [List.length_map, offs_len] at this
              exact this
            have hd0 : ds[j]? = some ds[j] := List.getElem?_eq_getElem hjl
            have eo : ((offs 0 ds).map pairD)[j]? = some (pairD ((allW (ds.take j)).length, ds[j])) := by
              rw [List.getElem?_map, offs_at hd0, Nat.zero_add]
              rfl
            rw [eo] at hdd
            have hdd := Option.some.inj hdd
            subst hdd
            obtain ⟨pp, y, rfl, ep, hy⟩ := hx.pairI
            exact ⟨_, pp, y, hd0, rfl, sj _ _ ep, hy⟩
          refine lc_list (K := K) (a := p1) (xs := xs1) (fun j H' => Same H7 H' ∧ ∃ acc, H' Dl = some (.lst acc) ∧ acc.length ≤ j ∧ (acc = [] → ∀ k < j, ∀ d, ds[k]? = some d → smI d = true)) ⟨same_new hDl, [], upd_same, Nat.le_refl _, fun _ k h => absurd h (Nat.not_lt_zero _)⟩ (fun j H' _ h => SqL.of (h.1 _ _ f1)) ?_ ?_
          · rintro j x H' hj ⟨sj, acc, ej, la, hf⟩
            obtain ⟨d0, pp, y, hd0, rfl, ep, hy⟩ := item A1 hj sj
            obtain ⟨z, dz, rfl, hz⟩ := instr_far (g2 _ (List.mem_of_getElem? hd0))
            obtain ⟨ay, ys, rfl, ey, hys⟩ := hy.headI
            refine ⟨pp, _, rfl, SqT.of ep, rfl, _, _, rfl, _, _, rfl, rfl, ?_⟩
            have skip : (∀ d, ds[j]? = some d → smI d = true) → acc.length ≤ j + 1 ∧ (acc = [] → ∀ k < j + 1, ∀ d, ds[k]? = some d → smI d = true) := fun h => ⟨by omega, fun ha k hk d hd => by
              by_cases e : k = j
              · rw [e] at hd; exact h d hd
              · exact hf ha k (by omega) d hd⟩
            have hjl : j < ds.length := (List.getElem?_eq_some_iff.mp hd0).1
            refine ⟨rfl, ?_⟩
            refine ⟨_, rfl, _, _, _, _, rfl, rfl, SqT.of (sj _ _ ey), atI_nat (j := 0) rfl, rfl, _, rfl, ?_⟩
            rcases hz with ⟨nz, hs⟩ | ⟨rfl, x9, n, rfl, hs⟩
            · rw [decide_eq_false (fun q => nz (by injection q))]
              refine iteF ?_
              exact iteF ⟨sj, acc, ej, skip fun d hd => by rw [hd0] at hd; injection hd with hd; rw [← hd]; exact hs⟩
            · rw [decide_eq_true rfl]
              refine iteT ?_
              obtain ⟨y9, rfl⟩ : ∃ y9, ys = [y9, .int n] := by
                cases hys with
                | cons h1 h2 =>
                  cases h2 with
                  | cons h3 h4 =>
                    cases h3
                    cases h4
                    exact ⟨_, rfl⟩
              refine ⟨_, rfl, _, _, _, _, rfl, rfl, SqT.of (sj _ _ ey), atI_nat (j := 2) rfl, _, rfl, _, _, rfl, rfl, ⟨by decide, by decide, by decide⟩, _, _, rfl, rfl, _, rfl, ?_⟩
              refine ite2 (fun _ => ?_) (fun cf => ?_)
              · refine ⟨_, rfl, _, ej, ?_, same_sub sj hDl, _, upd_same, ?_, fun h => absurd h (by simp)⟩
                · exact Nat.lt_of_le_of_lt la (Nat.lt_of_lt_of_le (show j < 1000 by omega) (by decide))
                · rw [List.length_append]
                  exact Nat.succ_le_succ la
              · refine ⟨sj, acc, ej, skip fun d hd => ?_⟩
                rw [hd0] at hd
                injection hd with hd
                rw [← hd]
                refine hs ?_
                have e12 : (10 : Int) ^ Int.toNat 12 = 1000000000000 := by decide
                rw [e12] at cf
                have cf2 : ¬ (1000000000000 : Int) ≤ (if n < 0 then -n else n) := fun z => cf (decide_eq_true z)
                split at cf2 <;> omega
          rintro H8 ⟨s8, acc, e8, la, hf⟩
          refine ⟨_, rfl, (show 0 ≤ sizeLine by decide), fun p hp => ⟨Dl, p, acc, rfl, rfl, SqL.of ((same_new hp) _ _ e8), SqL.of upd_same, _, rfl, ?_⟩⟩
          have s9 := s8.trans (same_new (o := .lst []) hp)
          generalize upd H8 p (.lst []) = H9 at s9 ⊢
          clear e8 hp s8
          by_cases ha : acc = []
          rotate_left
          · rw [show acc.isEmpty = false by cases acc with | nil => exact absurd rfl ha | cons a b => rfl]
            refine iteF ?_
            refine iteF ?_
            refine ⟨_, rfl, _, rfl, rfl, rfl, _, _, rfl, .inr ⟨r, rfl, h6, h9, .inr ⟨l, rfl, by omega, .inr ⟨by rw [c]; exact Nat.lt_irrefl _, fun Hb v sb hv => ?_⟩⟩⟩⟩
            rw [g1] at hv
            refine ⟨_, _, rfl, hv.dx, rk.1, rk.2.1, rk.2.2, ?_⟩
            have sn := s9.trans sb
            refine ⟨_, rfl, _, _, _, _, rfl, rfl, SqT.of (sn _ _ e1), rfl, _, _, rfl, (l1'.same sn).dx, rk.1, rk.2.1, rk.2.2, rfl, _, rfl, iteNe rfl ?_⟩
            exact ⟨_, rfl, s7.trans sn⟩
          · have hsm := hf ha
            rw [ha]
            refine iteT ?_
            have f2' := s9 _ _ f2
            refine ⟨_, rfl, _, rfl, _, _, _, _, rfl, rfl, SqT.of (s9 _ _ e2), rfl, p2, rfl, ⟨_, SqL.of f2'⟩, fun D2 hD2 => ?_⟩
            have l2 := A2.length
            rw [List.length_map, offs_len] at l2
            have l1 := A1.length
            rw [List.length_map, offs_len] at l1
            refine lc_list (K := K) (a := p2) (xs := xs2) (fun j H' => Same H9 H' ∧ ∃ acc, H' D2 = some (.lst acc) ∧ DtA (fun b => b ≠ D2) H' acc (ds.take j)) ⟨same_new hD2, [], upd_same, .nil⟩ (fun j H' _ h => SqL.of (h.1 _ _ f2')) ?_ ?_
            · rintro j x H' hj ⟨sj, acc2, ej, Aj⟩
              obtain ⟨d0, pp, y, hd0, rfl, ep, hy⟩ := item A2 hj (s9.trans sj)
              refine ⟨pp, _, rfl, SqT.of ep, rfl, _, _, rfl, _, _, rfl, rfl, ?_⟩
              refine ⟨rfl, yesIf ⟨_, rfl, _, ej, ?_, same_sub sj hD2, _, upd_same, ?_⟩⟩
              · rw [Aj.length]
                exact Nat.lt_of_le_of_lt (List.length_take_le' _ _) (Nat.lt_of_lt_of_le (show ds.length < 1000 by omega) (by decide))
              · rw [take_snoc2 hd0]
                refine dtA_pairs (Aj.to fun b o g e => ⟨by rw [upd_ne g]; exact e, g⟩) (hy.to fun b o _ e => ?_)
                have n1 : b ≠ D2 := fun z => by
                  have := s9 _ _ e
                  rw [z, hD2] at this
                  cases this
                exact ⟨by rw [upd_ne n1]; exact (s9.trans sj) _ _ e, n1⟩
            rintro H10 ⟨s10, acc2, e10, A10⟩
            rw [l2, List.take_length] at A10
            refine ⟨_, _, rfl, .inr ⟨r, rfl, h6, h9, .inr ⟨D2, acc2, ds, rfl, .inl e10, A10.to fun b o _ e => ⟨e, trivial⟩, TxA.of fun d hd => instr_tx (g2 d hd), by omega, .inl ⟨fun d hd => ⟨g2 d hd, ?_⟩, fun Ha sa => ?_⟩⟩⟩⟩
            · obtain ⟨k, hk⟩ := List.mem_iff_getElem?.mp hd
              exact hsm k (by rw [l1]; exact (List.getElem?_eq_some_iff.mp hk).1) d hk
            rw [g3]
            refine ⟨_, rfl, rfl, _, rfl, iteNe rfl ?_⟩
            refine ⟨_, rfl, _, rfl, rfl, rfl, _, _, rfl, .inr ⟨r, rfl, h6, h9, .inr ⟨l, rfl, by omega, .inr ⟨by rw [c]; exact Nat.lt_irrefl _, fun Hb v sb hv => ?_⟩⟩⟩⟩
            rw [g1] at hv
            refine ⟨_, _, rfl, hv.dx, rk.1, rk.2.1, rk.2.2, ?_⟩
            have sn := (s9.trans (s10.trans sa)).trans sb
            refine ⟨_, rfl, _, _, _, _, rfl, rfl, SqT.of (sn _ _ e1), rfl, _, _, rfl, (l1'.same sn).dx, rk.1, rk.2.1, rk.2.2, rfl, _, rfl, iteNe rfl ?_⟩
            exact ⟨_, rfl, s7.trans sn⟩
        · have hn := (rdA_back h9 l).choose_spec.2.2.2.2
          have ed : dueD r l = .tuple [.str "BadBits", .int (((rdA r l).2 : Nat) : Int)] := by unfold dueD; rw [if_neg c]
          rw [ed] at d1
          obtain ⟨x1, e1, l1⟩ := d1.two
          have := l1.intI
          subst this
          have tk := rdA_take h9 l
          generalize (rdA r l).2 = n at *
          refine ⟨_, rfl, _, _, _, _, rfl, rfl, SqT.of e1, rfl, rfl, _, rfl, ?_⟩
          refine iteF ?_
          refine ⟨_, rfl, _, rfl, _, rfl, _, _, _, _, rfl, rfl, SqT.of e1, rfl, _, rfl, _, rfl, sl0, ?_⟩
          rw [bTo]
          have lt : (l.take n).length = n := by rw [List.length_take]; omega
          have edue : dueD r (l.take n) = .tuple [.str "value", .list ((rdA r l).1.map pairD)] := by
            unfold dueD
            rw [tk, lt, if_pos rfl]
          have rk := (due_rp h9 (l := l.take n) (by omega)).ok (by decide) (by decide)
          refine ⟨r, _, _, rfl, h6, h9, .inr ⟨l.take n, rfl, by omega, .inl ⟨rfl, fun H8 t2 s8 d8 => ?_⟩⟩⟩
          refine ⟨_, _, rfl, d8.dx, rk.1, rk.2.1, rk.2.2, ?_⟩
          refine ⟨_, rfl, _, rfl, _, rfl, _, _, _, _, rfl, rfl, SqT.of (s8 _ _ e1), rfl, _, rfl, _, rfl, sl0, ?_⟩
          rw [bTo]
          refine ⟨r, l.take n, rfl, by omega, h9, fun H9 t3 s9 d9 => ?_⟩
          rw [edue] at d9 rk ⊢
          obtain ⟨x3, e3, l3⟩ := (d9.to (G' := anyA) fun b o _ e => ⟨e, trivial⟩).two
          refine .inr (.inl ⟨_, _, _, _, rfl, rfl, SqT.of e3, rfl, (show 2 ≤ sizeLine by decide), fun q hq => ?_⟩)
          have sq := same_new (o := .tup [V.str "value", x3]) hq
          refine ⟨_, _, rfl, .tup (SqT.of upd_same) (.cons (.str _) (.cons (l3.same sq).dx .nil)), rk.1, rk.2.1, rk.2.2, ?_⟩
          generalize PyData.shown (.tuple [.str "value", .list ((rdA r l).1.map pairD)]) = S1
          exact ⟨rfl, _, rfl, iteNe rfl ⟨_, rfl, s7.trans (s8.trans (s9.trans sq))⟩⟩
      rintro σ H8 ⟨v9, rfl, s8⟩
      have D8 := D6.keep s8
      have sl : (sT (bT l)).length ≤ sizeLine := sl_of (by rw [bl_len]; omega)
      clear D6 d1 d2 s7 s8 rd
      -- instructions asked for
      refine ⟨_, rfl, by decide, by decide, ?_⟩
      refine for_range (lo := 0) (n := 12) (fun j σ H' => ∃ v5 v10 v12, σ = [some (.ref a), some (.ref d), some (.int (r : Int)), some (.int wy), some (.ref pI), v5, some (.str (sT (bT l))), some (.ref t1), some (.ref t2), v9, v10, none, v12, none] ∧ Dw (3000 + j) VI H' d) ⟨_, _, _, rfl, D8⟩ ?_ ?_
      · rintro j σ H' hj ⟨v5, v10, v12, rfl, D'⟩
        refine ⟨_, rfl, _, rfl, _, rfl, sl, _, _, rfl, rfl, 3000 + j, VI, d, _, rfl, D', by show 3000 + j < 1099511627776; omega, by omega, by rw [bl_len]; omega, fun z H1 z0 z1 D1 => ?_⟩
        rw [bl_len] at z1
        obtain ⟨i, rfl⟩ : ∃ n : Nat, z = (n : Int) := ⟨z.toNat, by omega⟩
        refine ⟨_, rfl, _, rfl, _, rfl, r, l, i, rfl, by omega, by omega, h9, fun v H2 s2 hv => ?_⟩
        obtain ⟨o, ho, ha⟩ : ∃ o, PlV H2 l.length (.int (i : Int)) o ∧ askA r l o = rdOne r l i := by
          by_cases c : i < l.length
          · exact ⟨some i, ⟨rfl, c⟩, rfl⟩
          · refine ⟨none, .inl ⟨_, rfl, .inr (by omega)⟩, ?_⟩
            have : i = l.length := by omega
            rw [this, rdOne_end]
            rfl
        refine ⟨_, rfl, _, rfl, _, rfl, r, _, _, rfl, h6, h9, .inr ⟨l, rfl, by omega, .inr ⟨o, .int _, ho, fun H3 t s3 d3 => ?_⟩⟩⟩
        unfold adD at d3
        rw [ha] at d3
        cases e : rdOne r l i with
        | none =>
          rw [e] at hv d3
          have hv : v = .non := hv
          subst hv
          have d3 : Dt anyA H3 (.ref t) (.tuple [.str "BadAddress"]) := d3
          have rp := (rpb_seq (k := 0) (n := 6002) (m := 1) (ds := [.str "BadAddress"]) (fun x hx => by rw [List.mem_singleton] at hx; rw [hx]; exact rpb_lit (by decide +kernel)) (by simp)).2.ok (by decide) (by decide)
          refine ⟨_, _, rfl, d3.dx, rp.1, rp.2.1, rp.2.2, ?_⟩
          refine ⟨_, rfl, rfl, _, rfl, ?_⟩
          rw [decide_eq_true rfl]
          refine iteT ⟨(show 1 ≤ sizeLine by decide), fun q hq => ⟨_, _, rfl, .tup (SqT.of upd_same) (.cons (.str _) .nil), rp.1, rp.2.1, rp.2.2, rfl, _, rfl, iteNe rfl ?_⟩⟩
          exact ⟨_, _, _, rfl, (D1.keep (s2.trans (s3.trans (same_new hq)))).mono (by omega)⟩
        | some y =>
          obtain ⟨dd, b⟩ := y
          rw [e] at hv d3
          have d3 : Dt anyA H3 (.ref t) (.tuple [.str "value", .tuple [dd, .int ((b : Nat) : Int)]]) := d3
          have rp := (one_rp h9 (by omega) e).ok (by decide) (by decide)
          obtain ⟨p, x, rfl, hp, hx⟩ := hv
          refine ⟨_, _, rfl, d3.dx, rp.1, rp.2.1, rp.2.2, ?_⟩
          refine ⟨_, rfl, rfl, _, rfl, ?_⟩
          rw [decide_eq_false (fun z => by cases z)]
          refine iteF ⟨_, rfl, (show 2 ≤ sizeLine by decide), fun q hq => ?_⟩
          have sq := s3.trans (same_new (o := .tup [.str "value", .ref p]) hq)
          refine ⟨_, _, rfl, .tup (SqT.of upd_same) (.cons (.str _) (.cons (.tup (SqT.of (sq _ _ hp)) (.cons (hx.same sq).dx (.cons (.int _) .nil))) .nil)), rp.1, rp.2.1, rp.2.2, ?_⟩
          generalize PyData.shown (.tuple [.str "value", .tuple [dd, .int ((b : Nat) : Int)]]) = S1
          refine ⟨rfl, _, rfl, iteNe rfl ?_⟩
          exact ⟨_, _, _, rfl, (D1.keep (s2.trans sq)).mono (by omega)⟩
      rintro σ H9 ⟨v5, v10, v12, rfl, D9⟩
      -- what is no address
      refine ⟨_, rfl, _, rfl, _, rfl, sl, _, rfl, _, rfl, sl, _, _, rfl, rfl, (show 1 ≤ sizeLine by decide), fun q1 hq1 => fun q3 hq3 => ⟨(show 8 ≤ sizeLine by decide), fun q4 hq4 => ⟨q4, rfl, ⟨_, SqL.of upd_same⟩, ?_⟩⟩⟩
      rw [bl_len]
      have z1 := same_new (o := .tup [V.int 0]) hq1
      have e1 : (upd H9 q1 (.tup [V.int 0])) q1 = some (.tup [.int 0]) := upd_same
      have z3 := same_new (o := .dK []) hq3
      have e3 : (upd (upd H9 q1 (.tup [V.int 0])) q3 (.dK [])) q3 = some (.dK []) := upd_same
      have e1 := z3 _ _ e1
      have z4 := same_new (o := .lst [.non, .bl true, .int (-1), .int (l.length : Int), .int ((l.length : Int) + 7), .str "0", .ref q1, .ref q3]) hq4
      have e4 : (upd (upd (upd H9 q1 (.tup [V.int 0])) q3 (.dK [])) q4 (.lst [.non, .bl true, .int (-1), .int (l.length : Int), .int ((l.length : Int) + 7), .str "0", .ref q1, .ref q3])) q4 = some (.lst [.non, .bl true, .int (-1), .int (l.length : Int), .int ((l.length : Int) + 7), .str "0", .ref q1, .ref q3]) := upd_same
      replace e1 := z4 _ _ e1
      replace e3 := z4 _ _ e3
      have D10 := D9.keep (z1.trans (z3.trans z4))
      clear D9 D8 z1 z3 z4 hq4 hq3 hq1
      generalize upd (upd (upd H9 q1 (.tup [V.int 0])) q3 (.dK [])) q4 (.lst [.non, .bl true, .int (-1), .int (l.length : Int), .int ((l.length : Int) + 7), .str "0", .ref q1, .ref q3]) = H10 at e1 e3 e4 D10 ⊢
      have bad : ∀ x ∈ [V.non, .bl true, .int (-1), .int (l.length : Int), .int ((l.length : Int) + 7), .str "0", .ref q1, .ref q3], ∀ H', Same H10 H' → AdV H' x ∧ PlV H' l.length x none := by
        intro x hx H' s
        simp only [List.mem_cons, List.not_mem_nil, or_false] at hx
        rcases hx with rfl | rfl | rfl | rfl | rfl | rfl | rfl | rfl
        · exact ⟨.non, .inr .non⟩
        · exact ⟨.bl _, .inr (.bl true)⟩
        · exact ⟨.int _, .inl ⟨_, rfl, .inl (by decide)⟩⟩
        · exact ⟨.int _, .inl ⟨_, rfl, .inr (Int.le_refl _)⟩⟩
        · exact ⟨.int _, .inl ⟨_, rfl, .inr (by omega)⟩⟩
        · exact ⟨.str (by decide +kernel), .inr (.str _)⟩
        · exact ⟨.tup (s _ _ e1), .inr (.tup (s _ _ e1))⟩
        · exact ⟨.dic (s _ _ e3), .inr (.dic (s _ _ e3))⟩
      generalize [V.non, .bl true, .int (-1), .int (l.length : Int), .int ((l.length : Int) + 7), .str "0", .ref q1, .ref q3] = xs at e4 bad ⊢
      clear e1 e3
      refine for_list (K := K) (a := q4) (xs := xs) (fun j σ H' => Same H10 H' ∧ ∃ v10, σ = [some (.ref a), some (.ref d), some (.int (r : Int)), some (.int wy), some (.ref pI), v5, some (.str (sT (bT l))), some (.ref t1), some (.ref t2), v9, v10, none, v12, none]) ⟨Same.refl _, v10, rfl⟩ (fun j σ H' _ h => SqL.of (h.1 _ _ e4)) ?_ ?_
      · rintro j x σ H' hj ⟨sj, v10, rfl⟩
        obtain ⟨b1, b2⟩ := bad x (List.mem_of_getElem? hj) H' sj
        refine ⟨_, rfl, _, rfl, _, rfl, r, _, _, rfl, h6, h9, .inr ⟨l, rfl, by omega, .inr ⟨none, b1, b2, fun H3 t s3 d3 => ?_⟩⟩⟩
        have d3 : Dt anyA H3 (.ref t) (.tuple [.str "BadAddress"]) := d3
        refine ⟨(show 1 ≤ sizeLine by decide), fun q hq => ?_⟩
        refine ⟨_, _, .tup (SqT.of ((same_new hq) _ _ d3.one)) (.cons (.str _) .nil), .tup (SqT.of upd_same) (.cons (.str _) .nil), by decide +kernel, by decide +kernel, _, rfl, iteNeB (by decide +kernel) ?_⟩
        exact ⟨sj.trans (s3.trans (same_new hq)), _, rfl⟩
      rintro σ H11 ⟨s11, v10', rfl⟩
      have D11 := D10.keep s11
      clear D10 s11 e4 bad
      -- what is no bits
      refine ⟨_, rfl, (show 1 ≤ sizeLine by decide), fun u1 hu1 => ?_⟩
      obtain ⟨V5, D13, x1, a1⟩ := D11.mk (o := .lst [V.str "0"]) hu1
      refine ⟨_, rfl, _, _, rfl, rfl, sl_of (by rw [bl_len, show ("x" : Str).length = 1 by decide +kernel]; omega), (show 2 ≤ sizeLine by decide), fun u2 hu2 => ?_⟩
      obtain ⟨V6, D14, x2, a2⟩ := D13.mk (o := .tup [V.str "0", V.str "1"]) hu2
      refine fun u3 hu3 => ?_
      obtain ⟨V7, D15, x3, a3⟩ := D14.mk (o := .dK []) hu3
      refine ⟨(show 8 ≤ sizeLine by decide), fun u4 hu4 => ?_⟩
      obtain ⟨V8, D16, x4, a4⟩ := D15.mk (o := .lst [.non, .int 5, .ref u1, .str "2", .str (sT (bT l) ++ "x"), .str " ", .ref u2, .ref u3]) hu4
      refine ⟨3000 + 12, V8, d, .ref u4, _, rfl, D16, by decide, .lst (SqL.of a4), (show 0 < 8 by decide), (show 8 < 100000 by decide), fun y H17 hy D17 => ?_⟩
      have hn : NbV V8 y := by
        simp only [List.mem_cons, List.not_mem_nil, or_false] at hy
        rcases hy with rfl | rfl | rfl | rfl | rfl | rfl | rfl | rfl
        · exact .inr .non
        · exact .inr (.int 5)
        · exact .inr (.lst (x4 _ _ (x3 _ _ (x2 _ _ a1))))
        · exact .of (by decide +kernel)
        · exact .app (by omega) (by decide +kernel)
        · exact .of (by decide +kernel)
        · exact .inr (.tup (x4 _ _ (x3 _ _ a2)))
        · exact .inr (.dic (x4 _ _ a3))
      replace hn := hn.same D17.same
      clear hy a1 a2 a3 a4 x1 x2 x3 x4 D11 D13 D14 D15 D16 D17
      -- refused
      refine ⟨(show 3 ≤ sizeLine by decide), fun p hp => ⟨p, rfl, ⟨_, SqL.of upd_same⟩, ?_⟩⟩
      have hn18 := hn.same (same_new (o := .lst [V.str "all", V.int 0, V.non]) hp)
      have e18 : (upd H17 p (.lst [V.str "all", V.int 0, V.non])) p = some (.lst [V.str "all", V.int 0, V.non]) := upd_same
      generalize upd H17 p (.lst [V.str "all", V.int 0, V.non]) = H18 at hn18 e18 ⊢
      clear hn
      refine fun Dl hDl => ?_
      refine lc_list (K := K) (a := p) (xs := [V.str "all", V.int 0, V.non]) (fun j H' => Same H18 H' ∧ ∃ acc, H' Dl = some (.lst acc) ∧ DtA (fun b => b ≠ Dl) H' acc (List.replicate j (.tuple [.str "BadBits", .none]))) ⟨same_new hDl, [], upd_same, .nil⟩ (fun j H' _ h => SqL.of (h.1 _ _ e18)) ?_ ?_
      · rintro j x H' hj ⟨sj, acc, ej, A⟩
        have A2 : ∀ (H3 : Hp) (t : Addr), Same H' H3 → Dt anyA H3 (.ref t) (.tuple [.str "BadBits", .none]) → (z : H3 t ≠ none) → True := fun _ _ _ _ _ => trivial
        have hz : x = .str "all" ∨ AdV H' x := by
          have hx := List.mem_of_getElem? hj
          simp only [List.mem_cons, List.not_mem_nil, or_false] at hx
          rcases hx with rfl | rfl | rfl
          · exact .inl rfl
          · exact .inr (.int 0)
          · exact .inr .non
        have hj3 : j < 3 := (List.getElem?_eq_some_iff.mp hj).1
        refine ⟨rfl, yesIf ⟨_, rfl, _, rfl, _, rfl, r, _, _, rfl, h6, h9, .inl ⟨hn18.same sj, hz, fun H3 t s3 d3 => ?_⟩⟩⟩
        obtain ⟨x2, e2, d2⟩ := d3.two
        have ne : t ≠ Dl := fun z => by
          have := s3 _ _ ej
          rw [← z, e2] at this
          cases this
        refine ⟨acc, s3 _ _ ej, ?_, same_sub (sj.trans s3) hDl, _, upd_same, ?_⟩
        · have := A.length
          rw [List.length_replicate] at this
          exact Nat.lt_of_lt_of_le (show _ < 1000 by omega) (by decide)
        · rw [List.replicate_succ']
          cases d2
          exact dtA_pairs (A.to fun b o g e => ⟨by rw [upd_ne g]; exact s3 _ _ e, g⟩) (.tup ne (by rw [upd_ne ne]; exact e2) (.cons (.str _) (.cons .non .nil)))
      rintro H19 ⟨s19, acc, e19, A19⟩
      have rk : RpB 2 100000 (.list (List.replicate 3 (.tuple [.str "BadBits", .none]))) := (rpb_seq (k := 1) (n := 20000) (m := 3) (fun x hx => by
        rw [List.eq_of_mem_replicate hx]
        exact (rp_two (k := 0) (n := 6002) (rpb_lit (z := "BadBits") (by decide +kernel)) (rpb_none.mono (by decide) (by decide))).mono (by decide) (by decide)) (by simp)).1.mono (by decide) (by decide)
      have rp := rk.ok (by decide) (by decide)
      refine ⟨_, _, rfl, .lst (SqL.of e19) A19.dx, rp.1, rp.2.1, rp.2.2, ?_⟩
      refine ⟨(show 2 ≤ sizeLine by decide), fun q1 hq1 => ⟨(show 1 ≤ sizeLine by decide), fun q2 hq2 => ?_⟩⟩
      have e1 : (upd H19 q1 (.tup [.str "BadBits", .non])) q1 = some (.tup [.str "BadBits", .non]) := upd_same
      replace e1 := (same_new (o := .lst [.ref q1]) hq2) _ _ e1
      refine ⟨q2, 3, _, rfl, rfl, upd_same, by decide, by decide, (show 3 ≤ sizeLine by decide), fun q3 hq3 => ?_⟩
      replace e1 := fun o => (same_new (o := o) hq3) _ _ e1
      have one : ∀ o, Dx K (upd _ q3 o) (.ref q1) (.tuple [.str "BadBits", .none]) := fun o => .tup (SqT.of (e1 o)) (.cons (.str _) (.cons .non .nil))
      refine ⟨_, .list (List.replicate 3 (.tuple [.str "BadBits", .none])), rfl, .lst (SqL.of upd_same) (.cons (one _) (.cons (one _) (.cons (one _) .nil))), rp.1, rp.2.1, rp.2.2, ?_⟩
      generalize PyData.shown (.list (List.replicate 3 (.tuple [.str "BadBits", .none]))) = S1
      refine ⟨rfl, ?_⟩
      rw [decide_eq_true rfl]
      exact k _
end
/-! ## the law's end: no repr runs at its call; tables of code objects for the lambdas -/
theorem law_callZ {P : Program} {w : World} {K : PySem.W.Frag} {mg mb : Str → Option Value} {k : Nat} {fa a : Addr} {cs : List (Addr × Addr)} {fd : FuncData} {x : Str} {sp : Sp} {s : Shared} {vs : List Value} {ns : List Int}
    (KX : K.In s.heap) (hns : s.heap.Ns mainGlobals mg) (hb : s.heap.Ns builtinsNs mb) (hbb : ∀ x : Str, x ≠ "__name__" → mb x = bootBuiltins x) (hlim : s.heap.NoLimit) (hg : s.gens = #[])
    (hT : ∀ p ∈ cs, s.heap.get? p.2 = some { cls := .none, data := .fields #[] }) (nT : ∀ p ∈ cs, K.lookup p.2 = none) (C : ∀ p ∈ cs, PySem.W.CodeHd s.heap p.1 p.2)
    (hbm : ∃ (bm : Addr) (ob : Obj), mg "__builtins__" = some (.ref bm) ∧ bm ≠ builtinsNs ∧ s.heap.get? bm = some ob ∧ ob.cls = .type "module" ∧ ob.dict = some builtinsNs ∧ ob.data = .plain)
    (ha : s.heap.get? a = some { cls := .type "list", data := .seq vs.toArray }) (hi : PyProof.Rows.IntsAre vs ns) (hl : ns.length ≤ sizeLine) (hr : Room k callerA)
    (F : ∀ base : Heap, K.In base → base.Ns mainGlobals mg → (∀ p ∈ cs, LamX.TabB base mg p.1 p.2) → FnG P w K mg base k fa fd [x] sp) (hbind : ∀ (s : Shared) (u : Value), BindsTo s fd ⟨[u], []⟩ [(x, u)])
    (hsp : ∀ H : Hp, (∀ p ∈ cs, H p.2 = some (.tbl #[])) → SqL K H a (ns.map V.int) → sp [.ref a] H (fun v _ => v = .bl true) fun _ _ _ => False) :
    codeAny (model P w) callerA (.call (.ref fa) ⟨[.ref a], []⟩) (fun r s' => r = .ok (.ret (.bool true)) ∧ PySem.OldK s.heap s'.heap ∧ s'.os = s.os ∧ PyProof.Rows.AllBare s'.gens) s := by
  have rv := vals_ints hi
  have lenV := hi.length
  let tabs : List Addr := cs.map (·.2)
  have inTab : ∀ p ∈ cs, p.2 ∈ tabs := fun p hp => List.mem_map.mpr ⟨p, hp, rfl⟩
  have isTab : ∀ b ∈ tabs, ∃ p ∈ cs, p.2 = b := fun b hb => List.mem_map.mp hb
  have tabO : ∀ b ∈ tabs, s.heap.get? b = some { cls := .none, data := .fields #[] } := fun b hb => by
    obtain ⟨p, hp, e⟩ := isTab b hb
    exact e ▸ hT p hp
  have aN : a ∉ tabs := fun z => by
    have q := tabO a z
    rw [ha] at q
    cases q
  -- what is tracked at the start: the tables, and the script where it is none of the module's own
  let H : Hp := fun b => if b ∈ tabs then some (.tbl #[]) else if b = a ∧ K.lookup a = none then some (.frz { cls := .type "list", data := .seq vs.toArray } (.lst (ns.map V.int))) else none
  have Htab : ∀ b ∈ tabs, H b = some (.tbl #[]) := fun b hb => if_pos hb
  have Hscr : K.lookup a = none → H a = some (.frz { cls := .type "list", data := .seq vs.toArray } (.lst (ns.map V.int))) := fun q => (if_neg aN).trans (if_pos ⟨rfl, q⟩)
  have Hcases : ∀ b, H b = none ∨ b ∈ tabs ∨ (b = a ∧ K.lookup a = none) := fun b => by
    by_cases h1 : b ∈ tabs
    · exact .inr (.inl h1)
    · by_cases h2 : b = a ∧ K.lookup a = none
      · exact .inr (.inr h2)
      · exact .inl ((if_neg h1).trans (if_neg h2))
  have hok : HOk P w H s.heap := fun b u e => by
    rcases Hcases b with z | z | ⟨z, q⟩
    · rw [z] at e
      cases e
    · rw [Htab b z] at e
      cases e
      exact tabO b z
    · subst z
      rw [Hscr q] at e
      cases e
      exact ⟨ha, by rw [List.length_map]; exact hl, vs, _, rv, ha⟩
  have seq : SqL K H a (ns.map V.int) := by
    cases hk : K.lookup a with
    | none => exact .inl (.inr ⟨_, Hscr hk⟩)
    | some o =>
      have e := KX a o hk
      rw [ha] at e
      cases e
      exact .inr ⟨_, vs.toArray, _, hk, rfl, rfl, rfl, by rw [List.size_toArray, lenV]; exact hl, by simpa using rv⟩
  -- the ground
  have gr : ∀ {b : Addr} {o : Obj}, s.heap.get? b = some o → H b = none → (hidT s.heap H).get? b = some o := fun e n => hidT_get e n
  have untr : ∀ {b : Addr} {o : Obj}, s.heap.get? b = some o → (∀ us n, o.data ≠ .seq us n) → o.data ≠ .fields #[] → H b = none := fun {b o} e h1 h2 => by
    rcases Hcases b with z | z | ⟨z, _⟩
    · exact z
    · rw [tabO b z] at e
      cases e
      exact absurd rfl h2
    · rw [z, ha] at e
      cases e
      exact absurd rfl (h1 _ _)
  have dictU : ∀ {b : Addr} {o : Obj} {es : Array DictEntry} {ep : Nat}, s.heap.get? b = some o → o.data = .dict es ep → H b = none := fun e d => untr e (fun _ _ z => by rw [d] at z; cases z) (fun z => by rw [d] at z; cases z)
  have nsU : ∀ {b : Addr} {m : Str → Option Value}, s.heap.Ns b m → (hidT s.heap H).Ns b m := fun ⟨o, es, ep, e, d, r⟩ => ⟨o, es, ep, gr e (dictU e d), d, r⟩
  have kin : K.In (hidT s.heap H) := fun b o e => gr (KX b o e) (by
    rcases Hcases b with z | z | ⟨z, q⟩
    · exact z
    · obtain ⟨p, hp, ep⟩ := isTab b z
      rw [← ep, nT p hp] at e
      cases e
    · rw [z, q] at e
      cases e)
  have mod : L2.Mod K mg (hidT s.heap H) := ⟨kin, nsU hns, ⟨mb, nsU hb, hbb⟩, let ⟨mc, h1, h2⟩ := hlim; ⟨mc, nsU h1, h2⟩⟩
  have TB : ∀ p ∈ cs, LamX.TabB (hidT s.heap H) mg p.1 p.2 := fun p hp => by
    have tp := hT p hp
    refine ⟨?_, ?_, fun z => ?_⟩
    · obtain ⟨o, us, file, tf, flags, tg, inF, text, tt, e1, r1, r2, r3, rr⟩ := C p hp
      refine ⟨o, us, file, tf, flags, tg, inF, text, tt, gr e1 (untr e1 (fun _ _ z => by rw [r2] at z; cases z) fun z => ?_), r1, r2, r3, rr⟩
      rw [r2] at z
      cases z
      simp at r3
    · obtain ⟨bm, ob, b1, b2, b3, b4, b5, b6⟩ := hbm
      refine ⟨bm, ob, b1, b2, fun q => ?_, fun q => ?_, gr b3 (untr b3 (fun _ _ z => by rw [b6] at z; cases z) (fun z => by rw [b6] at z; cases z)), b4, b5, b6⟩
      · obtain ⟨o, es, ep, e, hd, _⟩ := hns
        rw [q, e] at b3
        cases b3
        rw [hd] at b6
        cases b6
      · rw [q, tp] at b3
        cases b3
        cases b6
    · obtain ⟨o, es, ep, e, hd, _⟩ := hns
      rw [z, tp] at e
      cases e
      cases hd
  have e0 : Env0 P w K mg (hidT s.heap H) callerA [] s H := ⟨rfl, mod, fun b o e => of_hidT e, Nat.le_of_eq (hidT_size _ _), trivial, fun b hb => absurd (show b ∈ ([] : List Addr) from hb) (by simp), hok, .of_eq hg⟩
  refine codeAny_mono ((F _ kin (nsU hns) TB).run callerA [] s H ⟨[.ref a], []⟩ [.ref a] [.ref a] _ _ rfl hr e0 (hbind s (.ref a)) (.cons rfl .nil) (hsp H (fun p hp => Htab _ (inTab p hp)) seq)) fun r s' h => ?_
  cases r with
  | error e => exact False.elim h
  | ok fl =>
    cases fl with
    | next => exact False.elim h
    | brk => exact False.elim h
    | cont => exact False.elim h
    | ret u =>
      obtain ⟨v, H', os, bare, un, hok', r', q⟩ := h
      have q' : v = .bl true := q
      subst q'
      obtain rfl : u = Value.bool true := r'
      have kept : ∀ b o, b ∉ tabs → s.heap.get? b = some o → s'.heap.get? b = some o := fun b o nb e => by
        rcases Hcases b with z | z | ⟨z, q⟩
        · exact un.keep b o e z (by intro z; exact absurd (show b ∈ ([] : List Addr) from z) (by simp)) (by simp)
        · exact absurd z nb
        · subst z
          have z2 := un.frzs _ _ _ (Hscr q)
          obtain ⟨e2, _⟩ := hok' _ _ z2
          rw [ha] at e
          cases e
          exact e2
      have more : ∀ p ∈ cs, ∃ more : Array Value, s'.heap.get? p.2 = some { cls := .none, data := .fields more } := fun p hp => by
        obtain ⟨mr, z⟩ := un.tbls p.2 #[] (Htab _ (inTab p hp))
        exact ⟨_, hok' p.2 _ z⟩
      refine ⟨rfl, ⟨fun b o e => ?_, fun b o e => ?_⟩, os, bare⟩
      · by_cases hbt : b ∈ tabs
        · obtain ⟨p, hp, ep⟩ := isTab b hbt
          obtain ⟨mr, hm⟩ := more p hp
          rw [← ep] at e ⊢
          rw [hT p hp] at e
          cases e
          exact .inr (.inl ⟨((C p hp).tab (hT p hp)).isCodeTable, rfl, #[], mr, rfl, by rw [Array.empty_append]; exact hm⟩)
        · exact .inl (kept b o hbt e)
      · by_cases hbt : b ∈ tabs
        · obtain ⟨p, hp, ep⟩ := isTab b hbt
          obtain ⟨mr, hm⟩ := more p hp
          exact ⟨_, ep ▸ hm⟩
        · exact ⟨o, kept b o hbt e⟩
/-- what is known of the law's promise at the head's heap -/
def LawAtZ (l : PySem.W.OpenLaw) (w : World) (k n : Nat) (x : Str) (mg : Str → Option Value) (fa : Addr) (h : Heap) : Prop :=
  ∃ (K : PySem.W.Frag) (fd : FuncData) (cs : List (Addr × Addr)) (sp : Sp), K.In h ∧ (∀ p ∈ cs, h.get? p.2 = some { cls := .none, data := .fields #[] }) ∧ (∀ p ∈ cs, K.lookup p.2 = none) ∧ (∀ p ∈ cs, PySem.W.CodeHd h p.1 p.2) ∧ (∀ (s : Shared) (u : Value), BindsTo s fd ⟨[u], []⟩ [(x, u)]) ∧
    (∀ (H : Hp) (a : Addr) (ns : List Int), ns.length ≤ n → (∀ p ∈ cs, H p.2 = some (.tbl #[])) → SqL K H a (ns.map V.int) → sp [.ref a] H (fun v _ => v = .bl true) fun _ _ _ => False) ∧
    ∀ base : Heap, K.In base → base.Ns mainGlobals mg → (∀ p ∈ cs, LamX.TabB base mg p.1 p.2) → FnG l.prog w K mg base k fa fd [x] sp
theorem walk_ofZ {l : PySem.W.OpenLaw} {n k : Nat} {q : Program} {loose : List Str} {XP : (Str → Option Value) → Heap → Prop} {YP : World → Heap → Prop} {d : DefRec} {x : Str}
    (hn : l.most = some n) (hn2 : n ≤ sizeLine) (hdf : d.params.defaults = []) (hr : Room k callerA)
    (F : ∀ (w : World) (mg : Str → Option Value) (fa : Addr) (h : Heap), YP w h → h.Ns mainGlobals mg → mg d.name = some (.ref fa) → LawAtZ l w k n x mg fa h) :
    PySem.W.WalkO q loose XP YP l.row.toRowW d [] (fun f vs => PySem.call f vs) :=
  Att.attach_call hn hdf fun w s0 s1 mg mb fa o pm cd doc a vs ns G Y ho hd hcd hmg hobj hints hlen hg => by
    obtain ⟨K, fd, cs, sp, KX, hT, nT, C, hb, hsp, hF⟩ := F w mg fa _ Y G.T.g hmg
    exact law_callZ KX G.T.g G.T.b G.T.builtins G.T.nolimit hg hT nT C G.T.bmain hobj hints (Nat.le_trans hlen hn2) hr hF hb (fun H hH hS => hsp H a ns hlen hH hS)
theorem kmem_ok {K : PySem.W.Frag} {w : World} {a : Addr} {ks : List Str} (h : He.dicW K a = some (He.keysIn w.params ks)) : KMem K w a (fun z => decide (z ∈ ks)) := by
  obtain ⟨es, n, hd⟩ := He.dicW_ok h
  refine ⟨es, n, hd, fun z => ?_⟩
  have lk := hd.1
  unfold He.dicW at h
  rw [lk] at h
  dsimp only at h
  split at h
  · obtain ⟨i1, i2⟩ := kmem_keys (Option.some.inj h)
    unfold PySem.W.nsIn
    rw [lk]
    dsimp only
    have i3 := i2 z
    cases q : es.toList.find? (·.key.isStr z) with
    | some e =>
      rw [q] at i3
      exact ⟨_, rfl, i3⟩
    | none =>
      rw [q] at i3
      rw [i1]
      exact ⟨_, rfl, i3⟩
  · cases h
theorem sc_bi : ScopeS ["self", "at"] (defScope s_BadInstruction___init__) := ⟨rfl, rfl, rfl, by decide +kernel, by decide +kernel, by decide +kernel, rfl, rfl⟩
theorem ok_bi {P : Program} {w : World} {K : PySem.W.Frag} {mg : Str → Option Value} {base : Heap} {f cc cda C : Addr} {fd : FuncData} (F : SupF P K mg C f cc cda "BadInstruction.__init__" (defArgs s_BadInstruction___init__) (defBody s_BadInstruction___init__) (defScope s_BadInstruction___init__) fd) (T : OexC K C) (n1 : PySem.W.findIn K (.ref C) "at" = some none) :
    FnOk P w K mg base CX0 1 f fd ["self", "at"] (spI1 C "at") := by
  refine fn_super F T sc_bi ⟨fun _ _ _ _ => rfl, fun _ _ _ _ => rfl, ⟨_, fun _ _ _ _ => rfl⟩⟩ rfl rfl (fun vs H Q E h => ?_) (fun vs H Q E h => ?_) (fun A outer s H vs Q E h => ?_)
  · obtain ⟨e, l, rfl, _⟩ := h
    rfl
  · obtain ⟨e, l, rfl, he, _⟩ := h
    exact ⟨e, _, rfl, he⟩
  · obtain ⟨e, l, rfl, he, k⟩ := h
    refine ⟨_, PSs.nox (pss_one (ps_ost (pv 0) (pv 1))), ?_⟩
    exact ⟨_, rfl, _, rfl, e, C, rfl, T, n1, .inl ⟨he, fun dx hd _ => k dx hd⟩⟩
section
variable {K : PySem.W.Frag} {x qual : Str} {params : Arguments} {body : List Stmt} {scope : Scope} {kws : List (Str × V)} {f : Addr} {fd : FuncData}
/-- two parameters by name, the second first -/
theorem FunD.kbindsR {a b : Str} (F : FunD K x qual params body scope [] kws f fd)
    (h : ∀ (kV doc pm : Value) (an : Option Addr) (cdv ct : Value) (u v : Value), bindArgs (PySem.W.fnOf x qual params body scope .none kV doc pm an cdv ct) ⟨[], [(b, u), (a, v)]⟩ = pure [(a, v), (b, u)]) : KBn K fd [a, b] 0 [b, a] (fun _ ws => ws.reverse) (fun _ zs => zs.reverse) := by
  obtain ⟨oc, od, dV, kV, doc, pm, an, cdv, ct, osl, rfl, lk, hcd, hD, hK⟩ := F.ex
  rcases hD with ⟨_, rfl⟩ | ⟨e, _⟩
  · refine ⟨fun s us ws X l1 l2 => ?_, fun _ r2 => r2.reverse⟩
    cases us with
    | nil =>
      match ws, l2 with
      | [u, v], _ => exact .of_eq (h kV doc pm an cdv ct u v)
    | cons a b => cases l1
  · exact absurd rfl e
theorem FunD.kbindsR3 {a b c : Str} (F : FunD K x qual params body scope [] kws f fd)
    (h : ∀ (kV doc pm : Value) (an : Option Addr) (cdv ct : Value) (u v w : Value), bindArgs (PySem.W.fnOf x qual params body scope .none kV doc pm an cdv ct) ⟨[], [(c, u), (b, v), (a, w)]⟩ = pure [(a, w), (b, v), (c, u)]) : KBn K fd [a, b, c] 0 [c, b, a] (fun _ ws => ws.reverse) (fun _ zs => zs.reverse) := by
  obtain ⟨oc, od, dV, kV, doc, pm, an, cdv, ct, osl, rfl, lk, hcd, hD, hK⟩ := F.ex
  rcases hD with ⟨_, rfl⟩ | ⟨e, _⟩
  · refine ⟨fun s us ws X l1 l2 => ?_, fun _ r2 => r2.reverse⟩
    cases us with
    | nil =>
      match ws, l2 with
      | [u, v, w], _ => exact .of_eq (h kV doc pm an cdv ct u v w)
    | cons a b => cases l1
  · exact absurd rfl e
end
theorem at_num {vs : List V} {H : Hp} {Q : VK} {E : XK} (h : spRd 0 numA vs H Q E) : spAt rdS vs H Q E := by
  obtain ⟨r, l, i, rfl, h1, h2, _, k⟩ := h
  refine ⟨_, l, i, rfl, h1, h2, fun v H' s hv => k v H' s ?_⟩
  unfold numA
  cases q : rdS l i with
  | none =>
    rw [q] at hv
    exact hv
  | some z =>
    obtain ⟨a, b⟩ := z
    rw [q] at hv
    obtain ⟨p, e, hp⟩ := hv
    exact ⟨p, _, e, hp, .int a⟩
section
abbrev LW : PySem.W.OpenLaw := PySem.Challenge.rw_stopanywhere_k84_bits_read_or_refused
theorem nkF {K : PySem.W.Frag} {h : Heap} {mg : Str → Option Value} (X : K.In h) (G : h.Ns mainGlobals mg) (c : SaysZ fbL fnL csL K) : NkF K mg where
  isi := He.free_ok X G (fact_f_isinstance c)
  int := He.free_ok X G (fact_f_int c)
  str := He.free_ok X G (fact_f_str c)
  len := He.free_ok X G (fact_f_len c)
  bool := He.free_ok X G (fact_f_bool c)
theorem memW (z : Str) : decide (z ∈ wordsL) = isWd z := rfl
theorem memL (z : Str) : decide (z ∈ (["short", "long"] : List Str)) = isLp z := by
  unfold isLp
  simp only [List.mem_cons, List.not_mem_nil, or_false, Bool.decide_or]
theorem KMem.to {K : PySem.W.Frag} {w : World} {a : Addr} {f g : Str → Bool} (h : KMem K w a f) (e : ∀ z, f z = g z) : KMem K w a g := by
  obtain ⟨es, n, h1, h2⟩ := h
  exact ⟨es, n, h1, fun z => by rw [← e z]; exact h2 z⟩
theorem shapes_at : ∀ c < 26, (wordsL.getD c "", He.Dv.str (sT (shapesT.getD c []))) ∈ ([("const", He.Dv.str "rn"), ("copy", He.Dv.str "cc"), ("plus", He.Dv.str "rrr"), ("minus", He.Dv.str "rrr"), ("times", He.Dv.str "rrr"), ("over", He.Dv.str "rrr"), ("rest", He.Dv.str "rrr"), ("less", He.Dv.str "rrr"), ("atmost", He.Dv.str "rrr"), ("same", He.Dv.str "rrr"), ("not", He.Dv.str "rr"), ("make", He.Dv.str "wrl"), ("tag", He.Dv.str "rr"), ("part", He.Dv.str "wkrr"), ("long", He.Dv.str "wrr"), ("new", He.Dv.str "wrrr"), ("at", He.Dv.str "wrrr"), ("put", He.Dv.str "wrrr"), ("show", He.Dv.str "r"), ("call", He.Dv.str "j"), ("jump", He.Dv.str "j"), ("branch", He.Dv.str "rj"), ("unless", He.Dv.str "rj"), ("try", He.Dv.str "jj"), ("return", He.Dv.str ""), ("fail", He.Dv.str "r")] : List (Str × He.Dv)) := by
  intro c hc
  have key : ∀ c < 26, (wordsL.getD c "", sT (shapesT.getD c [])) ∈ ([("const", "rn"), ("copy", "cc"), ("plus", "rrr"), ("minus", "rrr"), ("times", "rrr"), ("over", "rrr"), ("rest", "rrr"), ("less", "rrr"), ("atmost", "rrr"), ("same", "rrr"), ("not", "rr"), ("make", "wrl"), ("tag", "rr"), ("part", "wkrr"), ("long", "wrr"), ("new", "wrrr"), ("at", "wrrr"), ("put", "wrrr"), ("show", "r"), ("call", "j"), ("jump", "j"), ("branch", "rj"), ("unless", "rj"), ("try", "jj"), ("return", ""), ("fail", "r")] : List (Str × Str)) := by decide +kernel
  have := key c hc
  rw [show ([("const", He.Dv.str "rn"), ("copy", He.Dv.str "cc"), ("plus", He.Dv.str "rrr"), ("minus", He.Dv.str "rrr"), ("times", He.Dv.str "rrr"), ("over", He.Dv.str "rrr"), ("rest", He.Dv.str "rrr"), ("less", He.Dv.str "rrr"), ("atmost", He.Dv.str "rrr"), ("same", He.Dv.str "rrr"), ("not", He.Dv.str "rr"), ("make", He.Dv.str "wrl"), ("tag", He.Dv.str "rr"), ("part", He.Dv.str "wkrr"), ("long", He.Dv.str "wrr"), ("new", He.Dv.str "wrrr"), ("at", He.Dv.str "wrrr"), ("put", He.Dv.str "wrrr"), ("show", He.Dv.str "r"), ("call", He.Dv.str "j"), ("jump", He.Dv.str "j"), ("branch", He.Dv.str "rj"), ("unless", He.Dv.str "rj"), ("try", He.Dv.str "jj"), ("return", He.Dv.str ""), ("fail", He.Dv.str "r")] : List (Str × He.Dv)) = ([("const", "rn"), ("copy", "cc"), ("plus", "rrr"), ("minus", "rrr"), ("times", "rrr"), ("over", "rrr"), ("rest", "rrr"), ("less", "rrr"), ("atmost", "rrr"), ("same", "rrr"), ("not", "rr"), ("make", "wrl"), ("tag", "rr"), ("part", "wkrr"), ("long", "wrr"), ("new", "wrrr"), ("at", "wrrr"), ("put", "wrrr"), ("show", "r"), ("call", "j"), ("jump", "j"), ("branch", "rj"), ("unless", "rj"), ("try", "jj"), ("return", ""), ("fail", "r")] : List (Str × Str)).map (fun p => (p.1, He.Dv.str p.2)) from rfl]
  exact List.mem_map.mpr ⟨_, this, rfl⟩
theorem law_at {w : World} {K : PySem.W.Frag} {h : Heap} {mg : Str → Option Value} {fa : Addr} (X : K.In h) (G : h.Ns mainGlobals mg) (c : SaysZ fbL fnL csL K) (T : ∀ (i : Nat) (t : He.Tab), tbL[i]? = some t → He.dicW K (t.1 K) = some (He.keysIn w.params t.2)) (hfa : mg "law" = some (.ref fa)) : LawAtZ LW w 8 63 "_law_script" mg fa h := by
  have e := hfa.symm.trans (He.glo_ok X G (fact_g_law c))
  cases e
  obtain ⟨fd, F⟩ := def_law c
  refine ⟨K, fd, [], spLaw K, X, ?_, ?_, ?_, fun s u => F.bindsA (ps := ["_law_script"]) (fun _ _ _ _ _ _ us hl => match us, hl with | [_], _ => rfl) s [u] rfl, fun H a ns hl hH hS => ⟨a, ns, rfl, hS, hl, fun _ => rfl⟩, fun base KX GX hB => ?_⟩
  · exact fun p hp => nomatch hp
  · exact fun p hp => nomatch hp
  · exact fun p hp => nomatch hp
  · have nk := nkF X G c
    have su := He.free_ok X G (fact_f_super c)
    have iB : Ix1 LW.prog w K mg base "BadBits" (He.ga K "BadBits") "at" := by
      obtain ⟨iC, tI, cc, cda, fi, FI⟩ := supB_ok (P := LW.prog) (mg := mg) (d := i_BadBits) (ini_BadBits c) (fact_sup_BadBits c) (by decide +kernel) su
      exact ⟨He.glo_ok X G (fact_g_BadBits c), oexB_ok (fact_o_BadBits c), _, fi, iC, tI, ok_bb (P := LW.prog) (w := w) (base := base) FI (oexB_ok (fact_o_BadBits c)) (He.eqO_ok (fact_a_BadBits c)), FI.binds (fact_dfl_BadBits c) fun _ _ _ _ _ us hl => match us, hl with | [_, _], _ => rfl⟩
    have iI : Ix1 LW.prog w K mg base "BadInstruction" (He.ga K "BadInstruction") "at" := by
      obtain ⟨iC, tI, cc, cda, fi, FI⟩ := supB_ok (P := LW.prog) (mg := mg) (d := i_BadInstruction) (ini_BadInstruction c) (fact_sup_BadInstruction c) (by decide +kernel) su
      exact ⟨He.glo_ok X G (fact_g_BadInstruction c), oexB_ok (fact_o_BadInstruction c), _, fi, iC, tI, ok_bi (P := LW.prog) (w := w) (base := base) FI (oexB_ok (fact_o_BadInstruction c)) (He.eqO_ok (fact_a_BadInstruction c)), FI.binds (fact_dfl_BadInstruction c) fun _ _ _ _ _ us hl => match us, hl with | [_, _], _ => rfl⟩
    have pR : PlnX K mg "BadRegisters" (He.ga K "BadRegisters") := ⟨He.glo_ok X G (fact_g_BadRegisters c), fact_p_BadRegisters c, oexB_ok (fact_o_BadRegisters c)⟩
    have pA : PlnX K mg "BadAddress" (He.ga K "BadAddress") := ⟨He.glo_ok X G (fact_g_BadAddress c), fact_p_BadAddress c, oexB_ok (fact_o_BadAddress c)⟩
    have cs : CsF mg := ⟨He.int_ok X G (fact_n_REGISTER_DIGITS c), He.int_ok X G (fact_n_LETTER_DIGITS c), He.int_ok X G (fact_n_INSTRUCTION_DIGITS c), He.int_ok X G (fact_n_MANY_DIGITS c), He.int_ok X G (fact_n_MOST_LETTERS c), He.int_ok X G (fact_n_MOST_SLOT c), He.str_ok X G (fact_s_LETTERS c)⟩
    have pl : PlF mg := ⟨He.int_ok X G (fact_n_MOST_NUMBER c), He.int_ok X G (fact_n_MOST_REGISTER c), He.int_ok X G (fact_n_MOST_SLOT c)⟩
    have gk : GkF K mg := ⟨⟨_, He.glo_ok X G (fact_g_KEPT c), fun H => tupB_ok (fact_t_KEPT c) H⟩, He.str_ok X G (fact_s_SMALL c), nk.isi, nk.str, nk.len⟩
    have tL := T 0 _ rfl
    have tS := T 1 _ rfl
    have tR := T 2 _ rfl
    have lp1 : KDct K w (He.ga K "LEAPS") "short" (.ref (dad "LEAPS" "short" K)) := kdct_ok tL (fact_v_LEAPS c) (p := ("short", He.Dv.adr (dad "LEAPS" "short"))) (List.mem_cons_self ..)
    have lp2 : KDct K w (He.ga K "LEAPS") "long" (.ref (dad "LEAPS" "long" K)) := kdct_ok tL (fact_v_LEAPS c) (p := ("long", He.Dv.adr (dad "LEAPS" "long"))) (List.mem_cons_of_mem _ (List.mem_cons_self ..))
    have lp : LpF K w mg := ⟨_, _, _, He.glo_ok X G (fact_g_LEAPS c), lp1, lp2, fun H => tupI_ok (ss := [8, 128]) (fact_l_short c) H, fun H => tupI_ok (ss := [32, 2147483648]) (fact_l_long c) H⟩
    have lpm : LpM K w mg := ⟨_, _, _, He.glo_ok X G (fact_g_LEAPS c), lp1, lp2, fun H => tupI_ok (ss := [8, 128]) (fact_l_short c) H, fun H => tupI_ok (ss := [32, 2147483648]) (fact_l_long c) H, (kmem_ok tL).to memL⟩
    have shk : ∀ n < 26, KDct K w (He.ga K "SHAPES") (wordsL.getD n "") (.str (sT (shapesT.getD n []))) := fun n hn => kdct_ok tS (fact_v_SHAPES c) (shapes_at n hn)
    have shf : ShF K w mg := ⟨_, He.glo_ok X G (fact_g_SHAPES c), shk, (kmem_ok tS).to memW⟩
    have wrd : ∃ a, mg "WORDS" = some (.ref a) ∧ (∀ H, SqT K H a (wordsL.map V.str)) ∧ ∃ o, K.lookup a = some o ∧ o.cls = .type "tuple" ∧ o.dict = none := ⟨_, He.glo_ok X G (fact_g_WORDS c), fun H => tupB_ok (fact_t_WORDS c) H, tupN_ok (fact_w_WORDS c)⟩
    obtain ⟨t6, n6⟩ := He.int_ok X G (fact_n_LEAST_REGISTERS c)
    obtain ⟨t9, n9⟩ := He.int_ok X G (fact_n_MOST_REGISTERS c)
    have ou : OuR K mg (He.ga K "StopError") (He.ga K "BadBits") (He.ga K "BadAddress") := ⟨He.glo_ok X G (fact_g_StopError c), He.glo_ok X G (fact_g_BadBits c), He.glo_ok X G (fact_g_BadAddress c),
      He.exm_ok (fact_x_BadBits c), He.exm_ok (fact_x_BadAddress c), excRB_ok (fact_r_BadBits c), excRB_ok (fact_r_BadAddress c), of_decide_eq_true (fact_k_BadBits_BadBits c), of_decide_eq_true (fact_k_BadAddress_BadBits c), of_decide_eq_true (fact_k_BadAddress_BadAddress c), He.eqO_ok (fact_a_BadBits c)⟩
    obtain ⟨f_is_name, F_is_name⟩ := def_is_name c
    obtain ⟨f_is_number, F_is_number⟩ := def_is_number c
    obtain ⟨f_sort_of_place, F_sort_of_place⟩ := def_sort_of_place c
    obtain ⟨f_number_of, F_number_of⟩ := def_number_of c
    obtain ⟨f_is_register, F_is_register⟩ := def_is_register c
    obtain ⟨f_is_slot, F_is_slot⟩ := def_is_slot c
    obtain ⟨f_need_registers, F_need_registers⟩ := def_need_registers c
    obtain ⟨f_digits, F_digits⟩ := def_digits c
    obtain ⟨f_count_of, F_count_of⟩ := def_count_of c
    obtain ⟨f_number_written, F_number_written⟩ := def_number_written c
    obtain ⟨f_is_bits, F_is_bits⟩ := def_is_bits c
    obtain ⟨f_need_bits, F_need_bits⟩ := def_need_bits c
    obtain ⟨f_count_at, F_count_at⟩ := def_count_at c
    obtain ⟨f_number_at, F_number_at⟩ := def_number_at c
    obtain ⟨f_digits_at, F_digits_at⟩ := def_digits_at c
    obtain ⟨f_name_at, F_name_at⟩ := def_name_at c
    obtain ⟨f_register_at, F_register_at⟩ := def_register_at c
    obtain ⟨f_place_at, F_place_at⟩ := def_place_at c
    obtain ⟨f_index_at, F_index_at⟩ := def_index_at c
    obtain ⟨f_parts_at, F_parts_at⟩ := def_parts_at c
    obtain ⟨f_leap_at, F_leap_at⟩ := def_leap_at c
    obtain ⟨f_read_one, F_read_one⟩ := def_read_one c
    obtain ⟨f_is_leap, F_is_leap⟩ := def_is_leap c
    obtain ⟨f_is_part, F_is_part⟩ := def_is_part c
    obtain ⟨f_is_instruction, F_is_instruction⟩ := def_is_instruction c
    obtain ⟨f_place_bits, F_place_bits⟩ := def_place_bits c
    obtain ⟨f_name_bits, F_name_bits⟩ := def_name_bits c
    obtain ⟨f_leap_bits, F_leap_bits⟩ := def_leap_bits c
    obtain ⟨f_part_bits, F_part_bits⟩ := def_part_bits c
    obtain ⟨f_head_bits, F_head_bits⟩ := def_head_bits c
    obtain ⟨f_bits_of, F_bits_of⟩ := def_bits_of c
    obtain ⟨f_all_read, F_all_read⟩ := def_all_read c
    obtain ⟨f_read_bits, F_read_bits⟩ := def_read_bits c
    obtain ⟨f_instruction_at, F_instruction_at⟩ := def_instruction_at c
    obtain ⟨f__law_begun, F__law_begun⟩ := def__law_begun c
    obtain ⟨f__law_mixed, F__law_mixed⟩ := def__law_mixed c
    obtain ⟨f__law_take, F__law_take⟩ := def__law_take c
    obtain ⟨f__law_pick, F__law_pick⟩ := def__law_pick c
    obtain ⟨f__law_names, F__law_names⟩ := def__law_names c
    obtain ⟨f__law_figure, F__law_figure⟩ := def__law_figure c
    obtain ⟨f__law_digits, F__law_digits⟩ := def__law_digits c
    obtain ⟨f__law_count, F__law_count⟩ := def__law_count c
    obtain ⟨f__law_signed, F__law_signed⟩ := def__law_signed c
    obtain ⟨f__law_spelt, F__law_spelt⟩ := def__law_spelt c
    obtain ⟨f__law_registers, F__law_registers⟩ := def__law_registers c
    obtain ⟨f__law_copied, F__law_copied⟩ := def__law_copied c
    obtain ⟨f__law_first, F__law_first⟩ := def__law_first c
    obtain ⟨f__law_bits, F__law_bits⟩ := def__law_bits c
    obtain ⟨f__law_shapes, F__law_shapes⟩ := def__law_shapes c
    obtain ⟨f__law_part, F__law_part⟩ := def__law_part c
    obtain ⟨f__law_instruction, F__law_instruction⟩ := def__law_instruction c
    obtain ⟨f__law_leap_bits, F__law_leap_bits⟩ := def__law_leap_bits c
    obtain ⟨f__law_part_bits, F__law_part_bits⟩ := def__law_part_bits c
    obtain ⟨f__law_told_bits, F__law_told_bits⟩ := def__law_told_bits c
    obtain ⟨f__law_is_name, F__law_is_name⟩ := def__law_is_name c
    obtain ⟨f__law_read, F__law_read⟩ := def__law_read c
    obtain ⟨f__law_value, F__law_value⟩ := def__law_value c
    obtain ⟨f__law_refusal, F__law_refusal⟩ := def__law_refusal c
    obtain ⟨f__law_name_at, F__law_name_at⟩ := def__law_name_at c
    obtain ⟨f__law_register_at, F__law_register_at⟩ := def__law_register_at c
    obtain ⟨f__law_copied_at, F__law_copied_at⟩ := def__law_copied_at c
    obtain ⟨f__law_signed_at, F__law_signed_at⟩ := def__law_signed_at c
    obtain ⟨f__law_some_at, F__law_some_at⟩ := def__law_some_at c
    obtain ⟨f__law_leap_at, F__law_leap_at⟩ := def__law_leap_at c
    obtain ⟨f__law_part_at, F__law_part_at⟩ := def__law_part_at c
    obtain ⟨f__law_one_at, F__law_one_at⟩ := def__law_one_at c
    obtain ⟨f__law_due, F__law_due⟩ := def__law_due c
    obtain ⟨f__law_changed, F__law_changed⟩ := def__law_changed c
    have b_is_name : Binds K f_is_name ["thing"] [] := F_is_name.bindsN fun _ _ _ _ _ _ us hl => match us, hl with | [_], _ => rfl
    have b_is_number : Binds K f_is_number ["thing"] [] := F_is_number.bindsN fun _ _ _ _ _ _ us hl => match us, hl with | [_], _ => rfl
    have b_sort_of_place : Binds K f_sort_of_place ["thing"] [] := F_sort_of_place.bindsN fun _ _ _ _ _ _ us hl => match us, hl with | [_], _ => rfl
    have b_number_of : Binds K f_number_of ["place"] [] := F_number_of.bindsN fun _ _ _ _ _ _ us hl => match us, hl with | [_], _ => rfl
    have b_is_register : Binds K f_is_register ["thing", "registers"] [] := F_is_register.bindsN fun _ _ _ _ _ _ us hl => match us, hl with | [_, _], _ => rfl
    have b_is_slot : Binds K f_is_slot ["thing"] [] := F_is_slot.bindsN fun _ _ _ _ _ _ us hl => match us, hl with | [_], _ => rfl
    have b_need_registers : Binds K f_need_registers ["registers"] [] := F_need_registers.bindsN fun _ _ _ _ _ _ us hl => match us, hl with | [_], _ => rfl
    have b_digits : Binds K f_digits ["number", "many"] [] := F_digits.bindsN fun _ _ _ _ _ _ us hl => match us, hl with | [_, _], _ => rfl
    have b_count_of : Binds K f_count_of ["number"] [] := F_count_of.bindsN fun _ _ _ _ _ _ us hl => match us, hl with | [_], _ => rfl
    have b_number_written : Binds K f_number_written ["number"] [] := F_number_written.bindsN fun _ _ _ _ _ _ us hl => match us, hl with | [_], _ => rfl
    have b_is_bits : Binds K f_is_bits ["thing"] [] := F_is_bits.bindsN fun _ _ _ _ _ _ us hl => match us, hl with | [_], _ => rfl
    have b_need_bits : Binds K f_need_bits ["bits"] [] := F_need_bits.bindsN fun _ _ _ _ _ _ us hl => match us, hl with | [_], _ => rfl
    have b_count_at : Binds K f_count_at ["registers", "bits", "at"] [] := F_count_at.bindsN fun _ _ _ _ _ _ us hl => match us, hl with | [_, _, _], _ => rfl
    have b_number_at : Binds K f_number_at ["registers", "bits", "at"] [] := F_number_at.bindsN fun _ _ _ _ _ _ us hl => match us, hl with | [_, _, _], _ => rfl
    have b_digits_at : Binds K f_digits_at ["bits", "at", "many"] [] := F_digits_at.bindsN fun _ _ _ _ _ _ us hl => match us, hl with | [_, _, _], _ => rfl
    have b_name_at : Binds K f_name_at ["registers", "bits", "at"] [] := F_name_at.bindsN fun _ _ _ _ _ _ us hl => match us, hl with | [_, _, _], _ => rfl
    have b_register_at : Binds K f_register_at ["registers", "bits", "at"] [] := F_register_at.bindsN fun _ _ _ _ _ _ us hl => match us, hl with | [_, _, _], _ => rfl
    have b_place_at : Binds K f_place_at ["registers", "bits", "at"] [] := F_place_at.bindsN fun _ _ _ _ _ _ us hl => match us, hl with | [_, _, _], _ => rfl
    have b_index_at : Binds K f_index_at ["registers", "bits", "at"] [] := F_index_at.bindsN fun _ _ _ _ _ _ us hl => match us, hl with | [_, _, _], _ => rfl
    have b_parts_at : Binds K f_parts_at ["registers", "bits", "at"] [] := F_parts_at.bindsN fun _ _ _ _ _ _ us hl => match us, hl with | [_, _, _], _ => rfl
    have b_leap_at : Binds K f_leap_at ["registers", "bits", "at"] [] := F_leap_at.bindsN fun _ _ _ _ _ _ us hl => match us, hl with | [_, _, _], _ => rfl
    have b_read_one : Binds K f_read_one ["registers", "bits", "at"] [] := F_read_one.bindsN fun _ _ _ _ _ _ us hl => match us, hl with | [_, _, _], _ => rfl
    have b_is_leap : Binds K f_is_leap ["thing"] [] := F_is_leap.bindsN fun _ _ _ _ _ _ us hl => match us, hl with | [_], _ => rfl
    have b_is_part : Binds K f_is_part ["registers", "letter", "thing"] [] := F_is_part.bindsN fun _ _ _ _ _ _ us hl => match us, hl with | [_, _, _], _ => rfl
    have b_is_instruction : Binds K f_is_instruction ["registers", "thing"] [] := F_is_instruction.bindsN fun _ _ _ _ _ _ us hl => match us, hl with | [_, _], _ => rfl
    have b_place_bits : Binds K f_place_bits ["place"] [] := F_place_bits.bindsN fun _ _ _ _ _ _ us hl => match us, hl with | [_], _ => rfl
    have b_name_bits : Binds K f_name_bits ["name"] [] := F_name_bits.bindsN fun _ _ _ _ _ _ us hl => match us, hl with | [_], _ => rfl
    have b_leap_bits : Binds K f_leap_bits ["leap"] [] := F_leap_bits.bindsN fun _ _ _ _ _ _ us hl => match us, hl with | [_], _ => rfl
    have b_part_bits : Binds K f_part_bits ["letter", "part"] [] := F_part_bits.bindsN fun _ _ _ _ _ _ us hl => match us, hl with | [_, _], _ => rfl
    have b_head_bits : Binds K f_head_bits ["parts"] [] := F_head_bits.bindsN fun _ _ _ _ _ _ us hl => match us, hl with | [_], _ => rfl
    have b_bits_of : Binds K f_bits_of ["registers", "instructions"] [] := F_bits_of.bindsN fun _ _ _ _ _ _ us hl => match us, hl with | [_, _], _ => rfl
    have b_all_read : Binds K f_all_read ["registers", "bits"] [] := F_all_read.bindsN fun _ _ _ _ _ _ us hl => match us, hl with | [_, _], _ => rfl
    have b_read_bits : Binds K f_read_bits ["registers", "bits"] [] := F_read_bits.bindsN fun _ _ _ _ _ _ us hl => match us, hl with | [_, _], _ => rfl
    have b_instruction_at : Binds K f_instruction_at ["registers", "bits", "address"] [] := F_instruction_at.bindsN fun _ _ _ _ _ _ us hl => match us, hl with | [_, _, _], _ => rfl
    have b__law_begun : Binds K f__law_begun ["_law_script"] [] := F__law_begun.bindsN fun _ _ _ _ _ _ us hl => match us, hl with | [_], _ => rfl
    have b__law_mixed : Binds K f__law_mixed ["_law_draw"] [] := F__law_mixed.bindsN fun _ _ _ _ _ _ us hl => match us, hl with | [_], _ => rfl
    have b__law_take : Binds K f__law_take ["_law_draw", "_law_many"] [] := F__law_take.bindsN fun _ _ _ _ _ _ us hl => match us, hl with | [_, _], _ => rfl
    have b__law_pick : Binds K f__law_pick ["_law_draw", "_law_some"] [] := F__law_pick.bindsN fun _ _ _ _ _ _ us hl => match us, hl with | [_, _], _ => rfl
    have b__law_names : Binds K f__law_names ["_law_draw", "_law_many"] [] := F__law_names.bindsN fun _ _ _ _ _ _ us hl => match us, hl with | [_, _], _ => rfl
    have b__law_figure : Binds K f__law_figure ["_law_draw"] [] := F__law_figure.bindsN fun _ _ _ _ _ _ us hl => match us, hl with | [_], _ => rfl
    have b__law_digits : Binds K f__law_digits ["_law_number", "_law_many"] [] := F__law_digits.bindsN fun _ _ _ _ _ _ us hl => match us, hl with | [_, _], _ => rfl
    have b__law_count : Binds K f__law_count ["_law_number"] [] := F__law_count.bindsN fun _ _ _ _ _ _ us hl => match us, hl with | [_], _ => rfl
    have b__law_signed : Binds K f__law_signed ["_law_number"] [] := F__law_signed.bindsN fun _ _ _ _ _ _ us hl => match us, hl with | [_], _ => rfl
    have b__law_spelt : Binds K f__law_spelt ["_law_name"] [] := F__law_spelt.bindsN fun _ _ _ _ _ _ us hl => match us, hl with | [_], _ => rfl
    have b__law_registers : Binds K f__law_registers ["_law_places"] [] := F__law_registers.bindsN fun _ _ _ _ _ _ us hl => match us, hl with | [_], _ => rfl
    have b__law_copied : Binds K f__law_copied ["_law_place"] [] := F__law_copied.bindsN fun _ _ _ _ _ _ us hl => match us, hl with | [_], _ => rfl
    have b__law_first : Binds K f__law_first ["_law_word"] [] := F__law_first.bindsN fun _ _ _ _ _ _ us hl => match us, hl with | [_], _ => rfl
    have b__law_bits : Binds K f__law_bits ["_law_draw", "_law_most"] [] := F__law_bits.bindsN fun _ _ _ _ _ _ us hl => match us, hl with | [_, _], _ => rfl
    have b__law_shapes : Binds K f__law_shapes [] [] := F__law_shapes.bindsN fun _ _ _ _ _ _ us hl => match us, hl with | [], _ => rfl
    have b__law_part : Binds K f__law_part ["_law_draw", "_law_registers_here", "_law_letter"] [] := F__law_part.bindsN fun _ _ _ _ _ _ us hl => match us, hl with | [_, _, _], _ => rfl
    have b__law_instruction : Binds K f__law_instruction ["_law_draw", "_law_registers_here"] [] := F__law_instruction.bindsN fun _ _ _ _ _ _ us hl => match us, hl with | [_, _], _ => rfl
    have b__law_leap_bits : Binds K f__law_leap_bits ["_law_leap"] [] := F__law_leap_bits.bindsN fun _ _ _ _ _ _ us hl => match us, hl with | [_], _ => rfl
    have b__law_part_bits : Binds K f__law_part_bits ["_law_letter", "_law_part_here"] [] := F__law_part_bits.bindsN fun _ _ _ _ _ _ us hl => match us, hl with | [_, _], _ => rfl
    have b__law_told_bits : Binds K f__law_told_bits ["_law_instruction_here"] [] := F__law_told_bits.bindsN fun _ _ _ _ _ _ us hl => match us, hl with | [_], _ => rfl
    have b__law_is_name : Binds K f__law_is_name ["_law_thing"] [] := F__law_is_name.bindsN fun _ _ _ _ _ _ us hl => match us, hl with | [_], _ => rfl
    have b__law_read : Binds K f__law_read ["_law_bits_here", "_law_at"] [] := F__law_read.bindsN fun _ _ _ _ _ _ us hl => match us, hl with | [_, _], _ => rfl
    have b__law_value : Binds K f__law_value ["_law_bits_here"] [] := F__law_value.bindsN fun _ _ _ _ _ _ us hl => match us, hl with | [_], _ => rfl
    have b__law_refusal : Binds K f__law_refusal ["_law_registers_here", "_law_bits_here", "_law_address"] [] := F__law_refusal.bindsN fun _ _ _ _ _ _ us hl => match us, hl with | [_, _, _], _ => rfl
    have b__law_name_at : Binds K f__law_name_at ["_law_bits_here", "_law_at"] [] := F__law_name_at.bindsN fun _ _ _ _ _ _ us hl => match us, hl with | [_, _], _ => rfl
    have b__law_register_at : Binds K f__law_register_at ["_law_registers_here", "_law_bits_here", "_law_at"] [] := F__law_register_at.bindsN fun _ _ _ _ _ _ us hl => match us, hl with | [_, _, _], _ => rfl
    have b__law_copied_at : Binds K f__law_copied_at ["_law_registers_here", "_law_bits_here", "_law_at"] [] := F__law_copied_at.bindsN fun _ _ _ _ _ _ us hl => match us, hl with | [_, _, _], _ => rfl
    have b__law_signed_at : Binds K f__law_signed_at ["_law_bits_here", "_law_at"] [] := F__law_signed_at.bindsN fun _ _ _ _ _ _ us hl => match us, hl with | [_, _], _ => rfl
    have b__law_some_at : Binds K f__law_some_at ["_law_registers_here", "_law_bits_here", "_law_at"] [] := F__law_some_at.bindsN fun _ _ _ _ _ _ us hl => match us, hl with | [_, _, _], _ => rfl
    have b__law_leap_at : Binds K f__law_leap_at ["_law_bits_here", "_law_at"] [] := F__law_leap_at.bindsN fun _ _ _ _ _ _ us hl => match us, hl with | [_, _], _ => rfl
    have b__law_part_at : Binds K f__law_part_at ["_law_letter", "_law_registers_here", "_law_bits_here", "_law_at"] [] := F__law_part_at.bindsN fun _ _ _ _ _ _ us hl => match us, hl with | [_, _, _, _], _ => rfl
    have b__law_one_at : Binds K f__law_one_at ["_law_registers_here", "_law_bits_here", "_law_at"] [] := F__law_one_at.bindsN fun _ _ _ _ _ _ us hl => match us, hl with | [_, _, _], _ => rfl
    have b__law_due : Binds K f__law_due ["_law_registers_here", "_law_bits_here"] [] := F__law_due.bindsN fun _ _ _ _ _ _ us hl => match us, hl with | [_, _], _ => rfl
    have b__law_changed : Binds K f__law_changed ["_law_draw", "_law_bits_here"] [] := F__law_changed.bindsN fun _ _ _ _ _ _ us hl => match us, hl with | [_, _], _ => rfl
    have mi := He.free_ok X G (fact_f_int c)
    have o__law_begun := ok_begun (P := LW.prog) (w := w) (base := base) F__law_begun mi (He.free_ok X G (fact_f_abs c))
    have o__law_take := ok_take (P := LW.prog) (w := w) (base := base) F__law_take F__law_mixed (He.glo_ok X G (fact_g__law_mixed c)) mi
    have o__law_pick := ok_pick (P := LW.prog) (w := w) (base := base) F__law_pick (He.glo_ok X G (fact_g__law_take c)) F__law_take.kp b__law_take o__law_take (He.free_ok X G (fact_f_len c))
    have dr : DrF LW.prog w K mg base := ⟨⟨_, _, He.glo_ok X G (fact_g__law_take c), F__law_take.kp, b__law_take, o__law_take⟩, ⟨_, _, He.glo_ok X G (fact_g__law_pick c), F__law_pick.kp, b__law_pick, o__law_pick⟩, He.free_ok X G (fact_f_range c)⟩
    have o_is_number := ok_is_number (P := LW.prog) (w := w) (mg := mg) (base := base) (CX := CX0) F_is_number nk
    have o_count_of := ok_count_of (P := LW.prog) (w := w) (mg := mg) (base := base) (CX := CX0) F_count_of nk
    have o_number_written := ok_written (P := LW.prog) (w := w) (mg := mg) (base := base) (CX := CX0) F_number_written F_count_of (He.glo_ok X G (fact_g_count_of c)) nk
    have o_is_bits := ok_is_bits (P := LW.prog) (w := w) (mg := mg) (base := base) (CX := CX0) F_is_bits nk
    have o_need_bits := ok_need_bits (P := LW.prog) (w := w) (mg := mg) (base := base) F_need_bits F_is_bits (He.glo_ok X G (fact_g_is_bits c)) nk iB
    have o_count_at := ok_count_at (P := LW.prog) (w := w) (mg := mg) (base := base) (CX := CX0) F_count_at nk
    have o_number_at := ok_number_at (P := LW.prog) (w := w) (mg := mg) (base := base) (CX := CX0) F_number_at F_count_at (He.glo_ok X G (fact_g_count_at c)) nk
    have o_is_name := ok_is_name (P := LW.prog) (w := w) (mg := mg) (base := base) (CX := CX0) F_is_name gk
    have o_digits := ok_dg (P := LW.prog) (w := w) (mg := mg) (base := base) (CX := CX0) F_digits
    have o_digits_at := ok_dat (P := LW.prog) (w := w) (mg := mg) (base := base) (CX := CX0) F_digits_at nk
    have o_register_at_0 := ok_regat (P := LW.prog) (w := w) (mg := mg) (base := base) (CX := CX0) (e := 0) F_register_at F_digits_at (He.glo_ok X G (fact_g_digits_at c)) nk cs
    have o_register_at := ok_regat (P := LW.prog) (w := w) (mg := mg) (base := base) (CX := CX0) (e := 1) F_register_at F_digits_at (He.glo_ok X G (fact_g_digits_at c)) nk cs
    have o_index_at := ok_ixat (P := LW.prog) (w := w) (mg := mg) (base := base) (CX := CX0) (e := 0) F_index_at F_digits_at (He.glo_ok X G (fact_g_digits_at c)) nk cs
    have o_place_at := ok_plat (P := LW.prog) (w := w) (mg := mg) (base := base) (CX := CX0) F_place_at F_register_at.kp (He.glo_ok X G (fact_g_register_at c)) b_register_at o_register_at F_count_at (He.glo_ok X G (fact_g_count_at c)) nk cs
    have o_leap_at := ok_leapat (P := LW.prog) (w := w) (mg := mg) (base := base) (CX := CX0) (e := 0) F_leap_at F_digits_at (He.glo_ok X G (fact_g_digits_at c)) nk lp
    have o_parts_at := ok_partsat (P := LW.prog) (w := w) (mg := mg) (base := base) (CX := CX0) (e := 0) F_parts_at F_digits_at (He.glo_ok X G (fact_g_digits_at c)) F_register_at.kp (He.glo_ok X G (fact_g_register_at c)) b_register_at o_register_at nk cs (He.free_ok X G (fact_f_range c)) (He.free_ok X G (fact_f_tuple c))
    have o_name_at := ok_nameat (P := LW.prog) (w := w) (mg := mg) (base := base) (CX := CX0) (e := 0) F_name_at F_digits_at (He.glo_ok X G (fact_g_digits_at c)) F_is_name (He.glo_ok X G (fact_g_is_name c)) gk nk cs (He.free_ok X G (fact_f_range c))
    have o_sort_of_place := ok_sort (P := LW.prog) (w := w) (mg := mg) (base := base) (CX := CX0) F_sort_of_place nk pl
    have o_number_of := ok_numof (P := LW.prog) (w := w) (mg := mg) (base := base) (CX := CX0) F_number_of nk
    have o_is_register := ok_isreg (P := LW.prog) (w := w) (mg := mg) (base := base) (CX := CX0) F_is_register F_sort_of_place (He.glo_ok X G (fact_g_sort_of_place c)) F_number_of (He.glo_ok X G (fact_g_number_of c)) nk pl
    have o_is_slot := ok_isslot (P := LW.prog) (w := w) (mg := mg) (base := base) (CX := CX0) F_is_slot F_sort_of_place (He.glo_ok X G (fact_g_sort_of_place c)) nk pl
    have rdt : RdT LW.prog w K mg base := by
      refine ⟨⟨_, He.glo_ok X G (fact_g_WORDS c), fun H => tupB_ok (fact_t_WORDS c) H⟩, ⟨_, He.glo_ok X G (fact_g_SHAPES c), shk⟩, ⟨_, He.glo_ok X G (fact_g_READERS c), fun n hn => ?_⟩⟩
      rcases hn with rfl | rfl | rfl | rfl | rfl | rfl | rfl
      · exact ⟨_, (by rw [← cps1 (z := "r") (k := 114) (by decide +kernel)]; exact kdct_ok tR (fact_v_READERS c) (p := ("r", He.Dv.glo "register_at")) (List.mem_cons_self ..)), ⟨_, _, o_register_at_0.mono (by decide), F_register_at.kp, b_register_at⟩⟩
      · exact ⟨_, (by rw [← cps1 (z := "n") (k := 110) (by decide +kernel)]; exact kdct_ok tR (fact_v_READERS c) (p := ("n", He.Dv.glo "number_at")) (List.mem_cons_of_mem _ (List.mem_cons_self ..))), ⟨_, _, (o_number_at.mono (by decide)).imp fun _ _ _ _ h => at_num h, F_number_at.kp, b_number_at⟩⟩
      · exact ⟨_, (by rw [← cps1 (z := "c") (k := 99) (by decide +kernel)]; exact kdct_ok tR (fact_v_READERS c) (p := ("c", He.Dv.glo "place_at")) (List.mem_cons_of_mem _ (List.mem_cons_of_mem _ (List.mem_cons_self ..)))), ⟨_, _, o_place_at.mono (by decide), F_place_at.kp, b_place_at⟩⟩
      · exact ⟨_, (by rw [← cps1 (z := "w") (k := 119) (by decide +kernel)]; exact kdct_ok tR (fact_v_READERS c) (p := ("w", He.Dv.glo "name_at")) (List.mem_cons_of_mem _ (List.mem_cons_of_mem _ (List.mem_cons_of_mem _ (List.mem_cons_self ..))))), ⟨_, _, o_name_at.mono (by decide), F_name_at.kp, b_name_at⟩⟩
      · exact ⟨_, (by rw [← cps1 (z := "k") (k := 107) (by decide +kernel)]; exact kdct_ok tR (fact_v_READERS c) (p := ("k", He.Dv.glo "index_at")) (List.mem_cons_of_mem _ (List.mem_cons_of_mem _ (List.mem_cons_of_mem _ (List.mem_cons_of_mem _ (List.mem_cons_self ..)))))), ⟨_, _, o_index_at.mono (by decide), F_index_at.kp, b_index_at⟩⟩
      · exact ⟨_, (by rw [← cps1 (z := "l") (k := 108) (by decide +kernel)]; exact kdct_ok tR (fact_v_READERS c) (p := ("l", He.Dv.glo "parts_at")) (List.mem_cons_of_mem _ (List.mem_cons_of_mem _ (List.mem_cons_of_mem _ (List.mem_cons_of_mem _ (List.mem_cons_of_mem _ (List.mem_cons_self ..))))))), ⟨_, _, o_parts_at.mono (by decide), F_parts_at.kp, b_parts_at⟩⟩
      · exact ⟨_, (by rw [← cps1 (z := "j") (k := 106) (by decide +kernel)]; exact kdct_ok tR (fact_v_READERS c) (p := ("j", He.Dv.glo "leap_at")) (List.mem_cons_of_mem _ (List.mem_cons_of_mem _ (List.mem_cons_of_mem _ (List.mem_cons_of_mem _ (List.mem_cons_of_mem _ (List.mem_cons_of_mem _ (List.mem_cons_self ..)))))))), ⟨_, _, o_leap_at.mono (by decide), F_leap_at.kp, b_leap_at⟩⟩
    have o_read_one := ok_one (P := LW.prog) (w := w) (mg := mg) (base := base) (CX := CX0) F_read_one F_digits_at (He.glo_ok X G (fact_g_digits_at c)) F_is_slot.kp (He.glo_ok X G (fact_g_is_slot c)) b_is_slot o_is_slot nk cs rdt (He.free_ok X G (fact_f_tuple c))
    have o_place_bits := ok_plw (P := LW.prog) (w := w) (mg := mg) (base := base) (CX := CX0) F_place_bits F_is_slot.kp (He.glo_ok X G (fact_g_is_slot c)) b_is_slot o_is_slot F_number_of (He.glo_ok X G (fact_g_number_of c)) F_count_of (He.glo_ok X G (fact_g_count_of c)) F_digits (He.glo_ok X G (fact_g_digits c)) nk cs
    have o_name_bits := ok_nmw (P := LW.prog) (w := w) (mg := mg) (base := base) (CX := CX0) F_name_bits F_digits (He.glo_ok X G (fact_g_digits c)) nk cs
    have o_leap_bits := ok_lpw (P := LW.prog) (w := w) (mg := mg) (base := base) (CX := CX0) F_leap_bits F_digits (He.glo_ok X G (fact_g_digits c)) lp
    have o_need_registers := ok_needr (P := LW.prog) (w := w) (mg := mg) (base := base) F_need_registers F_is_number (He.glo_ok X G (fact_g_is_number c)) nk n6 n9 pR
    have o_is_leap := ok_isleap (P := LW.prog) (w := w) (mg := mg) (base := base) (CX := CX0) F_is_leap ⟨_, _, He.glo_ok X G (fact_g_is_number c), F_is_number.kp, b_is_number, o_is_number⟩ nk lpm (He.free_ok X G (fact_f_tuple c))
    have o_is_part := ok_ispart (P := LW.prog) (w := w) (mg := mg) (base := base) (CX := CX0) F_is_part ⟨_, _, He.glo_ok X G (fact_g_is_number c), F_is_number.kp, b_is_number, o_is_number⟩ ⟨_, _, He.glo_ok X G (fact_g_is_register c), F_is_register.kp, b_is_register, o_is_register⟩ ⟨_, _, He.glo_ok X G (fact_g_is_slot c), F_is_slot.kp, b_is_slot, o_is_slot⟩ ⟨_, _, He.glo_ok X G (fact_g_is_name c), F_is_name.kp, b_is_name, o_is_name⟩ ⟨_, _, He.glo_ok X G (fact_g_is_leap c), F_is_leap.kp, b_is_leap, o_is_leap⟩ nk (He.free_ok X G (fact_f_tuple c)) (He.free_ok X G (fact_f_all c))
    have o_is_instruction := ok_isin (P := LW.prog) (w := w) (mg := mg) (base := base) F_is_instruction ⟨_, _, He.glo_ok X G (fact_g_need_registers c), F_need_registers.kp, b_need_registers, o_need_registers⟩ ⟨_, _, He.glo_ok X G (fact_g_is_part c), F_is_part.kp, b_is_part, o_is_part⟩ ⟨_, _, He.glo_ok X G (fact_g_is_slot c), F_is_slot.kp, b_is_slot, o_is_slot⟩ nk shf (He.free_ok X G (fact_f_tuple c)) (He.free_ok X G (fact_f_all c)) (He.free_ok X G (fact_f_zip c))
    have o_part_bits := ok_ptw (P := LW.prog) (w := w) (mg := mg) (base := base) (CX := CX0) F_part_bits ⟨_, _, He.glo_ok X G (fact_g_digits c), F_digits.kp, b_digits, o_digits⟩ ⟨_, _, He.glo_ok X G (fact_g_number_of c), F_number_of.kp, b_number_of, o_number_of⟩ ⟨_, _, He.glo_ok X G (fact_g_place_bits c), F_place_bits.kp, b_place_bits, o_place_bits⟩ ⟨_, _, He.glo_ok X G (fact_g_number_written c), F_number_written.kp, b_number_written, o_number_written⟩ ⟨_, _, He.glo_ok X G (fact_g_name_bits c), F_name_bits.kp, b_name_bits, o_name_bits⟩ ⟨_, _, He.glo_ok X G (fact_g_leap_bits c), F_leap_bits.kp, b_leap_bits, o_leap_bits⟩ (He.glo_ok X G (fact_g_part_bits c)) b_part_bits nk cs
    have o_head_bits := ok_hdw (P := LW.prog) (w := w) (mg := mg) (base := base) (CX := CX0) F_head_bits ⟨_, _, He.glo_ok X G (fact_g_digits c), F_digits.kp, b_digits, o_digits⟩ ⟨_, _, He.glo_ok X G (fact_g_part_bits c), F_part_bits.kp, b_part_bits, o_part_bits⟩ nk cs shf wrd (He.free_ok X G (fact_f_zip c))
    have o_bits_of := ok_bitsof (P := LW.prog) (w := w) (mg := mg) (base := base) F_bits_of ⟨_, _, He.glo_ok X G (fact_g_need_registers c), F_need_registers.kp, b_need_registers, o_need_registers⟩ ⟨_, _, He.glo_ok X G (fact_g_is_instruction c), F_is_instruction.kp, b_is_instruction, o_is_instruction⟩ ⟨_, _, He.glo_ok X G (fact_g_head_bits c), F_head_bits.kp, b_head_bits, o_head_bits⟩ nk iI (He.free_ok X G (fact_f_tuple c)) (He.free_ok X G (fact_f_list c)) (He.free_ok X G (fact_f_enumerate c))
    have o_all_read := ok_all (P := LW.prog) (w := w) (mg := mg) (base := base) (CX := CX0) F_all_read ⟨_, _, He.glo_ok X G (fact_g_read_one c), F_read_one.kp, b_read_one, o_read_one⟩
    have o_read_bits := ok_rdb (P := LW.prog) (w := w) (mg := mg) (base := base) F_read_bits ⟨_, _, He.glo_ok X G (fact_g_need_registers c), F_need_registers.kp, b_need_registers, o_need_registers⟩ ⟨_, _, He.glo_ok X G (fact_g_need_bits c), F_need_bits.kp, b_need_bits, o_need_bits⟩ ⟨_, _, He.glo_ok X G (fact_g_all_read c), F_all_read.kp, b_all_read, o_all_read⟩ nk iB
    have o_instruction_at := ok_inat (P := LW.prog) (w := w) (mg := mg) (base := base) F_instruction_at ⟨_, _, He.glo_ok X G (fact_g_need_registers c), F_need_registers.kp, b_need_registers, o_need_registers⟩ ⟨_, _, He.glo_ok X G (fact_g_need_bits c), F_need_bits.kp, b_need_bits, o_need_bits⟩ ⟨_, _, He.glo_ok X G (fact_g_is_number c), F_is_number.kp, b_is_number, o_is_number⟩ ⟨_, _, He.glo_ok X G (fact_g_read_one c), F_read_one.kp, b_read_one, o_read_one⟩ nk pA
    have o__law_digits := ok_digits (P := LW.prog) (w := w) (mg := mg) (base := base) (CX := CX0) F__law_digits nk (He.free_ok X G (fact_f_range c))
    have o__law_count := ok_lcount (P := LW.prog) (w := w) (mg := mg) (base := base) (CX := CX0) F__law_count F__law_digits (He.glo_ok X G (fact_g__law_digits c)) nk (He.free_ok X G (fact_f_range c))
    have o__law_signed := ok_lsigned (P := LW.prog) (w := w) (mg := mg) (base := base) (CX := CX0) F__law_signed F__law_count.kp (He.glo_ok X G (fact_g__law_count c)) b__law_count o__law_count
    have o__law_figure := ok_figure (P := LW.prog) (w := w) (mg := mg) (base := base) (CX := CX0) F__law_figure dr
    have o__law_registers := ok_lrgs (P := LW.prog) (w := w) (mg := mg) (base := base) (CX := CX0) F__law_registers ⟨_, _, He.glo_ok X G (fact_g__law_digits c), F__law_digits.kp, b__law_digits, o__law_digits⟩ nk
    have o__law_copied := ok_lcop (P := LW.prog) (w := w) (mg := mg) (base := base) (CX := CX0) F__law_copied ⟨_, _, He.glo_ok X G (fact_g__law_registers c), F__law_registers.kp, b__law_registers, o__law_registers⟩ ⟨_, _, He.glo_ok X G (fact_g__law_count c), F__law_count.kp, b__law_count, o__law_count⟩ nk
    have o__law_spelt := ok_lspelt (P := LW.prog) (w := w) (mg := mg) (base := base) (CX := CX0) F__law_spelt ⟨_, _, He.glo_ok X G (fact_g__law_digits c), F__law_digits.kp, b__law_digits, o__law_digits⟩ nk
    have o__law_first := ok_lfirst (P := LW.prog) (w := w) (mg := mg) (base := base) (CX := CX0) F__law_first ⟨_, _, He.glo_ok X G (fact_g__law_digits c), F__law_digits.kp, b__law_digits, o__law_digits⟩
    have o__law_leap_bits := ok_llpb (P := LW.prog) (w := w) (mg := mg) (base := base) (CX := CX0) F__law_leap_bits ⟨_, _, He.glo_ok X G (fact_g__law_digits c), F__law_digits.kp, b__law_digits, o__law_digits⟩
    have o__law_shapes := ok_lshapes (P := LW.prog) (w := w) (mg := mg) (base := base) (CX := CX0) F__law_shapes
    have o__law_part_bits := ok_lptw (P := LW.prog) (w := w) (mg := mg) (base := base) (CX := CX0) F__law_part_bits ⟨_, _, He.glo_ok X G (fact_g__law_digits c), F__law_digits.kp, b__law_digits, o__law_digits⟩ ⟨_, _, He.glo_ok X G (fact_g__law_registers c), F__law_registers.kp, b__law_registers, o__law_registers⟩ ⟨_, _, He.glo_ok X G (fact_g__law_copied c), F__law_copied.kp, b__law_copied, o__law_copied⟩ ⟨_, _, He.glo_ok X G (fact_g__law_signed c), F__law_signed.kp, b__law_signed, o__law_signed⟩ ⟨_, _, He.glo_ok X G (fact_g__law_spelt c), F__law_spelt.kp, b__law_spelt, o__law_spelt⟩ ⟨_, _, He.glo_ok X G (fact_g__law_leap_bits c), F__law_leap_bits.kp, b__law_leap_bits, o__law_leap_bits⟩ nk
    have o__law_told_bits := ok_ltold (P := LW.prog) (w := w) (mg := mg) (base := base) (CX := CX0) F__law_told_bits ⟨_, _, He.glo_ok X G (fact_g__law_shapes c), F__law_shapes.kp, b__law_shapes, o__law_shapes⟩ ⟨_, _, He.glo_ok X G (fact_g__law_first c), F__law_first.kp, b__law_first, o__law_first⟩ ⟨_, _, He.glo_ok X G (fact_g__law_part_bits c), F__law_part_bits.kp, b__law_part_bits, o__law_part_bits⟩ (He.free_ok X G (fact_f_zip c))
    have o__law_is_name := ok_lisname (P := LW.prog) (w := w) (mg := mg) (base := base) (CX := CX0) F__law_is_name nk
    have o__law_value := ok_value (P := LW.prog) (w := w) (mg := mg) (base := base) (CX := CX0) F__law_value nk
    have o__law_bits := ok_lbits (P := LW.prog) (w := w) (mg := mg) (base := base) F__law_bits dr
    have o__law_read := ok_lread (P := LW.prog) (w := w) (mg := mg) (base := base) F__law_read F__law_value (He.glo_ok X G (fact_g__law_value c)) nk
    have o__law_signed_at := ok_lsat (P := LW.prog) (w := w) (mg := mg) (base := base) F__law_signed_at F__law_read.kp (He.glo_ok X G (fact_g__law_read c)) b__law_read o__law_read nk
    have o__law_register_at := ok_lregat (P := LW.prog) (w := w) (mg := mg) (base := base) (CX := CX0) (e := 1) F__law_register_at ⟨_, _, He.glo_ok X G (fact_g__law_value c), F__law_value.kp, b__law_value, o__law_value⟩ nk
    have o__law_copied_at := ok_lcopat (P := LW.prog) (w := w) (mg := mg) (base := base) (CX := CX0) F__law_copied_at ⟨_, _, He.glo_ok X G (fact_g__law_register_at c), F__law_register_at.kp, b__law_register_at, o__law_register_at⟩ ⟨_, _, He.glo_ok X G (fact_g__law_read c), F__law_read.kp, b__law_read, o__law_read⟩ nk
    have o__law_name_at := ok_lnameat (P := LW.prog) (w := w) (mg := mg) (base := base) (CX := CX0) F__law_name_at ⟨_, _, He.glo_ok X G (fact_g__law_value c), F__law_value.kp, b__law_value, o__law_value⟩ ⟨_, _, He.glo_ok X G (fact_g__law_is_name c), F__law_is_name.kp, b__law_is_name, o__law_is_name⟩ nk (He.free_ok X G (fact_f_range c))
    have o__law_some_at := ok_lsomeat (P := LW.prog) (w := w) (mg := mg) (base := base) (CX := CX0) F__law_some_at ⟨_, _, He.glo_ok X G (fact_g__law_value c), F__law_value.kp, b__law_value, o__law_value⟩ ⟨_, _, He.glo_ok X G (fact_g__law_register_at c), F__law_register_at.kp, b__law_register_at, o__law_register_at⟩ nk (He.free_ok X G (fact_f_range c)) (He.free_ok X G (fact_f_tuple c))
    have o__law_leap_at := ok_lleapat (P := LW.prog) (w := w) (mg := mg) (base := base) (CX := CX0) F__law_leap_at ⟨_, _, He.glo_ok X G (fact_g__law_value c), F__law_value.kp, b__law_value, o__law_value⟩ nk
    have o__law_part_at := ok_lpartat (P := LW.prog) (w := w) (mg := mg) (base := base) (CX := CX0) F__law_part_at ⟨_, _, He.glo_ok X G (fact_g__law_register_at c), F__law_register_at.kp, b__law_register_at, o__law_register_at⟩ ⟨_, _, He.glo_ok X G (fact_g__law_copied_at c), F__law_copied_at.kp, b__law_copied_at, o__law_copied_at⟩ ⟨_, _, He.glo_ok X G (fact_g__law_signed_at c), F__law_signed_at.kp, b__law_signed_at, o__law_signed_at⟩ ⟨_, _, He.glo_ok X G (fact_g__law_name_at c), F__law_name_at.kp, b__law_name_at, o__law_name_at⟩ ⟨_, _, He.glo_ok X G (fact_g__law_some_at c), F__law_some_at.kp, b__law_some_at, o__law_some_at⟩ ⟨_, _, He.glo_ok X G (fact_g__law_leap_at c), F__law_leap_at.kp, b__law_leap_at, o__law_leap_at⟩ ⟨_, _, He.glo_ok X G (fact_g__law_value c), F__law_value.kp, b__law_value, o__law_value⟩ nk
    have o__law_one_at := ok_loneat (P := LW.prog) (w := w) (mg := mg) (base := base) (CX := CX0) F__law_one_at ⟨_, _, He.glo_ok X G (fact_g__law_shapes c), F__law_shapes.kp, b__law_shapes, o__law_shapes⟩ ⟨_, _, He.glo_ok X G (fact_g__law_first c), F__law_first.kp, b__law_first, o__law_first⟩ ⟨_, _, He.glo_ok X G (fact_g__law_part_at c), F__law_part_at.kp, b__law_part_at, o__law_part_at⟩ nk (He.free_ok X G (fact_f_tuple c)) (He.free_ok X G (fact_f_sorted c))
    have o__law_due := ok_ldue (P := LW.prog) (w := w) (mg := mg) (base := base) (CX := CX0) F__law_due ⟨_, _, He.glo_ok X G (fact_g__law_one_at c), F__law_one_at.kp, b__law_one_at, o__law_one_at⟩ nk (He.free_ok X G (fact_f_range c))
    have o__law_refusal := ok_refu (P := LW.prog) (w := w) (mg := mg) (base := base) F__law_refusal ⟨_, _, He.glo_ok X G (fact_g_read_bits c), F_read_bits.kp, b_read_bits, o_read_bits⟩ ⟨_, _, He.glo_ok X G (fact_g_instruction_at c), F_instruction_at.kp, b_instruction_at, o_instruction_at⟩ nk ou
    have o__law_names := ok_lnames (P := LW.prog) (w := w) (mg := mg) (base := base) F__law_names ⟨_, _, He.glo_ok X G (fact_g__law_pick c), F__law_pick.kp, b__law_pick, o__law_pick⟩ nk (He.free_ok X G (fact_f_range c))
    have o__law_part := ok_lpart (P := LW.prog) (w := w) (mg := mg) (base := base) F__law_part ⟨_, _, He.glo_ok X G (fact_g__law_take c), F__law_take.kp, b__law_take, o__law_take⟩ ⟨_, _, He.glo_ok X G (fact_g__law_pick c), F__law_pick.kp, b__law_pick, o__law_pick⟩ ⟨_, _, He.glo_ok X G (fact_g__law_figure c), F__law_figure.kp, b__law_figure, o__law_figure⟩ ⟨_, _, He.glo_ok X G (fact_g__law_names c), F__law_names.kp, b__law_names, o__law_names⟩ (He.glo_ok X G (fact_g__law_part c)) b__law_part nk (He.free_ok X G (fact_f_range c)) (He.free_ok X G (fact_f_tuple c))
    have o__law_instruction := ok_linstr (P := LW.prog) (w := w) (mg := mg) (base := base) F__law_instruction ⟨_, _, He.glo_ok X G (fact_g__law_shapes c), F__law_shapes.kp, b__law_shapes, o__law_shapes⟩ ⟨_, _, He.glo_ok X G (fact_g__law_take c), F__law_take.kp, b__law_take, o__law_take⟩ ⟨_, _, He.glo_ok X G (fact_g__law_pick c), F__law_pick.kp, b__law_pick, o__law_pick⟩ ⟨_, _, He.glo_ok X G (fact_g__law_part c), F__law_part.kp, b__law_part, o__law_part⟩ nk (He.free_ok X G (fact_f_tuple c)) (He.free_ok X G (fact_f_sorted c))
    have o__law_changed := ok_lchanged (P := LW.prog) (w := w) (mg := mg) (base := base) F__law_changed ⟨_, _, He.glo_ok X G (fact_g__law_take c), F__law_take.kp, b__law_take, o__law_take⟩ ⟨_, _, He.glo_ok X G (fact_g__law_pick c), F__law_pick.kp, b__law_pick, o__law_pick⟩ ⟨_, _, He.glo_ok X G (fact_g__law_bits c), F__law_bits.kp, b__law_bits, o__law_bits⟩ nk
    exact ok_law F (CI := He.ga K "BadInstruction") (CR := He.ga K "BadRegisters") (CB := He.ga K "BadBits") (CA := He.ga K "BadAddress") ⟨nk, smdB_ok (fact_smd c), He.free_ok X G (fact_f_repr c), He.free_ok X G (fact_f_range c), He.free_ok X G (fact_f_abs c), ⟨_, _, He.glo_ok X G (fact_g__law_begun c), F__law_begun.kp, b__law_begun, o__law_begun⟩, ⟨_, _, He.glo_ok X G (fact_g__law_take c), F__law_take.kp, b__law_take, o__law_take⟩, ⟨_, _, He.glo_ok X G (fact_g__law_pick c), F__law_pick.kp, b__law_pick, o__law_pick⟩, ⟨_, _, He.glo_ok X G (fact_g__law_instruction c), F__law_instruction.kp, b__law_instruction, o__law_instruction⟩, ⟨_, _, He.glo_ok X G (fact_g__law_told_bits c), F__law_told_bits.kp, b__law_told_bits, o__law_told_bits⟩, ⟨_, _, He.glo_ok X G (fact_g__law_bits c), F__law_bits.kp, b__law_bits, o__law_bits⟩, ⟨_, _, He.glo_ok X G (fact_g__law_changed c), F__law_changed.kp, b__law_changed, o__law_changed⟩, ⟨_, _, He.glo_ok X G (fact_g__law_due c), F__law_due.kp, b__law_due, o__law_due⟩, ⟨_, _, He.glo_ok X G (fact_g__law_refusal c), F__law_refusal.kp, b__law_refusal, o__law_refusal⟩, ⟨_, _, He.glo_ok X G (fact_g__law_one_at c), F__law_one_at.kp, b__law_one_at, o__law_one_at⟩,
      ⟨_, _, He.glo_ok X G (fact_g_bits_of c), F_bits_of.kp, b_bits_of, o_bits_of⟩, ⟨_, _, He.glo_ok X G (fact_g_read_bits c), F_read_bits.kp, b_read_bits, FunD.kbindsR F_read_bits (a := "registers") (b := "bits") fun _ _ _ _ _ _ _ _ => rfl, o_read_bits⟩⟩
end
end My
open PySem PySem.W PySem.Calls PyProof.Rows
set_option maxHeartbeats 0 in
theorem PySem.Challenge.cw_stopanywhere_k84_bits_read_or_refused_holds : PySem.Challenge.rw_stopanywhere_k84_bits_read_or_refused.Holds := by
  w_on; o_law
  refine HandSHeadRun.head_any (r := OpenLaw.row PySem.Challenge.rw_stopanywhere_k84_bits_read_or_refused) (q := view (OpenLaw.row PySem.Challenge.rw_stopanywhere_k84_bits_read_or_refused).prog [96]) (H := My.hk) (ob := My.ob) (M := 6000) (loose := My.looseL) (d := HandSHeadRun.topDef (OpenLaw.row PySem.Challenge.rw_stopanywhere_k84_bits_read_or_refused).prog 96) (kwd := []) My.ob_eq
    (by kernel_rfl) (fun s => by kernel_rfl) My.run (by kernel_rfl) (by kernel_rfl) (by kernel_rfl) (by rfl) (by first | assumption | decide +kernel) (by decide +kernel) ⟨rfl, rfl, rfl, rfl, rfl, by decide +kernel⟩ ?hw ?hc
  case hw => w_witness2
  case hc =>
    refine My.walk_ofZ (l := PySem.Challenge.rw_stopanywhere_k84_bits_read_or_refused) (n := 63) (k := 8) (x := "_law_script") rfl (by decide) (by kernel_rfl) ⟨rfl, by decide, by decide⟩ ?F
    intro w mg fa h Y G hmg0
    obtain ⟨K, KX, c, T⟩ := Y
    have hmg : mg ("law" : PySem.Str) = some (.ref fa) := by
      have e : (HandSHeadRun.topDef (OpenLaw.row PySem.Challenge.rw_stopanywhere_k84_bits_read_or_refused).prog 96).name = ("law" : PySem.Str) := by kernel_rfl
      rw [← e]
      exact hmg0
    exact My.law_at KX G c T hmg
