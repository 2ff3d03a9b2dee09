import PyProof.Rows.All
import Wide.All
import OpenK.AllK
import Wide.FinOn
import KE.KStateDown
import Lean
import HandS.Ends
import HandS.Words
import HandS.WordsExc
import HandS.Defaults
import HandS.Head0
import HandS.Head1
import HandS.Head2
import HandS.HeadEnd
import HandS.HeadHook1
import HandS.HeadHook2
import HandS.ForExc
import HandS.Comp
import HandS.Iter
import HandS.Walk
import HandS.Wide
import HandS.TupAny
import HandS.TupMul
import HandS.IsInst
import HandS.TupLe
import HandS.Dict
import HandS.Rev
import HandS.Style
import HandS.ExcInit
import PyProof.Rows.RuleB_pow
import KE.GoesMore
import PyProof.Draws
import HandS.ExcField
import HandS.TryOnly
import PySem.Challenge.RW_tubewords_k08_whole_equality_papers
set_option Elab.async false
set_option linter.all false
set_option maxRecDepth 100000
set_option maxHeartbeats 0
namespace K8
open PySem PySem.Spec PyProof.Rows L2
def topS (i : Nat) : Stmt := PySem.Challenge.pw_tubewords_k08_whole_equality_papers.main.body.getD i (.Pass ⟨0, 0, 0, 0⟩)
abbrev R : PySem.W.OpenRow := PySem.W.OpenLaw.row PySem.Challenge.rw_tubewords_k08_whole_equality_papers
def dD (x : Str) (i : Nat) : He.DefD := ⟨(x, none), x, x, defArgs (topS i), defBody (topS i), defScope (topS i), [], []⟩
def dM (x : Str) (i : Nat) : He.DefD := ⟨(x, some "__init__"), "__init__", x ++ ".__init__", defArgs (inClass (topS i) 0), defBody (inClass (topS i) 0), defScope (inClass (topS i) 0), [], []⟩
def defs0 : List (Str × Nat) := [("is_whole", 5), ("ends_of", 6), ("is_turns", 11), ("split_walk", 12), ("glued_walk", 13), ("_carried", 14), ("_struck", 15), ("_put_in", 16), ("_moved_once", 17), ("moved_walk", 18), ("rest_of", 20), ("are_opposite", 21), ("reduced", 22), ("walk_of", 23), ("plain_freely", 24), ("is_plain", 25), ("_checked", 26), ("plain_moves", 27), ("_taken_back", 29), ("back_moves", 30), ("equality_paper", 31), ("_led", 32), ("is_equality_paper", 33), ("_law_begun", 35), ("_law_draw", 36), ("_law_of", 37), ("_law_web", 38), ("_law_ends", 39), ("_law_out", 40), ("_law_turns", 41)]
def defs1 : List (Str × Nat) := [("_law_walk", 42), ("_law_plain", 43), ("_law_spelled", 44), ("_law_flag", 45), ("_law_whole", 46), ("_law_bound", 47), ("_law_fits", 48), ("_law_split", 49), ("_law_glued", 50), ("_law_put_move", 51), ("_law_strike_move", 52), ("_law_carry_move", 53), ("_law_moved", 54), ("_law_led", 55), ("_law_great_web", 56), ("_law_some_walk", 57), ("_law_is_plain", 58), ("_law_told", 59), ("_law_right", 60), ("_law_due_moves", 61), ("_law_bent_moves", 62), ("_law_bent", 63), ("_law_far", 64), ("_law_pair", 65), ("_law_many_right", 66), ("law", 67)]
def defsK : List (Str × Nat) := defs0 ++ defs1
def fn : List He.DefD := [dM "NoMove" 2, dM "TooGreat" 3] ++ defsK.map fun p => dD p.1 p.2
def fa : List He.Fa := [.glo "NoMove", .glo "TooGreat", .free "len", .free "abs", .free "int", .free "bool", .free "str", .free "tuple", .free "all", .free "isinstance", .free "range", .free "zip", .free "enumerate", .free "reversed", .int "MOST_STEPS" 60, .int "MOST_MOVES" 2000, .int "TURNS_BOUND" (10 ^ 300), .exm "NoMove" "NoMove" true, .exm "TooGreat" "TooGreat" true, .noat "NoMove" "number", .noat "TooGreat" "what"] ++ defsK.map fun p => .glo p.1
def names0 : List Str := ["WebError", "NoMove", "TooGreat", "MOST_STEPS", "MOST_MOVES", "TURNS_BOUND", "is_whole", "ends_of", "is_turns", "split_walk", "glued_walk", "_carried", "_struck", "_put_in", "_moved_once", "moved_walk", "rest_of", "are_opposite", "reduced", "walk_of", "plain_freely", "is_plain", "_checked", "plain_moves", "_taken_back", "back_moves", "equality_paper", "_led", "is_equality_paper", "_law_begun"]
def names1 : List Str := ["_law_draw", "_law_of", "_law_web", "_law_ends", "_law_out", "_law_turns", "_law_walk", "_law_plain", "_law_spelled", "_law_flag", "_law_whole", "_law_bound", "_law_fits", "_law_split", "_law_glued", "_law_put_move", "_law_strike_move", "_law_carry_move", "_law_moved", "_law_led", "_law_great_web", "_law_some_walk", "_law_is_plain", "_law_told", "_law_right", "_law_due_moves", "_law_bent_moves", "_law_bent", "_law_far", "_law_pair"]
def names2 : List Str := ["_law_many_right"]
def loose : List Str := names0 ++ names1 ++ names2
def oexO (C : Addr) : Obj → Bool
  | ⟨.type t, _, .cls ⟨_, _, .ref c :: bm, _, _, hd, _, _, _, _, hdel⟩, ⟨[_, _, _, _, some (.builtin b), _]⟩⟩ => decide (t = "type") && (decide (c = C) && (PySem.HandSPX.refsVE bm && (hd && (!hdel && decide (b = "ValueError.__new__")))))
  | _ => false
def oexB (K : PySem.W.Frag) (C : Addr) : Bool := (match K.lookup C with
  | some o => oexO C o
  | none => false) && (He.eqO (PySem.W.findIn K (.ref C) "__setattr__") (some (some (.builtin "object.__setattr__"))) && (decide (PySem.W.subIn K (.ref C) (.type "BaseException") = some true) && (decide (PySem.W.typeIn K (.ref C) = some (.type "type")) && PySem.W.keepIn K (.ref C))))
theorem oexB_ok {K : PySem.W.Frag} {C : Addr} (h : oexB K C = true) : OexC K C := by
  obtain ⟨h1, h⟩ := He.ba h
  obtain ⟨h2, h⟩ := He.ba h
  obtain ⟨h3, h⟩ := He.ba h
  obtain ⟨h4, h5⟩ := He.ba h
  refine ⟨?_, He.eqO_ok h2, of_decide_eq_true h3, of_decide_eq_true h4, h5⟩
  cases e : K.lookup C with
  | none =>
    rw [e] at h1
    cases h1
  | some o =>
    rw [e] at h1
    have h1 : oexO C o = true := h1
    unfold oexO at h1
    split at h1
    · obtain ⟨q1, h1⟩ := He.ba h1
      obtain ⟨q2, h1⟩ := He.ba h1
      obtain ⟨q3, h1⟩ := He.ba h1
      obtain ⟨q4, h1⟩ := He.ba h1
      obtain ⟨q5, q6⟩ := He.ba h1
      have e1 := of_decide_eq_true q1
      have e2 := of_decide_eq_true q2
      have e3 := of_decide_eq_true q6
      subst e1
      subst e2
      subst e3
      rename_i hdel
      cases q4
      rw [Bool.not_eq_true'] at q5
      subst q5
      exact ⟨_, _, _, _, _, _, _, _, _, _, _, _, _, _, _, rfl, q3⟩
    · cases h1
/-- the class at x, with __init__ and its field -/
def iniB (K : PySem.W.Frag) (x : Str) : Bool := He.eqO (PySem.W.findIn K (.ref (He.ga K x)) "__init__") (some (some (.ref (He.ma K (He.ga K x) "__init__")))) && (decide (PySem.W.typeIn K (.ref (He.ma K (He.ga K x) "__init__")) = some (.type "function")) && (oexB K (He.ga K x) && xfB K (He.ga K x)))
def xB (K : PySem.W.Frag) : Bool := iniB K "NoMove" && iniB K "TooGreat"
abbrev AlX : Type := He.AlD × Bool
def obsX (g : Addr → Option Obj) : AlX := (He.obsDG 4 fa fn g, xB (He.frG g (He.asD g 4)))
abbrev hk : PySem.W.Hook where
  α := AlX
  obs := fun s => obsX s.heap.get?
  val := fun _ => (He.valD fn, true)
  says := fun _ h => ∃ K : PySem.W.Frag, K.In h ∧ He.SaysD fa fn K ∧ xB K = true
  of := fun _ s e => ⟨He.frG s.heap.get? (He.asD s.heap.get? 4), He.frG_in, congrArg (fun z : AlX => z.1) e, congrArg (fun z : AlX => z.2) e⟩
  keeps := fun _ _ _ ⟨K, hK, c⟩ k => ⟨K, PySem.W.Frag.In.keeps hK k, c⟩
def ob (s : PySem.W.SharedT) : AlX := obsX (HandSHeadRun.getT s)
theorem ob_eq (s : PySem.W.SharedT) : ob s = hk.obs s.abs := by
  show obsX _ = obsX _
  rw [show HandSHeadRun.getT s = s.abs.heap.get? from funext (HandSHeadRun.getT_eq s)]
theorem run (w : World) : HandSHeadRun.RunEq R (PySem.W.view R.prog [67]) hk ob 6000 loose w := by
  intro os
  kernel_rfl
/-- the law holds if its call, over what the head tells, does as it is promised -/
theorem head_of (call : PySem.W.WalkO (PySem.W.view R.prog [67]) loose (PySem.W.XL (PySem.W.view R.prog [67]) []) hk.says R.toRowW (HandSHeadRun.topDef R.prog 67) [] fun f vs => PySem.call f vs) : PySem.Challenge.rw_tubewords_k08_whole_equality_papers.Holds := by
  w_on; o_law
  refine HandSHeadRun.head_any (r := R) (q := PySem.W.view R.prog [67]) (H := hk) (ob := ob) (M := 6000) (loose := loose) (d := HandSHeadRun.topDef R.prog 67) (kwd := []) ob_eq
    (by kernel_rfl) (fun s => by kernel_rfl) run (by kernel_rfl) (by kernel_rfl) (by kernel_rfl) (by rfl) (by first | assumption | decide +kernel) (by decide +kernel) ⟨rfl, rfl, rfl, rfl, rfl, by decide +kernel⟩ ?hw call
  case hw => w_witness2
theorem head_dfl : (HandSHeadRun.topDef R.prog 67).params.defaults = [] := by kernel_rfl
theorem head_name : (HandSHeadRun.topDef R.prog 67).name = ("law" : Str) := by kernel_rfl
abbrev PD := PyData
/-! ### heaps that grow: all that is tracked stays; the one dict m may change -/
def Ex (m : Option Addr) (H J : Hp) : Prop := ∀ a o, H a = some o → J a = some o ∨ (m = some a ∧ (∃ k, o = .dK k) ∧ ∃ k, J a = some (.dK k))
theorem Ex.refl {m : Option Addr} (H : Hp) : Ex m H H := fun _ _ h => .inl h
theorem Ex.trans {m : Option Addr} {H J L : Hp} (x : Ex m H J) (y : Ex m J L) : Ex m H L := fun a o h => by
  rcases x a o h with h1 | ⟨e, hk, k, h1⟩
  · exact y a o h1
  · rcases y a _ h1 with h2 | ⟨_, _, k2, h2⟩
    · exact .inr ⟨e, hk, k, h2⟩
    · exact .inr ⟨e, hk, k2, h2⟩
theorem Ex.new {m : Option Addr} {H : Hp} {p : Addr} {o : HO} (h : H p = none) : Ex m H (upd H p o) := fun a u e => .inl (by
  rw [upd_ne (ne_of_none e h)]
  exact e)
theorem Ex.none_to {m : Option Addr} {H J : Hp} (x : Ex none H J) : Ex m H J := fun a o h => by
  rcases x a o h with h1 | ⟨e, _⟩
  · exact .inl h1
  · cases e
theorem Ex.same {H J : Hp} (x : Ex none H J) : Same H J := fun a o h => by
  rcases x a o h with h1 | ⟨e, _⟩
  · exact h1
  · cases e
theorem Ex.of_same {m : Option Addr} {H J : Hp} (x : Same H J) : Ex m H J := fun a o h => .inl (x a o h)
theorem Ex.back {m : Option Addr} {H J : Hp} {p : Addr} (x : Ex m H J) (h : J p = none) : H p = none := by
  cases e : H p with
  | none => rfl
  | some o =>
    rcases x p o e with h1 | ⟨_, _, k, h1⟩ <;> (rw [h] at h1; cases h1)
theorem Ex.tup {m : Option Addr} {H J : Hp} {a : Addr} {xs : List V} (x : Ex m H J) (h : H a = some (.tup xs)) : J a = some (.tup xs) := by
  rcases x a _ h with h1 | ⟨_, ⟨k, e⟩, _⟩
  · exact h1
  · cases e
theorem Ex.lst {m : Option Addr} {H J : Hp} {a : Addr} {xs : List V} (x : Ex m H J) (h : H a = some (.lst xs)) : J a = some (.lst xs) := by
  rcases x a _ h with h1 | ⟨_, ⟨k, e⟩, _⟩
  · exact h1
  · cases e
theorem Ex.frz {m : Option Addr} {H J : Hp} {a : Addr} {ob : Obj} {u : HO} (x : Ex m H J) (h : H a = some (.frz ob u)) : J a = some (.frz ob u) := by
  rcases x a _ h with h1 | ⟨_, ⟨k, e⟩, _⟩
  · exact h1
  · cases e
theorem Ex.sqT {K : PySem.W.Frag} {m : Option Addr} {H J : Hp} {a : Addr} {xs : List V} (x : Ex m H J) (h : SqT K H a xs) : SqT K J a xs := by
  rcases h with (h | ⟨o, h⟩) | h
  · exact .inl (.inl (x.tup h))
  · exact .inl (.inr ⟨o, x.frz h⟩)
  · exact .inr h
theorem Ex.sqL {K : PySem.W.Frag} {m : Option Addr} {H J : Hp} {a : Addr} {xs : List V} (x : Ex m H J) (h : SqL K H a xs) : SqL K J a xs := by
  rcases h with (h | ⟨o, h⟩) | h
  · exact .inl (.inl (x.lst h))
  · exact .inl (.inr ⟨o, x.frz h⟩)
  · exact .inr h
mutual
theorem Ex.dp {K : PySem.W.Frag} {m : Option Addr} {H J : Hp} (x : Ex m H J) : ∀ (d : PD) (v : V), Dp K H v d → Dp K J v d
  | .none, _, h => by cases h; exact .non
  | .bool b, _, h => by cases h; exact .bl b
  | .int i, _, h => by cases h; exact .int i
  | .str z, _, h => by cases h; exact .str z
  | .list ds, _, h => by
    cases h with
    | lst hs ha => exact .lst (x.sqL hs) (Ex.dpAll x ds _ ha)
  | .tuple ds, _, h => by
    cases h with
    | tup hs ha => exact .tup (x.sqT hs) (Ex.dpAll x ds _ ha)
  | .dict _, _, h => by cases h
theorem Ex.dpAll {K : PySem.W.Frag} {m : Option Addr} {H J : Hp} (x : Ex m H J) : ∀ (ds : List PD) (vs : List V), DpAll K H vs ds → DpAll K J vs ds
  | [], _, h => by cases h; exact .nil
  | d :: ds, _, h => by
    cases h with
    | cons h1 h2 => exact .cons (Ex.dp x d _ h1) (Ex.dpAll x ds _ h2)
end
theorem dp_mono {K : PySem.W.Frag} {m : Option Addr} {H J : Hp} {v : V} {d : PD} (x : Ex m H J) (h : Dp K H v d) : Dp K J v d := x.dp d v h
theorem dpa_mono {K : PySem.W.Frag} {m : Option Addr} {H J : Hp} {vs : List V} {ds : List PD} (x : Ex m H J) (h : DpAll K H vs ds) : DpAll K J vs ds := x.dpAll ds vs h
/-! ### data without lists -/
mutual
def nl : PD → Bool
  | .list _ => false
  | .dict _ => false
  | .tuple ds => nlAll ds
  | .none => true
  | .bool _ => true
  | .int _ => true
  | .str _ => true
def nlAll : List PD → Bool
  | [] => true
  | d :: ds => nl d && nlAll ds
end
theorem nlAll_iff : ∀ {ds : List PD}, nlAll ds = true ↔ ∀ d ∈ ds, nl d = true
  | [] => by simp [nlAll]
  | d :: ds => by
    rw [nlAll, Bool.and_eq_true, nlAll_iff]
    simp
theorem nlAll_append {as bs : List PD} (h : nlAll as = true) (h2 : nlAll bs = true) : nlAll (as ++ bs) = true :=
  nlAll_iff.mpr fun d hd => (List.mem_append.mp hd).elim (nlAll_iff.mp h d) (nlAll_iff.mp h2 d)
theorem nlAll_get {ds : List PD} {i : Nat} {d : PD} (h : nlAll ds = true) (e : ds[i]? = some d) : nl d = true := nlAll_iff.mp h d (List.mem_of_getElem? e)
theorem sqT_put {K : PySem.W.Frag} {H : Hp} {p a : Addr} {ys xs : List V} {o : HO} (hp : H p = some (.lst ys)) (h : SqT K H a xs) : SqT K (upd H p o) a xs := by
  rcases h with (h | ⟨ob, h⟩) | h
  · exact .inl (.inl (by rw [upd_ne (ne_of h hp (by intro z; cases z))]; exact h))
  · exact .inl (.inr ⟨ob, by rw [upd_ne (ne_of h hp (by intro z; cases z))]; exact h⟩)
  · exact .inr h
mutual
theorem Dp.put' {K : PySem.W.Frag} {H : Hp} {p : Addr} {ys : List V} {o : HO} (hp : H p = some (.lst ys)) : ∀ (d : PD) (v : V), nl d = true → Dp K H v d → Dp K (upd H p o) v d
  | .none, _, _, h => by cases h; exact .non
  | .bool b, _, _, h => by cases h; exact .bl b
  | .int i, _, _, h => by cases h; exact .int i
  | .str z, _, _, h => by cases h; exact .str z
  | .list ds, _, n, h => by cases n
  | .tuple ds, _, n, h => by
    cases h with
    | tup hs ha => exact .tup (sqT_put hp hs) (DpAll.put' hp ds _ (by rw [nl] at n; exact n) ha)
  | .dict _, _, _, h => by cases h
theorem DpAll.put' {K : PySem.W.Frag} {H : Hp} {p : Addr} {ys : List V} {o : HO} (hp : H p = some (.lst ys)) : ∀ (ds : List PD) (vs : List V), nlAll ds = true → DpAll K H vs ds → DpAll K (upd H p o) vs ds
  | [], _, _, h => by cases h; exact .nil
  | d :: ds, _, n, h => by
    rw [nlAll, Bool.and_eq_true] at n
    cases h with
    | cons h1 h2 => exact .cons (Dp.put' hp d _ n.1 h1) (DpAll.put' hp ds _ n.2 h2)
end
/-! ### lists of data under DpAll -/
section
variable {K : PySem.W.Frag} {H : Hp}
theorem dpa_len : ∀ {vs : List V} {ds : List PD}, DpAll K H vs ds → vs.length = ds.length
  | _, [], h => by cases h; rfl
  | _, d :: ds, h => by
    cases h with
    | cons _ h2 => rw [List.length_cons, List.length_cons, dpa_len h2]
theorem dpa_get : ∀ {ds : List PD} {vs : List V} {i : Nat} {d : PD}, DpAll K H vs ds → ds[i]? = some d → ∃ v, vs[i]? = some v ∧ Dp K H v d
  | [], _, _, _, _, e => by simp at e
  | d :: ds, _, 0, _, h, e => by
    cases h with
    | cons h1 h2 =>
      cases e
      exact ⟨_, rfl, h1⟩
  | d :: ds, _, i + 1, _, h, e => by
    cases h with
    | cons h1 h2 =>
      obtain ⟨v, a, b⟩ := dpa_get (i := i) h2 (by simpa using e)
      exact ⟨v, by simpa using a, b⟩
theorem dpa_got {ds : List PD} {vs : List V} {i : Nat} {v : V} (h : DpAll K H vs ds) (e : vs[i]? = some v) : ∃ d, ds[i]? = some d ∧ Dp K H v d := by
  have hi : i < vs.length := by
    rcases Nat.lt_or_ge i vs.length with q | q
    · exact q
    · rw [List.getElem?_eq_none q] at e; cases e
  rw [dpa_len h] at hi
  obtain ⟨w, a, b⟩ := dpa_get h (List.getElem?_eq_getElem hi)
  rw [e] at a
  cases a
  exact ⟨_, List.getElem?_eq_getElem hi, b⟩
theorem dpa_app : ∀ {as : List PD} {vs : List V} {bs : List PD} {us : List V}, DpAll K H vs as → DpAll K H us bs → DpAll K H (vs ++ us) (as ++ bs)
  | [], _, _, _, h, k => by cases h; exact k
  | _ :: _, _, _, _, h, k => by
    cases h with
    | cons h1 h2 => exact .cons h1 (dpa_app h2 k)
theorem dpa_set : ∀ {as : List PD} {vs : List V} {v : V} {d : PD} (j : Nat), DpAll K H vs as → Dp K H v d → DpAll K H (vs.set j v) (as.set j d)
  | [], _, _, _, _, h, _ => by cases h; exact .nil
  | _ :: _, _, _, _, 0, h, k => by
    cases h with
    | cons h1 h2 => exact .cons k h2
  | _ :: _, _, _, _, j + 1, h, k => by
    cases h with
    | cons h1 h2 => exact .cons h1 (dpa_set j h2 k)
theorem dpa_take : ∀ {as : List PD} {vs : List V} (j : Nat), DpAll K H vs as → DpAll K H (vs.take j) (as.take j)
  | _, _, 0, _ => .nil
  | [], _, _ + 1, h => by cases h; exact .nil
  | _ :: _, _, j + 1, h => by
    cases h with
    | cons h1 h2 => exact .cons h1 (dpa_take j h2)
theorem dpa_drop : ∀ {as : List PD} {vs : List V} (j : Nat), DpAll K H vs as → DpAll K H (vs.drop j) (as.drop j)
  | _, _, 0, h => h
  | [], _, _ + 1, h => by cases h; exact .nil
  | _ :: _, _, j + 1, h => by
    cases h with
    | cons h1 h2 => exact dpa_drop j h2
theorem dpa_rev {as : List PD} {vs : List V} (h : DpAll K H vs as) : DpAll K H vs.reverse as.reverse := by
  induction as generalizing vs with
  | nil => cases h; exact .nil
  | cons a as ih =>
    cases h with
    | cons h1 h2 =>
      rw [List.reverse_cons, List.reverse_cons]
      exact dpa_app (ih h2) (.cons h1 .nil)
theorem dpa_bools : ∀ {bs : List Bool} {vs : List V}, DpAll K H vs (bs.map PyData.bool) → vs = bs.map V.bl
  | [], _, h => by cases h; rfl
  | b :: bs, _, h => by
    rw [List.map_cons] at h
    cases h with
    | cons h1 h2 =>
      cases h1
      rw [List.map_cons, dpa_bools h2]
theorem dp_int {v : V} {i : Int} (h : Dp K H v (.int i)) : v = .int i := by cases h; rfl
theorem dp_bl {v : V} {b : Bool} (h : Dp K H v (.bool b)) : v = .bl b := by cases h; rfl
theorem dp_str {v : V} {z : Str} (h : Dp K H v (.str z)) : v = .str z := by cases h; rfl
theorem dp_non {v : V} (h : Dp K H v .none) : v = .non := by cases h; rfl
theorem dp_tup {v : V} {ds : List PD} (h : Dp K H v (.tuple ds)) : ∃ a xs, v = .ref a ∧ SqT K H a xs ∧ DpAll K H xs ds := by
  cases h with
  | tup h1 h2 => exact ⟨_, _, rfl, h1, h2⟩
theorem dp_lst {v : V} {ds : List PD} (h : Dp K H v (.list ds)) : ∃ a xs, v = .ref a ∧ SqL K H a xs ∧ DpAll K H xs ds := by
  cases h with
  | lst h1 h2 => exact ⟨_, _, rfl, h1, h2⟩
theorem dpa_ints : ∀ {ns : List Int} {vs : List V}, DpAll K H vs (ns.map PyData.int) → vs = ns.map V.int
  | [], _, h => by cases h; rfl
  | n :: ns, _, h => by
    rw [List.map_cons] at h
    cases h with
    | cons h1 h2 =>
      cases h1
      rw [List.map_cons, dpa_ints h2]
theorem dpa_of_ints : ∀ {ns : List Int}, DpAll K H (ns.map V.int) (ns.map PyData.int)
  | [] => .nil
  | n :: ns => .cons (.int n) dpa_of_ints
end
/-! ### what an expression gives -/
inductive Rt where
  | d (x : PD)
  /-- a tracked list, a new one, a new tuple of two new ones -/
  | o (ds : List PD) | l (ds : List PD) | ll (ds es : List PD)
def Rt.pd : Rt → PD
  | .d x => x
  | .o ds => .list ds
  | .l ds => .list ds
  | .ll ds es => .tuple [.list ds, .list es]
def Lst (K : PySem.W.Frag) (H : Hp) (p : Addr) (ds : List PD) : Prop := ∃ vs, H p = some (.lst vs) ∧ DpAll K H vs ds
def RtOk (K : PySem.W.Frag) (H J : Hp) (v : V) : Rt → Prop
  | .d x => Dp K J v x
  | .o ds => ∃ p, v = .ref p ∧ Lst K J p ds
  | .l ds => ∃ p, v = .ref p ∧ H p = none ∧ Lst K J p ds
  | .ll ds es => ∃ t p q, v = .ref t ∧ SqT K J t [.ref p, .ref q] ∧ p ≠ q ∧ H p = none ∧ H q = none ∧ Lst K J p ds ∧ Lst K J q es
theorem Lst.mono {K : PySem.W.Frag} {m : Option Addr} {H J : Hp} {p : Addr} {ds : List PD} (x : Ex m H J) (h : Lst K H p ds) : Lst K J p ds := by
  obtain ⟨vs, h1, h2⟩ := h
  exact ⟨vs, x.lst h1, dpa_mono x h2⟩
theorem Lst.dp {K : PySem.W.Frag} {H : Hp} {p : Addr} {ds : List PD} (h : Lst K H p ds) : Dp K H (.ref p) (.list ds) := by
  obtain ⟨vs, h1, h2⟩ := h
  exact .lst (SqL.of h1) h2
theorem RtOk.mono {K : PySem.W.Frag} {m : Option Addr} {H J L : Hp} {v : V} {r : Rt} (x : Ex m J L) (h : RtOk K H J v r) : RtOk K H L v r := by
  cases r with
  | d d => exact dp_mono x h
  | o ds => obtain ⟨p, e, h⟩ := h; exact ⟨p, e, h.mono x⟩
  | l ds => obtain ⟨p, e, n, h⟩ := h; exact ⟨p, e, n, h.mono x⟩
  | ll ds es => obtain ⟨t, p, q, e, s, ne, n1, n2, h1, h2⟩ := h; exact ⟨t, p, q, e, x.sqT s, ne, n1, n2, h1.mono x, h2.mono x⟩
theorem RtOk.back {K : PySem.W.Frag} {m : Option Addr} {G H J : Hp} {v : V} {r : Rt} (x : Ex m G H) (h : RtOk K H J v r) : RtOk K G J v r := by
  cases r with
  | d d => exact h
  | o ds => exact h
  | l ds => obtain ⟨p, e, n, h⟩ := h; exact ⟨p, e, x.back n, h⟩
  | ll ds es => obtain ⟨t, p, q, e, s, ne, n1, n2, h1, h2⟩ := h; exact ⟨t, p, q, e, s, ne, x.back n1, x.back n2, h1, h2⟩
theorem RtOk.dp {K : PySem.W.Frag} {H J : Hp} {v : V} {r : Rt} (h : RtOk K H J v r) : Dp K J v r.pd := by
  cases r with
  | d d => exact h
  | o ds => obtain ⟨p, rfl, h⟩ := h; exact h.dp
  | l ds => obtain ⟨p, rfl, n, h⟩ := h; exact h.dp
  | ll ds es => obtain ⟨t, p, q, rfl, s, ne, n1, n2, h1, h2⟩ := h; exact .tup s (.cons h1.dp (.cons h2.dp .nil))
/-! ### slots -/
inductive Bnd where
  | no
  | dat (x : PD)
  | own (ds : List PD)
  | mr
/-- what the bounds of the whole lean on -/
structure En where
  K : PySem.W.Frag
  m : Option Addr
  c : Addr
  H0 : Hp
  pins : List (V × PD)
def LIM : Nat := 1000000
def mst (l s : Int) (c : Addr) (p : Int) : List (Key × V) := [(.inr "left", .int l), (.inr "seed", .int s), (.inr "cells", .ref c), (.inr "spot", .int p)]
/-- the state of the draws -/
def StM (m : Option Addr) (c : Addr) (n : Nat) (H : Hp) : Prop := ∀ a, m = some a → ∃ l s p : Int, H a = some (.dK (mst l s c p)) ∧ 0 ≤ l ∧ 0 ≤ p ∧ p ≤ n
def CellsOk (K : PySem.W.Frag) (H : Hp) (c : Addr) : Prop := ∃ ns : List Int, ns ≠ [] ∧ ns.length ≤ 1000 ∧ SqL K H c (ns.map V.int)
def SlotOk (g : En) (H : Hp) : Bnd → Option V → Prop
  | .no, _ => True
  | .dat x, o => ∃ v, o = some v ∧ Dp g.K H v x ∧ (nl x = true ∨ Dp g.K g.H0 v x)
  | .own ds, o => ∃ p, o = some (.ref p) ∧ g.H0 p = none ∧ Lst g.K H p ds ∧ nlAll ds = true
  | .mr, o => ∃ a, g.m = some a ∧ o = some (.ref a)
structure At (g : En) (Γ : List Bnd) (n : Nat) (σ : L2.St) (H : Hp) : Prop where
  len : σ.length = Γ.length
  fr : Ex g.m g.H0 H
  sl : ∀ (i : Nat) (b : Bnd), Γ[i]? = some b → ∃ o, σ[i]? = some o ∧ SlotOk g H b o
  ap : ∀ (i j : Nat) (ds es : List PD) (p : Addr), i ≠ j → Γ[i]? = some (.own ds) → Γ[j]? = some (.own es) → σ[i]? = some (some (.ref p)) → σ[j]? ≠ some (some (.ref p))
  st : StM g.m g.c n H
  ce : ∀ a, g.m = some a → CellsOk g.K g.H0 g.c
  pin : ∀ p ∈ g.pins, nl p.2 = true ∧ Dp g.K H p.1 p.2
  md : ∀ a, g.m = some a → ∃ k, g.H0 a = some (.dK k)
theorem At.dk {g : En} {Γ : List Bnd} {n : Nat} {σ : L2.St} {H : Hp} (A : At g Γ n σ H) {a : Addr} (e : g.m = some a) : ∃ l s p : Int, H a = some (.dK (mst l s g.c p)) := by
  obtain ⟨l, s, p, h, _⟩ := A.st a e
  exact ⟨l, s, p, h⟩
theorem SlotOk.mono {g : En} {H J : Hp} {b : Bnd} {o : Option V} (x : Ex g.m H J) (h : SlotOk g H b o) : SlotOk g J b o := by
  cases b with
  | no => trivial
  | dat d => obtain ⟨v, e, h, k⟩ := h; exact ⟨v, e, dp_mono x h, k⟩
  | own ds => obtain ⟨p, e, n, h, k⟩ := h; exact ⟨p, e, n, h.mono x, k⟩
  | mr => exact h
/-- the heap grows; the state may change -/
theorem At.grow {g : En} {Γ : List Bnd} {n n' : Nat} {σ : L2.St} {H J : Hp} (A : At g Γ n σ H) (x : Ex g.m H J) (s : StM g.m g.c n' J) : At g Γ n' σ J where
  len := A.len
  fr := A.fr.trans x
  sl := fun i b e => by
    obtain ⟨o, h1, h2⟩ := A.sl i b e
    exact ⟨o, h1, h2.mono x⟩
  ap := A.ap
  st := s
  ce := A.ce
  pin := fun p hp => ⟨(A.pin p hp).1, dp_mono x (A.pin p hp).2⟩
  md := A.md
theorem StM.keep {m : Option Addr} {c : Addr} {n : Nat} {H J : Hp} (s : StM m c n H) (x : Ex none H J) : StM m c n J := fun a e => by
  obtain ⟨l, q, p, h, r⟩ := s a e
  exact ⟨l, q, p, x.same _ _ h, r⟩
theorem At.growN {g : En} {Γ : List Bnd} {n : Nat} {σ : L2.St} {H J : Hp} (A : At g Γ n σ H) (x : Ex none H J) : At g Γ n σ J := A.grow x.none_to (A.st.keep x)
theorem At.new {g : En} {Γ : List Bnd} {n : Nat} {σ : L2.St} {H : Hp} {p : Addr} {o : HO} (A : At g Γ n σ H) (h : H p = none) : At g Γ n σ (upd H p o) := A.growN (Ex.new h)
theorem At.dat {g : En} {Γ : List Bnd} {n : Nat} {σ : L2.St} {H : Hp} {i : Nat} {x : PD} (A : At g Γ n σ H) (e : Γ[i]? = some (.dat x)) : ∃ v, σ[i]? = some (some v) ∧ Dp g.K H v x := by
  obtain ⟨o, h1, v, rfl, h2, _⟩ := A.sl i _ e
  exact ⟨v, h1, h2⟩
theorem At.own {g : En} {Γ : List Bnd} {n : Nat} {σ : L2.St} {H : Hp} {i : Nat} {ds : List PD} (A : At g Γ n σ H) (e : Γ[i]? = some (.own ds)) : ∃ p, σ[i]? = some (some (.ref p)) ∧ g.H0 p = none ∧ Lst g.K H p ds ∧ nlAll ds = true := by
  obtain ⟨o, h1, p, rfl, h2⟩ := A.sl i _ e
  exact ⟨p, h1, h2⟩
/-- a slot is set to data -/
theorem At.setD {g : En} {Γ : List Bnd} {n : Nat} {σ : L2.St} {H : Hp} {i : Nat} {x : PD} {v : V} (A : At g Γ n σ H) (h : Dp g.K H v x) (hn : nl x = true ∨ Dp g.K g.H0 v x) : At g (Γ.set i (.dat x)) n (σ.set i (some v)) H where
  len := by rw [List.length_set, List.length_set, A.len]
  fr := A.fr
  sl := fun j b e => by
    by_cases hj : i = j
    · subst hj
      have hi : i < Γ.length := by
        rcases Nat.lt_or_ge i Γ.length with q | q
        · exact q
        · rw [List.getElem?_eq_none (by rw [List.length_set]; exact q)] at e; cases e
      rw [List.getElem?_set_self hi] at e
      cases e
      exact ⟨_, List.getElem?_set_self (by rw [A.len]; exact hi), v, rfl, h, hn⟩
    · rw [List.getElem?_set_ne hj] at e ⊢
      exact A.sl j b e
  ap := fun j k ds es p hjk e1 e2 e3 => by
    have h1 : i ≠ j := fun z => by
      subst z
      have hi : i < Γ.length := by
        rcases Nat.lt_or_ge i Γ.length with q | q
        · exact q
        · rw [List.getElem?_eq_none (by rw [List.length_set]; exact q)] at e1; cases e1
      rw [List.getElem?_set_self hi] at e1
      cases e1
    have h2 : i ≠ k := fun z => by
      subst z
      have hi : i < Γ.length := by
        rcases Nat.lt_or_ge i Γ.length with q | q
        · exact q
        · rw [List.getElem?_eq_none (by rw [List.length_set]; exact q)] at e2; cases e2
      rw [List.getElem?_set_self hi] at e2
      cases e2
    rw [List.getElem?_set_ne h1] at e1 e3
    rw [List.getElem?_set_ne h2] at e2 ⊢
    exact A.ap j k ds es p hjk e1 e2 e3
  st := A.st
  ce := A.ce
  pin := A.pin
  md := A.md
/-- a slot is set to a list that no slot has -/
theorem At.setL {g : En} {Γ : List Bnd} {n : Nat} {σ : L2.St} {H : Hp} {i : Nat} {ds : List PD} {q : Addr} (A : At g Γ n σ H) (h0 : g.H0 q = none) (h : Lst g.K H q ds) (hn : nlAll ds = true)
    (fresh : ∀ j es, j ≠ i → Γ[j]? = some (.own es) → σ[j]? ≠ some (some (.ref q))) : At g (Γ.set i (.own ds)) n (σ.set i (some (.ref q))) H where
  len := by rw [List.length_set, List.length_set, A.len]
  fr := A.fr
  sl := fun j b e => by
    by_cases hj : i = j
    · subst hj
      have hi : i < Γ.length := by
        rcases Nat.lt_or_ge i Γ.length with z | z
        · exact z
        · rw [List.getElem?_eq_none (by rw [List.length_set]; exact z)] at e; cases e
      rw [List.getElem?_set_self hi] at e
      cases e
      exact ⟨_, List.getElem?_set_self (by rw [A.len]; exact hi), q, rfl, h0, h, hn⟩
    · rw [List.getElem?_set_ne hj] at e ⊢
      exact A.sl j b e
  ap := fun j k ds1 es p hjk e1 e2 e3 => by
    by_cases h1 : i = j
    · subst h1
      have hi : i < σ.length := by
        rcases Nat.lt_or_ge i σ.length with z | z
        · exact z
        · rw [List.getElem?_eq_none (by rw [List.length_set]; exact z)] at e3; cases e3
      rw [List.getElem?_set_self hi] at e3
      cases e3
      rw [List.getElem?_set_ne hjk] at e2 ⊢
      exact fresh k es (Ne.symm hjk) e2
    · rw [List.getElem?_set_ne h1] at e1 e3
      by_cases h2 : i = k
      · subst h2
        intro e4
        have hi : i < σ.length := by
          rcases Nat.lt_or_ge i σ.length with z | z
          · exact z
          · rw [List.getElem?_eq_none (by rw [List.length_set]; exact z)] at e4; cases e4
        rw [List.getElem?_set_self hi] at e4
        cases e4
        exact fresh j ds1 hjk e1 e3
      · rw [List.getElem?_set_ne h2] at e2 ⊢
        exact A.ap j k ds1 es p hjk e1 e2 e3
  st := A.st
  ce := A.ce
  pin := A.pin
  md := A.md
/-- an own list is changed -/
theorem At.put {g : En} {Γ : List Bnd} {n : Nat} {σ : L2.St} {H : Hp} {i : Nat} {ds es : List PD} {p : Addr} {ws : List V} (A : At g Γ n σ H) (e : Γ[i]? = some (.own ds)) (es' : σ[i]? = some (some (.ref p)))
    (hw : DpAll g.K H ws es) (hn : nlAll es = true) : At g (Γ.set i (.own es)) n σ (upd H p (.lst ws)) := by
  obtain ⟨p', e1, h0, ⟨vs, hp, hd⟩, hnl⟩ := A.own e
  rw [es'] at e1
  cases e1
  have hi : i < Γ.length := by
    rcases Nat.lt_or_ge i Γ.length with z | z
    · exact z
    · rw [List.getElem?_eq_none z] at e; cases e
  have neH : ∀ {b : Addr} {o : HO}, g.H0 b = some o → b ≠ p := fun {b o} q z => by rw [z, h0] at q; cases q
  have hfr : Ex g.m g.H0 (upd H p (.lst ws)) := fun a o q => by
    rw [upd_ne (neH q)]
    exact A.fr a o q
  refine ⟨by rw [List.length_set]; exact A.len, hfr, fun j b q => ?_, fun j k d1 d2 q hjk e1 e2 e3 => ?_, fun a ea => ?_, A.ce, fun q hq => ⟨(A.pin q hq).1, Dp.put' hp _ _ (A.pin q hq).1 (A.pin q hq).2⟩, A.md⟩
  · by_cases hj : i = j
    · subst hj
      rw [List.getElem?_set_self hi] at q
      cases q
      exact ⟨_, es', p, rfl, h0, ⟨ws, upd_same, DpAll.put' hp _ _ hn hw⟩, hn⟩
    · rw [List.getElem?_set_ne hj] at q
      obtain ⟨o, o1, o2⟩ := A.sl j b q
      refine ⟨o, o1, ?_⟩
      cases b with
      | no => trivial
      | dat x =>
        obtain ⟨v, ev, hv, hs⟩ := o2
        refine ⟨v, ev, ?_, hs⟩
        rcases hs with hs | hs
        · exact Dp.put' hp _ _ hs hv
        · exact dp_mono hfr hs
      | own xs =>
        obtain ⟨r, er, hr, ⟨us, hu1, hu2⟩, hx⟩ := o2
        subst er
        have nr : r ≠ p := fun z => by
          subst z
          exact A.ap i j ds xs r hj e q es' o1
        exact ⟨r, rfl, hr, ⟨us, by rw [upd_ne nr]; exact hu1, DpAll.put' hp _ _ hx hu2⟩, hx⟩
      | mr => exact o2
  · have back : ∀ (k : Nat) (d : List PD), (Γ.set i (.own es))[k]? = some (.own d) → ∃ d', Γ[k]? = some (.own d') := fun k d q => by
      by_cases hk : i = k
      · subst hk
        exact ⟨_, e⟩
      · rw [List.getElem?_set_ne hk] at q
        exact ⟨_, q⟩
    obtain ⟨x1, y1⟩ := back j d1 e1
    obtain ⟨x2, y2⟩ := back k d2 e2
    exact A.ap j k x1 x2 q hjk y1 y2 e3
  · obtain ⟨l, s, r, h, z⟩ := A.st a ea
    exact ⟨l, s, r, by rw [upd_ne (ne_of h hp (by intro w; cases w))]; exact h, z⟩
/-- a slot forgotten, the slot's value whatever -/
theorem At.forget {g : En} {Γ : List Bnd} {n : Nat} {σ : L2.St} {H : Hp} {i : Nat} {o : Option V} (A : At g Γ n σ H) : At g (Γ.set i .no) n (σ.set i o) H where
  len := by rw [List.length_set, List.length_set, A.len]
  fr := A.fr
  sl := fun j b e => by
    by_cases hj : i = j
    · subst hj
      have hi : i < Γ.length := by
        rcases Nat.lt_or_ge i Γ.length with q | q
        · exact q
        · rw [List.getElem?_eq_none (by rw [List.length_set]; exact q)] at e; cases e
      rw [List.getElem?_set_self hi] at e
      cases e
      exact ⟨_, List.getElem?_set_self (by rw [A.len]; exact hi), trivial⟩
    · rw [List.getElem?_set_ne hj] at e ⊢
      exact A.sl j b e
  ap := fun j k ds es p hjk e1 e2 e3 => by
    have no : ∀ (j : Nat) (d : List PD), (Γ.set i .no)[j]? = some (.own d) → i ≠ j := fun j d q z => by
      subst z
      have hi : i < Γ.length := by
        rcases Nat.lt_or_ge i Γ.length with r | r
        · exact r
        · rw [List.getElem?_eq_none (by rw [List.length_set]; exact r)] at q; cases q
      rw [List.getElem?_set_self hi] at q
      cases q
    have h1 := no j ds e1
    have h2 := no k es e2
    rw [List.getElem?_set_ne h1] at e1 e3
    rw [List.getElem?_set_ne h2] at e2 ⊢
    exact A.ap j k ds es p hjk e1 e2 e3
  st := A.st
  ce := A.ce
  pin := A.pin
  md := A.md
/-! ### expressions over slots of data -/
def Ev (g : En) (te : TE) (Γ : List Bnd) (n : Nat) (Q : Rt → Nat → Prop) : Prop :=
  ∀ σ H, At g Γ n σ H → ∀ R : VK, (∀ r n' v J, Q r n' → At g Γ n' σ J → Ex g.m H J → RtOk g.K H J v r → R v J) → te σ H R
def EvT (g : En) (tt : TT) (Γ : List Bnd) (n : Nat) (Q : Bool → Nat → Prop) : Prop :=
  ∀ σ H, At g Γ n σ H → ∀ R : Bool → Hp → Prop, (∀ b n' J, Q b n' → At g Γ n' σ J → Ex g.m H J → R b J) → tt σ H R
def EvA (g : En) (ta : TA) (Γ : List Bnd) (n : Nat) (Q : List PD → Nat → Prop) : Prop :=
  ∀ σ H, At g Γ n σ H → ∀ R : List V → Hp → Prop, (∀ ds n' vs J, Q ds n' → At g Γ n' σ J → Ex g.m H J → DpAll g.K J vs ds → R vs J) → ta σ H R
def EvO (g : En) (to : TO) (Γ : List Bnd) (n : Nat) (Q : Option Int → Nat → Prop) : Prop :=
  ∀ σ H, At g Γ n σ H → ∀ R : Option Int → Hp → Prop, (∀ o n' J, Q o n' → At g Γ n' σ J → Ex g.m H J → R o J) → to σ H R
section
variable {g : En} {Γ : List Bnd} {n : Nat} {Q : Rt → Nat → Prop} {ta tb tc te : TE} {tt tu : TT} {QT : Bool → Nat → Prop}
theorem Ev.imp {Q' : Rt → Nat → Prop} (h : Ev g te Γ n Q) (k : ∀ r m, Q r m → Q' r m) : Ev g te Γ n Q' := fun σ H A R q => h σ H A R fun r n' v J z => q r n' v J (k r n' z)
theorem EvT.imp {Q' : Bool → Nat → Prop} (h : EvT g tt Γ n QT) (k : ∀ r m, QT r m → Q' r m) : EvT g tt Γ n Q' := fun σ H A R q => h σ H A R fun r n' J z => q r n' J (k r n' z)
/-! names, constants -/
theorem ev_var {i : Nat} {x : PD} (e : Γ[i]? = some (.dat x)) (q : Q (.d x) n) : Ev g (tVar i) Γ n Q := fun σ H A R k => by
  obtain ⟨v, h1, h2⟩ := A.dat e
  exact ⟨v, h1, k _ n v H q A (Ex.refl H) h2⟩
theorem ev_own {i : Nat} {ds : List PD} (e : Γ[i]? = some (.own ds)) (q : Q (.o ds) n) : Ev g (tVar i) Γ n Q := fun σ H A R k => by
  obtain ⟨p, h1, h2, h3, _⟩ := A.own e
  exact ⟨.ref p, h1, k _ n _ H q A (Ex.refl H) ⟨p, rfl, h3⟩⟩
theorem ev_int {i : Int} (q : Q (.d (.int i)) n) : Ev g (tC (.int i)) Γ n Q := fun σ H A R k => k _ n _ H q A (Ex.refl H) (.int i)
theorem ev_bl {b : Bool} (q : Q (.d (.bool b)) n) : Ev g (tC (.bl b)) Γ n Q := fun σ H A R k => k _ n _ H q A (Ex.refl H) (.bl b)
theorem ev_str {z : Str} (q : Q (.d (.str z)) n) : Ev g (tC (.str z)) Γ n Q := fun σ H A R k => k _ n _ H q A (Ex.refl H) (.str z)
theorem ev_non (q : Q (.d .none) n) : Ev g (tC .non) Γ n Q := fun σ H A R k => k _ n _ H q A (Ex.refl H) .non
/-! operators -/
/-- a two-place operator by its values -/
theorem ev_bin {r : R2} {B : Rt → Rt → Nat → Prop} (ha : Ev g ta Γ n fun x n1 => Ev g tb Γ n1 fun y n2 => B x y n2)
    (hr : ∀ x y n2 σ G H v u, B x y n2 → At g Γ n2 σ H → Ex g.m G H → RtOk g.K G H v x → RtOk g.K G H u y → ∀ R : VK, (∀ z v' J, Q z n2 → At g Γ n2 σ J → Ex g.m H J → RtOk g.K H J v' z → R v' J) → r v u H R) : Ev g (tOp r ta tb) Γ n Q := fun σ H A R k =>
  ha σ H A _ fun x n1 v J q1 A1 x1 r1 => q1 σ J A1 _ fun y n2 u L q2 A2 x2 r2 => hr x y n2 σ H L v u q2 A2 (x1.trans x2) (r1.mono x2) (r2.back x1) R fun z v' M q A3 x3 r3 => k z n2 v' M q A3 ((x1.trans x2).trans x3) (r3.back (x1.trans x2))
theorem ev_ii {f : Int → Int → Int} (ha : Ev g ta Γ n fun x n1 => Ev g tb Γ n1 fun y n2 => ∃ i j, x.pd = .int i ∧ y.pd = .int j ∧ Q (.d (.int (f i j))) n2) : Ev g (tOp (rI0 fun i j => .int (f i j)) ta tb) Γ n Q :=
  ev_bin ha fun x y n2 σ G H v u ⟨i, j, e1, e2, q⟩ A _ r1 r2 R k => ⟨i, j, dp_int (e1 ▸ r1.dp), dp_int (e2 ▸ r2.dp), k _ _ H q A (Ex.refl H) (.int _)⟩
theorem ev_ib {f : Int → Int → Bool} (ha : Ev g ta Γ n fun x n1 => Ev g tb Γ n1 fun y n2 => ∃ i j, x.pd = .int i ∧ y.pd = .int j ∧ Q (.d (.bool (f i j))) n2) : Ev g (tOp (rI0 fun i j => .bl (f i j)) ta tb) Γ n Q :=
  ev_bin ha fun x y n2 σ G H v u ⟨i, j, e1, e2, q⟩ A _ r1 r2 R k => ⟨i, j, dp_int (e1 ▸ r1.dp), dp_int (e2 ▸ r2.dp), k _ _ H q A (Ex.refl H) (.bl _)⟩
theorem ev_ic {C : Int → Int → Prop} {f : Int → Int → Int} (ha : Ev g ta Γ n fun x n1 => Ev g tb Γ n1 fun y n2 => ∃ i j, x.pd = .int i ∧ y.pd = .int j ∧ C i j ∧ Q (.d (.int (f i j))) n2) : Ev g (tOp (rI C fun i j => .int (f i j)) ta tb) Γ n Q :=
  ev_bin ha fun x y n2 σ G H v u ⟨i, j, e1, e2, c, q⟩ A _ r1 r2 R k => ⟨i, j, dp_int (e1 ▸ r1.dp), dp_int (e2 ▸ r2.dp), c, k _ _ H q A (Ex.refl H) (.int _)⟩
theorem ev_neg (ha : Ev g ta Γ n fun x n1 => ∃ i, x.pd = .int i ∧ Q (.d (.int (-i))) n1) : Ev g (tUn (rU fun i => .int (-i)) ta) Γ n Q := fun σ H A R k =>
  ha σ H A _ fun x n1 v J ⟨i, e, q⟩ A1 x1 r1 => ⟨i, dp_int (e ▸ r1.dp), k _ _ _ J q A1 x1 (.int _)⟩
theorem ev_eqD (ha : Ev g ta Γ n fun x n1 => Ev g tb Γ n1 fun y n2 => SeqAt.shaped x.pd = true ∧ SeqAt.shaped y.pd = true ∧ Q (.d (.bool (PyData.eqv x.pd y.pd))) n2) : Ev g (tOp (rEqD g.K) ta tb) Γ n Q :=
  ev_bin ha fun x y n2 σ G H v u ⟨s1, s2, q⟩ A _ r1 r2 R k => ⟨x.pd, y.pd, r1.dp, r2.dp, s1, s2, k _ _ H q A (Ex.refl H) (.bl _)⟩
theorem ev_neD (ha : Ev g ta Γ n fun x n1 => Ev g tb Γ n1 fun y n2 => SeqAt.shaped x.pd = true ∧ SeqAt.shaped y.pd = true ∧ Q (.d (.bool (!PyData.eqv x.pd y.pd))) n2) : Ev g (tOp (rNeD g.K) ta tb) Γ n Q :=
  ev_bin ha fun x y n2 σ G H v u ⟨s1, s2, q⟩ A _ r1 r2 R k => ⟨x.pd, y.pd, r1.dp, r2.dp, s1, s2, k _ _ H q A (Ex.refl H) (.bl _)⟩
def isNon : PD → Bool
  | .none => true
  | _ => false
abbrev rIsN0 : R2 := fun x y H Q => y = .non ∧ Q (.bl (decide (x = .non))) H
abbrev rNotN0 : R2 := fun x y H Q => y = .non ∧ Q (.bl (!decide (x = .non))) H
theorem isNon_dp {K : PySem.W.Frag} {H : Hp} {v : V} {x : PD} (h : Dp K H v x) : decide (v = .non) = isNon x := by
  cases h <;> rfl
theorem ev_isN (ha : Ev g ta Γ n fun x n1 => Q (.d (.bool (isNon x.pd))) n1) : Ev g (tOp rIsN0 ta (tC .non)) Γ n Q := fun σ H A R k =>
  ha σ H A _ fun x n1 v J q A1 x1 r1 => ⟨rfl, k _ _ _ J q A1 x1 (by rw [isNon_dp r1.dp]; exact .bl _)⟩
theorem ev_notN (ha : Ev g ta Γ n fun x n1 => Q (.d (.bool (!isNon x.pd))) n1) : Ev g (tOp rNotN0 ta (tC .non)) Γ n Q := fun σ H A R k =>
  ha σ H A _ fun x n1 v J q A1 x1 r1 => ⟨rfl, k _ _ _ J q A1 x1 (by rw [isNon_dp r1.dp]; exact .bl _)⟩
theorem ev_isB (ha : Ev g ta Γ n fun x n1 => Ev g tb Γ n1 fun y n2 => ∃ a b, x.pd = .bool a ∧ y.pd = .bool b ∧ Q (.d (.bool (decide (a = b)))) n2) : Ev g (tOp rIsB ta tb) Γ n Q :=
  ev_bin ha fun x y n2 σ G H v u ⟨i, j, e1, e2, q⟩ A _ r1 r2 R k => ⟨i, j, dp_bl (e1 ▸ r1.dp), dp_bl (e2 ▸ r2.dp), k _ _ H q A (Ex.refl H) (.bl _)⟩
/-! items -/
theorem atI_dp {K : PySem.W.Frag} {H : Hp} {vs : List V} {ds : List PD} {i : Int} {d : PD} (h : DpAll K H vs ds) (e : atI ds i = some d) : ∃ v, atI vs i = some v ∧ Dp K H v d := by
  unfold atI at e ⊢
  rw [dpa_len h]
  cases q : ixN ds.length i with
  | none => rw [q] at e; cases e
  | some j =>
    rw [q] at e
    exact dpa_get h e
theorem ev_ixT (ha : Ev g ta Γ n fun x n1 => Ev g tb Γ n1 fun y n2 => ∃ ds i d, x.pd = .tuple ds ∧ y.pd = .int i ∧ atI ds i = some d ∧ Q (.d d) n2) : Ev g (tOp (rIxT g.K) ta tb) Γ n Q :=
  ev_bin ha fun x y n2 σ G H v u ⟨ds, i, d, e1, e2, e3, q⟩ A _ r1 r2 R k => by
    obtain ⟨a, xs, rfl, h1, h2⟩ := dp_tup (e1 ▸ r1.dp)
    obtain ⟨w, h3, h4⟩ := atI_dp h2 e3
    exact ⟨a, xs, i, w, rfl, dp_int (e2 ▸ r2.dp), h1, h3, k _ _ H q A (Ex.refl H) h4⟩
theorem ev_ixL (ha : Ev g ta Γ n fun x n1 => Ev g tb Γ n1 fun y n2 => ∃ ds i d, x.pd = .list ds ∧ y.pd = .int i ∧ atI ds i = some d ∧ Q (.d d) n2) : Ev g (tOp (rIxL g.K) ta tb) Γ n Q :=
  ev_bin ha fun x y n2 σ G H v u ⟨ds, i, d, e1, e2, e3, q⟩ A _ r1 r2 R k => by
    obtain ⟨a, xs, rfl, h1, h2⟩ := dp_lst (e1 ▸ r1.dp)
    obtain ⟨w, h3, h4⟩ := atI_dp h2 e3
    exact ⟨a, xs, i, w, rfl, dp_int (e2 ▸ r2.dp), h1, h3, k _ _ H q A (Ex.refl H) h4⟩
/-! slices -/
def cutD (xs : List PD) (lo hi : Option Int) : List PD := (xs.drop (HT.sIx xs.length 0 lo)).take (HT.sIx xs.length xs.length hi - HT.sIx xs.length 0 lo)
theorem cut_dp {K : PySem.W.Frag} {H : Hp} {vs : List V} {ds : List PD} {lo hi : Option Int} (h : DpAll K H vs ds) : DpAll K H (cutV vs lo hi) (cutD ds lo hi) := by
  unfold cutV cutD
  rw [dpa_len h]
  exact dpa_take _ (dpa_drop _ h)
theorem eo_none {QO : Option Int → Nat → Prop} (q : QO none n) : EvO g tNoPart Γ n QO := fun σ H A R k => k _ n H q A (Ex.refl H)
theorem eo_some {QO : Option Int → Nat → Prop} (h : Ev g te Γ n fun x n1 => ∃ i, x.pd = .int i ∧ QO (some i) n1) : EvO g (tPart te) Γ n QO := fun σ H A R k =>
  h σ H A _ fun x n1 v J ⟨i, e, q⟩ A1 x1 r1 => ⟨i, dp_int (e ▸ r1.dp), k _ _ J q A1 x1⟩
theorem ev_slL {tl th : TO} (ha : Ev g te Γ n fun x n1 => EvO g tl Γ n1 fun lo n2 => EvO g th Γ n2 fun hi n3 => ∃ ds, x.pd = .list ds ∧ Q (.l (cutD ds lo hi)) n3) : Ev g (tSl (rSlL g.K) te tl th) Γ n Q := fun σ H A R k =>
  ha σ H A _ fun x n1 v J q1 A1 x1 r1 => q1 σ J A1 _ fun lo n2 L q2 A2 x2 => q2 σ L A2 _ fun hi n3 M ⟨ds, e, q⟩ A3 x3 => by
    obtain ⟨a, xs, rfl, h1, h2⟩ := dp_lst (e ▸ (dp_mono (x2.trans x3) r1.dp))
    refine ⟨a, xs, rfl, h1, fun p hp => ?_⟩
    have X := (x1.trans x2).trans x3
    exact k _ _ _ _ q (A3.new hp) (X.trans (Ex.new hp)) ⟨p, rfl, X.back hp, _, upd_same, dpa_mono (m := none) (Ex.new hp) (cut_dp h2)⟩
theorem ev_slT {tl th : TO} (ha : Ev g te Γ n fun x n1 => EvO g tl Γ n1 fun lo n2 => EvO g th Γ n2 fun hi n3 => ∃ ds, x.pd = .tuple ds ∧ Q (.d (.tuple (cutD ds lo hi))) n3) : Ev g (tSl (rSlA g.K) te tl th) Γ n Q := fun σ H A R k =>
  ha σ H A _ fun x n1 v J q1 A1 x1 r1 => q1 σ J A1 _ fun lo n2 L q2 A2 x2 => q2 σ L A2 _ fun hi n3 M ⟨ds, e, q⟩ A3 x3 => by
    obtain ⟨a, xs, rfl, h1, h2⟩ := dp_tup (e ▸ (dp_mono (x2.trans x3) r1.dp))
    have X := (x1.trans x2).trans x3
    refine ⟨a, xs, rfl, h1, fun hw => ?_, fun _ p hp => ?_⟩
    · have ec : cutV xs lo hi = xs := by
        unfold cutV
        rw [hw.1, hw.2]
        simp
      refine k _ _ _ _ q A3 X (.tup h1 ?_)
      have h3 := cut_dp (lo := lo) (hi := hi) h2
      rw [ec] at h3
      exact h3
    · exact k _ _ _ _ q (A3.new hp) (X.trans (Ex.new hp)) (.tup (SqT.of upd_same) (dpa_mono (m := none) (Ex.new hp) (cut_dp h2)))
/-! what lists and tuples are made of -/
def Rt.isL : Rt → List PD → Prop
  | .o ds, es => ds = es
  | .l ds, es => ds = es
  | _, _ => False
theorem RtOk.lst {K : PySem.W.Frag} {H J : Hp} {v : V} {r : Rt} {ds : List PD} (h : RtOk K H J v r) (e : r.isL ds) : ∃ p, v = .ref p ∧ Lst K J p ds := by
  cases r with
  | d x => exact e.elim
  | o xs =>
    have e' : xs = ds := e
    subst e'
    exact h
  | l xs =>
    have e' : xs = ds := e
    subst e'
    obtain ⟨p, e, _, h⟩ := h
    exact ⟨p, e, h⟩
  | ll x y => exact e.elim
theorem small_line {k : Nat} (h : k ≤ 100000) : k ≤ sizeLine := Nat.le_trans h (by decide)
theorem small_line' {k : Nat} (h : k < 100000) : k < sizeLine := Nat.lt_of_lt_of_le h (by decide)
theorem ev_cat (ha : Ev g ta Γ n fun x n1 => Ev g tb Γ n1 fun y n2 => ∃ as bs, x.isL as ∧ y.isL bs ∧ as.length + bs.length ≤ 100000 ∧ Q (.l (as ++ bs)) n2) : Ev g (tOp rCat ta tb) Γ n Q :=
  ev_bin ha fun x y n2 σ G H v u ⟨as, bs, e1, e2, hl, q⟩ A _ r1 r2 R k => by
    obtain ⟨p, rfl, xs, h1, h2⟩ := r1.lst e1
    obtain ⟨p', rfl, ys, h3, h4⟩ := r2.lst e2
    refine ⟨p, p', xs, ys, rfl, rfl, h1, h3, ?_, fun w hw => ?_⟩
    · rw [dpa_len h2, dpa_len h4]
      exact small_line hl
    · exact k _ _ _ q (A.new hw) (Ex.new hw) ⟨w, rfl, hw, _, upd_same, dpa_mono (m := none) (Ex.new hw) (dpa_app h2 h4)⟩
theorem ev_catT (ha : Ev g ta Γ n fun x n1 => Ev g tb Γ n1 fun y n2 => ∃ as bs, x.pd = .tuple as ∧ y.pd = .tuple bs ∧ as.length + bs.length ≤ 100000 ∧ Q (.d (.tuple (as ++ bs))) n2) : Ev g (tOp (rCatA g.K) ta tb) Γ n Q :=
  ev_bin ha fun x y n2 σ G H v u ⟨as, bs, e1, e2, hl, q⟩ A _ r1 r2 R k => by
    obtain ⟨p, xs, rfl, h1, h2⟩ := dp_tup (e1 ▸ r1.dp)
    obtain ⟨p', ys, rfl, h3, h4⟩ := dp_tup (e2 ▸ r2.dp)
    have happ := dpa_app h2 h4
    refine ⟨p, p', xs, ys, rfl, rfl, h1, h3, ?_, fun z => ?_, fun _ z => ?_, fun _ _ w hw => ?_⟩
    · rw [dpa_len h2, dpa_len h4]
      exact small_line hl
    · subst z
      exact k _ _ _ q A (Ex.refl H) (.tup h3 happ)
    · subst z
      rw [List.append_nil] at happ
      exact k _ _ _ q A (Ex.refl H) (.tup h1 happ)
    · exact k _ _ _ q (A.new hw) (Ex.new hw) (.tup (SqT.of upd_same) (dpa_mono (m := none) (Ex.new hw) happ))
theorem ea_nil {QA : List PD → Nat → Prop} (q : QA [] n) : EvA g tNil Γ n QA := fun σ H A R k => k _ n _ H q A (Ex.refl H) .nil
theorem ea_cons {tr : TA} {QA : List PD → Nat → Prop} (h : Ev g te Γ n fun x n1 => EvA g tr Γ n1 fun ds n2 => QA (x.pd :: ds) n2) : EvA g (tCons te tr) Γ n QA := fun σ H A R k =>
  h σ H A _ fun x n1 v J q1 A1 x1 r1 => q1 σ J A1 _ fun ds n2 vs L q2 A2 x2 r2 => k _ _ _ _ q2 A2 (x1.trans x2) (.cons (dp_mono x2 r1.dp) r2)
theorem ev_tup {ta : TA} (h : EvA g ta Γ n fun ds n1 => ds.length ≤ 100000 ∧ Q (.d (.tuple ds)) n1) : Ev g (tTup ta) Γ n Q := fun σ H A R k =>
  h σ H A _ fun ds n1 vs J ⟨hl, q⟩ A1 x1 r1 => ⟨by rw [dpa_len r1]; exact small_line hl, fun p hp => k _ _ _ _ q (A1.new hp) (x1.trans (Ex.new hp)) (.tup (SqT.of upd_same) (dpa_mono (m := none) (Ex.new hp) r1))⟩
theorem ev_lst {ta : TA} (h : EvA g ta Γ n fun ds n1 => ds.length ≤ 100000 ∧ Q (.l ds) n1) : Ev g (tLst ta) Γ n Q := fun σ H A R k =>
  h σ H A _ fun ds n1 vs J ⟨hl, q⟩ A1 x1 r1 => ⟨by rw [dpa_len r1]; exact small_line hl, fun p hp => k _ _ _ _ q (A1.new hp) (x1.trans (Ex.new hp)) ⟨p, rfl, x1.back hp, _, upd_same, dpa_mono (m := none) (Ex.new hp) r1⟩⟩
/-- (a new list, a new list) -/
theorem ev_ll (ha : Ev g ta Γ n fun x n1 => Ev g tb Γ n1 fun y n2 => ∃ as bs, x = .l as ∧ y = .l bs ∧ Q (.ll as bs) n2) : Ev g (tTup (tCons ta (tCons tb tNil))) Γ n Q := fun σ H A R k =>
  ha σ H A _ fun x n1 v J q1 A1 x1 r1 => q1 σ J A1 _ fun y n2 u L ⟨as, bs, e1, e2, q⟩ A2 x2 r2 => by
    subst e1
    subst e2
    obtain ⟨p, rfl, hp, h1⟩ := r1
    obtain ⟨p', rfl, hp', h2⟩ := r2
    have hne : p ≠ p' := fun z => by
      obtain ⟨vs, h3, _⟩ := h1
      rw [z, hp'] at h3
      cases h3
    refine ⟨by show 2 ≤ sizeLine; decide, fun w hw => ?_⟩
    have X := x1.trans x2
    exact k _ _ _ _ q (A2.new hw) (X.trans (Ex.new hw)) ⟨w, p, p', rfl, SqT.of upd_same, hne, hp, x1.back hp', (h1.mono x2).mono (m := none) (Ex.new hw), h2.mono (m := none) (Ex.new hw)⟩
/-! tests -/
theorem et_test (h : Ev g te Γ n fun x n1 => ∃ b, x.pd = .bool b ∧ QT b n1) : EvT g (tTest te) Γ n QT := fun σ H A R k =>
  h σ H A _ fun x n1 v J ⟨b, e, q⟩ A1 x1 r1 => ⟨b, dp_bl (e ▸ r1.dp), k _ _ J q A1 x1⟩
theorem et_B (h : Ev g te Γ n fun x n1 => ∃ b, x.pd = .bool b ∧ QT b n1) : EvT g (tB te) Γ n QT := fun σ H A R k =>
  h σ H A _ fun x n1 v J ⟨b, e, q⟩ A1 x1 r1 => ⟨b, dp_bl (e ▸ r1.dp), k _ _ J q A1 x1⟩
theorem et_and (h : EvT g tt Γ n fun b n1 => if b = true then EvT g tu Γ n1 QT else QT false n1) : EvT g (tAnd tt tu) Γ n QT := fun σ H A R k =>
  h σ H A _ fun b n1 J q A1 x1 => by
    cases b with
    | true => exact (show EvT g tu Γ n1 QT from q) σ J A1 R fun c n2 L z A2 x2 => k c n2 L z A2 (x1.trans x2)
    | false => exact k false n1 J q A1 x1
theorem et_or (h : EvT g tt Γ n fun b n1 => if b = true then QT true n1 else EvT g tu Γ n1 QT) : EvT g (tOr tt tu) Γ n QT := fun σ H A R k =>
  h σ H A _ fun b n1 J q A1 x1 => by
    cases b with
    | false => exact (show EvT g tu Γ n1 QT from q) σ J A1 R fun c n2 L z A2 x2 => k c n2 L z A2 (x1.trans x2)
    | true => exact k true n1 J q A1 x1
theorem et_not (h : EvT g tt Γ n fun b n1 => QT (!b) n1) : EvT g (tNot tt) Γ n QT := fun σ H A R k => h σ H A _ fun b n1 J q A1 x1 => k _ _ J q A1 x1
theorem ev_andV (h : Ev g ta Γ n fun x n1 => ∃ b, x.pd = .bool b ∧ if b = true then Ev g tb Γ n1 Q else Q (.d (.bool false)) n1) : Ev g (tAndV ta tb) Γ n Q := fun σ H A R k =>
  h σ H A _ fun x n1 v J ⟨b, e, q⟩ A1 x1 r1 => ⟨b, dp_bl (e ▸ r1.dp), by
    cases b with
    | true => exact (show Ev g tb Γ n1 Q from q) σ J A1 R fun r n2 v L z A2 x2 r2 => k r n2 v L z A2 (x1.trans x2) (r2.back x1)
    | false => exact k _ n1 _ J q A1 x1 (.bl false)⟩
theorem ev_orV (h : Ev g ta Γ n fun x n1 => ∃ b, x.pd = .bool b ∧ if b = true then Q (.d (.bool true)) n1 else Ev g tb Γ n1 Q) : Ev g (tOrV ta tb) Γ n Q := fun σ H A R k =>
  h σ H A _ fun x n1 v J ⟨b, e, q⟩ A1 x1 r1 => ⟨b, dp_bl (e ▸ r1.dp), by
    cases b with
    | false => exact (show Ev g tb Γ n1 Q from q) σ J A1 R fun r n2 v L z A2 x2 r2 => k r n2 v L z A2 (x1.trans x2) (r2.back x1)
    | true => exact k _ n1 _ J q A1 x1 (.bl true)⟩
theorem ev_notV (h : Ev g ta Γ n fun x n1 => ∃ b, x.pd = .bool b ∧ Q (.d (.bool (!b))) n1) : Ev g (tNotV ta) Γ n Q := fun σ H A R k =>
  h σ H A _ fun x n1 v J ⟨b, e, q⟩ A1 x1 r1 => ⟨b, dp_bl (e ▸ r1.dp), k _ _ _ J q A1 x1 (.bl _)⟩
theorem ev_if (h : EvT g tt Γ n fun b n1 => if b = true then Ev g ta Γ n1 Q else Ev g tb Γ n1 Q) : Ev g (tIf tt ta tb) Γ n Q := fun σ H A R k =>
  h σ H A _ fun b n1 J q A1 x1 => by
    cases b with
    | true => exact (show Ev g ta Γ n1 Q from q) σ J A1 R fun r n2 v L z A2 x2 r2 => k r n2 v L z A2 (x1.trans x2) (r2.back x1)
    | false => exact (show Ev g tb Γ n1 Q from q) σ J A1 R fun r n2 v L z A2 x2 r2 => k r n2 v L z A2 (x1.trans x2) (r2.back x1)
/-- lo op a op hi -/
theorem ev_chain {r s : R2} {B : Rt → Rt → Nat → Prop}
    (ha : Ev g ta Γ n fun x n1 => Ev g tb Γ n1 fun y n2 => ∃ i j, x.pd = .int i ∧ y.pd = .int j ∧ ∃ f1 f2 : Int → Int → Bool, r = (rI0 fun i j => .bl (f1 i j)) ∧ s = (rI0 fun i j => .bl (f2 i j)) ∧
      if f1 i j = true then Ev g tc Γ n2 (fun z n3 => ∃ k, z.pd = .int k ∧ Q (.d (.bool (f2 j k))) n3) else Q (.d (.bool false)) n2) : Ev g (tChain r s ta tb tc) Γ n Q := fun σ H A R k =>
  ha σ H A _ fun x n1 v J q1 A1 x1 r1 => q1 σ J A1 _ fun y n2 u L ⟨i, j, e1, e2, f1, f2, e3, e4, q⟩ A2 x2 r2 => by
    subst e3
    subst e4
    have eu := dp_int (e2 ▸ r2.dp)
    refine ⟨i, j, dp_int (e1 ▸ r1.dp), eu, f1 i j, rfl, ?_⟩
    cases hf : f1 i j with
    | true =>
      rw [hf] at q
      exact (show Ev g tc Γ n2 _ from q) σ L A2 _ fun z n3 w M ⟨k3, e5, q5⟩ A3 x3 r3 => ⟨j, k3, eu, dp_int (e5 ▸ r3.dp), k _ _ _ M q5 A3 ((x1.trans x2).trans x3) (.bl _)⟩
    | false =>
      rw [hf] at q
      exact k _ _ _ L q A2 (x1.trans x2) (.bl _)
/-! built-ins -/
theorem ev_abs (h : Ev g te Γ n fun x n1 => ∃ i, x.pd = .int i ∧ Q (.d (.int (if i < 0 then -i else i))) n1) :
    Ev g (tCB (fun xs H Q => ∃ i, xs = [.int i] ∧ Q (.int (if i < 0 then -i else i)) H) (tCons te tNil)) Γ n Q := fun σ H A R k =>
  h σ H A _ fun x n1 v J ⟨i, e, q⟩ A1 x1 r1 => ⟨i, congrArg (fun z => [z]) (dp_int (e ▸ r1.dp)), k _ _ _ J q A1 x1 (.int _)⟩
theorem ev_toInt (h : Ev g te Γ n fun x n1 => ∃ i, x.pd = .int i ∧ Q (.d (.int i)) n1) :
    Ev g (tCB (fun xs H Q => (∃ i, xs = [.int i] ∧ Q (.int i) H) ∨ ∃ k, xs = [.bl k] ∧ Q (.int (if k then 1 else 0)) H) (tCons te tNil)) Γ n Q := fun σ H A R k =>
  h σ H A _ fun x n1 v J ⟨i, e, q⟩ A1 x1 r1 => .inl ⟨i, congrArg (fun z => [z]) (dp_int (e ▸ r1.dp)), k _ _ _ J q A1 x1 (.int _)⟩
def seqOf : PD → Option (List PD)
  | .list ds => some ds
  | .tuple ds => some ds
  | _ => none
theorem ev_len (h : Ev g te Γ n fun x n1 => ∃ ds, seqOf x.pd = some ds ∧ Q (.d (.int ds.length)) n1) :
    Ev g (tCB (fun xs H Q => ∃ p ys, xs = [.ref p] ∧ (SqL g.K H p ys ∨ SqT g.K H p ys) ∧ Q (.int ys.length) H) (tCons te tNil)) Γ n Q := fun σ H A R k =>
  h σ H A _ fun x n1 v J ⟨ds, e, q⟩ A1 x1 r1 => by
    have h1 := r1.dp
    generalize x.pd = y at e h1
    cases y with
    | list es =>
      cases e
      obtain ⟨a, xs, rfl, h2, h3⟩ := dp_lst h1
      exact ⟨a, xs, rfl, .inl h2, k _ _ _ J q A1 x1 (by rw [dpa_len h3]; exact .int _)⟩
    | tuple es =>
      cases e
      obtain ⟨a, xs, rfl, h2, h3⟩ := dp_tup h1
      exact ⟨a, xs, rfl, .inr h2, k _ _ _ J q A1 x1 (by rw [dpa_len h3]; exact .int _)⟩
    | _ => cases e
theorem ev_tupOf (h : Ev g te Γ n fun x n1 => ∃ ds, x.pd = .list ds ∧ Q (.d (.tuple ds)) n1) :
    Ev g (tCB (fun xs H Q => ∃ p ys, xs = [.ref p] ∧ ((SqL g.K H p ys ∧ ∀ l, H l = none → Q (.ref l) (upd H l (.tup ys))) ∨ (SqT g.K H p ys ∧ Q (.ref p) H))) (tCons te tNil)) Γ n Q := fun σ H A R k =>
  h σ H A _ fun x n1 v J ⟨ds, e, q⟩ A1 x1 r1 => by
    obtain ⟨a, xs, rfl, h2, h3⟩ := dp_lst (e ▸ r1.dp)
    exact ⟨a, xs, rfl, .inl ⟨h2, fun l hl => k _ _ _ _ q (A1.new hl) (x1.trans (Ex.new hl)) (.tup (SqT.of upd_same) (dpa_mono (m := none) (Ex.new hl) h3))⟩⟩
theorem ev_tupRev (h : Ev g te Γ n fun x n1 => ∃ ds, x.pd = .list ds ∧ Q (.d (.tuple ds.reverse)) n1) : Ev g (RT.tTupRev g.K te) Γ n Q := fun σ H A R k =>
  h σ H A _ fun x n1 v J ⟨ds, e, q⟩ A1 x1 r1 => by
    obtain ⟨a, xs, rfl, h2, h3⟩ := dp_lst (e ▸ r1.dp)
    exact ⟨a, xs, rfl, h2, fun l hl => k _ _ _ _ q (A1.new hl) (x1.trans (Ex.new hl)) (.tup (SqT.of upd_same) (dpa_mono (m := none) (Ex.new hl) (dpa_rev h3)))⟩
theorem ev_all (h : Ev g te Γ n fun x n1 => ∃ bs : List Bool, x.pd = .list (bs.map PyData.bool) ∧ Q (.d (.bool (bs.all id))) n1) : Ev g (tCB (rAll g.K) (tCons te tNil)) Γ n Q := fun σ H A R k =>
  h σ H A _ fun x n1 v J ⟨bs, e, q⟩ A1 x1 r1 => by
    obtain ⟨a, xs, rfl, h2, h3⟩ := dp_lst (e ▸ r1.dp)
    rw [dpa_bools h3] at h2
    exact ⟨a, bs, rfl, h2, k _ _ _ J q A1 x1 (.bl _)⟩
theorem inI_eq (i : Int) : ∀ js : List Int, inV (.int i) (js.map V.int) = decide (i ∈ js)
  | [] => by simp [inV]
  | j :: r => by
    have ih := inI_eq i r
    unfold inV at ih ⊢
    rw [List.map_cons, List.any_cons, ih]
    by_cases h : j = i
    · subst h
      simp [eqV]
    · have h' : ¬ i = j := fun z => h z.symm
      simp [eqV, h, h']
/-- x in (a, b), ints -/
theorem ev_inI {neg : Bool} (ha : Ev g ta Γ n fun x n1 => Ev g tb Γ n1 fun y n2 => ∃ (i : Int) (js : List Int), x.pd = .int i ∧ y.pd = .tuple (js.map PyData.int) ∧ Q (.d (.bool (if neg then !decide (i ∈ js) else decide (i ∈ js)))) n2) :
    Ev g (tOp (rIn g.K neg) ta tb) Γ n Q := ev_bin ha fun x y n2 σ G H v u ⟨i, js, e1, e2, q⟩ A _ r1 r2 R k => by
  obtain ⟨a, xs, rfl, h2, h3⟩ := dp_tup (e2 ▸ r2.dp)
  have ev := dp_int (e1 ▸ r1.dp)
  have ex := dpa_ints h3
  subst ev
  subst ex
  have hin : inV (.int i) (js.map V.int) = decide (i ∈ js) := inI_eq i js
  refine ⟨a, _, rfl, .inr h2, rfl, by simp [flatV], k _ _ H q A (Ex.refl H) ?_⟩
  rw [hin]
  exact .bl _
end
/-! ### promises -/
/-- hands back data; what stood stands. i: the arguments as plain data -/
def spP (K : PySem.W.Frag) {ι : Type} (args : ι → List PD) (pre : ι → Prop) (res : ι → Rt → Prop) : Sp := fun vs H Q _ => ∃ i, DpAll K H vs (args i) ∧ pre i ∧ ∀ r v J, res i r → Ex none H J → RtOk K H J v r → Q v J
/-- .. or an error of the class at C, its field told by err -/
def spX (K : PySem.W.Frag) (C : Addr) (fld : Str) {ι : Type} (args : ι → List PD) (pre : ι → Prop) (res : ι → Rt → Prop) (err : ι → PD → Prop) : Sp := fun vs H Q E => ∃ i, DpAll K H vs (args i) ∧ pre i ∧ (∀ r v J, res i r → Ex none H J → RtOk K H J v r → Q v J) ∧
  ∀ x z d J, err i x → Ex none H J → H d = none → J d = some (.xd [(fld, z)]) → Dp K J z x → E (.ref C) (some d) J
/-- .. that draws: at most k draws more -/
def spM (K : PySem.W.Frag) (k : Nat) {ι : Type} (args : ι → List PD) (pre : ι → Prop) (res : ι → Rt → Prop) : Sp := fun vs H Q _ => ∃ a us i c n, vs = .ref a :: us ∧ DpAll K H us (args i) ∧ StM (some a) c n H ∧ CellsOk K H c ∧ n + k ≤ LIM ∧ pre i ∧
  ∀ r v J, res i r → Ex (some a) H J → StM (some a) c (n + k) J → RtOk K H J v r → Q v J
section
variable {g : En} {Γ : List Bnd} {n : Nat} {Q : Rt → Nat → Prop} {ta tb tc te : TE} {tt tu : TT} {t : TA} {ι : Type} {args : ι → List PD} {pre : ι → Prop} {res : ι → Rt → Prop} {err : ι → PD → Prop} {E : XK}
theorem ev_call (h : EvA g t Γ n fun ds n1 => ∃ i, ds = args i ∧ pre i ∧ ∀ r, res i r → Q r n1) : Ev g (tCall (spP g.K args pre res) [] E t) Γ n Q := fun σ H A R k =>
  h σ H A _ fun ds n1 vs J ⟨i, e, hp, hq⟩ A1 x1 r1 => by
    subst e
    refine ⟨i, by rw [List.append_nil]; exact r1, hp, fun r v L po x2 r2 => ?_⟩
    exact k r n1 v L (hq r po) (A1.growN x2) (x1.trans x2.none_to) (r2.back x1)
theorem ev_callX {C : Addr} {fld : Str} (h : EvA g t Γ n fun ds n1 => ∃ i, ds = args i ∧ pre i ∧ (∀ r, res i r → Q r n1) ∧ ∀ x, err i x → ∀ z d J, Ex g.m g.H0 J → g.H0 d = none → J d = some (.xd [(fld, z)]) → Dp g.K J z x → E (.ref C) (some d) J) :
    Ev g (tCall (spX g.K C fld args pre res err) [] E t) Γ n Q := fun σ H A R k =>
  h σ H A _ fun ds n1 vs J ⟨i, e, hp, hq, he⟩ A1 x1 r1 => by
    subst e
    refine ⟨i, by rw [List.append_nil]; exact r1, hp, fun r v L po x2 r2 => ?_, fun x z d L er x2 hd hx hz => ?_⟩
    · exact k r n1 v L (hq r po) (A1.growN x2) (x1.trans x2.none_to) (r2.back x1)
    · exact he x er z d L (A1.fr.trans x2.none_to) (A1.fr.back hd) hx hz
theorem ev_callM {i k : Nat} (hm : Γ[i]? = some .mr) (h : EvA g t Γ n fun ds n1 => ∃ i, ds = args i ∧ n1 + k ≤ LIM ∧ pre i ∧ ∀ r, res i r → Q r (n1 + k)) : Ev g (tCall (spM g.K k args pre res) [] E (tCons (tVar i) t)) Γ n Q := fun σ H A R kk => by
  obtain ⟨o, h1, a, h2, rfl⟩ := A.sl i _ hm
  refine ⟨.ref a, h1, ?_⟩
  refine h σ H A _ fun ds n1 vs J ⟨ix, e, hl, hp, hq⟩ A1 x1 r1 => ?_
  subst e
  refine ⟨a, vs, ix, g.c, n1, by rw [List.append_nil], r1, ?_, ?_, hl, hp, fun r v L po x2 s2 r2 => ?_⟩
  · rw [← h2]
    exact A1.st
  · obtain ⟨ns, e1, e2, e3⟩ := A1.ce a h2
    exact ⟨ns, e1, e2, A1.fr.sqL e3⟩
  · have x2' : Ex g.m J L := by rw [h2]; exact x2
    have s2' : StM g.m g.c (n1 + k) L := by rw [h2]; exact s2
    exact kk r _ v L (hq r po) (A1.grow x2' s2') (x1.trans x2') (r2.back x1)
/-! ### targets -/
def Gt (g : En) (gt : TG) (d : PD) (Γ : List Bnd) (n : Nat) (is : Nat → Prop) (QG : List Bnd → Prop) : Prop :=
  ∀ σ H v, At g Γ n σ H → Dp g.K H v d → nl d = true → ∀ R : L2.St → Hp → Prop, (∀ Γ' σ', QG Γ' → At g Γ' n σ' H → σ'.length = σ.length → (∀ k, ¬ is k → σ'[k]? = σ[k]?) → R σ' H) → gt v σ H R
def Gts (g : En) (gt : TGs) (ds : List PD) (Γ : List Bnd) (n : Nat) (is : Nat → Prop) (QG : List Bnd → Prop) : Prop :=
  ∀ σ H vs, At g Γ n σ H → DpAll g.K H vs ds → nlAll ds = true → ∀ R : L2.St → Hp → Prop, (∀ Γ' σ', QG Γ' → At g Γ' n σ' H → σ'.length = σ.length → (∀ k, ¬ is k → σ'[k]? = σ[k]?) → R σ' H) → gt vs σ H R
variable {is : Nat → Prop} {QG : List Bnd → Prop} {d : PD} {ds : List PD}
theorem gt_name {i : Nat} (q : QG (Γ.set i (.dat d))) (hi : is i := by first | trivial | decide | simp) : Gt g (gName i) d Γ n is QG := fun σ H v A hd hn R k =>
  k _ _ q (A.setD hd (.inl hn)) (List.length_set ..) fun j hj => List.getElem?_set_ne fun z => by
    subst z
    exact hj hi
theorem gts_nil (q : QG Γ) : Gts g gNil [] Γ n is QG := fun σ H vs A hd hn R k => by
  cases hd
  exact ⟨rfl, k _ _ q A rfl fun _ _ => rfl⟩
theorem gts_cons {t : TG} {u : TGs} (h : Gt g t d Γ n is fun Γ' => Gts g u ds Γ' n is QG) : Gts g (gCons t u) (d :: ds) Γ n is QG := fun σ H vs A hd hn R k => by
  rw [nlAll, Bool.and_eq_true] at hn
  cases hd with
  | cons h1 h2 =>
    refine ⟨_, _, rfl, ?_⟩
    exact h σ H _ A h1 hn.1 _ fun Γ' σ' q A' l1 f1 => q σ' H _ A' h2 hn.2 R fun Γ2 σ2 q2 A2 l2 f2 => k Γ2 σ2 q2 A2 (l2.trans l1) fun j hj => (f2 j hj).trans (f1 j hj)
theorem gt_tup {m : Nat} {u : TGs} (e : d = .tuple ds) (hl : ds.length = m) (h : Gts g u ds Γ n is QG) : Gt g (gTup g.K m u) d Γ n is QG := fun σ H v A hd hn R k => by
  subst e
  obtain ⟨a, xs, rfl, h1, h2⟩ := dp_tup hd
  refine ⟨a, xs, rfl, h1, (dpa_len h2).trans hl, ?_⟩
  exact h σ H xs A h2 (by rw [nl] at hn; exact hn) R k
/-! ### statements -/
def Sg (g : En) (ts : TS) (Γ : List Bnd) (n : Nat) (N : List Bnd → Nat → Prop) (Rr : Rt → Nat → Prop) : Prop :=
  ∀ D σ H, At g Γ n σ H → (∀ Γ' n' σ' J, N Γ' n' → At g Γ' n' σ' J → D.nx σ' J) → (∀ r n' v J, Rr r n' → Ex g.m g.H0 J → StM g.m g.c n' J → RtOk g.K g.H0 J v r → D.rt v J) → ts D σ H
variable {N : List Bnd → Nat → Prop} {Rr : Rt → Nat → Prop} {ts us : TS}
theorem Sg.imp {N' : List Bnd → Nat → Prop} (h : Sg g ts Γ n N Rr) (k : ∀ Γ' m, N Γ' m → N' Γ' m) : Sg g ts Γ n N' Rr := fun D σ H A kn kr => h D σ H A (fun Γ' n' σ' J z => kn Γ' n' σ' J (k _ _ z)) kr
theorem sg_seq (h : Sg g ts Γ n (fun Γ' n' => Sg g us Γ' n' N Rr) Rr) : Sg g (tSeq ts us) Γ n N Rr := fun D σ H A kn kr =>
  h { D with nx := us D } σ H A (fun Γ' n' σ' J z A' => z D σ' J A' kn kr) kr
theorem sg_next (q : N Γ n) : Sg g tNext Γ n N Rr := fun D σ H A kn kr => kn _ _ _ _ q A
theorem sg_ret (h : Ev g te Γ n Rr) : Sg g (tRet te) Γ n N Rr := fun D σ H A kn kr =>
  h σ H A _ fun r n' v J q A' x r1 => kr r n' v J q (A.fr.trans x) A'.st (r1.back A.fr)
theorem sg_if (h : EvT g tt Γ n fun b n1 => if b = true then Sg g ts Γ n1 N Rr else Sg g us Γ n1 N Rr) : Sg g (tIfS tt ts us) Γ n N Rr := fun D σ H A kn kr =>
  h σ H A _ fun b n1 J q A1 x1 => by
    cases b with
    | true =>
      show ts D σ J
      exact (show Sg g ts Γ n1 N Rr from q) D σ J A1 kn kr
    | false =>
      show us D σ J
      exact (show Sg g us Γ n1 N Rr from q) D σ J A1 kn kr
/-- name = data -/
theorem sg_dat {i : Nat} (h : Ev g te Γ n fun r n1 => nl r.pd = true ∧ N (Γ.set i (.dat r.pd)) n1) : Sg g (tAsg te (gName i)) Γ n N Rr := fun D σ H A kn kr =>
  h σ H A _ fun r n1 v J ⟨hn, q⟩ A1 x1 r1 => kn _ _ _ _ q (A1.setD r1.dp (.inl hn))
theorem At.trk {σ : L2.St} {H : Hp} (A : At g Γ n σ H) {j : Nat} {es : List PD} {q : Addr} (e : Γ[j]? = some (.own es)) (h : σ[j]? = some (some (.ref q))) : H q ≠ none := fun z => by
  obtain ⟨p, h1, _, ⟨vs, h2, _⟩, _⟩ := A.own e
  rw [h] at h1
  cases h1
  rw [z] at h2
  cases h2
/-- name = a new list -/
theorem sg_own {i : Nat} (h : Ev g te Γ n fun r n1 => ∃ es, r = .l es ∧ nlAll es = true ∧ N (Γ.set i (.own es)) n1) : Sg g (tAsg te (gName i)) Γ n N Rr := fun D σ H A kn kr =>
  h σ H A _ fun r n1 v J ⟨es, e, hn, q⟩ A1 x1 r1 => by
    subst e
    obtain ⟨p, rfl, hp, hl⟩ := r1
    exact kn _ _ _ _ q (A1.setL (A.fr.back hp) hl hn fun j xs _ e1 e2 => A.trk e1 e2 hp)
/-- a, b = two new lists in a tuple -/
theorem sg_ll {i j : Nat} (hij : i ≠ j) (h : Ev g te Γ n fun r n1 => ∃ as bs, r = .ll as bs ∧ nlAll as = true ∧ nlAll bs = true ∧ N ((Γ.set i (.own as)).set j (.own bs)) n1) :
    Sg g (tAsg te (gTup g.K 2 (gCons (gName i) (gCons (gName j) gNil)))) Γ n N Rr := fun D σ H A kn kr =>
  h σ H A _ fun r n1 v J ⟨as, bs, e, h1, h2, q⟩ A1 x1 r1 => by
    subst e
    obtain ⟨t, p, p', rfl, hs, hne, hp, hp', hl, hl'⟩ := r1
    refine ⟨t, _, rfl, hs, rfl, _, _, rfl, _, _, rfl, rfl, ?_⟩
    have A2 := A1.setL (i := i) (A.fr.back hp) hl h1 fun k xs _ e1 e2 => A.trk e1 e2 hp
    refine kn _ _ _ _ q (A2.setL (A.fr.back hp') hl' h2 fun k xs hk e1 e2 => ?_)
    by_cases hik : i = k
    · subst hik
      have hi : i < σ.length := by
        rcases Nat.lt_or_ge i σ.length with z | z
        · exact z
        · rw [List.getElem?_eq_none (by rw [List.length_set]; exact z)] at e2; cases e2
      rw [List.getElem?_set_self hi] at e2
      cases e2
      exact hne rfl
    · rw [List.getElem?_set_ne hik] at e1 e2
      exact A.trk e1 e2 hp'
/-- targets = data -/
theorem sg_unp {gt : TG} (h : Ev g te Γ n fun r n1 => nl r.pd = true ∧ Gt g gt r.pd Γ n1 (fun _ => True) fun Γ' => N Γ' n1) : Sg g (tAsg te gt) Γ n N Rr := fun D σ H A kn kr =>
  h σ H A _ fun r n1 v J ⟨hn, q⟩ A1 x1 r1 => q σ J v A1 r1.dp hn _ fun Γ' σ' z A' _ _ => kn _ _ _ _ z A'
/-- what a value makes of a slot -/
def Rt.bnd : Rt → Bnd
  | .l ds => .own ds
  | r => .dat r.pd
def Rt.fit : Rt → Bool
  | .l ds => nlAll ds
  | r => nl r.pd
theorem At.setR {σ : L2.St} {G J L : Hp} {i : Nat} {v : V} {r : Rt} (A : At g Γ n σ L) (x : Ex g.m g.H0 G) (y : Ex g.m J L) (h : RtOk g.K G J v r) (f : r.fit = true)
    (fresh : ∀ q j es, G q = none → j ≠ i → Γ[j]? = some (.own es) → σ[j]? ≠ some (some (.ref q))) : At g (Γ.set i r.bnd) n (σ.set i (some v)) L := by
  cases r with
  | l ds =>
    obtain ⟨p, rfl, hp, hl⟩ := h
    exact A.setL (x.back hp) (hl.mono y) f fun j es hj e => fresh p j es hp hj e
  | d d => exact A.setD (dp_mono y h) (.inl f)
  | o ds => exact A.setD (dp_mono y h.dp) (.inl f)
  | ll a b => exact A.setD (dp_mono y h.dp) (.inl f)
theorem sg_par {i j : Nat} (hij : i ≠ j) (h : Ev g ta Γ n fun x n1 => Ev g tb Γ n1 fun y n2 => x.fit = true ∧ y.fit = true ∧ N ((Γ.set i x.bnd).set j y.bnd) n2) : Sg g (tPar i j (tCons ta (tCons tb tNil))) Γ n N Rr := fun D σ H A kn kr =>
  h σ H A _ fun x n1 v J q1 A1 x1 r1 => q1 σ J A1 _ fun y n2 u L ⟨f1, f2, q⟩ A2 x2 r2 => by
    refine ⟨v, u, rfl, ?_⟩
    have B1 := A2.setR (i := i) A.fr x2 r1 f1 fun q k es hq _ e1 e2 => A.trk e1 e2 hq
    refine kn _ _ _ _ q (B1.setR (i := j) A1.fr (Ex.refl L) r2 f2 fun q k es hq hk e1 e2 => ?_)
    by_cases hik : i = k
    · subst hik
      have hi : i < σ.length := by
        rcases Nat.lt_or_ge i σ.length with z | z
        · exact z
        · rw [List.getElem?_eq_none (by rw [List.length_set]; exact z)] at e2; cases e2
      have hi' : i < Γ.length := by rw [← A.len]; exact hi
      rw [List.getElem?_set_self hi] at e2
      rw [List.getElem?_set_self hi'] at e1
      cases x with
      | l ds =>
        obtain ⟨p, rfl, _, ⟨vs, hv, _⟩⟩ := r1
        cases e2
        rw [hq] at hv
        cases hv
      | d d => cases e1
      | o ds => cases e1
      | ll a b => cases e1
    · rw [List.getElem?_set_ne hik] at e1 e2
      exact A1.trk e1 e2 hq
theorem sg_par3 {i j l : Nat} (hij : i ≠ j) (hil : i ≠ l) (hjl : j ≠ l)
    (h : Ev g ta Γ n fun x n1 => Ev g tb Γ n1 fun y n2 => Ev g tc Γ n2 fun z n3 => x.fit = true ∧ y.fit = true ∧ z.fit = true ∧ N (((Γ.set i x.bnd).set j y.bnd).set l z.bnd) n3) : Sg g (tPar3 i j l (tCons ta (tCons tb (tCons tc tNil)))) Γ n N Rr := fun D σ H A kn kr =>
  h σ H A _ fun x n1 v J q1 A1 x1 r1 => q1 σ J A1 _ fun y n2 u L q2 A2 x2 r2 => q2 σ L A2 _ fun z n3 w M ⟨f1, f2, f3, q⟩ A3 x3 r3 => by
    refine ⟨v, u, w, rfl, ?_⟩
    have B1 := A3.setR (i := i) A.fr (x2.trans x3) r1 f1 fun q k es hq _ e1 e2 => A.trk e1 e2 hq
    have key : ∀ (F : Hp) (k : Nat) (es : List PD) (q : Addr), Ex g.m J F → (Γ.set i x.bnd)[k]? = some (.own es) → (σ.set i (some v))[k]? = some (some (.ref q)) → F q ≠ none := fun F k es q xf e1 e2 => by
      by_cases hik : i = k
      · subst hik
        have hi : i < σ.length := by
          rcases Nat.lt_or_ge i σ.length with z | z
          · exact z
          · rw [List.getElem?_eq_none (by rw [List.length_set]; exact z)] at e2; cases e2
        have hi' : i < Γ.length := by rw [← A.len]; exact hi
        rw [List.getElem?_set_self hi] at e2
        rw [List.getElem?_set_self hi'] at e1
        cases x with
        | l ds =>
          obtain ⟨p, rfl, _, hv⟩ := r1
          cases e2
          obtain ⟨vs, hv, _⟩ := hv.mono xf
          rw [hv]
          exact fun z => by cases z
        | d d => cases e1
        | o ds => cases e1
        | ll a b => cases e1
      · rw [List.getElem?_set_ne hik] at e1 e2
        exact (A1.growN (Ex.refl J)).trk e1 e2 |> fun hz hz2 => hz (xf.back hz2)
    have B2 := B1.setR (i := j) A1.fr x3 r2 f2 fun q k es hq hk e1 e2 => key J k es q (Ex.refl J) e1 e2 hq
    refine kn _ _ _ _ q (B2.setR (i := l) A2.fr (Ex.refl M) r3 f3 fun q k es hq hk e1 e2 => ?_)
    by_cases hjk : j = k
    · subst hjk
      have hi : j < (σ.set i (some v)).length := by
        rcases Nat.lt_or_ge j (σ.set i (some v)).length with z | z
        · exact z
        · rw [List.getElem?_eq_none (by rw [List.length_set]; exact z)] at e2; cases e2
      have hi' : j < (Γ.set i x.bnd).length := by
        rw [List.length_set] at hi ⊢
        rw [← A.len]
        exact hi
      rw [List.getElem?_set_self hi] at e2
      rw [List.getElem?_set_self hi'] at e1
      cases y with
      | l ds =>
        obtain ⟨p, rfl, _, ⟨vs, hv, _⟩⟩ := r2
        cases e2
        rw [hq] at hv
        cases hv
      | d d => cases e1
      | o ds => cases e1
      | ll a b => cases e1
    · rw [List.getElem?_set_ne hjk] at e1 e2
      exact key L k es q x2 e1 e2 hq
/-- xs.append(e) -/
theorem sg_append {i : Nat} {xs : List PD} (e : Γ[i]? = some (.own xs)) (hl : xs.length < 100000) (h : Ev g te Γ n fun r n1 => nl r.pd = true ∧ N (Γ.set i (.own (xs ++ [r.pd]))) n1) :
    Sg g (tDrop (tBM g.K "list" rAppend (tVar i) (tCons te tNil))) Γ n N Rr := fun D σ H A kn kr => by
  obtain ⟨p, h1, h2, ⟨vs, h3, h4⟩, h5⟩ := A.own e
  refine ⟨.ref p, h1, .inl ⟨rfl, vs, SqL.of h3⟩, ?_⟩
  refine h σ H A _ fun r n1 v J ⟨hn, q⟩ A1 x1 r1 => ?_
  refine ⟨p, vs, v, rfl, rfl, x1.lst h3, ?_, ?_⟩
  · rw [dpa_len h4]
    exact small_line' hl
  · exact kn _ _ _ _ q (A1.put e h1 (dpa_app (dpa_mono x1 h4) (.cons r1.dp .nil)) (nlAll_append h5 (by rw [nlAll, hn] <;> rfl)))
/-- xs[k] = e -/
theorem sg_setL {i : Nat} {xs : List PD} {ti : TE} (e : Γ[i]? = some (.own xs)) (h : Ev g te Γ n fun r n1 => Ev g ti Γ n1 fun s n2 => ∃ k j, s.pd = .int k ∧ ixN xs.length k = some j ∧ nl r.pd = true ∧ N (Γ.set i (.own (xs.set j r.pd))) n2) :
    Sg g (tAsg te (gSub (tVar i) ti rSetL)) Γ n N Rr := fun D σ H A kn kr =>
  h σ H A _ fun r n1 v J q1 A1 x1 r1 => by
    obtain ⟨p, h1, h2, ⟨vs, h3, h4⟩, h5⟩ := A1.own e
    refine ⟨.ref p, h1, ?_⟩
    refine q1 σ J A1 _ fun s n2 w L ⟨k, j, e1, e2, hn, q⟩ A2 x2 r2 => ?_
    refine ⟨p, vs, k, j, rfl, dp_int (e1 ▸ r2.dp), x2.lst h3, by rw [dpa_len h4]; exact e2, ?_⟩
    refine kn _ _ _ _ q (A2.put e h1 (dpa_set j (dpa_mono x2 h4) (dp_mono x2 r1.dp)) (nlAll_iff.mpr fun d hd => ?_))
    rcases List.mem_or_eq_of_mem_set hd with z | z
    · exact nlAll_iff.mp h5 d z
    · rw [z]
      exact hn
end
/-! ### the rule for xs[k] op= e, xs a list -/
def rGetL (K : PySem.W.Frag) : V → V → Hp → VK → Prop := fun o y H Q => ∃ p xs, ∃ (k : Nat), ∃ v, o = .ref p ∧ y = .int k ∧ SqL K H p xs ∧ xs[k]? = some v ∧ Q v H
section
variable {g : En} {Γ : List Bnd} {n : Nat} {N : List Bnd → Nat → Prop} {Rr : Rt → Nat → Prop} {te ti : TE}
theorem sg_augL {i : Nat} {xs : List PD} {f : Int → Int → Int} (e : Γ[i]? = some (.own xs)) (h : Ev g ti Γ n fun s n1 => ∃ (j : Nat) (a : Int), s.pd = .int j ∧ xs[j]? = some (.int a) ∧ Ev g te Γ n1 fun r n2 => ∃ b, r.pd = .int b ∧ N (Γ.set i (.own (xs.set j (.int (f a b))))) n2) :
    Sg g (tAugS (tVar i) ti te (rGetL g.K) (ipI f) rSetL) Γ n N Rr := fun D σ H A kn kr => by
  obtain ⟨p, h1, h2, ⟨vs, h3, h4⟩, h5⟩ := A.own e
  refine ⟨.ref p, h1, ?_⟩
  refine h σ H A _ fun s n1 w J ⟨j, a, e1, e3, q1⟩ A1 x1 r1 => ?_
  have ew := dp_int (e1 ▸ r1.dp)
  obtain ⟨u, hu, hud⟩ := dpa_get h4 e3
  have eu := dp_int hud
  subst eu
  have e2 : ixN vs.length (j : Int) = some j := by
    have hj : j < vs.length := by
      rcases Nat.lt_or_ge j vs.length with z | z
      · exact z
      · rw [List.getElem?_eq_none z] at hu; cases hu
    unfold ixN
    rw [if_pos (by omega), if_pos (by omega)]
    simp
  refine ⟨p, vs, j, .int a, rfl, ew, SqL.of (x1.lst h3), hu, ?_⟩
  refine q1 σ J A1 _ fun r n2 v L ⟨b, e4, q⟩ A2 x2 r2 => ?_
  refine ⟨a, b, rfl, dp_int (e4 ▸ r2.dp), ?_⟩
  refine ⟨p, vs, (j : Int), j, rfl, ew, (x1.trans x2).lst h3, e2, ?_⟩
  refine kn _ _ _ _ q (A2.put e h1 (dpa_set j (dpa_mono (x1.trans x2) h4) (.int _)) (nlAll_iff.mpr fun d hd => ?_))
  rcases List.mem_or_eq_of_mem_set hd with z | z
  · exact nlAll_iff.mp h5 d z
  · rw [z] <;> rfl
end
section
variable {g : En} {Γ : List Bnd} {n : Nat} {Q : Rt → Nat → Prop} {ta tb tc te : TE} {tt : TT} {N : List Bnd → Nat → Prop} {Rr : Rt → Nat → Prop} {ts : TS} {gt : TG}
/-! ### loops -/
abbrev En.pinned (g : En) (v : V) (d : PD) : En := { g with pins := (v, d) :: g.pins }
theorem At.unpin {v : V} {d : PD} {σ : L2.St} {H : Hp} (A : At (g.pinned v d) Γ n σ H) : At g Γ n σ H where
  len := A.len
  fr := A.fr
  sl := A.sl
  ap := A.ap
  st := A.st
  ce := A.ce
  pin := fun p hp => A.pin p (List.mem_cons_of_mem _ hp)
  md := A.md
theorem At.pinned {v : V} {d : PD} {σ : L2.St} {H : Hp} (A : At g Γ n σ H) (h : Dp g.K H v d) (hn : nl d = true) : At (g.pinned v d) Γ n σ H where
  len := A.len
  fr := A.fr
  sl := A.sl
  ap := A.ap
  st := A.st
  ce := A.ce
  pin := fun p hp => by
    rcases List.mem_cons.mp hp with e | hp
    · rw [e]
      exact ⟨hn, h⟩
    · exact A.pin p hp
  md := A.md
/-- for targets in a tuple -/
theorem sg_forT (h : Ev g te Γ n fun r n1 => ∃ ds, r.pd = .tuple ds ∧ nlAll ds = true ∧ ∃ Iv : Nat → List Bnd → Nat → Prop, Iv 0 Γ n1 ∧
      (∀ v i d Γ' n', ds[i]? = some d → Iv i Γ' n' → Gt (g.pinned v (.tuple ds)) gt d Γ' n' (fun _ => True) fun Γ2 => Sg (g.pinned v (.tuple ds)) ts Γ2 n' (Iv (i + 1)) Rr) ∧ ∀ Γ' n', Iv ds.length Γ' n' → N Γ' n') :
    Sg g (tFor (iTup g.K te) gt ts) Γ n N Rr := fun D σ H A kn kr =>
  h σ H A _ fun r n1 v J ⟨ds, e, hn, Iv, h0, hs, hd⟩ A1 x1 r1 => by
    have hd1 := e ▸ r1.dp
    obtain ⟨a, xs, rfl, hq, hx⟩ := dp_tup hd1
    have hnt : nl (.tuple ds) = true := by rw [nl]; exact hn
    refine ⟨a, rfl, ⟨xs, hq⟩, ?_⟩
    refine ⟨fun i m τ L => m = ds.length - i ∧ i ≤ ds.length ∧ ∃ Γ' n', Iv i Γ' n' ∧ At (g.pinned (.ref a) (.tuple ds)) Γ' n' τ L, ⟨ds.length, by simp, Nat.zero_le _, Γ, n1, h0, A1.pinned hd1 hnt⟩, ?_⟩
    rintro i m τ L ⟨rfl, hi, Γ', n', hI, B⟩
    obtain ⟨_, hdp⟩ := B.pin (.ref a, .tuple ds) List.mem_cons_self
    obtain ⟨a', ys, ea, hy1, hy2⟩ := dp_tup hdp
    cases ea
    have hlen := dpa_len hy2
    by_cases hlt : i < ds.length
    · refine .inr ⟨⟨ys, ys[i]'(by omega), hy1, List.getElem?_eq_getElem _⟩, fun τ' L' => ∃ Γ2 n2, Iv (i + 1) Γ2 n2 ∧ At (g.pinned (.ref a) (.tuple ds)) Γ2 n2 τ' L', fun τ' L' ⟨Γ2, n2, q2, B2⟩ => ⟨ds.length - (i + 1), by omega, rfl, hlt, Γ2, n2, q2, B2⟩, fun x L' hy => ?_⟩
      obtain ⟨rfl, hy⟩ := hy
      obtain ⟨d, hd1, hd2⟩ := dpa_got hy2 (hy ys hy1)
      refine hs (.ref a) i d Γ' n' hd1 hI τ _ x B hd2 (nlAll_get hn hd1) _ fun Γ2 σ2 q2 B2 _ _ => ?_
      exact q2 _ σ2 _ B2 (fun Γ3 n3 σ3 J3 q3 B3 => ⟨Γ3, n3, q3, B3⟩) kr
    · have e : i = ds.length := by omega
      subst e
      exact .inl ⟨⟨ys, hy1, by omega⟩, kn Γ' n' τ L (hd Γ' n' hI) B.unpin⟩
/-- for name in range(k) -/
theorem sg_forR (h : Ev g te Γ n fun r n1 => ∃ k : Nat, r.pd = .int k ∧ k ≤ 1000000 ∧ ∃ Iv : Nat → List Bnd → Nat → Prop, Iv 0 Γ n1 ∧
      (∀ (i : Nat) Γ' n', i < k → Iv i Γ' n' → Gt g gt (.int i) Γ' n' (fun _ => True) fun Γ2 => Sg g ts Γ2 n' (Iv (i + 1)) Rr) ∧ ∀ Γ' n', Iv k Γ' n' → N Γ' n') :
    Sg g (tFor (iRng1 (tCons te tNil)) gt ts) Γ n N Rr := fun D σ H A kn kr =>
  h σ H A _ fun r n1 v J ⟨k, e, hk, Iv, h0, hs, hd⟩ A1 x1 r1 => by
    refine ⟨(k : Int), congrArg (fun z => [z]) (dp_int (e ▸ r1.dp)), by omega, by omega, ?_⟩
    rw [Int.toNat_natCast]
    refine ⟨fun i m τ L => m = k - i ∧ i ≤ k ∧ ∃ Γ' n', Iv i Γ' n' ∧ At g Γ' n' τ L, ⟨k, by simp, Nat.zero_le _, Γ, n1, h0, A1⟩, ?_⟩
    rintro i m τ L ⟨rfl, hi, Γ', n', hI, B⟩
    by_cases hlt : i < k
    · refine .inr ⟨hlt, fun τ' L' => ∃ Γ2 n2, Iv (i + 1) Γ2 n2 ∧ At g Γ2 n2 τ' L', fun τ' L' ⟨Γ2, n2, q2, B2⟩ => ⟨k - (i + 1), by omega, rfl, hlt, Γ2, n2, q2, B2⟩, fun x L' hy => ?_⟩
      obtain ⟨rfl, rfl⟩ := hy
      refine hs i Γ' n' hlt hI τ _ _ B (by rw [Int.zero_add]; exact .int _) rfl _ fun Γ2 σ2 q2 B2 _ _ => ?_
      exact q2 _ σ2 _ B2 (fun Γ3 n3 σ3 J3 q3 B3 => ⟨Γ3, n3, q3, B3⟩) kr
    · have e : i = k := by omega
      subst e
      exact .inl ⟨Nat.le_refl _, kn Γ' n' τ L (hd Γ' n' hI) B⟩
/-! ### comprehensions -/
structure Walks (g : En) (J : Hp) (it : It) (ds : List PD) : Prop where
  go : ∀ i L, i < ds.length → Ex g.m J L → it.go i L
  stop : ∀ L, Ex g.m J L → it.stop ds.length L
  yld : ∀ i L x M, i < ds.length → Ex g.m J L → it.yld i L x M → Ex none L M ∧ ∃ d, ds[i]? = some d ∧ Dp g.K M x d
def Src (g : En) (wi : TI) (Γ : List Bnd) (n : Nat) (QS : List PD → Nat → Prop) : Prop :=
  ∀ σ H, At g Γ n σ H → ∀ R : It → Hp → Prop, (∀ ds n' J it, QS ds n' → At g Γ n' σ J → Ex g.m H J → Walks g J it ds → R it J) → wi σ H R
variable {QS : List PD → Nat → Prop}
theorem src_tup (h : Ev g te Γ n fun r n1 => ∃ ds, r.pd = .tuple ds ∧ QS ds n1) : Src g (iTup g.K te) Γ n QS := fun σ H A R k =>
  h σ H A _ fun r n1 v J ⟨ds, e, q⟩ A1 x1 r1 => by
    obtain ⟨a, xs, rfl, hq, hx⟩ := dp_tup (e ▸ r1.dp)
    have hl := dpa_len hx
    refine ⟨a, rfl, ⟨xs, hq⟩, k ds n1 J _ q A1 x1 ⟨fun i L hi x => ⟨xs, xs[i]'(by omega), x.sqT hq, List.getElem?_eq_getElem _⟩, fun L x => ⟨xs, x.sqT hq, by omega⟩, fun i L w M hi x y => ?_⟩⟩
    obtain ⟨rfl, y⟩ := y
    obtain ⟨d, h1, h2⟩ := dpa_got hx (y xs (x.sqT hq))
    exact ⟨Ex.refl _, d, h1, dp_mono x h2⟩
theorem src_list (h : Ev g te Γ n fun r n1 => ∃ ds, r.pd = .list ds ∧ QS ds n1) : Src g (iList g.K te) Γ n QS := fun σ H A R k =>
  h σ H A _ fun r n1 v J ⟨ds, e, q⟩ A1 x1 r1 => by
    obtain ⟨a, xs, rfl, hq, hx⟩ := dp_lst (e ▸ r1.dp)
    have hl := dpa_len hx
    refine ⟨a, rfl, ⟨xs, hq⟩, k ds n1 J _ q A1 x1 ⟨fun i L hi x => ⟨xs, xs[i]'(by omega), x.sqL hq, List.getElem?_eq_getElem _⟩, fun L x => ⟨xs, x.sqL hq, by omega⟩, fun i L w M hi x y => ?_⟩⟩
    obtain ⟨rfl, y⟩ := y
    obtain ⟨d, h1, h2⟩ := dpa_got hx (y xs (x.sqL hq))
    exact ⟨Ex.refl _, d, h1, dp_mono x h2⟩
theorem src_range (h : Ev g te Γ n fun r n1 => ∃ k : Nat, r.pd = .int k ∧ k ≤ 1000000 ∧ QS ((List.range k).map fun i => .int (i : Nat)) n1) : Src g (iRng1 (tCons te tNil)) Γ n QS := fun σ H A R kk =>
  h σ H A _ fun r n1 v J ⟨k, e, hk, q⟩ A1 x1 r1 => by
    refine ⟨(k : Int), congrArg (fun z => [z]) (dp_int (e ▸ r1.dp)), by omega, by omega, ?_⟩
    rw [Int.toNat_natCast]
    have hl : ((List.range k).map fun i => PyData.int (i : Nat)).length = k := by simp
    refine kk _ n1 J _ q A1 x1 ⟨fun i L hi x => (by rw [hl] at hi; exact hi), fun L x => (by rw [hl]; exact Nat.le_refl _), fun i L w M hi x y => ?_⟩
    obtain ⟨rfl, rfl⟩ := y
    rw [hl] at hi
    refine ⟨Ex.refl _, .int (i : Nat), by simp [hi], ?_⟩
    rw [Int.zero_add]
    exact .int _
def pairs (as bs : List PD) : List PD := (as.zip bs).map fun p => .tuple [p.1, p.2]
theorem src_zip (h : Ev g ta Γ n fun r n1 => Ev g tb Γ n1 fun s n2 => ∃ as bs, r.pd = .list as ∧ s.pd = .list bs ∧ QS (pairs as bs) n2) : Src g (iZip g.K (tCons ta (tCons tb tNil))) Γ n QS := fun σ H A R kk =>
  h σ H A _ fun r n1 v J q1 A1 x1 r1 => q1 σ J A1 _ fun s n2 u L ⟨as, bs, e1, e2, q⟩ A2 x2 r2 => by
    obtain ⟨a, xs, rfl, ha, hx⟩ := dp_lst (e1 ▸ dp_mono x2 r1.dp)
    obtain ⟨b, ys, rfl, hb, hy⟩ := dp_lst (e2 ▸ r2.dp)
    have hlx := dpa_len hx
    have hly := dpa_len hy
    have hl : (pairs as bs).length = min as.length bs.length := by simp [pairs]
    refine ⟨a, b, xs, ys, rfl, ha, hb, kk _ n2 L _ q A2 (x1.trans x2) ⟨fun i M hi x => ?_, fun M x => ⟨xs, ys, x.sqL ha, x.sqL hb, by omega⟩, fun i M w P hi x y => ?_⟩⟩
    · rw [hl] at hi
      exact ⟨xs, ys, xs[i]'(by omega), ys[i]'(by omega), x.sqL ha, x.sqL hb, List.getElem?_eq_getElem _, List.getElem?_eq_getElem _⟩
    · rw [hl] at hi
      obtain ⟨T, p, p', rfl, hT, rfl, f1, f2⟩ := y
      obtain ⟨d, h1, h2⟩ := dpa_got hx (f1 xs (x.sqL ha))
      obtain ⟨d', h3, h4⟩ := dpa_got hy (f2 ys (x.sqL hb))
      refine ⟨Ex.new hT, .tuple [d, d'], ?_, ?_⟩
      · have hi1 : i < as.length := by omega
        have hi2 : i < bs.length := by omega
        rw [List.getElem?_eq_getElem hi1] at h1
        rw [List.getElem?_eq_getElem hi2] at h3
        cases h1
        cases h3
        have hz : (as.zip bs)[i]? = some (as[i], bs[i]) := by
          rw [List.getElem?_zip_eq_some]
          exact ⟨List.getElem?_eq_getElem hi1, List.getElem?_eq_getElem hi2⟩
        simp only [pairs, List.getElem?_map, hz, Option.map_some]
      · exact .tup (SqT.of upd_same) (dpa_mono (m := none) (Ex.new hT) (.cons (dp_mono x h2) (.cons (dp_mono x h4) .nil)))
def numbered (as : List PD) : List PD := (List.range as.length).map fun i => .tuple [.int (i : Nat), as.getD i .none]
theorem src_enum (h : Ev g te Γ n fun r n1 => ∃ as, r.pd = .list as ∧ QS (numbered as) n1) : Src g (iEnum g.K (tCons te tNil)) Γ n QS := fun σ H A R kk =>
  h σ H A _ fun r n1 v J ⟨as, e, q⟩ A1 x1 r1 => by
    obtain ⟨a, xs, rfl, ha, hx⟩ := dp_lst (e ▸ r1.dp)
    have hlx := dpa_len hx
    have hl : (numbered as).length = as.length := by simp [numbered]
    refine ⟨a, xs, rfl, ha, kk _ n1 J _ q A1 x1 ⟨fun i M hi x => ?_, fun M x => ⟨xs, x.sqL ha, by omega⟩, fun i M w P hi x y => ?_⟩⟩
    · rw [hl] at hi
      exact ⟨xs, xs[i]'(by omega), x.sqL ha, List.getElem?_eq_getElem _⟩
    · rw [hl] at hi
      obtain ⟨T, p, rfl, hT, rfl, f1⟩ := y
      obtain ⟨d, h1, h2⟩ := dpa_got hx (f1 xs (x.sqL ha))
      refine ⟨Ex.new hT, .tuple [.int (i : Nat), d], ?_, ?_⟩
      · have hg : as.getD i .none = d := by rw [List.getD_eq_getElem?_getD, h1] <;> rfl
        simp only [numbered, List.getElem?_map, List.getElem?_range hi, Option.map_some, hg]
      · exact .tup (SqT.of upd_same) (dpa_mono (m := none) (Ex.new hT) (.cons (.int _) (.cons (dp_mono x h2) .nil)))
def wipeG (Γ : List Bnd) : List Nat → List Bnd
  | [] => Γ
  | v :: vs => (wipeG Γ vs).set v .no
theorem At.wiped {σ : L2.St} {H : Hp} (A : At g Γ n σ H) : ∀ vs : List Nat, At g (wipeG Γ vs) n (wipe σ vs) H
  | [] => A
  | v :: vs => (At.wiped A vs).forget
theorem wipe_get {σ : L2.St} : ∀ (vs : List Nat) (k : Nat), (wipe σ vs)[k]? = if k ∈ vs ∧ k < σ.length then some none else σ[k]?
  | [], k => by simp [wipe]
  | v :: vs, k => by
    unfold wipe
    have ih := wipe_get (σ := σ) vs k
    by_cases h : v = k
    · subst h
      by_cases hl : v < σ.length
      · rw [List.getElem?_set_self (by rw [wipe_length]; exact hl), if_pos ⟨List.mem_cons_self, hl⟩]
      · rw [List.getElem?_eq_none (by rw [List.length_set, wipe_length]; omega), if_neg (fun z => hl z.2), List.getElem?_eq_none (by omega)]
    · rw [List.getElem?_set_ne h, ih]
      have hm : k ∈ v :: vs ↔ k ∈ vs := by
        rw [List.mem_cons]
        exact ⟨fun z => z.resolve_left fun e => h e.symm, .inr⟩
      simp only [hm]
theorem wipe_eq {σ τ : L2.St} {vs : List Nat} (hl : τ.length = σ.length) (h : ∀ k, ¬ k ∈ vs → τ[k]? = (wipe σ vs)[k]?) : wipe τ vs = wipe σ vs := by
  apply List.ext_getElem?
  intro k
  rw [wipe_get, wipe_get]
  by_cases hk : k ∈ vs
  · by_cases hk2 : k < σ.length
    · rw [if_pos ⟨hk, by rw [hl]; exact hk2⟩, if_pos ⟨hk, hk2⟩]
    · rw [if_neg (fun z => hk2 (hl ▸ z.2)), if_neg (fun z => hk2 z.2), List.getElem?_eq_none (by omega), List.getElem?_eq_none (by omega)]
  · rw [if_neg (fun z => hk z.1), if_neg (fun z => hk z.1), h k hk, wipe_get, if_neg (fun z => hk z.1)]
/-- a list that no slot has is changed -/
theorem At.putOut {σ : L2.St} {H : Hp} {D : Addr} {ys ws : List V} (A : At g Γ n σ H) (hp : H D = some (.lst ys)) (h0 : g.H0 D = none)
    (hs : ∀ (j : Nat) (es : List PD), Γ[j]? = some (.own es) → σ[j]? ≠ some (some (.ref D))) : At g Γ n σ (upd H D (.lst ws)) := by
  have neH : ∀ {b : Addr} {o : HO}, g.H0 b = some o → b ≠ D := fun {b o} q z => by rw [z, h0] at q; cases q
  have hfr : Ex g.m g.H0 (upd H D (.lst ws)) := fun a o q => by
    rw [upd_ne (neH q)]
    exact A.fr a o q
  refine ⟨A.len, hfr, fun j b q => ?_, A.ap, fun a ea => ?_, A.ce, fun q hq => ⟨(A.pin q hq).1, Dp.put' hp _ _ (A.pin q hq).1 (A.pin q hq).2⟩, A.md⟩
  · obtain ⟨o, o1, o2⟩ := A.sl j b q
    refine ⟨o, o1, ?_⟩
    cases b with
    | no => trivial
    | dat x =>
      obtain ⟨v, ev, hv, hs⟩ := o2
      refine ⟨v, ev, ?_, hs⟩
      rcases hs with hs | hs
      · exact Dp.put' hp _ _ hs hv
      · exact dp_mono hfr hs
    | own xs =>
      obtain ⟨r, er, hr, ⟨us, hu1, hu2⟩, hx⟩ := o2
      subst er
      have nr : r ≠ D := fun z => by
        subst z
        exact hs j xs q o1
      exact ⟨r, rfl, hr, ⟨us, by rw [upd_ne nr]; exact hu1, DpAll.put' hp _ _ hx hu2⟩, hx⟩
    | mr => exact o2
  · obtain ⟨l, s, r, h, z⟩ := A.st a ea
    exact ⟨l, s, r, by rw [upd_ne (ne_of h hp (by intro w; cases w))]; exact h, z⟩
theorem ev_lc {wi : TI} {vs : List Nat} (h : Src g wi Γ n fun ds n1 => nlAll ds = true ∧ ∃ Iv : Nat → List PD → Nat → Prop, Iv 0 [] n1 ∧
      (∀ i d acc n2, ds[i]? = some d → Iv i acc n2 → Gt g gt d (wipeG Γ vs) n2 (fun k => k ∈ vs) fun Γ' => EvT g tt Γ' n2 fun b n3 =>
        if b = true then Ev g te Γ' n3 fun r n4 => nl r.pd = true ∧ acc.length < 100000 ∧ Iv (i + 1) (acc ++ [r.pd]) n4 else Iv (i + 1) acc n3) ∧ ∀ acc n2, Iv ds.length acc n2 → nlAll acc = true → Q (.l acc) n2) :
    Ev g (tLc wi gt tt te vs) Γ n Q := fun σ H A R kk =>
  h σ H A _ fun ds n1 J it ⟨hn, Iv, h0, hs, hd⟩ A1 x1 W => fun D hD => by
    have hD0 : g.H0 D = none := A1.fr.back hD
    have hDs : ∀ (j : Nat) (es : List PD), Γ[j]? = some (.own es) → σ[j]? ≠ some (some (.ref D)) := fun j es e1 e2 => A1.trk e1 e2 hD
    refine ⟨fun i m L => m = ds.length - i ∧ i ≤ ds.length ∧ ∃ acc n2, Iv i acc n2 ∧ At g Γ n2 σ L ∧ Ex g.m J L ∧ Lst g.K L D acc ∧ nlAll acc = true, ⟨ds.length, by simp, Nat.zero_le _, [], n1, h0, A1.new hD, Ex.new hD, ⟨[], upd_same, .nil⟩, rfl⟩, ?_⟩
    rintro i m L ⟨rfl, hi, acc, n2, hI, B, x2, hL, hna⟩
    by_cases hlt : i < ds.length
    · refine .inr ⟨W.go i L hlt x2, fun M => ∃ acc n2, Iv (i + 1) acc n2 ∧ At g Γ n2 σ M ∧ Ex g.m J M ∧ Lst g.K M D acc ∧ nlAll acc = true, fun M q => ⟨ds.length - (i + 1), by omega, rfl, hlt, q⟩, fun x M hy => ?_⟩
      obtain ⟨x3, d, h1, h2⟩ := W.yld i L x M hlt x2 hy
      have B1 := B.growN x3
      refine hs i d acc n2 h1 hI _ M x (B1.wiped vs) h2 (nlAll_get hn h1) _ fun Γ' σ2 q2 B2 hl2 hf2 => ?_
      refine ⟨wipe_eq (by rw [hl2, wipe_length]) hf2, ?_⟩
      refine q2 σ2 M B2 _ fun b n3 P q3 B3 x4 => ?_
      have y3 : Ex g.m L P := x3.none_to.trans x4
      cases b with
      | false =>
        exact ⟨acc, n3, q3, B.grow y3 B3.st, x2.trans y3, hL.mono y3, hna⟩
      | true =>
        show te σ2 P _
        refine (show Ev g te Γ' n3 _ from q3) σ2 P B3 _ fun r n4 v U ⟨hr, hlen, q4⟩ B4 x5 r4 => ?_
        have y4 : Ex g.m L U := y3.trans x5
        obtain ⟨ys, hy1, hy2⟩ := hL.mono y4
        refine ⟨ys, hy1, by rw [dpa_len hy2]; exact small_line' hlen, acc ++ [r.pd], n4, q4, (B.grow y4 B4.st).putOut hy1 hD0 hDs, ?_, ⟨_, upd_same, ?_⟩, nlAll_append hna (by rw [nlAll, hr] <;> rfl)⟩
        · intro a o e
          rw [upd_ne (ne_of_none e hD)]
          exact (x2.trans y4) a o e
        · exact DpAll.put' hy1 _ _ (nlAll_append hna (by rw [nlAll, hr] <;> rfl)) (dpa_app hy2 (.cons r4.dp .nil))
    · have e : i = ds.length := by omega
      subst e
      exact .inl ⟨W.stop L x2, kk _ n2 _ L (hd acc n2 hI hna) B (x1.trans x2) ⟨D, rfl, x1.back hD, hL⟩⟩
theorem et_yes {QT : Bool → Nat → Prop} (q : QT true n) : EvT g tYes Γ n QT := fun σ H A R k => k true n H q A (Ex.refl H)
/-- [f(x) for x in ..] -/
theorem ev_map {wi : TI} {vs : List Nat} (f : PD → PD) (h : Src g wi Γ n fun ds n1 => nlAll ds = true ∧ ds.length ≤ 100000 ∧
      (∀ d ∈ ds, Gt g gt d (wipeG Γ vs) n1 (fun k => k ∈ vs) fun Γ' => Ev g te Γ' n1 fun r n2 => n2 = n1 ∧ nl r.pd = true ∧ r.pd = f d) ∧ (nlAll (ds.map f) = true → Q (.l (ds.map f)) n1)) :
    Ev g (tLc wi gt tYes te vs) Γ n Q := ev_lc fun σ H A R k => h σ H A R fun ds n1 J it ⟨hn, hl, hs, hd⟩ => k ds n1 J it ⟨hn, fun i acc m => m = n1 ∧ acc = (ds.take i).map f, ⟨rfl, by simp⟩, fun i d acc n2 hi ⟨e1, e2⟩ => by
      subst e1
      have hmem := List.mem_of_getElem? hi
      intro σ H v A hd hn R k
      refine hs d hmem σ H v A hd hn R fun Γ' σ' q A' l1 f1 => k Γ' σ' (et_yes ?_) A' l1 f1
      refine q.imp fun r m ⟨h1, h2, h3⟩ => ⟨h2, ?_, h1, ?_⟩
      · have hlt : i < ds.length := by
          rcases Nat.lt_or_ge i ds.length with z | z
          · exact z
          · rw [List.getElem?_eq_none z] at hi; cases hi
        rw [e2, List.length_map, List.length_take]
        omega
      · rw [e2, List.take_add_one, hi, List.map_append, h3]
        rfl,
    fun acc n2 ⟨e1, e2⟩ hna => by
      subst e1
      rw [List.take_length] at e2
      subst e2
      exact hd hna⟩
/-! ### pop ahead of the rest -/
def EvP (g : En) (te : TE) (Γ : List Bnd) (n : Nat) (QP : Int → List Bnd → Nat → Prop) : Prop :=
  ∀ σ H, At g Γ n σ H → ∀ R : VK, (∀ i Γ' n' J, QP i Γ' n' → At g Γ' n' σ J → R (.int i) J) → te σ H R
theorem evp_pop {i : Nat} {xs : List PD} {QP : Int → List Bnd → Nat → Prop} (e : Γ[i]? = some (.own xs)) (h : ∃ ds a, xs[xs.length - 1]? = some (.tuple (.int a :: ds)) ∧ QP a (Γ.set i (.own xs.dropLast)) n) :
    EvP g (tOp (rIxT g.K) (tBM0 g.K "list" rPop (tVar i)) (tC (.int 0))) Γ n QP := fun σ H A R k => by
  obtain ⟨ds, a, h1, q⟩ := h
  obtain ⟨p, h2, h3, ⟨vs, h4, h5⟩, h6⟩ := A.own e
  refine ⟨.ref p, h2, .inl ⟨rfl, vs, SqL.of h4⟩, ?_⟩
  obtain ⟨v, h7, h8⟩ := dpa_get h5 h1
  have hlen := dpa_len h5
  refine ⟨p, vs, v, rfl, rfl, h4, by rw [hlen]; exact h7, ?_⟩
  have A2 : At g (Γ.set i (.own xs.dropLast)) n σ (upd H p (.lst vs.dropLast)) := by
    refine A.put e h2 ?_ (nlAll_iff.mpr fun d hd => nlAll_iff.mp h6 d (List.dropLast_subset _ hd))
    rw [List.dropLast_eq_take, List.dropLast_eq_take, hlen]
    exact dpa_take _ h5
  have h9 := Dp.put' (o := .lst vs.dropLast) h4 _ _ (nlAll_get h6 h1) h8
  obtain ⟨b, us, rfl, h10, h11⟩ := dp_tup h9
  cases h11 with
  | cons h12 h13 =>
    cases h12
    exact ⟨b, _, 0, _, rfl, rfl, h10, atI_nat (j := 0) rfl, k a _ _ _ q A2⟩
theorem evp_add {QP : Int → List Bnd → Nat → Prop} (h : EvP g ta Γ n fun i Γ1 n1 => Ev g tb Γ1 n1 fun y n2 => ∃ j, y.pd = .int j ∧ QP (i + j) Γ1 n2) : EvP g (tOp (rI0 fun i j => .int (i + j)) ta tb) Γ n QP := fun σ H A R k =>
  h σ H A _ fun i Γ1 n1 J q A1 => q σ J A1 _ fun y n2 u L ⟨j, e, q2⟩ A2 x2 r2 => ⟨i, j, rfl, dp_int (e ▸ r2.dp), k _ _ _ _ q2 A2⟩
theorem sg_datP {i : Nat} (h : EvP g te Γ n fun a Γ' n' => N (Γ'.set i (.dat (.int a))) n') : Sg g (tAsg te (gName i)) Γ n N Rr := fun D σ H A kn kr =>
  h σ H A _ fun a Γ' n' J q A1 => kn _ _ _ _ q (A1.setD (.int a) (.inl rfl))
/-! ### a def as a whole -/
theorem at_start {K : PySem.W.Frag} {c : Addr} {H : Hp} {vs : List V} {ds : List PD} {names : List Str} (h : DpAll K H vs ds) (hl : ds.length ≤ names.length) :
    At ⟨K, none, c, H, []⟩ (ds.map Bnd.dat ++ List.replicate (names.length - ds.length) .no) 0 (L2.start names vs) H := by
  have hlen := dpa_len h
  refine ⟨by unfold L2.start; simp [hlen], Ex.refl H, fun i b e => ?_, fun i j as bs p hij e1 => ?_, fun a e => (nomatch e), fun a e => (nomatch e), fun p hp => absurd hp (List.not_mem_nil), fun a e => (nomatch e)⟩
  · unfold L2.start
    by_cases hi : i < ds.length
    · rw [List.getElem?_append_left (by simpa using hi), List.getElem?_map] at e
      obtain ⟨d, h1, h2⟩ := Option.map_eq_some_iff.mp e
      subst h2
      obtain ⟨v, h3, h4⟩ := dpa_get h h1
      refine ⟨some v, ?_, v, rfl, h4, .inr h4⟩
      rw [List.getElem?_append_left (by simp; omega), List.getElem?_map, h3]
      rfl
    · rw [List.getElem?_append_right (by simpa using hi), List.getElem?_replicate] at e
      split at e
      · cases e
        rename_i hr
        rw [List.length_map] at hr
        refine ⟨none, ?_, trivial⟩
        rw [List.getElem?_append_right (by simp; omega), List.getElem?_replicate, if_pos (by rw [List.length_map]; omega)]
      · cases e
  · by_cases hi : i < ds.length
    · rw [List.getElem?_append_left (by simpa using hi), List.getElem?_map] at e1
      obtain ⟨d, h1, h2⟩ := Option.map_eq_some_iff.mp e1
      cases h2
    · rw [List.getElem?_append_right (by simpa using hi), List.getElem?_replicate] at e1
      split at e1 <;> cases e1
theorem run_P {K : PySem.W.Frag} {names : List Str} {ι : Type} {args : ι → List PD} {pre : ι → Prop} {res : ι → Rt → Prop} {vs : List V} {H : Hp} {QV : VK} {E : XK} {t : TS} (h : spP K args pre res vs H QV E)
    (hb : ∀ (i : ι) (H : Hp), pre i → (args i).length ≤ names.length ∧ Sg ⟨K, none, 0, H, []⟩ t ((args i).map Bnd.dat ++ List.replicate (names.length - (args i).length) .no) 0 (fun _ _ => False) fun r _ => res i r) :
    t { nx := fun _ J => QV .non J, rt := QV } (L2.start names vs) H := by
  obtain ⟨i, h1, h2, h3⟩ := h
  obtain ⟨hl, hs⟩ := hb i H h2
  exact hs _ _ _ (at_start h1 hl) (fun _ _ _ _ z => z.elim) fun r _ v J q x _ r1 => h3 r v J q x r1
theorem len_P {K : PySem.W.Frag} {ι : Type} {args : ι → List PD} {pre : ι → Prop} {res : ι → Rt → Prop} {k : Nat} (h : ∀ i, (args i).length = k) : ∀ vs H Q E, spP K args pre res vs H Q E → vs.length = k := fun vs H Q E ⟨i, h1, _⟩ => (dpa_len h1).trans (h i)
theorem len_X {K : PySem.W.Frag} {C : Addr} {fld : Str} {ι : Type} {args : ι → List PD} {pre : ι → Prop} {res : ι → Rt → Prop} {err : ι → PD → Prop} {k : Nat} (h : ∀ i, (args i).length = k) : ∀ vs H Q E, spX K C fld args pre res err vs H Q E → vs.length = k := fun vs H Q E ⟨i, h1, _⟩ => (dpa_len h1).trans (h i)
theorem len_M {K : PySem.W.Frag} {m : Nat} {ι : Type} {args : ι → List PD} {pre : ι → Prop} {res : ι → Rt → Prop} {k : Nat} (h : ∀ i, (args i).length + 1 = k) : ∀ vs H Q E, spM K m args pre res vs H Q E → vs.length = k := fun vs H Q E ⟨a, us, i, c, n, e, h1, _⟩ => by
  rw [e, List.length_cons, dpa_len h1]
  exact h i
/-- a def that draws: m at a -/
theorem at_startM {K : PySem.W.Frag} {c a : Addr} {n : Nat} {H : Hp} {us : List V} {ds : List PD} {names : List Str} (h : DpAll K H us ds) (hl : ds.length + 1 ≤ names.length) (hs : StM (some a) c n H) (hc : CellsOk K H c) :
    At ⟨K, some a, c, H, []⟩ (.mr :: (ds.map Bnd.dat ++ List.replicate (names.length - (ds.length + 1)) .no)) n (L2.start names (.ref a :: us)) H := by
  have hlen := dpa_len h
  have est : L2.start names (.ref a :: us) = some (.ref a) :: (us.map some ++ List.replicate (names.length - (ds.length + 1)) none) := by
    unfold L2.start
    rw [List.length_cons, hlen]
    rfl
  refine ⟨by rw [est]; simp [hlen], Ex.refl H, fun i b e => ?_, fun i j as bs p hij e1 => ?_, hs, fun b e => hc, fun p hp => absurd hp (List.not_mem_nil), fun b e => ?_⟩
  · rw [est]
    cases i with
    | zero =>
      cases e
      exact ⟨_, rfl, a, rfl, rfl⟩
    | succ i =>
      rw [List.getElem?_cons_succ] at e ⊢
      by_cases hi : i < ds.length
      · rw [List.getElem?_append_left (by simpa using hi), List.getElem?_map] at e
        obtain ⟨d, h1, h2⟩ := Option.map_eq_some_iff.mp e
        subst h2
        obtain ⟨v, h3, h4⟩ := dpa_get h h1
        refine ⟨some v, ?_, v, rfl, h4, .inr h4⟩
        rw [List.getElem?_append_left (by simp; omega), List.getElem?_map, h3]
        rfl
      · rw [List.getElem?_append_right (by simpa using hi), List.getElem?_replicate] at e
        split at e
        · cases e
          rename_i hr
          rw [List.length_map] at hr
          refine ⟨none, ?_, trivial⟩
          rw [List.getElem?_append_right (by simp; omega), List.getElem?_replicate, if_pos (by rw [List.length_map]; omega)]
        · cases e
  · cases i with
    | zero => cases e1
    | succ i =>
      rw [List.getElem?_cons_succ] at e1
      by_cases hi : i < ds.length
      · rw [List.getElem?_append_left (by simpa using hi), List.getElem?_map] at e1
        obtain ⟨d, h1, h2⟩ := Option.map_eq_some_iff.mp e1
        cases h2
      · rw [List.getElem?_append_right (by simpa using hi), List.getElem?_replicate] at e1
        split at e1 <;> cases e1
  · have e' : a = b := by
      have q : some a = some b := e
      exact Option.some.inj q
    subst e'
    obtain ⟨l, s, p, h1, _⟩ := hs a rfl
    exact ⟨_, h1⟩
theorem StM.up {m : Option Addr} {c : Addr} {n k : Nat} {H : Hp} (h : StM m c n H) (hk : n ≤ k) : StM m c k H := fun a e => by
  obtain ⟨l, s, p, h1, h2, h3, h4⟩ := h a e
  exact ⟨l, s, p, h1, h2, h3, by omega⟩
theorem run_M {K : PySem.W.Frag} {names : List Str} {k : Nat} {ι : Type} {args : ι → List PD} {pre : ι → Prop} {res : ι → Rt → Prop} {vs : List V} {H : Hp} {QV : VK} {E : XK} {t : TS} (h : spM K k args pre res vs H QV E)
    (hb : ∀ (i : ι) (g : En) (n : Nat), g.K = K → pre i → n + k ≤ LIM → (args i).length + 1 ≤ names.length ∧ Sg g t (.mr :: ((args i).map Bnd.dat ++ List.replicate (names.length - ((args i).length + 1)) .no)) n (fun _ _ => False) fun r n' => res i r ∧ n' ≤ n + k) :
    t { nx := fun _ J => QV .non J, rt := QV } (L2.start names vs) H := by
  obtain ⟨a, us, i, c, n, e, h1, h2, h3, h4, h5, h6⟩ := h
  subst e
  obtain ⟨hl, hs⟩ := hb i ⟨K, some a, c, H, []⟩ n rfl h5 h4
  exact hs _ _ _ (at_startM h1 hl h2 h3) (fun _ _ _ _ z => z.elim) fun r n' v J q x s r1 => h6 r v J q.1 x (StM.up s q.2) r1
theorem run_X {K : PySem.W.Frag} {C : Addr} {fld : Str} {names : List Str} {ι : Type} {args : ι → List PD} {pre : ι → Prop} {res : ι → Rt → Prop} {err : ι → PD → Prop} {vs : List V} {H : Hp} {QV : VK} {E : XK} {t : TS} (h : spX K C fld args pre res err vs H QV E)
    (hb : ∀ (i : ι) (H : Hp), pre i → (∀ x, err i x → ∀ z d J, Ex none H J → H d = none → J d = some (.xd [(fld, z)]) → Dp K J z x → E (.ref C) (some d) J) →
      (args i).length ≤ names.length ∧ Sg ⟨K, none, 0, H, []⟩ t ((args i).map Bnd.dat ++ List.replicate (names.length - (args i).length) .no) 0 (fun _ _ => False) fun r _ => res i r) :
    t { nx := fun _ J => QV .non J, rt := QV } (L2.start names vs) H := by
  obtain ⟨i, h1, h2, h3, h4⟩ := h
  obtain ⟨hl, hs⟩ := hb i H h2 fun x er z d J x1 hd hx hz => h4 x z d J er x1 hd hx hz
  exact hs _ _ _ (at_start h1 hl) (fun _ _ _ _ z => z.elim) fun r _ v J q x _ r1 => h3 r v J q x r1
end
/-- a def of the top that may be called by its name -/
structure Cl (P : Program) (w : World) (K : PySem.W.Frag) (mg : Str → Option Value) (base : Heap) (C : CXT) (k : Nat) (x : Str) (ps : List Str) (sp : Sp) : Prop where
  ex : ∃ (f : Addr) (fd : FuncData), FnOk P w K mg base C k f fd ps sp ∧ mg x = some (.ref f) ∧ PySem.W.keepIn K (.ref f) = true ∧ Binds K fd ps []
/-- a def as the top has left it -/
structure Here (K : PySem.W.Frag) (mg : Str → Option Value) (x : Str) (st : Stmt) : Prop where
  ex : ∃ (f : Addr) (fd : FuncData), FunD K x x (defArgs st) (defBody st) (defScope st) [] [] f fd ∧ mg x = some (.ref f)
/-- the built-ins' names are free; the constants -/
structure Fre (mg : Str → Option Value) : Prop where
  len : mg "len" = none
  abs : mg "abs" = none
  int : mg "int" = none
  bool : mg "bool" = none
  str : mg "str" = none
  tuple : mg "tuple" = none
  all : mg "all" = none
  isinstance : mg "isinstance" = none
  range : mg "range" = none
  zip : mg "zip" = none
  enumerate : mg "enumerate" = none
  reversed : mg "reversed" = none
  steps : ∃ t, mg "MOST_STEPS" = some (.int 60 t)
  moves : ∃ t, mg "MOST_MOVES" = some (.int 2000 t)
  bound : ∃ t, mg "TURNS_BOUND" = some (.int (10 ^ 300) t)
section
variable {X : Cx} {C : CXT} {k j : Nat} {x : Str} {ps : List Str} {sp : Sp} {p pos : Pos} {e : Expr} {es : List Expr} {t : TA} {E : XK}
theorem pe_clE (c : Cl X.prog X.w X.K X.mg X.base C k x ps sp) (hr : Room j X.A) (hk : k ≤ j) (hg : Gl X x) (hx : Passes C X E) (ha : PA X (e :: es) t) (hdb : (x == ("__debug__" : Str)) = false := by decide)
    (he : starEach (e :: es) X.env = (false, eval e X.env) :: starEach es X.env := by rfl) (hpl : (backTo pos (starEach es X.env)).any (·.1) = false := by rfl) : PE X (.Call (.Name x p) (e :: es) [] pos) (tCall sp [] E t) := by
  obtain ⟨f, fd, F, hm, kp, hb⟩ := c.ex
  exact pe_call F (hr.mono hk) hg hm kp hb .nil hx ha hdb he hpl
theorem pe_cl (c : Cl X.prog X.w X.K X.mg X.base CX0 k x ps sp) (hr : Room j X.A) (hk : k ≤ j) (hg : Gl X x) (ha : PA X (e :: es) t) (hdb : (x == ("__debug__" : Str)) = false := by decide)
    (he : starEach (e :: es) X.env = (false, eval e X.env) :: starEach es X.env := by rfl) (hpl : (backTo pos (starEach es X.env)).any (·.1) = false := by rfl) : PE X (.Call (.Name x p) (e :: es) [] pos) (tCall sp [] E0 t) := pe_clE c hr hk hg pass0 ha hdb he hpl
theorem pe_cl0 (c : Cl X.prog X.w X.K X.mg X.base CX0 k x ps sp) (hr : Room j X.A) (hk : k ≤ j) (hg : Gl X x) (hdb : (x == ("__debug__" : Str)) = false := by decide) : PE X (.Call (.Name x p) [] [] pos) (tCall sp [] E0 tNil) := by
  obtain ⟨f, fd, F, hm, kp, hb⟩ := c.ex
  exact pe_call0 F (hr.mono hk) hg hm kp hb .nil pass0 hdb
/-- a module's int -/
theorem pe_gi {i : Int} (hg : Gl X x) (h : ∃ t, X.mg x = some (.int i t)) (hd : (x == ("__debug__" : Str)) = false := by decide) : PE X (.Name x pos) (tC (.int i)) := by
  obtain ⟨u, h⟩ := h
  exact pe_glob hg h ⟨u, rfl⟩ hd
/-- an item of a list, for op= -/
theorem getL : PGet X (rGetL X.K) := by
  intro pins s σ H o i ov iv Q I ro ri h
  obtain ⟨a, xs, n, v, rfl, rfl, hs, hat, q⟩ := h
  obtain rfl : ov = Value.ref a := ro
  obtain ⟨tk, rfl⟩ := ri
  obtain ⟨its, rv, pl, hz⟩ := I.list hs
  obtain ⟨u, hu, ru⟩ := rv.get hat
  have hn : n < xs.length := by
    rcases Nat.lt_or_ge n xs.length with z | z
    · exact z
    · rw [List.getElem?_eq_none z] at hat; cases hat
  have hline := line63
  exact PySem.wpAny_getItem_list pl.isList (by omega) (by omega) (by simpa using hu) ⟨v, H, I, ru, q⟩
def CPowB (i m : Int) : Prop := 0 ≤ m ∧ (Builtin.Int.intBits i : Int) * m ≤ 2 ^ 27
theorem op_powB : OpR X (binaryOp .Pow) (rI CPowB fun i m => .int (i ^ m.toNat)) := by
  intro pins s σ H x y v u Q I rx ry h
  obtain ⟨i, m, rfl, rfl, ⟨h1, h2⟩, q⟩ := h
  obtain ⟨t1, rfl⟩ := rx
  obtain ⟨t2, rfl⟩ := ry
  exact pow_int h1 h2 ⟨.int _, H, I.tok _, ⟨_, rfl⟩, q⟩
abbrev rLenS (K : PySem.W.Frag) : List V → Hp → VK → Prop := fun xs H Q => ∃ p ys, xs = [.ref p] ∧ (SqL K H p ys ∨ SqT K H p ys) ∧ Q (.int ys.length) H
abbrev rAbs : List V → Hp → VK → Prop := fun xs H Q => ∃ i, xs = [.int i] ∧ Q (.int (if i < 0 then -i else i)) H
abbrev rToInt : List V → Hp → VK → Prop := fun xs H Q => (∃ i, xs = [.int i] ∧ Q (.int i) H) ∨ ∃ k, xs = [.bl k] ∧ Q (.int (if k then 1 else 0)) H
abbrev rTupOf (K : PySem.W.Frag) : List V → Hp → VK → Prop := fun xs H Q => ∃ p ys, xs = [.ref p] ∧ ((SqL K H p ys ∧ ∀ l, H l = none → Q (.ref l) (upd H l (.tup ys))) ∨ (SqT K H p ys ∧ Q (.ref p) H))
theorem pe_clS {ES : L2.St → XK} (c : Cl X.prog X.w X.K X.mg X.base C k x ps sp) (hr : Room j X.A) (hk : k ≤ j) (hg : Gl X x) (hx : ∀ σ, PassesAt C X σ (ES σ)) (ha : PA X (e :: es) t) (hdb : (x == ("__debug__" : Str)) = false := by decide)
    (he : starEach (e :: es) X.env = (false, eval e X.env) :: starEach es X.env := by rfl) (hpl : (backTo pos (starEach es X.env)).any (·.1) = false := by rfl) : PE X (.Call (.Name x p) (e :: es) [] pos) (tCallS sp ES t) := by
  obtain ⟨f, fd, F, hm, kp, hb⟩ := c.ex
  exact pe_callS F (hr.mono hk) hg hm kp hb hx ha hdb he hpl
/-- a short tuple many times -/
def rMany (K : PySem.W.Frag) : R2 := fun x y H Q => ∃ a m xs, x = .ref a ∧ y = .int m ∧ SqT K H a xs ∧ xs ≠ [] ∧ 2 ≤ m ∧ m ≤ 4000 ∧ xs.length ≤ 8 ∧ ∀ p, H p = none → Q (.ref p) (upd H p (.tup (List.replicate m.toNat xs).flatten))
theorem op_many : OpR X (binaryOp .Mult) (rMany X.K) := by
  intro pins s σ H x y v u Q I rx ry h
  obtain ⟨a, m, xs, rfl, rfl, hT, hne, m2, m4, hx, q⟩ := h
  obtain rfl : v = Value.ref a := rx
  obtain ⟨tk, rfl⟩ := ry
  obtain ⟨its, rv, ⟨⟨cls, dd, data, sl⟩, ho, hc, n, hd⟩, _⟩ := I.tuple hT
  have hc' : cls = .type "tuple" := hc
  have hd' : data = .seq its.toArray n := hd
  subst hc'
  subst hd'
  have hlen : its.length = xs.length := rv.length.symm
  have hemp : its.toArray.isEmpty = false := by
    cases its with
    | nil => exact absurd (List.eq_nil_of_length_eq_zero hlen.symm) hne
    | cons w ws => rfl
  have hsz : its.toArray.size = xs.length := by rw [List.size_toArray, hlen]
  have hprod : ((its.toArray.size : Nat) : Int) * m ≤ 32000 := by
    rw [hsz]
    have z : ((xs.length : Nat) : Int) * m ≤ 8 * m := Int.mul_le_mul_of_nonneg_right (by omega) (by omega)
    omega
  have hflat : (List.replicate m.toNat its).flatten.length ≤ sizeLine := by
    rw [PyProof.Rows.lm_len_rep_flat, hlen, sizeLine_eq]
    have z : m.toNat * xs.length ≤ 4000 * 8 := Nat.mul_le_mul (by omega) hx
    omega
  have hc0 : (decide (m < -(2 ^ 63)) || decide (m ≥ 2 ^ 63)) = false := by
    rw [decide_eq_false (show ¬ m < -(2 ^ 63) by omega), decide_eq_false (show ¬ m ≥ 2 ^ 63 by omega)]
    rfl
  have hc1 : (its.toArray.isEmpty || m == 1) = false := by
    rw [hemp, Bool.false_or, beq_eq_false_iff_ne]
    omega
  have hc2 : (decide (m ≤ 0) || its.toArray.isEmpty) = false := by
    rw [hemp, decide_eq_false (show ¬ m ≤ 0 by omega)]
    rfl
  have hc4 : Builtin.Tuple.tupleTooMany (((its.toArray.size : Nat) : Int) * m) = false := by
    unfold Builtin.Tuple.tupleTooMany
    rw [sizeLine_eq, decide_eq_false]
    omega
  have hb := tuple_mulW a its.toArray n dd sl m tk hc0 hc1 hc2 (by omega) hc4 (by rw [size_rep, List.size_toArray]; exact hflat)
  have hnew : ObjOk X.prog X.w (upd H s.heap.objs.size (.tup (List.replicate m.toNat xs).flatten)) (s.heap.push { cls := .type "tuple", data := .seq (List.replicate m.toNat its).flatten.toArray }) s.heap.objs.size (.tup (List.replicate m.toNat xs).flatten) := by
    refine ⟨?_, _, rv.rep m.toNat, IsTup.new _ _⟩
    rw [PyProof.Rows.lm_len_rep_flat, sizeLine_eq]
    have z : m.toNat * xs.length ≤ 4000 * 8 := Nat.mul_le_mul (by omega) hx
    omega
  refine wpAny_binaryOp_repeat_ref (T := "tuple") (U := "int") (by decide) ⟨_, ho, rfl⟩ (fun s' => typeIs_int s' m tk) noFill_tuple_mul F.fills_int_mul F.slot_int_rmul repeat_tuple F.slot_int_index.lookup ?_
  refine call_meets F.slot_int_rmul (typeIs_int s m tk) F.entry_int_rmul (F.args_int_rmul_2 _ _) (int_rmul_tuple m tk a its.toArray n dd sl) ⟨ho, rfl, ⟨_, ho, rfl⟩, ?_⟩
  refine call_meets F.slot_tuple_mul ⟨_, ho, rfl⟩ F.entry_tuple_mul (F.args_tuple_mul_2 _ _) hb ⟨ho, ?_⟩
  rw [size_rep]
  exact ⟨.ref s.heap.objs.size, _, I.laid (t' := s.toks) (fun b ob z => Heap.get?_push_of_some _ z) (Nat.le_refl _) hnew, rfl, q _ (I.hok.fresh (Nat.le_refl _))⟩
end
abbrev tupIt (l : Addr) : Obj := { cls := .type "tuple_iterator", data := .fields #[.ref l, .int 0 0] }
abbrev enumOb (a : Addr) : Obj := { cls := .type "enumerate", data := .fields #[.none, .bool false, .ref a, rawInt 0, .none, .none] }
theorem enum_newT (l : Addr) (items : Array Value) : Meets (Builtin.«enumerate.__new__» ⟨[.type "enumerate", .ref l], []⟩)
    (fun _ R s => s.heap.IsTuple l items ∧ R (.ok (.ret (.ref (s.heap.push (tupIt l)).objs.size))) { s with heap := (s.heap.push (tupIt l)).push (enumOb s.heap.objs.size) }) := by
  refine .of_wp fun prog w A R s h => ?_
  obtain ⟨hp, gs, dr, tk, os⟩ := s
  obtain ⟨ht, hq⟩ := h
  have hsu := sub_enumerate
  have hT : Heap.IsTuple (Shared.heap ⟨hp, gs, dr, tk, os⟩) l items := ht
  wp_walk using wpAny_pyIter_tuple hT
  refine wpAny_stack_any fun sk => wpAny_pure ?_
  split
  · rename_i c _ _ _ _ _
    cases (c == Value.type "enumerate")
    · wp_walk using wpAny_pyIter_tuple hT
      exact ⟨_, rfl, hq⟩
    · wp_walk using wpAny_pyIter_tuple hT
      exact ⟨_, rfl, hq⟩
  · wp_walk using wpAny_pyIter_tuple hT
    exact ⟨_, rfl, hq⟩
theorem call_enumT {prog : Program} {w : World} {A : Around} {E : Value → Shared → Prop} {s : Shared} {l : Addr} {items : Array Value} {Q : Value → Shared → Prop} (hT : s.heap.IsTuple l items)
    (h : ∀ J, IsEnum J (s.heap.objs.size + 1) s.heap.objs.size 0 .none → J.IsTupleIter s.heap.objs.size l 0 → (∀ b o, s.heap.get? b = some o → J.get? b = some o) → Q (.ref (s.heap.objs.size + 1)) { s with heap := J }) :
    wpAny (model prog w) A (call (.type "enumerate") [.ref l]) Q E s := by
  have hz : (s.heap.push (tupIt l)).objs.size = s.heap.objs.size + 1 := Heap.size_push ..
  refine callType_new F.called_enumerate (by decide) (F.typeCall_enumerate_1 _) (F.newCall_enumerate_1 _) (fun ob => F.args_object_init_2 ob _) F.entry_enumerate_new (enum_newT l items) ⟨hT, ?_⟩
  show _ ∧ _
  rw [hz]
  have he : IsEnum ((s.heap.push (tupIt l)).push (enumOb s.heap.objs.size)) (s.heap.objs.size + 1) s.heap.objs.size 0 .none := by
    have q := Heap.get?_push_size (s.heap.push (tupIt l)) (o := enumOb s.heap.objs.size) rfl
    rw [hz] at q
    exact q
  have hi : (s.heap.push (tupIt l)).get? s.heap.objs.size = some (tupIt l) := Heap.get?_push_size _ rfl
  exact ⟨⟨_, he, rfl⟩, h _ he ⟨_, Heap.get?_push_of_some _ hi, rfl, rfl⟩ fun b o x => Heap.get?_push_of_some _ (Heap.get?_push_of_some _ x)⟩
/-- the tuple at a, each item in a new pair with its number -/
def IteT (K : PySem.W.Frag) (a : Addr) (n : Nat) : It where
  go := fun i H => ∃ (xs : List V) (x : V), SqT K H a xs ∧ xs[i]? = some x ∧ xs.length = n
  yld := fun i H v J => ∃ T x, v = .ref T ∧ H T = none ∧ J = upd H T (.tup [.int (i : Nat), x]) ∧ ∀ xs, SqT K H a xs → xs[i]? = some x
  stop := fun i H => ∃ xs : List V, SqT K H a xs ∧ xs.length ≤ i ∧ xs.length = n
theorem sqT_inj {X : Cx} {pins : List (Addr × Obj)} {σ : L2.St} {H : Hp} {s : Shared} {a : Addr} {xs ys : List V} (I : Inv X pins σ H s) (h : SqT X.K H a xs) (k : SqT X.K H a ys) : xs = ys := by
  obtain ⟨i1, r1, ⟨o1, e1, _, n1, d1⟩, _⟩ := I.tuple h
  obtain ⟨i2, r2, ⟨o2, e2, _, n2, d2⟩, _⟩ := I.tuple k
  rw [e1] at e2
  cases e2
  rw [d1] at d2
  have e3 : i1 = i2 := by
    have q := d2
    simp only [Data.seq.injEq] at q
    simpa using q.1
  subst e3
  exact r1.inj r2
theorem turn_enumT {P : Program} {w : World} {K : PySem.W.Frag} {elts : List Expr} {kk : Nat} {tpos : Pos} (a e it : Addr) (n : Nat) (hae : a ≠ e) (hai : a ≠ it) (hei : e ≠ it) :
    Turn P w K (.Tuple elts kk tpos) (IteT K a n) [e, it] e (fun i h => (∃ old, IsEnum h e it ((i : Nat) : Int) old) ∧ h.IsTupleIter it a i ∧ i ≤ n) where
  mem := List.mem_cons_self
  obj := fun i h st b hb => by
    obtain ⟨⟨old, he⟩, ⟨o, ho, hc, hd⟩, _⟩ := st
    rcases List.mem_cons.mp hb with z | z
    · subst z
      exact ⟨_, he, fun v q => nomatch q⟩
    · rw [List.mem_singleton.mp z]
      exact ⟨o, ho, fun v q => by rw [hd] at q; cases q⟩
  keep := fun i h J st k => by
    obtain ⟨⟨old, he⟩, hi, hl⟩ := st
    exact ⟨⟨old, k e (List.mem_cons_self) _ he⟩, hi.at fun o q => k it (by simp) o q, hl⟩
  item := by
    intro X hP hw hK hc i pins s σ H E I hf st hg
    subst hP
    subst hw
    subst hK
    obtain ⟨⟨old, he⟩, hit, hln⟩ := st
    obtain ⟨xs, x, hq, hx, hxl⟩ := hg
    obtain ⟨its, rv, tp, hz⟩ := I.tuple hq
    obtain ⟨u, hu, ru⟩ := rv.get hx
    have hlt : i < its.toArray.size := by
      rw [List.size_toArray, ← rv.length]
      rcases Nat.lt_or_ge i xs.length with z | z
      · exact z
      · rw [List.getElem?_eq_none z] at hx; cases hx
    have hel : e < s.heap.objs.size := Heap.lt_size he
    have hil : it < s.heap.objs.size := by
      obtain ⟨_, q, _⟩ := hit
      exact Heap.lt_size q
    have hTs : s.heap.IsTuple a its.toArray := tp
    have hal : a < s.heap.objs.size := tp.lt
    -- the tuple itself is no cell that the iterator turns
    refine wpAny_pyNext_enum_itemD (n := its.toArray.size) (P := fun i v => its.toArray[i]? = some v) (St := fun i h => h.IsTupleIter it a i ∧ h.IsTuple a its.toArray) (Draws.tuple (by exact I.ok.hd hc) it a hai its.toArray) he ⟨hit, hTs⟩ hlt hei (by simp [hei, Ne.symm hae]) fun y J tk hy ho hs hT hsz hk => ?_
    have ey : y = u := by
      have q : its.toArray[i]? = some u := by simpa using hu
      rw [q] at hy
      exact (Option.some.inj hy).symm
    subst ey
    refine ⟨_, rfl, wpAny_letOwnedTupleGo_enum (s := { s with heap := J, toks := tk + 1 }) ho fun M he' sb => ?_⟩
    have hT2 : M.get? s.heap.objs.size = some { cls := .type "tuple", data := .seq #[.int i tk, y] } := (sb.2 _ (Nat.ne_of_gt hel)).trans hT
    have new : ObjOk X.prog X.w (upd H s.heap.objs.size (.tup [.int (i : Nat), x])) M s.heap.objs.size (.tup [.int (i : Nat), x]) :=
      ⟨by show 2 ≤ sizeLine; decide, [.int i tk, y], .cons ⟨_, rfl⟩ (.cons ru .nil), ⟨_, hT2, rfl, _, rfl⟩⟩
    have I1 : Inv X pins σ (upd H s.heap.objs.size (.tup [.int (i : Nat), x])) { s with heap := M, toks := tk + 1 } :=
      I.turnedNew (t' := tk + 1) (ch := [e, it]) (fun b ob hb q => by
        have hb1 : b ≠ e := fun z => hb (by simp [z])
        have hb2 : b ≠ it := fun z => hb (by simp [z])
        exact (sb.2 b hb1).trans (hk b ob hb1 hb2 q)) hf (Nat.le_refl _) new
    refine ⟨.ref s.heap.objs.size, _, I1, rfl, ⟨_, x, rfl, I.hok.fresh (Nat.le_refl _), rfl, fun ys hy => by rw [sqT_inj I hy hq]; exact hx⟩, ⟨⟨y, ?_⟩, hs.1.at fun o q => (sb.2 it (Ne.symm hei)).trans q, by rw [List.size_toArray, ← rv.length] at hlt; omega⟩, fun b hb => ?_⟩
    · have e1 : ((i + 1 : Nat) : Int) = (i : Int) + 1 := by omega
      rw [e1]
      exact he'
    · have hb' : b < s.heap.objs.size := by
        rcases List.mem_cons.mp hb with z | z
        · rw [z]
          exact hel
        · rw [List.mem_singleton.mp z]
          exact hil
      rw [upd_ne (Nat.ne_of_lt hb')]
      exact (hf b hb).1
  done := by
    intro X hP hw hK hc i pins s σ H E I hf st hg
    subst hP
    subst hw
    subst hK
    obtain ⟨⟨old, he⟩, hit, hln⟩ := st
    obtain ⟨xs, hq, hx, hxl⟩ := hg
    obtain ⟨its, rv, tp, hz⟩ := I.tuple hq
    obtain ⟨f0, f1, f2, f3, f4, f5⟩ := hf it (by simp)
    have hl := rv.length
    have e1 : i = its.toArray.size := by
      rw [List.size_toArray]
      omega
    rw [e1] at he hit
    have hTs : s.heap.IsTuple a its.toArray := tp
    exact wpAny_pyNext_enum_endD (n := its.toArray.size) (P := fun i v => its.toArray[i]? = some v) (St := fun i h => h.IsTupleIter it a i ∧ h.IsTuple a its.toArray) (Draws.tuple (by exact I.ok.hd hc) it a hai its.toArray) he ⟨hit, hTs⟩ fun J ex => ⟨rfl, I.turned (t' := s.toks) (fun b o hb z => ex b o hb z) f0 f1 f3 f4 f5⟩
  self := fun A i s Q E st h => by
    obtain ⟨⟨_, he⟩, _⟩ := st
    exact wpAny_pyIter_enum he h
def iEnumT (K : PySem.W.Frag) (ta : TA) : TI := fun σ H R => ta σ H fun vs H1 => ∃ a xs, vs = [.ref a] ∧ SqT K H1 a xs ∧ R (IteT K a xs.length) H1
theorem pi_enumT {X : Cx} {e : Expr} {ta : TA} {p pos tpos : Pos} {elts : List Expr} {kk : Nat} (hg : Gl X "enumerate") (hm : X.mg "enumerate" = none) (ha : PA X [e] ta) (hs : starEach [e] X.env = [(false, eval e X.env)] := by rfl) :
    PI X (.Tuple elts kk tpos) (.Call (.Name "enumerate" p) [e] [] pos) (iEnumT X.K ta) := by
  refine ⟨fun pins s σ H R I h => ?_⟩
  refine Call_ (ld_blt I hg hm boot_enumerate (PyProof.Rows.callWith_type1 (thn (ha.run pos pins s σ H _ I h) fun us s1 ⟨vs, H1, I1, r1, q1⟩ => ?_) hs rfl))
  obtain ⟨a, xs, ex, hq, q⟩ := q1
  subst ex
  rw [Vals.ref1 r1]
  obtain ⟨its, rv, tp, hz⟩ := I1.tuple hq
  have hal : a < s1.heap.objs.size := tp.lt
  have hTs : s1.heap.IsTuple a its.toArray := tp
  refine call_enumT hTs fun J he hit hk => wpAny_pyIter_enum he ?_
  have I2 : Inv X pins σ H1 { s1 with heap := J } := I1.kept (t' := s1.toks) hk
  have T := turn_enumT (P := X.prog) (w := X.w) (K := X.K) (elts := elts) (kk := kk) (tpos := tpos) a (s1.heap.objs.size + 1) s1.heap.objs.size xs.length (Nat.ne_of_lt (Nat.lt_succ_of_lt hal)) (Nat.ne_of_lt hal) (Nat.succ_ne_self _)
  refine ⟨s1.heap.objs.size + 1, [s1.heap.objs.size + 1, s1.heap.objs.size], _, _, H1, rfl, I2, T, ⟨⟨.none, he⟩, hit, Nat.zero_le _⟩, fun b hb => ?_, q⟩
  have hle : s1.heap.objs.size ≤ b := by
    rcases List.mem_cons.mp hb with z | z
    · rw [z]
      exact Nat.le_succ _
    · rw [List.mem_singleton.mp z]
      exact Nat.le_refl _
  exact I1.fpOk hle (I1.hok.fresh hle)
/-! ### errors of own classes -/
/-- what the written part says of the class x: its field's name f, made by __init__ -/
structure Xc (P : Program) (w : World) (K : PySem.W.Frag) (mg : Str → Option Value) (base : Heap) (x f : Str) (C : Addr) : Prop where
  oex : OexC K C
  no : PySem.W.findIn K (.ref C) f = some none
  gC : mg x = some (.ref C)
  te : PySem.W.exmOne K (.ref C) (.ref C) = some true
  ini : ∃ (fI : Addr) (fd : FuncData), PySem.W.findIn K (.ref C) "__init__" = some (some (.ref fI)) ∧ PySem.W.typeIn K (.ref fI) = some (.type "function") ∧
    FnOk P w K mg base CX0 1 fI fd ["self", f] (fun vs H Q _ => ∃ a v, vs = [.ref a, v] ∧ H a = some (exo a C none) ∧ ∀ dx, H dx = none → dx ≠ a → Q .non (upd (upd H dx (exd dx [(f, v)])) a (exo a C (some dx)))) ∧ Binds K fd ["self", f] []
def tRaiseX (C : Addr) (f : Str) (W : WX) (ta : TA) : TS := fun _ σ H => ta σ H fun vs H1 => ∃ v, vs = [v] ∧ ∀ d J, Same H1 J → H1 d = none → J d = some (.xd [(f, v)]) → W (.ref C) (some d) σ J
theorem ps_raiseX {X : Cx} {x f : Str} {C : Addr} {W : WX} {e : Expr} {ta : TA} {p pos pos2 : Pos} {k : Nat} (c : Xc X.prog X.w X.K X.mg X.base x f C) (hc : X.calm = true) (hr : Room k X.A) (hk : 2 ≤ k) (tk : Takes X W) (hg : Gl X x) (ha : PA X [e] ta)
    (hdb : (x == ("__debug__" : Str)) = false := by decide) (he : starEach (e :: []) X.env = (false, eval e X.env) :: starEach [] X.env := by rfl) (hpl : (backTo pos (starEach [] X.env)).any (·.1) = false := by rfl) :
    PS X (.Raise (some (.Call (.Name x p) [e] [] pos)) none pos2) (tRaiseX C f W ta) := by
  obtain ⟨fI, fd, h1, h2, F, hb⟩ := c.ini
  have ha' : PA X [e] (fun σ H Q => ∃ R : List V → Hp → Prop, ta σ H R ∧ ∀ vs H1, R vs H1 → Q vs H1) := ⟨fun pos pins s σ H Q I ⟨R, q1, q2⟩ =>
    thn (ha.run pos pins s σ H R I q1) fun us s1 ⟨vs, H1, I1, r1, z⟩ => ⟨vs, H1, I1, r1, q2 vs H1 z⟩⟩
  have m := pmk_oex (X := X) (p := p) (pos := pos) c.oex h1 h2 F (hr.mono hk) hb .nil (fun _ _ _ _ _ _ _ z => z.elim) hg c.gC ha' hdb he hpl
  have r := ps_raise (pos := pos2) hc tk m
  refine ⟨fun pins s σ H D I h => r.run pins s σ H D I ⟨_, h, fun vs H1 ⟨v, ev, q⟩ => ?_⟩⟩
  subst ev
  refine ⟨by show 1 ≤ 1000; decide, fun a na => ⟨a, v, rfl, upd_same, fun dx hdx hne => ⟨rfl, dx, [(f, v)], upd_same, ?_, ?_, ?_⟩⟩⟩
  · rw [upd_ne hne, upd_same]
  · rw [upd_ne hne] at hdx
    exact hdx
  · rw [upd_ne hne] at hdx
    refine q dx _ (fun b o hb => ?_) hdx upd_same
    have hba : b ≠ a := ne_of_none hb na
    have hbd : b ≠ dx := ne_of_none hb hdx
    rw [upd_ne hbd, del_ne hba, upd_ne hba, upd_ne hbd, upd_ne hba]
    exact hb
/-- try .. except of an own class, with no name, with a name -/
abbrev tTryO (K : PySem.W.Frag) (C : Addr) (tb : WX → TS) (ts : TS) : TS := fun D σ H => tb (wOnly K (.ref C) (fun _ _ _ => ts) (fun _ _ _ _ => False) D) D σ H
abbrev tTryA (K : PySem.W.Frag) (C : Addr) (i : Nat) (tb : WX → TS) (ts : Addr → Value → Option Addr → TS) : TS := fun D σ H => tb (wAs K (.ref C) i ts (fun _ _ _ _ => False) D) D σ H
abbrev s_is_whole : Stmt := topS 5
abbrev n_is_whole : List Str := ["value"]
abbrev p_is_whole : List Str := ["value"]
theorem sc_is_whole : FnScope n_is_whole p_is_whole (defScope s_is_whole) := ⟨rfl, rfl, rfl, by decide +kernel, rfl, by decide +kernel, by decide +kernel⟩
def t_is_whole (K : PySem.W.Frag) : TS :=
  (tRet (tAndV (tCB (rIsi K) (tCons (tVar 0) (tCons (tC (.ty "int")) tNil))) (tNotV (tCB (rIsi K) (tCons (tVar 0) (tCons (tC (.ty "bool")) tNil))))))
theorem der_is_whole {P : Program} {w : World} {K : PySem.W.Frag} {mg : Str → Option Value} {base : Heap} {f : Addr} {cdv : Value} {A : Around} {outer : List Env} {s : Shared} {H : Hp} {E : XK} (hz : Fre mg)
    (hr : Room 0 (A.deeper (envOfC "is_whole" (defScope s_is_whole) s.heap.objs.size f cdv))) :
    PSs (cxOf CX0 P w K mg base n_is_whole "is_whole" (defScope s_is_whole) f cdv A outer s H E).nox (defBody s_is_whole) (t_is_whole K) := by
  have nd := sc_is_whole.nd
  exact (pss_one (ps_ret (pe_and (pe_callB call_isi (by rfl) hz.isinstance (by decide +kernel) (pa_cons (pv 0) (pa_cons (pe_bltn (v := .ty "int") (u := .type "int") (by rfl) hz.int (by decide +kernel) rfl) pa_nil))) (pe_one (pe_not (pe_callB call_isi (by rfl) hz.isinstance (by decide +kernel) (pa_cons (pv 0) (pa_cons (pe_bltn (v := .ty "bool") (u := .type "bool") (by rfl) hz.bool (by decide +kernel) rfl) pa_nil))))))))
abbrev s_ends_of : Stmt := topS 6
abbrev n_ends_of : List Str := ["web", "tie", "side", "v", "w", "p", "q"]
abbrev p_ends_of : List Str := ["web", "tie", "side"]
theorem sc_ends_of : FnScope n_ends_of p_ends_of (defScope s_ends_of) := ⟨rfl, rfl, rfl, by decide +kernel, rfl, by decide +kernel, by decide +kernel⟩
def t_ends_of (K : PySem.W.Frag) : TS :=
  (tSeq (tAsg (tOp (rIxT K) (tOp (rIxT K) (tVar 0) (tC (.int 1))) (tVar 1)) (gTup K 4 (gCons (gName 3) (gCons (gName 4) (gCons (gName 5) (gCons (gName 6) gNil))))))
    (tRet (tIf (tTest (tOp (rEqD K) (tVar 2) (tC (.int 1)))) (tTup (tCons (tVar 3) (tCons (tVar 4) (tCons (tVar 5) (tCons (tVar 6) tNil))))) (tTup (tCons (tVar 4) (tCons (tVar 3) (tCons (tVar 6) (tCons (tVar 5) tNil))))))))
theorem der_ends_of {P : Program} {w : World} {K : PySem.W.Frag} {mg : Str → Option Value} {base : Heap} {f : Addr} {cdv : Value} {A : Around} {outer : List Env} {s : Shared} {H : Hp} {E : XK} (hz : Fre mg)
    (hr : Room 0 (A.deeper (envOfC "ends_of" (defScope s_ends_of) s.heap.objs.size f cdv))) :
    PSs (cxOf CX0 P w K mg base n_ends_of "ends_of" (defScope s_ends_of) f cdv A outer s H E).nox (defBody s_ends_of) (t_ends_of K) := by
  have nd := sc_ends_of.nd
  exact (pss_cons (ps_asg (pe_ix ix_tup (pe_ix ix_tup (pv 0) pe_int (fun _ _ => rfl)) (pv 1) (fun _ _ => rfl)) (pg_tup rfl (pgs_cons (pg_name (i := 3) nd rfl (by first | exact .inl rfl | exact .inr rfl)) (pgs_cons (pg_name (i := 4) nd rfl (by first | exact .inl rfl | exact .inr rfl)) (pgs_cons (pg_name (i := 5) nd rfl (by first | exact .inl rfl | exact .inr rfl)) (pgs_cons (pg_name (i := 6) nd rfl (by first | exact .inl rfl | exact .inr rfl)) pgs_nil))))))
    (pss_one (ps_ret (pe_ifExp (pt_cmpR (op_eqD hr.units) (pv 2) pe_int (nomark _)) (pe_tup (pa_cons (pv 3) (pa_cons (pv 4) (pa_cons (pv 5) (pa_cons (pv 6) pa_nil))))) (pe_tup (pa_cons (pv 4) (pa_cons (pv 3) (pa_cons (pv 6) (pa_cons (pv 5) pa_nil)))))))))
abbrev s_is_turns : Stmt := topS 11
abbrev n_is_turns : List Str := ["value"]
abbrev p_is_turns : List Str := ["value"]
theorem sc_is_turns : FnScope n_is_turns p_is_turns (defScope s_is_turns) := ⟨rfl, rfl, rfl, by decide +kernel, rfl, by decide +kernel, by decide +kernel⟩
def t_is_turns (K : PySem.W.Frag) (sp_is_whole : Sp) : TS :=
  (tRet (tAndV (tCall sp_is_whole [] E0 (tCons (tVar 0) tNil)) (tChain (rI0 fun i j => .bl (decide (i < j))) (rI0 fun i j => .bl (decide (i < j))) (tUn (rU fun i => .int (-i)) (tC (.int (10 ^ 300)))) (tVar 0) (tC (.int (10 ^ 300))))))
theorem der_is_turns {P : Program} {w : World} {K : PySem.W.Frag} {mg : Str → Option Value} {base : Heap} {f : Addr} {cdv : Value} {A : Around} {outer : List Env} {s : Shared} {H : Hp} {E : XK} {sp_is_whole : Sp} (hz : Fre mg)
    (c_is_whole : Cl P w K mg base CX0 1 "is_whole" p_is_whole sp_is_whole)
    (hr : Room 1 (A.deeper (envOfC "is_turns" (defScope s_is_turns) s.heap.objs.size f cdv))) :
    PSs (cxOf CX0 P w K mg base n_is_turns "is_turns" (defScope s_is_turns) f cdv A outer s H E).nox (defBody s_is_turns) (t_is_turns K sp_is_whole) := by
  have nd := sc_is_turns.nd
  exact (pss_one (ps_ret (pe_and (pe_cl c_is_whole hr (by decide) (by rfl) (pa_cons (pv 0) pa_nil)) (pe_one (pe_chain op_lt op_lt (pe_un un_neg (pe_gi (by rfl) hz.bound)) (pv 0) (pe_gi (by rfl) hz.bound))))))
abbrev s_split_walk : Stmt := topS 12
abbrev n_split_walk : List Str := ["walk", "step"]
abbrev p_split_walk : List Str := ["walk"]
theorem sc_split_walk : FnScope n_split_walk p_split_walk (defScope s_split_walk) := ⟨rfl, rfl, rfl, by decide +kernel, rfl, by decide +kernel, by decide +kernel⟩
def t_split_walk (K : PySem.W.Frag) : TS :=
  (tRet (tTup (tCons (tOp rCat (tLst (tCons (tOp (rIxT K) (tVar 0) (tC (.int 1))) tNil)) (tLc (iTup K (tOp (rIxT K) (tVar 0) (tC (.int 2)))) (gName 1) tYes (tOp (rIxT K) (tVar 1) (tC (.int 2))) [1])) (tCons (tLc (iTup K (tOp (rIxT K) (tVar 0) (tC (.int 2)))) (gName 1) tYes (tTup (tCons (tOp (rIxT K) (tVar 1) (tC (.int 0))) (tCons (tOp (rIxT K) (tVar 1) (tC (.int 1))) tNil))) [1]) tNil))))
theorem der_split_walk {P : Program} {w : World} {K : PySem.W.Frag} {mg : Str → Option Value} {base : Heap} {f : Addr} {cdv : Value} {A : Around} {outer : List Env} {s : Shared} {H : Hp} {E : XK} (hz : Fre mg)
    (hr : Room 0 (A.deeper (envOfC "split_walk" (defScope s_split_walk) s.heap.objs.size f cdv))) :
    PSs (cxOf CX0 P w K mg base n_split_walk "split_walk" (defScope s_split_walk) f cdv A outer s H E).nox (defBody s_split_walk) (t_split_walk K) := by
  have nd := sc_split_walk.nd
  exact (pss_one (ps_ret (pe_tup (pa_cons (pe_op op_cat (pe_lst (pa_cons (pe_ix ix_tup (pv 0) pe_int (fun _ _ => rfl)) pa_nil)) (pe_lc (own := [("step", 1)]) rfl nd (pi_tup (pe_ix ix_tup (pv 0) pe_int (fun _ _ => rfl))) (blkOk_by (own := [("step", 1)]) (N := n_split_walk) (sc := defScope s_split_walk) (by decide +kernel)) (fun _ _ _ _ _ => (pg_name (i := 1) nd rfl (by first | exact .inl rfl | exact .inr rfl))) (fun _ _ _ _ _ => pts_nil) (fun _ _ _ _ _ => (pe_ix ix_tup (pv 1) pe_int (fun _ _ => rfl))))) (pa_cons (pe_lc (own := [("step", 1)]) rfl nd (pi_tup (pe_ix ix_tup (pv 0) pe_int (fun _ _ => rfl))) (blkOk_by (own := [("step", 1)]) (N := n_split_walk) (sc := defScope s_split_walk) (by decide +kernel)) (fun _ _ _ _ _ => (pg_name (i := 1) nd rfl (by first | exact .inl rfl | exact .inr rfl))) (fun _ _ _ _ _ => pts_nil) (fun _ _ _ _ _ => (pe_tup (pa_cons (pe_ix ix_tup (pv 1) pe_int (fun _ _ => rfl)) (pa_cons (pe_ix ix_tup (pv 1) pe_int (fun _ _ => rfl)) pa_nil))))) pa_nil)))))
abbrev s_glued_walk : Stmt := topS 13
abbrev n_glued_walk : List Str := ["room", "turns", "crossings", "steps", "number", "tie", "side"]
abbrev p_glued_walk : List Str := ["room", "turns", "crossings"]
theorem sc_glued_walk : FnScope n_glued_walk p_glued_walk (defScope s_glued_walk) := ⟨rfl, rfl, rfl, by decide +kernel, rfl, by decide +kernel, by decide +kernel⟩
def t_glued_walk (K : PySem.W.Frag) : TS :=
  (tSeq (tAsg (tLc (iZip K (tCons (tVar 2) (tCons (tSl (rSlL K) (tVar 1) (tPart (tC (.int 1))) tNoPart) tNil))) (gTup K 2 (gCons (gTup K 2 (gCons (gName 5) (gCons (gName 6) gNil))) (gCons (gName 4) gNil))) tYes (tTup (tCons (tVar 5) (tCons (tVar 6) (tCons (tVar 4) tNil)))) [5, 6, 4]) (gName 3))
    (tRet (tTup (tCons (tVar 0) (tCons (tOp (rIxL K) (tVar 1) (tC (.int 0))) (tCons (tCB (rTupOf K) (tCons (tVar 3) tNil)) tNil))))))
theorem der_glued_walk {P : Program} {w : World} {K : PySem.W.Frag} {mg : Str → Option Value} {base : Heap} {f : Addr} {cdv : Value} {A : Around} {outer : List Env} {s : Shared} {H : Hp} {E : XK} (hz : Fre mg)
    (hr : Room 0 (A.deeper (envOfC "glued_walk" (defScope s_glued_walk) s.heap.objs.size f cdv))) :
    PSs (cxOf CX0 P w K mg base n_glued_walk "glued_walk" (defScope s_glued_walk) f cdv A outer s H E).nox (defBody s_glued_walk) (t_glued_walk K) := by
  have nd := sc_glued_walk.nd
  exact (pss_cons (ps_setLc (i := 3) (own := [("tie", 5), ("side", 6), ("number", 4)]) rfl nd rfl rfl (sw_true rfl rfl rfl (by decide +kernel)) (pi_zip (by rfl) hz.zip (pa_cons (pv 2) (pa_cons (pe_slice sl_list (pv 1) (po_some pe_int) po_none) pa_nil))) (blkOk_by (own := [("tie", 5), ("side", 6), ("number", 4)]) (N := n_glued_walk) (sc := defScope s_glued_walk) (by decide +kernel)) (fun _ _ _ _ _ => (pg_tup rfl (pgs_cons (pg_tup rfl (pgs_cons (pg_name (i := 5) nd rfl (by first | exact .inl rfl | exact .inr rfl)) (pgs_cons (pg_name (i := 6) nd rfl (by first | exact .inl rfl | exact .inr rfl)) pgs_nil))) (pgs_cons (pg_name (i := 4) nd rfl (by first | exact .inl rfl | exact .inr rfl)) pgs_nil)))) (fun _ _ _ _ _ => pts_nil) (fun _ _ _ _ _ => (pe_tup (pa_cons (pv 5) (pa_cons (pv 6) (pa_cons (pv 4) pa_nil))))))
    (pss_one (ps_ret (pe_tup (pa_cons (pv 0) (pa_cons (pe_ix ix_list (pv 1) pe_int (fun _ _ => rfl)) (pa_cons (pe_callTy call_tuple_of (by rfl) hz.tuple (by decide +kernel) (pa_cons (pv 3) pa_nil)) pa_nil)))))))
abbrev s__carried : Stmt := topS 14
abbrev n__carried : List Str := ["web", "walk", "number", "many", "turns", "crossings", "ends"]
abbrev p__carried : List Str := ["web", "walk", "number", "many"]
theorem sc__carried : FnScope n__carried p__carried (defScope s__carried) := ⟨rfl, rfl, rfl, by decide +kernel, rfl, by decide +kernel, by decide +kernel⟩
def t__carried (K : PySem.W.Frag) (sp_split_walk sp_ends_of sp_glued_walk : Sp) : TS :=
  (tSeq (tAsg (tCall sp_split_walk [] E0 (tCons (tVar 1) tNil)) (gTup K 2 (gCons (gName 4) (gCons (gName 5) gNil))))
    (tSeq (tAsg (tCall sp_ends_of [] E0 (tCons (tVar 0) (tCons (tOp (rIxT K) (tOp (rIxL K) (tVar 5) (tOp (rI0 fun i j => .int (i - j)) (tVar 2) (tC (.int 1)))) (tC (.int 0))) (tCons (tOp (rIxT K) (tOp (rIxL K) (tVar 5) (tOp (rI0 fun i j => .int (i - j)) (tVar 2) (tC (.int 1)))) (tC (.int 1))) tNil)))) (gName 6))
    (tSeq (tAugS (tVar 4) (tOp (rI0 fun i j => .int (i - j)) (tVar 2) (tC (.int 1))) (tOp (rI CMul fun i j => .int (i * j)) (tOp (rIxT K) (tVar 6) (tC (.int 2))) (tVar 3)) (rGetL K) (ipI fun i j => i - j) rSetL)
    (tSeq (tAugS (tVar 4) (tVar 2) (tOp (rI CMul fun i j => .int (i * j)) (tOp (rIxT K) (tVar 6) (tC (.int 3))) (tVar 3)) (rGetL K) (ipI fun i j => i + j) rSetL)
    (tRet (tCall sp_glued_walk [] E0 (tCons (tOp (rIxT K) (tVar 1) (tC (.int 0))) (tCons (tVar 4) (tCons (tVar 5) tNil)))))))))
theorem der__carried {P : Program} {w : World} {K : PySem.W.Frag} {mg : Str → Option Value} {base : Heap} {f : Addr} {cdv : Value} {A : Around} {outer : List Env} {s : Shared} {H : Hp} {E : XK} {sp_split_walk sp_ends_of sp_glued_walk : Sp} (hz : Fre mg)
    (c_split_walk : Cl P w K mg base CX0 1 "split_walk" p_split_walk sp_split_walk)
    (c_ends_of : Cl P w K mg base CX0 1 "ends_of" p_ends_of sp_ends_of)
    (c_glued_walk : Cl P w K mg base CX0 1 "glued_walk" p_glued_walk sp_glued_walk)
    (hr : Room 1 (A.deeper (envOfC "_carried" (defScope s__carried) s.heap.objs.size f cdv))) :
    PSs (cxOf CX0 P w K mg base n__carried "_carried" (defScope s__carried) f cdv A outer s H E).nox (defBody s__carried) (t__carried K sp_split_walk sp_ends_of sp_glued_walk) := by
  have nd := sc__carried.nd
  exact (pss_cons (ps_asg (pe_cl c_split_walk hr (by decide) (by rfl) (pa_cons (pv 1) pa_nil)) (pg_tup rfl (pgs_cons (pg_name (i := 4) nd rfl (by first | exact .inl rfl | exact .inr rfl)) (pgs_cons (pg_name (i := 5) nd rfl (by first | exact .inl rfl | exact .inr rfl)) pgs_nil))))
    (pss_cons (ps_set (i := 6) nd rfl (by first | exact .inl rfl | exact .inr rfl) (pe_cl c_ends_of hr (by decide) (by rfl) (pa_cons (pv 0) (pa_cons (pe_ix ix_tup (pe_ix ix_list (pv 5) (pe_op op_sub (pv 2) pe_int) (fun _ _ => rfl)) pe_int (fun _ _ => rfl)) (pa_cons (pe_ix ix_tup (pe_ix ix_list (pv 5) (pe_op op_sub (pv 2) pe_int) (fun _ _ => rfl)) pe_int (fun _ _ => rfl)) pa_nil)))))
    (pss_cons (ps_augS (pv 4) (pe_op op_sub (pv 2) pe_int) getL (pe_op op_mul (pe_ix ix_tup (pv 6) pe_int (fun _ _ => rfl)) (pv 3)) ip_sub set_list)
    (pss_cons (ps_augS (pv 4) (pv 2) getL (pe_op op_mul (pe_ix ix_tup (pv 6) pe_int (fun _ _ => rfl)) (pv 3)) ip_add set_list)
    (pss_one (ps_ret (pe_cl c_glued_walk hr (by decide) (by rfl) (pa_cons (pe_ix ix_tup (pv 1) pe_int (fun _ _ => rfl)) (pa_cons (pv 4) (pa_cons (pv 5) pa_nil))))))))))
abbrev s__struck : Stmt := topS 15
abbrev n__struck : List Str := ["walk", "number", "turns", "crossings", "here", "there"]
abbrev p__struck : List Str := ["walk", "number"]
theorem sc__struck : FnScope n__struck p__struck (defScope s__struck) := ⟨rfl, rfl, rfl, by decide +kernel, rfl, by decide +kernel, by decide +kernel⟩
def t__struck (K : PySem.W.Frag) (sp_split_walk sp_glued_walk : Sp) : TS :=
  (tSeq (tAsg (tCall sp_split_walk [] E0 (tCons (tVar 0) tNil)) (gTup K 2 (gCons (gName 2) (gCons (gName 3) gNil))))
    (tSeq (tIfS (tTest (tOp (rNeD K) (tOp (rIxL K) (tVar 2) (tVar 1)) (tC (.int 0)))) (tRet (tC .non)) tNext)
    (tSeq (tPar 4 5 (tCons (tOp (rIxL K) (tVar 3) (tOp (rI0 fun i j => .int (i - j)) (tVar 1) (tC (.int 1)))) (tCons (tOp (rIxL K) (tVar 3) (tVar 1)) tNil)))
    (tSeq (tIfS (tTest (tOp (rNeD K) (tVar 4) (tTup (tCons (tOp (rIxT K) (tVar 5) (tC (.int 0))) (tCons (tUn (rU fun i => .int (-i)) (tOp (rIxT K) (tVar 5) (tC (.int 1)))) tNil))))) (tRet (tC .non)) tNext)
    (tSeq (tAsg (tOp rCat (tOp rCat (tSl (rSlL K) (tVar 2) tNoPart (tPart (tOp (rI0 fun i j => .int (i - j)) (tVar 1) (tC (.int 1))))) (tLst (tCons (tOp (rI0 fun i j => .int (i + j)) (tOp (rIxL K) (tVar 2) (tOp (rI0 fun i j => .int (i - j)) (tVar 1) (tC (.int 1)))) (tOp (rIxL K) (tVar 2) (tOp (rI0 fun i j => .int (i + j)) (tVar 1) (tC (.int 1))))) tNil))) (tSl (rSlL K) (tVar 2) (tPart (tOp (rI0 fun i j => .int (i + j)) (tVar 1) (tC (.int 2)))) tNoPart)) (gName 2))
    (tRet (tCall sp_glued_walk [] E0 (tCons (tOp (rIxT K) (tVar 0) (tC (.int 0))) (tCons (tVar 2) (tCons (tOp rCat (tSl (rSlL K) (tVar 3) tNoPart (tPart (tOp (rI0 fun i j => .int (i - j)) (tVar 1) (tC (.int 1))))) (tSl (rSlL K) (tVar 3) (tPart (tOp (rI0 fun i j => .int (i + j)) (tVar 1) (tC (.int 1)))) tNoPart)) tNil))))))))))
theorem der__struck {P : Program} {w : World} {K : PySem.W.Frag} {mg : Str → Option Value} {base : Heap} {f : Addr} {cdv : Value} {A : Around} {outer : List Env} {s : Shared} {H : Hp} {E : XK} {sp_split_walk sp_glued_walk : Sp} (hz : Fre mg)
    (c_split_walk : Cl P w K mg base CX0 1 "split_walk" p_split_walk sp_split_walk)
    (c_glued_walk : Cl P w K mg base CX0 1 "glued_walk" p_glued_walk sp_glued_walk)
    (hr : Room 1 (A.deeper (envOfC "_struck" (defScope s__struck) s.heap.objs.size f cdv))) :
    PSs (cxOf CX0 P w K mg base n__struck "_struck" (defScope s__struck) f cdv A outer s H E).nox (defBody s__struck) (t__struck K sp_split_walk sp_glued_walk) := by
  have nd := sc__struck.nd
  exact (pss_cons (ps_asg (pe_cl c_split_walk hr (by decide) (by rfl) (pa_cons (pv 0) pa_nil)) (pg_tup rfl (pgs_cons (pg_name (i := 2) nd rfl (by first | exact .inl rfl | exact .inr rfl)) (pgs_cons (pg_name (i := 3) nd rfl (by first | exact .inl rfl | exact .inr rfl)) pgs_nil))))
    (pss_cons (ps_if (pt_cmpR (op_neD hr.units) (pe_ix ix_list (pv 2) (pv 1) (fun _ _ => rfl)) pe_int (nomark _)) (pss_one (ps_ret pe_non)) pss_nil)
    (pss_cons (ps_par (i := 4) (j := 5) rfl nd rfl rfl (by decide) rfl rfl (pa_cons (pe_ix ix_list (pv 3) (pe_op op_sub (pv 1) pe_int) (fun _ _ => rfl)) (pa_cons (pe_ix ix_list (pv 3) (pv 1) (fun _ _ => rfl)) pa_nil)) (by rfl))
    (pss_cons (ps_if (pt_cmpR (op_neD hr.units) (pv 4) (pe_tup (pa_cons (pe_ix ix_tup (pv 5) pe_int (fun _ _ => rfl)) (pa_cons (pe_un un_neg (pe_ix ix_tup (pv 5) pe_int (fun _ _ => rfl))) pa_nil))) (nomark _)) (pss_one (ps_ret pe_non)) pss_nil)
    (pss_cons (ps_set (i := 2) nd rfl (by first | exact .inl rfl | exact .inr rfl) (pe_op op_cat (pe_op op_cat (pe_slice sl_list (pv 2) po_none (po_some (pe_op op_sub (pv 1) pe_int))) (pe_lst (pa_cons (pe_op op_add (pe_ix ix_list (pv 2) (pe_op op_sub (pv 1) pe_int) (fun _ _ => rfl)) (pe_ix ix_list (pv 2) (pe_op op_add (pv 1) pe_int) (fun _ _ => rfl))) pa_nil))) (pe_slice sl_list (pv 2) (po_some (pe_op op_add (pv 1) pe_int)) po_none)))
    (pss_one (ps_ret (pe_cl c_glued_walk hr (by decide) (by rfl) (pa_cons (pe_ix ix_tup (pv 0) pe_int (fun _ _ => rfl)) (pa_cons (pv 2) (pa_cons (pe_op op_cat (pe_slice sl_list (pv 3) po_none (po_some (pe_op op_sub (pv 1) pe_int))) (pe_slice sl_list (pv 3) (po_some (pe_op op_add (pv 1) pe_int)) po_none)) pa_nil)))))))))))
abbrev s__put_in : Stmt := topS 16
abbrev n__put_in : List Str := ["web", "walk", "number", "crossing", "ahead", "tie", "side", "turns", "crossings", "room", "more"]
abbrev p__put_in : List Str := ["web", "walk", "number", "crossing", "ahead"]
theorem sc__put_in : FnScope n__put_in p__put_in (defScope s__put_in) := ⟨rfl, rfl, rfl, by decide +kernel, rfl, by decide +kernel, by decide +kernel⟩
def t__put_in (K : PySem.W.Frag) (sp_split_walk sp_ends_of sp_glued_walk : Sp) : TS :=
  (tSeq (tAsg (tVar 3) (gTup K 2 (gCons (gName 5) (gCons (gName 6) gNil))))
    (tSeq (tAsg (tCall sp_split_walk [] E0 (tCons (tVar 1) tNil)) (gTup K 2 (gCons (gName 7) (gCons (gName 8) gNil))))
    (tSeq (tAsg (tIf (tTest (tOp (rEqD K) (tVar 2) (tC (.int 0)))) (tOp (rIxT K) (tVar 1) (tC (.int 0))) (tOp (rIxT K) (tCall sp_ends_of [] E0 (tCons (tVar 0) (tCons (tOp (rIxT K) (tOp (rIxL K) (tVar 8) (tOp (rI0 fun i j => .int (i - j)) (tVar 2) (tC (.int 1)))) (tC (.int 0))) (tCons (tOp (rIxT K) (tOp (rIxL K) (tVar 8) (tOp (rI0 fun i j => .int (i - j)) (tVar 2) (tC (.int 1)))) (tC (.int 1))) tNil)))) (tC (.int 1)))) (gName 9))
    (tSeq (tIfS (tTest (tOp (rNeD K) (tOp (rIxT K) (tCall sp_ends_of [] E0 (tCons (tVar 0) (tCons (tVar 5) (tCons (tVar 6) tNil)))) (tC (.int 0))) (tVar 9))) (tRet (tC .non)) tNext)
    (tSeq (tAsg (tLst (tCons (tTup (tCons (tVar 5) (tCons (tVar 6) tNil))) (tCons (tTup (tCons (tVar 5) (tCons (tUn (rU fun i => .int (-i)) (tVar 6)) tNil))) tNil))) (gName 10))
    (tSeq (tAsg (tOp rCat (tOp rCat (tSl (rSlL K) (tVar 7) tNoPart (tPart (tVar 2))) (tLst (tCons (tVar 4) (tCons (tC (.int 0)) (tCons (tOp (rI0 fun i j => .int (i - j)) (tOp (rIxL K) (tVar 7) (tVar 2)) (tVar 4)) tNil))))) (tSl (rSlL K) (tVar 7) (tPart (tOp (rI0 fun i j => .int (i + j)) (tVar 2) (tC (.int 1)))) tNoPart)) (gName 7))
    (tRet (tCall sp_glued_walk [] E0 (tCons (tOp (rIxT K) (tVar 1) (tC (.int 0))) (tCons (tVar 7) (tCons (tOp rCat (tOp rCat (tSl (rSlL K) (tVar 8) tNoPart (tPart (tVar 2))) (tVar 10)) (tSl (rSlL K) (tVar 8) (tPart (tVar 2)) tNoPart)) tNil)))))))))))
theorem der__put_in {P : Program} {w : World} {K : PySem.W.Frag} {mg : Str → Option Value} {base : Heap} {f : Addr} {cdv : Value} {A : Around} {outer : List Env} {s : Shared} {H : Hp} {E : XK} {sp_split_walk sp_ends_of sp_glued_walk : Sp} (hz : Fre mg)
    (c_split_walk : Cl P w K mg base CX0 1 "split_walk" p_split_walk sp_split_walk)
    (c_ends_of : Cl P w K mg base CX0 1 "ends_of" p_ends_of sp_ends_of)
    (c_glued_walk : Cl P w K mg base CX0 1 "glued_walk" p_glued_walk sp_glued_walk)
    (hr : Room 1 (A.deeper (envOfC "_put_in" (defScope s__put_in) s.heap.objs.size f cdv))) :
    PSs (cxOf CX0 P w K mg base n__put_in "_put_in" (defScope s__put_in) f cdv A outer s H E).nox (defBody s__put_in) (t__put_in K sp_split_walk sp_ends_of sp_glued_walk) := by
  have nd := sc__put_in.nd
  exact (pss_cons (ps_asg (pv 3) (pg_tup rfl (pgs_cons (pg_name (i := 5) nd rfl (by first | exact .inl rfl | exact .inr rfl)) (pgs_cons (pg_name (i := 6) nd rfl (by first | exact .inl rfl | exact .inr rfl)) pgs_nil))))
    (pss_cons (ps_asg (pe_cl c_split_walk hr (by decide) (by rfl) (pa_cons (pv 1) pa_nil)) (pg_tup rfl (pgs_cons (pg_name (i := 7) nd rfl (by first | exact .inl rfl | exact .inr rfl)) (pgs_cons (pg_name (i := 8) nd rfl (by first | exact .inl rfl | exact .inr rfl)) pgs_nil))))
    (pss_cons (ps_set (i := 9) nd rfl (by first | exact .inl rfl | exact .inr rfl) (pe_ifExp (pt_cmpR (op_eqD hr.units) (pv 2) pe_int (nomark _)) (pe_ix ix_tup (pv 1) pe_int (fun _ _ => rfl)) (pe_ix ix_tup (pe_cl c_ends_of hr (by decide) (by rfl) (pa_cons (pv 0) (pa_cons (pe_ix ix_tup (pe_ix ix_list (pv 8) (pe_op op_sub (pv 2) pe_int) (fun _ _ => rfl)) pe_int (fun _ _ => rfl)) (pa_cons (pe_ix ix_tup (pe_ix ix_list (pv 8) (pe_op op_sub (pv 2) pe_int) (fun _ _ => rfl)) pe_int (fun _ _ => rfl)) pa_nil)))) pe_int (fun _ _ => rfl))))
    (pss_cons (ps_if (pt_cmpR (op_neD hr.units) (pe_ix ix_tup (pe_cl c_ends_of hr (by decide) (by rfl) (pa_cons (pv 0) (pa_cons (pv 5) (pa_cons (pv 6) pa_nil)))) pe_int (fun _ _ => rfl)) (pv 9) (nomark _)) (pss_one (ps_ret pe_non)) pss_nil)
    (pss_cons (ps_set (i := 10) nd rfl (by first | exact .inl rfl | exact .inr rfl) (pe_lst (pa_cons (pe_tup (pa_cons (pv 5) (pa_cons (pv 6) pa_nil))) (pa_cons (pe_tup (pa_cons (pv 5) (pa_cons (pe_un un_neg (pv 6)) pa_nil))) pa_nil))))
    (pss_cons (ps_set (i := 7) nd rfl (by first | exact .inl rfl | exact .inr rfl) (pe_op op_cat (pe_op op_cat (pe_slice sl_list (pv 7) po_none (po_some (pv 2))) (pe_lst (pa_cons (pv 4) (pa_cons pe_int (pa_cons (pe_op op_sub (pe_ix ix_list (pv 7) (pv 2) (fun _ _ => rfl)) (pv 4)) pa_nil))))) (pe_slice sl_list (pv 7) (po_some (pe_op op_add (pv 2) pe_int)) po_none)))
    (pss_one (ps_ret (pe_cl c_glued_walk hr (by decide) (by rfl) (pa_cons (pe_ix ix_tup (pv 1) pe_int (fun _ _ => rfl)) (pa_cons (pv 7) (pa_cons (pe_op op_cat (pe_op op_cat (pe_slice sl_list (pv 8) po_none (po_some (pv 2))) (pv 10)) (pe_slice sl_list (pv 8) (po_some (pv 2)) po_none)) pa_nil))))))))))))
abbrev s__moved_once : Stmt := topS 17
abbrev n__moved_once : List Str := ["web", "walk", "move", "many", "part"]
abbrev p__moved_once : List Str := ["web", "walk", "move"]
theorem sc__moved_once : FnScope n__moved_once p__moved_once (defScope s__moved_once) := ⟨rfl, rfl, rfl, by decide +kernel, rfl, by decide +kernel, by decide +kernel⟩
def t__moved_once (K : PySem.W.Frag) (sp_is_whole sp__carried sp__struck sp__put_in : Sp) : TS :=
  (tSeq (tIfS (tOr (tNot (tB (tCB (rIsi K) (tCons (tVar 2) (tCons (tC (.ty "tuple")) tNil))))) (tNot (tB (tCB (rAll K) (tCons (tLc (iTup K (tSl (rSlA K) (tVar 2) (tPart (tC (.int 1))) tNoPart)) (gName 4) tYes (tCall sp_is_whole [] E0 (tCons (tVar 4) tNil)) [4]) tNil))))) (tRet (tC .non)) tNext)
    (tSeq (tAsg (tCB (rLenS K) (tCons (tOp (rIxT K) (tVar 1) (tC (.int 2))) tNil)) (gName 3))
    (tSeq (tIfS (tAnd (tTest (tOp (rEqD K) (tCB (rLenS K) (tCons (tVar 2) tNil)) (tC (.int 3)))) (tAnd (tTest (tOp (rEqD K) (tOp (rIxT K) (tVar 2) (tC (.int 0))) (tC (.str "carry")))) (tTest (tChain (rI0 fun i j => .bl (decide (i ≤ j))) (rI0 fun i j => .bl (decide (i ≤ j))) (tC (.int 1)) (tOp (rIxT K) (tVar 2) (tC (.int 1))) (tVar 3))))) (tRet (tCall sp__carried [] E0 (tCons (tVar 0) (tCons (tVar 1) (tCons (tOp (rIxT K) (tVar 2) (tC (.int 1))) (tCons (tOp (rIxT K) (tVar 2) (tC (.int 2))) tNil)))))) tNext)
    (tSeq (tIfS (tAnd (tTest (tOp (rEqD K) (tCB (rLenS K) (tCons (tVar 2) tNil)) (tC (.int 2)))) (tAnd (tTest (tOp (rEqD K) (tOp (rIxT K) (tVar 2) (tC (.int 0))) (tC (.str "strike")))) (tTest (tChain (rI0 fun i j => .bl (decide (i ≤ j))) (rI0 fun i j => .bl (decide (i < j))) (tC (.int 1)) (tOp (rIxT K) (tVar 2) (tC (.int 1))) (tVar 3))))) (tRet (tCall sp__struck [] E0 (tCons (tVar 1) (tCons (tOp (rIxT K) (tVar 2) (tC (.int 1))) tNil)))) tNext)
    (tSeq (tIfS (tAnd (tTest (tOp (rEqD K) (tCB (rLenS K) (tCons (tVar 2) tNil)) (tC (.int 5)))) (tAnd (tTest (tOp (rEqD K) (tOp (rIxT K) (tVar 2) (tC (.int 0))) (tC (.str "put")))) (tTest (tChain (rI0 fun i j => .bl (decide (i ≤ j))) (rI0 fun i j => .bl (decide (i ≤ j))) (tC (.int 0)) (tOp (rIxT K) (tVar 2) (tC (.int 1))) (tVar 3))))) (tIfS (tAnd (tTest (tChain (rI0 fun i j => .bl (decide (i ≤ j))) (rI0 fun i j => .bl (decide (i < j))) (tC (.int 0)) (tOp (rIxT K) (tVar 2) (tC (.int 2))) (tCB (rLenS K) (tCons (tOp (rIxT K) (tVar 0) (tC (.int 1))) tNil)))) (tTest (tOp (rIn K false) (tOp (rIxT K) (tVar 2) (tC (.int 3))) (tTup (tCons (tC (.int 1)) (tCons (tUn (rU fun i => .int (-i)) (tC (.int 1))) tNil)))))) (tRet (tCall sp__put_in [] E0 (tCons (tVar 0) (tCons (tVar 1) (tCons (tOp (rIxT K) (tVar 2) (tC (.int 1))) (tCons (tTup (tCons (tOp (rIxT K) (tVar 2) (tC (.int 2))) (tCons (tOp (rIxT K) (tVar 2) (tC (.int 3))) tNil))) (tCons (tOp (rIxT K) (tVar 2) (tC (.int 4))) tNil))))))) tNext) tNext)
    (tRet (tC .non)))))))
theorem der__moved_once {P : Program} {w : World} {K : PySem.W.Frag} {mg : Str → Option Value} {base : Heap} {f : Addr} {cdv : Value} {A : Around} {outer : List Env} {s : Shared} {H : Hp} {E : XK} {sp_is_whole sp__carried sp__struck sp__put_in : Sp} (hz : Fre mg)
    (c_is_whole : Cl P w K mg base CX0 1 "is_whole" p_is_whole sp_is_whole)
    (c__carried : Cl P w K mg base CX0 2 "_carried" p__carried sp__carried)
    (c__struck : Cl P w K mg base CX0 2 "_struck" p__struck sp__struck)
    (c__put_in : Cl P w K mg base CX0 2 "_put_in" p__put_in sp__put_in)
    (hr : Room 2 (A.deeper (envOfC "_moved_once" (defScope s__moved_once) s.heap.objs.size f cdv))) :
    PSs (cxOf CX0 P w K mg base n__moved_once "_moved_once" (defScope s__moved_once) f cdv A outer s H E).nox (defBody s__moved_once) (t__moved_once K sp_is_whole sp__carried sp__struck sp__put_in) := by
  have nd := sc__moved_once.nd
  exact (pss_cons (ps_if (PW.pt (pw_or (pt_not (pt_val (pe_callB call_isi (by rfl) hz.isinstance (by decide +kernel) (pa_cons (pv 2) (pa_cons (pe_bltn (v := .ty "tuple") (u := .type "tuple") (by rfl) hz.tuple (by decide +kernel) rfl) pa_nil))))) (pw_or1 (pt_not (pt_val (pe_callB (cr_all rfl) (by rfl) hz.all (by decide +kernel) (pa_cons (pe_lc (own := [("part", 4)]) rfl nd (pi_tup (pe_slice sl_tupA (pv 2) (po_some pe_int) po_none)) (blkOk_by (own := [("part", 4)]) (N := n__moved_once) (sc := defScope s__moved_once) (by decide +kernel)) (fun _ _ _ _ _ => (pg_name (i := 4) nd rfl (by first | exact .inl rfl | exact .inr rfl))) (fun _ _ _ _ _ => pts_nil) (fun _ _ _ _ _ => (pe_cl c_is_whole hr (by decide) (by rfl) (pa_cons (pv 4) pa_nil)))) pa_nil))))))) (pss_one (ps_ret pe_non)) pss_nil)
    (pss_cons (ps_set (i := 3) nd rfl (by first | exact .inl rfl | exact .inr rfl) (pe_callB call_len_seq (by rfl) hz.len (by decide +kernel) (pa_cons (pe_ix ix_tup (pv 1) pe_int (fun _ _ => rfl)) pa_nil)))
    (pss_cons (ps_if (PW.pt (pw_and (pt_cmpR (op_eqD hr.units) (pe_callB call_len_seq (by rfl) hz.len (by decide +kernel) (pa_cons (pv 2) pa_nil)) pe_int (nomark _)) (pw_and (pt_cmpR (op_eqD hr.units) (pe_ix ix_tup (pv 2) pe_int (fun _ _ => rfl)) pe_str (nomark _)) (pw_and1 (pt_chain op_le op_le pe_int (pe_ix ix_tup (pv 2) pe_int (fun _ _ => rfl)) (pv 3)))))) (pss_one (ps_ret (pe_cl c__carried hr (by decide) (by rfl) (pa_cons (pv 0) (pa_cons (pv 1) (pa_cons (pe_ix ix_tup (pv 2) pe_int (fun _ _ => rfl)) (pa_cons (pe_ix ix_tup (pv 2) pe_int (fun _ _ => rfl)) pa_nil))))))) pss_nil)
    (pss_cons (ps_if (PW.pt (pw_and (pt_cmpR (op_eqD hr.units) (pe_callB call_len_seq (by rfl) hz.len (by decide +kernel) (pa_cons (pv 2) pa_nil)) pe_int (nomark _)) (pw_and (pt_cmpR (op_eqD hr.units) (pe_ix ix_tup (pv 2) pe_int (fun _ _ => rfl)) pe_str (nomark _)) (pw_and1 (pt_chain op_le op_lt pe_int (pe_ix ix_tup (pv 2) pe_int (fun _ _ => rfl)) (pv 3)))))) (pss_one (ps_ret (pe_cl c__struck hr (by decide) (by rfl) (pa_cons (pv 1) (pa_cons (pe_ix ix_tup (pv 2) pe_int (fun _ _ => rfl)) pa_nil))))) pss_nil)
    (pss_cons (ps_if (PW.pt (pw_and (pt_cmpR (op_eqD hr.units) (pe_callB call_len_seq (by rfl) hz.len (by decide +kernel) (pa_cons (pv 2) pa_nil)) pe_int (nomark _)) (pw_and (pt_cmpR (op_eqD hr.units) (pe_ix ix_tup (pv 2) pe_int (fun _ _ => rfl)) pe_str (nomark _)) (pw_and1 (pt_chain op_le op_le pe_int (pe_ix ix_tup (pv 2) pe_int (fun _ _ => rfl)) (pv 3)))))) (pss_one (ps_if (PW.pt (pw_and (pt_chain op_le op_lt pe_int (pe_ix ix_tup (pv 2) pe_int (fun _ _ => rfl)) (pe_callB call_len_seq (by rfl) hz.len (by decide +kernel) (pa_cons (pe_ix ix_tup (pv 0) pe_int (fun _ _ => rfl)) pa_nil))) (pw_and1 (pt_cmpR op_in_seq (pe_ix ix_tup (pv 2) pe_int (fun _ _ => rfl)) (pe_tup (pa_cons pe_int (pa_cons (pe_un un_neg pe_int) pa_nil))) (by rfl))))) (pss_one (ps_ret (pe_cl c__put_in hr (by decide) (by rfl) (pa_cons (pv 0) (pa_cons (pv 1) (pa_cons (pe_ix ix_tup (pv 2) pe_int (fun _ _ => rfl)) (pa_cons (pe_tup (pa_cons (pe_ix ix_tup (pv 2) pe_int (fun _ _ => rfl)) (pa_cons (pe_ix ix_tup (pv 2) pe_int (fun _ _ => rfl)) pa_nil))) (pa_cons (pe_ix ix_tup (pv 2) pe_int (fun _ _ => rfl)) pa_nil)))))))) pss_nil)) pss_nil)
    (pss_one (ps_ret pe_non)))))))
abbrev s_moved_walk : Stmt := topS 18
abbrev n_moved_walk : List Str := ["web", "walk", "moves", "here", "number", "move", "there", "one"]
abbrev p_moved_walk : List Str := ["web", "walk", "moves"]
theorem sc_moved_walk : FnScope n_moved_walk p_moved_walk (defScope s_moved_walk) := ⟨rfl, rfl, rfl, by decide +kernel, rfl, by decide +kernel, by decide +kernel⟩
def t_moved_walk (K : PySem.W.Frag) (sp__moved_once sp_split_walk sp_is_turns : Sp) (C_NoMove : Addr) (E : XK) : TS :=
  (tSeq (tAsg (tVar 1) (gName 3))
    (tSeq (tFor (iEnumT K (tCons (tVar 2) tNil)) (gTup K 2 (gCons (gName 4) (gCons (gName 5) gNil))) (tSeq (tAsg (tCall sp__moved_once [] E0 (tCons (tVar 0) (tCons (tVar 3) (tCons (tVar 5) tNil)))) (gName 6))
    (tSeq (tIfS (tOr (tTest (tOp rIsN0 (tVar 6) (tC .non))) (tOr (tTest (tOp (rI0 fun i j => .bl (decide (j < i))) (tCB (rLenS K) (tCons (tOp (rIxT K) (tVar 6) (tC (.int 2))) tNil)) (tC (.int 60)))) (tNot (tB (tCB (rAll K) (tCons (tLc (iList K (tOp (rIxT K) (tCall sp_split_walk [] E0 (tCons (tVar 6) tNil)) (tC (.int 0)))) (gName 7) tYes (tCall sp_is_turns [] E0 (tCons (tVar 7) tNil)) [7]) tNil)))))) (tRaiseX C_NoMove "number" (fun cls d _ H => E cls d H) (tCons (tVar 4) tNil)) tNext)
    (tAsg (tVar 6) (gName 3)))))
    (tRet (tVar 3))))
theorem der_moved_walk {P : Program} {w : World} {K : PySem.W.Frag} {mg : Str → Option Value} {base : Heap} {f : Addr} {cdv : Value} {A : Around} {outer : List Env} {s : Shared} {H : Hp} {E : XK} {sp__moved_once sp_split_walk sp_is_turns : Sp} {C_NoMove : Addr} (hz : Fre mg)
    (c__moved_once : Cl P w K mg base CX0 3 "_moved_once" p__moved_once sp__moved_once)
    (c_split_walk : Cl P w K mg base CX0 1 "split_walk" p_split_walk sp_split_walk)
    (c_is_turns : Cl P w K mg base CX0 2 "is_turns" p_is_turns sp_is_turns)
    (x_NoMove : Xc P w K mg base "NoMove" "number" C_NoMove)
    (hr : Room 4 (A.deeper (envOfC "moved_walk" (defScope s_moved_walk) s.heap.objs.size f cdv))) :
    PSs (cxOf (L2.CX P w) P w K mg base n_moved_walk "moved_walk" (defScope s_moved_walk) f cdv A outer s H E) (defBody s_moved_walk) (t_moved_walk K sp__moved_once sp_split_walk sp_is_turns C_NoMove E) := by
  have nd := sc_moved_walk.nd
  exact (pss_cons (ps_set (i := 3) nd rfl (by first | exact .inl rfl | exact .inr rfl) (pv 1))
    (pss_cons (ps_for (passes_of rfl) rfl (pi_enumT (by rfl) hz.enumerate (pa_cons (pv 2) pa_nil)) (pg_tup rfl (pgs_cons (pg_name (i := 4) nd rfl (by first | exact .inl rfl | exact .inr rfl)) (pgs_cons (pg_name (i := 5) nd rfl (by first | exact .inl rfl | exact .inr rfl)) pgs_nil))) (pss_cons (ps_set (i := 6) nd rfl (by first | exact .inl rfl | exact .inr rfl) (pe_cl c__moved_once hr (by decide) (by rfl) (pa_cons (pv 0) (pa_cons (pv 3) (pa_cons (pv 5) pa_nil)))))
    (pss_cons (ps_if (PW.pt (pw_or (pt_cmpR op_isN (pv 6) pe_non (nomark _)) (pw_or (pt_cmpR op_gt (pe_callB call_len_seq (by rfl) hz.len (by decide +kernel) (pa_cons (pe_ix ix_tup (pv 6) pe_int (fun _ _ => rfl)) pa_nil)) (pe_gi (by rfl) hz.steps) (nomark _)) (pw_or1 (pt_not (pt_val (pe_callB (cr_all rfl) (by rfl) hz.all (by decide +kernel) (pa_cons (pe_lc (own := [("one", 7)]) rfl nd (pi_list (pe_ix ix_tup (pe_cl c_split_walk hr (by decide) (by rfl) (pa_cons (pv 6) pa_nil)) pe_int (fun _ _ => rfl))) (blkOk_by (own := [("one", 7)]) (N := n_moved_walk) (sc := defScope s_moved_walk) (by decide +kernel)) (fun _ _ _ _ _ => (pg_name (i := 7) nd rfl (by first | exact .inl rfl | exact .inr rfl))) (fun _ _ _ _ _ => pts_nil) (fun _ _ _ _ _ => (pe_cl c_is_turns hr (by decide) (by rfl) (pa_cons (pv 7) pa_nil)))) pa_nil)))))))) (pss_one (ps_raiseX x_NoMove rfl hr (by decide) (takes_of rfl rfl rfl rfl) (by rfl) (pa_cons (pv 4) pa_nil))) pss_nil)
    (pss_one (ps_set (i := 3) nd rfl (by first | exact .inl rfl | exact .inr rfl) (pv 6))))))
    (pss_one (ps_ret (pv 3)))))
abbrev s_rest_of : Stmt := topS 20
abbrev n_rest_of : List Str := ["number", "ahead", "rest"]
abbrev p_rest_of : List Str := ["number", "ahead"]
theorem sc_rest_of : FnScope n_rest_of p_rest_of (defScope s_rest_of) := ⟨rfl, rfl, rfl, by decide +kernel, rfl, by decide +kernel, by decide +kernel⟩
def t_rest_of (K : PySem.W.Frag) : TS :=
  (tSeq (tAsg (tOp (rI (fun _ j => 0 < j) fun i j => .int (i % j)) (tVar 0) (tCB rAbs (tCons (tVar 1) tNil))) (gName 2))
    (tRet (tTup (tCons (tVar 2) (tCons (tOp (rI CDivN fun i j => .int (i.fdiv j)) (tOp (rI0 fun i j => .int (i - j)) (tVar 0) (tVar 2)) (tVar 1)) tNil)))))
theorem der_rest_of {P : Program} {w : World} {K : PySem.W.Frag} {mg : Str → Option Value} {base : Heap} {f : Addr} {cdv : Value} {A : Around} {outer : List Env} {s : Shared} {H : Hp} {E : XK} (hz : Fre mg)
    (hr : Room 0 (A.deeper (envOfC "rest_of" (defScope s_rest_of) s.heap.objs.size f cdv))) :
    PSs (cxOf CX0 P w K mg base n_rest_of "rest_of" (defScope s_rest_of) f cdv A outer s H E).nox (defBody s_rest_of) (t_rest_of K) := by
  have nd := sc_rest_of.nd
  exact (pss_cons (ps_set (i := 2) nd rfl (by first | exact .inl rfl | exact .inr rfl) (pe_op op_mod (pv 0) (pe_callB call_abs (by rfl) hz.abs (by decide +kernel) (pa_cons (pv 1) pa_nil))))
    (pss_one (ps_ret (pe_tup (pa_cons (pv 2) (pa_cons (pe_op op_fdivN (pe_op op_sub (pv 0) (pv 2)) (pv 1)) pa_nil))))))
abbrev s_are_opposite : Stmt := topS 21
abbrev n_are_opposite : List Str := ["first", "second"]
abbrev p_are_opposite : List Str := ["first", "second"]
theorem sc_are_opposite : FnScope n_are_opposite p_are_opposite (defScope s_are_opposite) := ⟨rfl, rfl, rfl, by decide +kernel, rfl, by decide +kernel, by decide +kernel⟩
def t_are_opposite (K : PySem.W.Frag) : TS :=
  (tRet (tAndV (tOp (rEqD K) (tOp (rIxT K) (tVar 0) (tC (.int 0))) (tOp (rIxT K) (tVar 1) (tC (.int 0)))) (tOp (rEqD K) (tOp (rIxT K) (tVar 0) (tC (.int 1))) (tUn (rU fun i => .int (-i)) (tOp (rIxT K) (tVar 1) (tC (.int 1)))))))
theorem der_are_opposite {P : Program} {w : World} {K : PySem.W.Frag} {mg : Str → Option Value} {base : Heap} {f : Addr} {cdv : Value} {A : Around} {outer : List Env} {s : Shared} {H : Hp} {E : XK} (hz : Fre mg)
    (hr : Room 0 (A.deeper (envOfC "are_opposite" (defScope s_are_opposite) s.heap.objs.size f cdv))) :
    PSs (cxOf CX0 P w K mg base n_are_opposite "are_opposite" (defScope s_are_opposite) f cdv A outer s H E).nox (defBody s_are_opposite) (t_are_opposite K) := by
  have nd := sc_are_opposite.nd
  exact (pss_one (ps_ret (pe_and (pe_cmpR (op_eqD hr.units) (pe_ix ix_tup (pv 0) pe_int (fun _ _ => rfl)) (pe_ix ix_tup (pv 1) pe_int (fun _ _ => rfl)) (nomark _)) (pe_one (pe_cmpR (op_eqD hr.units) (pe_ix ix_tup (pv 0) pe_int (fun _ _ => rfl)) (pe_un un_neg (pe_ix ix_tup (pv 1) pe_int (fun _ _ => rfl))) (nomark _))))))
abbrev s_reduced : Stmt := topS 22
abbrev n_reduced : List Str := ["web", "walk", "kept", "number", "tie", "side", "turns", "ends", "rest", "many"]
abbrev p_reduced : List Str := ["web", "walk"]
theorem sc_reduced : FnScope n_reduced p_reduced (defScope s_reduced) := ⟨rfl, rfl, rfl, by decide +kernel, rfl, by decide +kernel, by decide +kernel⟩
def t_reduced (K : PySem.W.Frag) (sp_ends_of sp_rest_of sp_are_opposite : Sp) : TS :=
  (tSeq (tPar 2 3 (tCons (tLst tNil) (tCons (tOp (rIxT K) (tVar 1) (tC (.int 1))) tNil)))
    (tSeq (tFor (iTup K (tOp (rIxT K) (tVar 1) (tC (.int 2)))) (gTup K 3 (gCons (gName 4) (gCons (gName 5) (gCons (gName 6) gNil)))) (tSeq (tAsg (tCall sp_ends_of [] E0 (tCons (tVar 0) (tCons (tVar 4) (tCons (tVar 5) tNil)))) (gName 7))
    (tSeq (tAsg (tCall sp_rest_of [] E0 (tCons (tVar 3) (tCons (tOp (rIxT K) (tVar 7) (tC (.int 2))) tNil))) (gTup K 2 (gCons (gName 8) (gCons (gName 9) gNil))))
    (tIfS (tAnd (tTest (tOp (rEqD K) (tVar 8) (tC (.int 0)))) (tAnd (tTest (tOp (rNeD K) (tVar 2) (tLst tNil))) (tB (tCall sp_are_opposite [] E0 (tCons (tSl (rSlA K) (tOp (rIxL K) (tVar 2) (tUn (rU fun i => .int (-i)) (tC (.int 1)))) (tPart (tC (.int 1))) tNoPart) (tCons (tTup (tCons (tVar 4) (tCons (tVar 5) tNil))) tNil)))))) (tAsg (tOp (rI0 fun i j => .int (i + j)) (tOp (rI0 fun i j => .int (i + j)) (tOp (rIxT K) (tBM0 K "list" rPop (tVar 2)) (tC (.int 0))) (tOp (rI CMul fun i j => .int (i * j)) (tOp (rIxT K) (tVar 7) (tC (.int 3))) (tVar 9))) (tVar 6)) (gName 3)) (tSeq (tDrop (tBM K "list" rAppend (tVar 2) (tCons (tTup (tCons (tVar 8) (tCons (tVar 4) (tCons (tVar 5) tNil)))) tNil)))
    (tAsg (tOp (rI0 fun i j => .int (i + j)) (tOp (rI CMul fun i j => .int (i * j)) (tOp (rIxT K) (tVar 7) (tC (.int 3))) (tVar 9)) (tVar 6)) (gName 3)))))))
    (tRet (tTup (tCons (tCB (rTupOf K) (tCons (tVar 2) tNil)) (tCons (tVar 3) tNil))))))
theorem der_reduced {P : Program} {w : World} {K : PySem.W.Frag} {mg : Str → Option Value} {base : Heap} {f : Addr} {cdv : Value} {A : Around} {outer : List Env} {s : Shared} {H : Hp} {E : XK} {sp_ends_of sp_rest_of sp_are_opposite : Sp} (hz : Fre mg)
    (c_ends_of : Cl P w K mg base CX0 1 "ends_of" p_ends_of sp_ends_of)
    (c_rest_of : Cl P w K mg base CX0 1 "rest_of" p_rest_of sp_rest_of)
    (c_are_opposite : Cl P w K mg base CX0 1 "are_opposite" p_are_opposite sp_are_opposite)
    (hr : Room 1 (A.deeper (envOfC "reduced" (defScope s_reduced) s.heap.objs.size f cdv))) :
    PSs (cxOf CX0 P w K mg base n_reduced "reduced" (defScope s_reduced) f cdv A outer s H E).nox (defBody s_reduced) (t_reduced K sp_ends_of sp_rest_of sp_are_opposite) := by
  have nd := sc_reduced.nd
  exact (pss_cons (ps_par (i := 2) (j := 3) rfl nd rfl rfl (by decide) rfl rfl (pa_cons (pe_lst pa_nil) (pa_cons (pe_ix ix_tup (pv 1) pe_int (fun _ _ => rfl)) pa_nil)) (by rfl))
    (pss_cons (ps_for PassesOwn.never rfl (pi_tup (pe_ix ix_tup (pv 1) pe_int (fun _ _ => rfl))) (pg_tup rfl (pgs_cons (pg_name (i := 4) nd rfl (by first | exact .inl rfl | exact .inr rfl)) (pgs_cons (pg_name (i := 5) nd rfl (by first | exact .inl rfl | exact .inr rfl)) (pgs_cons (pg_name (i := 6) nd rfl (by first | exact .inl rfl | exact .inr rfl)) pgs_nil)))) (pss_cons (ps_set (i := 7) nd rfl (by first | exact .inl rfl | exact .inr rfl) (pe_cl c_ends_of hr (by decide) (by rfl) (pa_cons (pv 0) (pa_cons (pv 4) (pa_cons (pv 5) pa_nil)))))
    (pss_cons (ps_asg (pe_cl c_rest_of hr (by decide) (by rfl) (pa_cons (pv 3) (pa_cons (pe_ix ix_tup (pv 7) pe_int (fun _ _ => rfl)) pa_nil))) (pg_tup rfl (pgs_cons (pg_name (i := 8) nd rfl (by first | exact .inl rfl | exact .inr rfl)) (pgs_cons (pg_name (i := 9) nd rfl (by first | exact .inl rfl | exact .inr rfl)) pgs_nil))))
    (pss_one (ps_if (PW.pt (pw_and (pt_cmpR (op_eqD hr.units) (pv 8) pe_int (nomark _)) (pw_and (pt_cmpR (op_neD hr.units) (pv 2) (pe_lst pa_nil) (nomark _)) (pw_and1 (pt_val (pe_cl c_are_opposite hr (by decide) (by rfl) (pa_cons (pe_slice sl_tupA (pe_ix ix_list (pv 2) (pe_un un_neg pe_int) (fun _ _ => rfl)) (po_some pe_int) po_none) (pa_cons (pe_tup (pa_cons (pv 4) (pa_cons (pv 5) pa_nil))) pa_nil)))))))) (pss_one (ps_set (i := 3) nd rfl (by first | exact .inl rfl | exact .inr rfl) (pe_op op_add (pe_op op_add (pe_ix ix_tup (pe_bm0 PySem.F.plainAttrs_list PySem.F.slot_list_pop PySem.F.type_list_pop mt_pop (pv 2)) pe_int (fun _ _ => rfl)) (pe_op op_mul (pe_ix ix_tup (pv 7) pe_int (fun _ _ => rfl)) (pv 9))) (pv 6)))) (pss_cons (ps_expr (pe_bm PySem.F.plainAttrs_list PySem.F.slot_list_append PySem.F.type_list_append mt_append (pv 2) (pa_cons (pe_tup (pa_cons (pv 8) (pa_cons (pv 4) (pa_cons (pv 5) pa_nil)))) pa_nil)))
    (pss_one (ps_set (i := 3) nd rfl (by first | exact .inl rfl | exact .inr rfl) (pe_op op_add (pe_op op_mul (pe_ix ix_tup (pv 7) pe_int (fun _ _ => rfl)) (pv 9)) (pv 6))))))))))
    (pss_one (ps_ret (pe_tup (pa_cons (pe_callTy call_tuple_of (by rfl) hz.tuple (by decide +kernel) (pa_cons (pv 2) pa_nil)) (pa_cons (pv 3) pa_nil)))))))
abbrev s_walk_of : Stmt := topS 23
abbrev n_walk_of : List Str := ["room", "kept", "number", "turns", "step", "rest", "tie", "side"]
abbrev p_walk_of : List Str := ["room", "kept", "number"]
theorem sc_walk_of : FnScope n_walk_of p_walk_of (defScope s_walk_of) := ⟨rfl, rfl, rfl, by decide +kernel, rfl, by decide +kernel, by decide +kernel⟩
def t_walk_of (K : PySem.W.Frag) (sp_glued_walk : Sp) : TS :=
  (tSeq (tAsg (tOp rCat (tLc (iTup K (tVar 1)) (gName 4) tYes (tOp (rIxT K) (tVar 4) (tC (.int 0))) [4]) (tLst (tCons (tVar 2) tNil))) (gName 3))
    (tRet (tCall sp_glued_walk [] E0 (tCons (tVar 0) (tCons (tVar 3) (tCons (tLc (iTup K (tVar 1)) (gTup K 3 (gCons (gName 5) (gCons (gName 6) (gCons (gName 7) gNil)))) tYes (tTup (tCons (tVar 6) (tCons (tVar 7) tNil))) [5, 6, 7]) tNil))))))
theorem der_walk_of {P : Program} {w : World} {K : PySem.W.Frag} {mg : Str → Option Value} {base : Heap} {f : Addr} {cdv : Value} {A : Around} {outer : List Env} {s : Shared} {H : Hp} {E : XK} {sp_glued_walk : Sp} (hz : Fre mg)
    (c_glued_walk : Cl P w K mg base CX0 1 "glued_walk" p_glued_walk sp_glued_walk)
    (hr : Room 1 (A.deeper (envOfC "walk_of" (defScope s_walk_of) s.heap.objs.size f cdv))) :
    PSs (cxOf CX0 P w K mg base n_walk_of "walk_of" (defScope s_walk_of) f cdv A outer s H E).nox (defBody s_walk_of) (t_walk_of K sp_glued_walk) := by
  have nd := sc_walk_of.nd
  exact (pss_cons (ps_set (i := 3) nd rfl (by first | exact .inl rfl | exact .inr rfl) (pe_op op_cat (pe_lc (own := [("step", 4)]) rfl nd (pi_tup (pv 1)) (blkOk_by (own := [("step", 4)]) (N := n_walk_of) (sc := defScope s_walk_of) (by decide +kernel)) (fun _ _ _ _ _ => (pg_name (i := 4) nd rfl (by first | exact .inl rfl | exact .inr rfl))) (fun _ _ _ _ _ => pts_nil) (fun _ _ _ _ _ => (pe_ix ix_tup (pv 4) pe_int (fun _ _ => rfl)))) (pe_lst (pa_cons (pv 2) pa_nil))))
    (pss_one (ps_ret (pe_cl c_glued_walk hr (by decide) (by rfl) (pa_cons (pv 0) (pa_cons (pv 3) (pa_cons (pe_lc (own := [("rest", 5), ("tie", 6), ("side", 7)]) rfl nd (pi_tup (pv 1)) (blkOk_by (own := [("rest", 5), ("tie", 6), ("side", 7)]) (N := n_walk_of) (sc := defScope s_walk_of) (by decide +kernel)) (fun _ _ _ _ _ => (pg_tup rfl (pgs_cons (pg_name (i := 5) nd rfl (by first | exact .inl rfl | exact .inr rfl)) (pgs_cons (pg_name (i := 6) nd rfl (by first | exact .inl rfl | exact .inr rfl)) (pgs_cons (pg_name (i := 7) nd rfl (by first | exact .inl rfl | exact .inr rfl)) pgs_nil))))) (fun _ _ _ _ _ => pts_nil) (fun _ _ _ _ _ => (pe_tup (pa_cons (pv 6) (pa_cons (pv 7) pa_nil))))) pa_nil)))))))
abbrev s_plain_freely : Stmt := topS 24
abbrev n_plain_freely : List Str := ["web", "walk", "kept", "number"]
abbrev p_plain_freely : List Str := ["web", "walk"]
theorem sc_plain_freely : FnScope n_plain_freely p_plain_freely (defScope s_plain_freely) := ⟨rfl, rfl, rfl, by decide +kernel, rfl, by decide +kernel, by decide +kernel⟩
def t_plain_freely (K : PySem.W.Frag) (sp_reduced sp_walk_of : Sp) : TS :=
  (tSeq (tAsg (tCall sp_reduced [] E0 (tCons (tVar 0) (tCons (tVar 1) tNil))) (gTup K 2 (gCons (gName 2) (gCons (gName 3) gNil))))
    (tRet (tCall sp_walk_of [] E0 (tCons (tOp (rIxT K) (tVar 1) (tC (.int 0))) (tCons (tVar 2) (tCons (tVar 3) tNil))))))
theorem der_plain_freely {P : Program} {w : World} {K : PySem.W.Frag} {mg : Str → Option Value} {base : Heap} {f : Addr} {cdv : Value} {A : Around} {outer : List Env} {s : Shared} {H : Hp} {E : XK} {sp_reduced sp_walk_of : Sp} (hz : Fre mg)
    (c_reduced : Cl P w K mg base CX0 2 "reduced" p_reduced sp_reduced)
    (c_walk_of : Cl P w K mg base CX0 2 "walk_of" p_walk_of sp_walk_of)
    (hr : Room 2 (A.deeper (envOfC "plain_freely" (defScope s_plain_freely) s.heap.objs.size f cdv))) :
    PSs (cxOf CX0 P w K mg base n_plain_freely "plain_freely" (defScope s_plain_freely) f cdv A outer s H E).nox (defBody s_plain_freely) (t_plain_freely K sp_reduced sp_walk_of) := by
  have nd := sc_plain_freely.nd
  exact (pss_cons (ps_asg (pe_cl c_reduced hr (by decide) (by rfl) (pa_cons (pv 0) (pa_cons (pv 1) pa_nil))) (pg_tup rfl (pgs_cons (pg_name (i := 2) nd rfl (by first | exact .inl rfl | exact .inr rfl)) (pgs_cons (pg_name (i := 3) nd rfl (by first | exact .inl rfl | exact .inr rfl)) pgs_nil))))
    (pss_one (ps_ret (pe_cl c_walk_of hr (by decide) (by rfl) (pa_cons (pe_ix ix_tup (pv 1) pe_int (fun _ _ => rfl)) (pa_cons (pv 2) (pa_cons (pv 3) pa_nil)))))))
abbrev s_is_plain : Stmt := topS 25
abbrev n_is_plain : List Str := ["web", "walk"]
abbrev p_is_plain : List Str := ["web", "walk"]
theorem sc_is_plain : FnScope n_is_plain p_is_plain (defScope s_is_plain) := ⟨rfl, rfl, rfl, by decide +kernel, rfl, by decide +kernel, by decide +kernel⟩
def t_is_plain (K : PySem.W.Frag) (sp_plain_freely : Sp) : TS :=
  (tRet (tOp (rEqD K) (tCall sp_plain_freely [] E0 (tCons (tVar 0) (tCons (tVar 1) tNil))) (tVar 1)))
theorem der_is_plain {P : Program} {w : World} {K : PySem.W.Frag} {mg : Str → Option Value} {base : Heap} {f : Addr} {cdv : Value} {A : Around} {outer : List Env} {s : Shared} {H : Hp} {E : XK} {sp_plain_freely : Sp} (hz : Fre mg)
    (c_plain_freely : Cl P w K mg base CX0 3 "plain_freely" p_plain_freely sp_plain_freely)
    (hr : Room 3 (A.deeper (envOfC "is_plain" (defScope s_is_plain) s.heap.objs.size f cdv))) :
    PSs (cxOf CX0 P w K mg base n_is_plain "is_plain" (defScope s_is_plain) f cdv A outer s H E).nox (defBody s_is_plain) (t_is_plain K sp_plain_freely) := by
  have nd := sc_is_plain.nd
  exact (pss_one (ps_ret (pe_cmpR (op_eqD hr.units) (pe_cl c_plain_freely hr (by decide) (by rfl) (pa_cons (pv 0) (pa_cons (pv 1) pa_nil))) (pv 1) (nomark _))))
abbrev s__checked : Stmt := topS 26
abbrev n__checked : List Str := ["number"]
abbrev p__checked : List Str := ["number"]
theorem sc__checked : FnScope n__checked p__checked (defScope s__checked) := ⟨rfl, rfl, rfl, by decide +kernel, rfl, by decide +kernel, by decide +kernel⟩
def t__checked (K : PySem.W.Frag) (sp_is_turns : Sp) (C_TooGreat : Addr) (E : XK) : TS :=
  (tSeq (tIfS (tNot (tB (tCall sp_is_turns [] E0 (tCons (tVar 0) tNil)))) (tRaiseX C_TooGreat "what" (fun cls d _ H => E cls d H) (tCons (tC (.str "turns")) tNil)) tNext)
    (tRet (tVar 0)))
theorem der__checked {P : Program} {w : World} {K : PySem.W.Frag} {mg : Str → Option Value} {base : Heap} {f : Addr} {cdv : Value} {A : Around} {outer : List Env} {s : Shared} {H : Hp} {E : XK} {sp_is_turns : Sp} {C_TooGreat : Addr} (hz : Fre mg)
    (c_is_turns : Cl P w K mg base CX0 2 "is_turns" p_is_turns sp_is_turns)
    (x_TooGreat : Xc P w K mg base "TooGreat" "what" C_TooGreat)
    (hr : Room 3 (A.deeper (envOfC "_checked" (defScope s__checked) s.heap.objs.size f cdv))) :
    PSs (cxOf (L2.CX P w) P w K mg base n__checked "_checked" (defScope s__checked) f cdv A outer s H E) (defBody s__checked) (t__checked K sp_is_turns C_TooGreat E) := by
  have nd := sc__checked.nd
  exact (pss_cons (ps_if (pt_not (pt_val (pe_cl c_is_turns hr (by decide) (by rfl) (pa_cons (pv 0) pa_nil)))) (pss_one (ps_raiseX x_TooGreat rfl hr (by decide) (takes_of rfl rfl rfl rfl) (by rfl) (pa_cons pe_str pa_nil))) pss_nil)
    (pss_one (ps_ret (pv 0))))
abbrev s_plain_moves : Stmt := topS 27
abbrev n_plain_moves : List Str := ["web", "walk", "kept", "number", "moves", "tie", "side", "turns", "ends", "rest", "many"]
abbrev p_plain_moves : List Str := ["web", "walk"]
theorem sc_plain_moves : FnScope n_plain_moves p_plain_moves (defScope s_plain_moves) := ⟨rfl, rfl, rfl, by decide +kernel, rfl, by decide +kernel, by decide +kernel⟩
def t_plain_moves (K : PySem.W.Frag) (sp_ends_of sp_rest_of sp__checked sp_are_opposite : Sp) (E : XK) : TS :=
  (tSeq (tPar3 2 3 4 (tCons (tLst tNil) (tCons (tOp (rIxT K) (tVar 1) (tC (.int 1))) (tCons (tLst tNil) tNil))))
    (tSeq (tFor (iTup K (tOp (rIxT K) (tVar 1) (tC (.int 2)))) (gTup K 3 (gCons (gName 5) (gCons (gName 6) (gCons (gName 7) gNil)))) (tSeq (tAsg (tCall sp_ends_of [] E0 (tCons (tVar 0) (tCons (tVar 5) (tCons (tVar 6) tNil)))) (gName 8))
    (tSeq (tAsg (tCall sp_rest_of [] E0 (tCons (tVar 3) (tCons (tOp (rIxT K) (tVar 8) (tC (.int 2))) tNil))) (gTup K 2 (gCons (gName 9) (gCons (gName 10) gNil))))
    (tSeq (tIfS (tTest (tOp (rNeD K) (tVar 10) (tC (.int 0)))) (tDrop (tBM K "list" rAppend (tVar 4) (tCons (tTup (tCons (tC (.str "carry")) (tCons (tOp (rI0 fun i j => .int (i + j)) (tCB (rLenS K) (tCons (tVar 2) tNil)) (tC (.int 1))) (tCons (tVar 10) tNil)))) tNil))) tNext)
    (tSeq (tAsg (tCall sp__checked [] E (tCons (tOp (rI0 fun i j => .int (i + j)) (tOp (rI CMul fun i j => .int (i * j)) (tOp (rIxT K) (tVar 8) (tC (.int 3))) (tVar 10)) (tVar 7)) tNil)) (gName 3))
    (tIfS (tAnd (tTest (tOp (rEqD K) (tVar 9) (tC (.int 0)))) (tAnd (tTest (tOp (rNeD K) (tVar 2) (tLst tNil))) (tB (tCall sp_are_opposite [] E0 (tCons (tSl (rSlA K) (tOp (rIxL K) (tVar 2) (tUn (rU fun i => .int (-i)) (tC (.int 1)))) (tPart (tC (.int 1))) tNoPart) (tCons (tTup (tCons (tVar 5) (tCons (tVar 6) tNil))) tNil)))))) (tSeq (tDrop (tBM K "list" rAppend (tVar 4) (tCons (tTup (tCons (tC (.str "strike")) (tCons (tCB (rLenS K) (tCons (tVar 2) tNil)) tNil))) tNil)))
    (tAsg (tCall sp__checked [] E (tCons (tOp (rI0 fun i j => .int (i + j)) (tOp (rIxT K) (tBM0 K "list" rPop (tVar 2)) (tC (.int 0))) (tVar 3)) tNil)) (gName 3))) (tDrop (tBM K "list" rAppend (tVar 2) (tCons (tTup (tCons (tVar 9) (tCons (tVar 5) (tCons (tVar 6) tNil)))) tNil)))))))))
    (tRet (tCB (rTupOf K) (tCons (tVar 4) tNil)))))
theorem der_plain_moves {P : Program} {w : World} {K : PySem.W.Frag} {mg : Str → Option Value} {base : Heap} {f : Addr} {cdv : Value} {A : Around} {outer : List Env} {s : Shared} {H : Hp} {E : XK} {sp_ends_of sp_rest_of sp__checked sp_are_opposite : Sp} (hz : Fre mg)
    (c_ends_of : Cl P w K mg base CX0 1 "ends_of" p_ends_of sp_ends_of)
    (c_rest_of : Cl P w K mg base CX0 1 "rest_of" p_rest_of sp_rest_of)
    (c__checked : Cl P w K mg base (L2.CX P w) 4 "_checked" p__checked sp__checked)
    (c_are_opposite : Cl P w K mg base CX0 1 "are_opposite" p_are_opposite sp_are_opposite)
    (hr : Room 4 (A.deeper (envOfC "plain_moves" (defScope s_plain_moves) s.heap.objs.size f cdv))) :
    PSs (cxOf (L2.CX P w) P w K mg base n_plain_moves "plain_moves" (defScope s_plain_moves) f cdv A outer s H E) (defBody s_plain_moves) (t_plain_moves K sp_ends_of sp_rest_of sp__checked sp_are_opposite E) := by
  have nd := sc_plain_moves.nd
  exact (pss_cons (ps_par3 (i := 2) (j := 3) (l := 4) rfl nd rfl rfl rfl (by decide) (by decide) (by decide) rfl rfl rfl (pa_cons (pe_lst pa_nil) (pa_cons (pe_ix ix_tup (pv 1) pe_int (fun _ _ => rfl)) (pa_cons (pe_lst pa_nil) pa_nil))) (by rfl))
    (pss_cons (ps_for (passes_of rfl) rfl (pi_tup (pe_ix ix_tup (pv 1) pe_int (fun _ _ => rfl))) (pg_tup rfl (pgs_cons (pg_name (i := 5) nd rfl (by first | exact .inl rfl | exact .inr rfl)) (pgs_cons (pg_name (i := 6) nd rfl (by first | exact .inl rfl | exact .inr rfl)) (pgs_cons (pg_name (i := 7) nd rfl (by first | exact .inl rfl | exact .inr rfl)) pgs_nil)))) (pss_cons (ps_set (i := 8) nd rfl (by first | exact .inl rfl | exact .inr rfl) (pe_cl c_ends_of hr (by decide) (by rfl) (pa_cons (pv 0) (pa_cons (pv 5) (pa_cons (pv 6) pa_nil)))))
    (pss_cons (ps_asg (pe_cl c_rest_of hr (by decide) (by rfl) (pa_cons (pv 3) (pa_cons (pe_ix ix_tup (pv 8) pe_int (fun _ _ => rfl)) pa_nil))) (pg_tup rfl (pgs_cons (pg_name (i := 9) nd rfl (by first | exact .inl rfl | exact .inr rfl)) (pgs_cons (pg_name (i := 10) nd rfl (by first | exact .inl rfl | exact .inr rfl)) pgs_nil))))
    (pss_cons (ps_if (pt_cmpR (op_neD hr.units) (pv 10) pe_int (nomark _)) (pss_one (ps_expr (pe_bm PySem.F.plainAttrs_list PySem.F.slot_list_append PySem.F.type_list_append mt_append (pv 4) (pa_cons (pe_tup (pa_cons pe_str (pa_cons (pe_op op_add (pe_callB call_len_seq (by rfl) hz.len (by decide +kernel) (pa_cons (pv 2) pa_nil)) pe_int) (pa_cons (pv 10) pa_nil)))) pa_nil)))) pss_nil)
    (pss_cons (ps_set (i := 3) nd rfl (by first | exact .inl rfl | exact .inr rfl) (pe_clE c__checked hr (by decide) (by rfl) (passes_call (takes_of rfl rfl rfl rfl) fun _ _ _ _ h => h) (pa_cons (pe_op op_add (pe_op op_mul (pe_ix ix_tup (pv 8) pe_int (fun _ _ => rfl)) (pv 10)) (pv 7)) pa_nil)))
    (pss_one (ps_if (PW.pt (pw_and (pt_cmpR (op_eqD hr.units) (pv 9) pe_int (nomark _)) (pw_and (pt_cmpR (op_neD hr.units) (pv 2) (pe_lst pa_nil) (nomark _)) (pw_and1 (pt_val (pe_cl c_are_opposite hr (by decide) (by rfl) (pa_cons (pe_slice sl_tupA (pe_ix ix_list (pv 2) (pe_un un_neg pe_int) (fun _ _ => rfl)) (po_some pe_int) po_none) (pa_cons (pe_tup (pa_cons (pv 5) (pa_cons (pv 6) pa_nil))) pa_nil)))))))) (pss_cons (ps_expr (pe_bm PySem.F.plainAttrs_list PySem.F.slot_list_append PySem.F.type_list_append mt_append (pv 4) (pa_cons (pe_tup (pa_cons pe_str (pa_cons (pe_callB call_len_seq (by rfl) hz.len (by decide +kernel) (pa_cons (pv 2) pa_nil)) pa_nil))) pa_nil)))
    (pss_one (ps_set (i := 3) nd rfl (by first | exact .inl rfl | exact .inr rfl) (pe_clE c__checked hr (by decide) (by rfl) (passes_call (takes_of rfl rfl rfl rfl) fun _ _ _ _ h => h) (pa_cons (pe_op op_add (pe_ix ix_tup (pe_bm0 PySem.F.plainAttrs_list PySem.F.slot_list_pop PySem.F.type_list_pop mt_pop (pv 2)) pe_int (fun _ _ => rfl)) (pv 3)) pa_nil))))) (pss_one (ps_expr (pe_bm PySem.F.plainAttrs_list PySem.F.slot_list_append PySem.F.type_list_append mt_append (pv 2) (pa_cons (pe_tup (pa_cons (pv 9) (pa_cons (pv 5) (pa_cons (pv 6) pa_nil)))) pa_nil)))))))))))
    (pss_one (ps_ret (pe_callTy call_tuple_of (by rfl) hz.tuple (by decide +kernel) (pa_cons (pv 4) pa_nil))))))
abbrev s__taken_back : Stmt := topS 29
abbrev n__taken_back : List Str := ["walk", "move", "turns", "crossings", "tie", "side"]
abbrev p__taken_back : List Str := ["walk", "move"]
theorem sc__taken_back : FnScope n__taken_back p__taken_back (defScope s__taken_back) := ⟨rfl, rfl, rfl, by decide +kernel, rfl, by decide +kernel, by decide +kernel⟩
def t__taken_back (K : PySem.W.Frag) (sp_split_walk : Sp) : TS :=
  (tSeq (tIfS (tTest (tOp (rEqD K) (tOp (rIxT K) (tVar 1) (tC (.int 0))) (tC (.str "carry")))) (tRet (tTup (tCons (tC (.str "carry")) (tCons (tOp (rIxT K) (tVar 1) (tC (.int 1))) (tCons (tUn (rU fun i => .int (-i)) (tOp (rIxT K) (tVar 1) (tC (.int 2)))) tNil))))) tNext)
    (tSeq (tAsg (tCall sp_split_walk [] E0 (tCons (tVar 0) tNil)) (gTup K 2 (gCons (gName 2) (gCons (gName 3) gNil))))
    (tSeq (tIfS (tTest (tOp (rEqD K) (tOp (rIxT K) (tVar 1) (tC (.int 0))) (tC (.str "strike")))) (tSeq (tAsg (tOp (rIxL K) (tVar 3) (tOp (rI0 fun i j => .int (i - j)) (tOp (rIxT K) (tVar 1) (tC (.int 1))) (tC (.int 1)))) (gTup K 2 (gCons (gName 4) (gCons (gName 5) gNil))))
    (tRet (tTup (tCons (tC (.str "put")) (tCons (tOp (rI0 fun i j => .int (i - j)) (tOp (rIxT K) (tVar 1) (tC (.int 1))) (tC (.int 1))) (tCons (tVar 4) (tCons (tVar 5) (tCons (tOp (rIxL K) (tVar 2) (tOp (rI0 fun i j => .int (i - j)) (tOp (rIxT K) (tVar 1) (tC (.int 1))) (tC (.int 1)))) tNil)))))))) tNext)
    (tRet (tTup (tCons (tC (.str "strike")) (tCons (tOp (rI0 fun i j => .int (i + j)) (tOp (rIxT K) (tVar 1) (tC (.int 1))) (tC (.int 1))) tNil)))))))
theorem der__taken_back {P : Program} {w : World} {K : PySem.W.Frag} {mg : Str → Option Value} {base : Heap} {f : Addr} {cdv : Value} {A : Around} {outer : List Env} {s : Shared} {H : Hp} {E : XK} {sp_split_walk : Sp} (hz : Fre mg)
    (c_split_walk : Cl P w K mg base CX0 1 "split_walk" p_split_walk sp_split_walk)
    (hr : Room 1 (A.deeper (envOfC "_taken_back" (defScope s__taken_back) s.heap.objs.size f cdv))) :
    PSs (cxOf CX0 P w K mg base n__taken_back "_taken_back" (defScope s__taken_back) f cdv A outer s H E).nox (defBody s__taken_back) (t__taken_back K sp_split_walk) := by
  have nd := sc__taken_back.nd
  exact (pss_cons (ps_if (pt_cmpR (op_eqD hr.units) (pe_ix ix_tup (pv 1) pe_int (fun _ _ => rfl)) pe_str (nomark _)) (pss_one (ps_ret (pe_tup (pa_cons pe_str (pa_cons (pe_ix ix_tup (pv 1) pe_int (fun _ _ => rfl)) (pa_cons (pe_un un_neg (pe_ix ix_tup (pv 1) pe_int (fun _ _ => rfl))) pa_nil)))))) pss_nil)
    (pss_cons (ps_asg (pe_cl c_split_walk hr (by decide) (by rfl) (pa_cons (pv 0) pa_nil)) (pg_tup rfl (pgs_cons (pg_name (i := 2) nd rfl (by first | exact .inl rfl | exact .inr rfl)) (pgs_cons (pg_name (i := 3) nd rfl (by first | exact .inl rfl | exact .inr rfl)) pgs_nil))))
    (pss_cons (ps_if (pt_cmpR (op_eqD hr.units) (pe_ix ix_tup (pv 1) pe_int (fun _ _ => rfl)) pe_str (nomark _)) (pss_cons (ps_asg (pe_ix ix_list (pv 3) (pe_op op_sub (pe_ix ix_tup (pv 1) pe_int (fun _ _ => rfl)) pe_int) (fun _ _ => rfl)) (pg_tup rfl (pgs_cons (pg_name (i := 4) nd rfl (by first | exact .inl rfl | exact .inr rfl)) (pgs_cons (pg_name (i := 5) nd rfl (by first | exact .inl rfl | exact .inr rfl)) pgs_nil))))
    (pss_one (ps_ret (pe_tup (pa_cons pe_str (pa_cons (pe_op op_sub (pe_ix ix_tup (pv 1) pe_int (fun _ _ => rfl)) pe_int) (pa_cons (pv 4) (pa_cons (pv 5) (pa_cons (pe_ix ix_list (pv 2) (pe_op op_sub (pe_ix ix_tup (pv 1) pe_int (fun _ _ => rfl)) pe_int) (fun _ _ => rfl)) pa_nil))))))))) pss_nil)
    (pss_one (ps_ret (pe_tup (pa_cons pe_str (pa_cons (pe_op op_add (pe_ix ix_tup (pv 1) pe_int (fun _ _ => rfl)) pe_int) pa_nil))))))))
abbrev s_back_moves : Stmt := topS 30
abbrev n_back_moves : List Str := ["web", "walk", "moves", "found", "here", "move"]
abbrev p_back_moves : List Str := ["web", "walk", "moves"]
theorem sc_back_moves : FnScope n_back_moves p_back_moves (defScope s_back_moves) := ⟨rfl, rfl, rfl, by decide +kernel, rfl, by decide +kernel, by decide +kernel⟩
def t_back_moves (K : PySem.W.Frag) (sp__taken_back sp_moved_walk : Sp) : TS :=
  (tSeq (tPar 3 4 (tCons (tLst tNil) (tCons (tVar 1) tNil)))
    (tSeq (tFor (iTup K (tVar 2)) (gName 5) (tSeq (tDrop (tBM K "list" rAppend (tVar 3) (tCons (tCall sp__taken_back [] E0 (tCons (tVar 4) (tCons (tVar 5) tNil))) tNil)))
    (tAsg (tCall sp_moved_walk [] E0 (tCons (tVar 0) (tCons (tVar 4) (tCons (tTup (tCons (tVar 5) tNil)) tNil)))) (gName 4))))
    (tRet (RT.tTupRev K (tVar 3)))))
theorem der_back_moves {P : Program} {w : World} {K : PySem.W.Frag} {mg : Str → Option Value} {base : Heap} {f : Addr} {cdv : Value} {A : Around} {outer : List Env} {s : Shared} {H : Hp} {E : XK} {sp__taken_back sp_moved_walk : Sp} (hz : Fre mg)
    (c__taken_back : Cl P w K mg base CX0 2 "_taken_back" p__taken_back sp__taken_back)
    (c_moved_walk : Cl P w K mg base (L2.CX P w) 5 "moved_walk" p_moved_walk sp_moved_walk)
    (hr : Room 5 (A.deeper (envOfC "back_moves" (defScope s_back_moves) s.heap.objs.size f cdv))) :
    PSs (cxOf CX0 P w K mg base n_back_moves "back_moves" (defScope s_back_moves) f cdv A outer s H E).nox (defBody s_back_moves) (t_back_moves K sp__taken_back sp_moved_walk) := by
  have nd := sc_back_moves.nd
  exact (pss_cons (ps_par (i := 3) (j := 4) rfl nd rfl rfl (by decide) rfl rfl (pa_cons (pe_lst pa_nil) (pa_cons (pv 1) pa_nil)) (by rfl))
    (pss_cons (ps_for PassesOwn.never rfl (pi_tup (pv 2)) (pg_name (i := 5) nd rfl (by first | exact .inl rfl | exact .inr rfl)) (pss_cons (ps_expr (pe_bm PySem.F.plainAttrs_list PySem.F.slot_list_append PySem.F.type_list_append mt_append (pv 3) (pa_cons (pe_cl c__taken_back hr (by decide) (by rfl) (pa_cons (pv 4) (pa_cons (pv 5) pa_nil))) pa_nil)))
    (pss_one (ps_set (i := 4) nd rfl (by first | exact .inl rfl | exact .inr rfl) (pe_clE c_moved_walk hr (by decide) (by rfl) passL (pa_cons (pv 0) (pa_cons (pv 4) (pa_cons (pe_tup (pa_cons (pv 5) pa_nil)) pa_nil))))))))
    (pss_one (ps_ret (RT.pe_tupRev rfl (by rfl) hz.tuple (by rfl) hz.reversed (pv 3))))))
abbrev s_equality_paper : Stmt := topS 31
abbrev n_equality_paper : List Str := ["web", "first", "second", "moves", "others"]
abbrev p_equality_paper : List Str := ["web", "first", "second"]
theorem sc_equality_paper : FnScope n_equality_paper p_equality_paper (defScope s_equality_paper) := ⟨rfl, rfl, rfl, by decide +kernel, rfl, by decide +kernel, by decide +kernel⟩
def t_equality_paper (K : PySem.W.Frag) (sp_plain_moves sp_plain_freely sp_back_moves : Sp) (E : XK) : TS :=
  (tSeq (tPar 3 4 (tCons (tCall sp_plain_moves [] E (tCons (tVar 0) (tCons (tVar 1) tNil))) (tCons (tCall sp_plain_moves [] E (tCons (tVar 0) (tCons (tVar 2) tNil))) tNil)))
    (tSeq (tIfS (tTest (tOp (rEqD K) (tCall sp_plain_freely [] E0 (tCons (tVar 0) (tCons (tVar 1) tNil))) (tCall sp_plain_freely [] E0 (tCons (tVar 0) (tCons (tVar 2) tNil))))) (tRet (tTup (tCons (tC (.str "equal")) (tCons (tOp (rCatA K) (tVar 3) (tCall sp_back_moves [] E0 (tCons (tVar 0) (tCons (tVar 2) (tCons (tVar 4) tNil))))) tNil)))) tNext)
    (tRet (tTup (tCons (tC (.str "unlike")) (tCons (tVar 3) (tCons (tVar 4) tNil)))))))
theorem der_equality_paper {P : Program} {w : World} {K : PySem.W.Frag} {mg : Str → Option Value} {base : Heap} {f : Addr} {cdv : Value} {A : Around} {outer : List Env} {s : Shared} {H : Hp} {E : XK} {sp_plain_moves sp_plain_freely sp_back_moves : Sp} (hz : Fre mg)
    (c_plain_moves : Cl P w K mg base (L2.CX P w) 5 "plain_moves" p_plain_moves sp_plain_moves)
    (c_plain_freely : Cl P w K mg base CX0 3 "plain_freely" p_plain_freely sp_plain_freely)
    (c_back_moves : Cl P w K mg base CX0 6 "back_moves" p_back_moves sp_back_moves)
    (hr : Room 6 (A.deeper (envOfC "equality_paper" (defScope s_equality_paper) s.heap.objs.size f cdv))) :
    PSs (cxOf (L2.CX P w) P w K mg base n_equality_paper "equality_paper" (defScope s_equality_paper) f cdv A outer s H E) (defBody s_equality_paper) (t_equality_paper K sp_plain_moves sp_plain_freely sp_back_moves E) := by
  have nd := sc_equality_paper.nd
  exact (pss_cons (ps_par (i := 3) (j := 4) rfl nd rfl rfl (by decide) rfl rfl (pa_cons (pe_clE c_plain_moves hr (by decide) (by rfl) (passes_call (takes_of rfl rfl rfl rfl) fun _ _ _ _ h => h) (pa_cons (pv 0) (pa_cons (pv 1) pa_nil))) (pa_cons (pe_clE c_plain_moves hr (by decide) (by rfl) (passes_call (takes_of rfl rfl rfl rfl) fun _ _ _ _ h => h) (pa_cons (pv 0) (pa_cons (pv 2) pa_nil))) pa_nil)) (by rfl))
    (pss_cons (ps_if (pt_cmpR (op_eqD hr.units) (pe_cl c_plain_freely hr (by decide) (by rfl) (pa_cons (pv 0) (pa_cons (pv 1) pa_nil))) (pe_cl c_plain_freely hr (by decide) (by rfl) (pa_cons (pv 0) (pa_cons (pv 2) pa_nil))) (nomark _)) (pss_one (ps_ret (pe_tup (pa_cons pe_str (pa_cons (pe_op op_catA (pv 3) (pe_cl c_back_moves hr (by decide) (by rfl) (pa_cons (pv 0) (pa_cons (pv 2) (pa_cons (pv 4) pa_nil))))) pa_nil))))) pss_nil)
    (pss_one (ps_ret (pe_tup (pa_cons pe_str (pa_cons (pv 3) (pa_cons (pv 4) pa_nil))))))))
abbrev s__led : Stmt := topS 32
abbrev n__led : List Str := ["web", "walk", "moves"]
abbrev p__led : List Str := ["web", "walk", "moves"]
theorem sc__led : FnScope n__led p__led (defScope s__led) := ⟨rfl, rfl, rfl, by decide +kernel, rfl, by decide +kernel, by decide +kernel⟩
def t__led (K : PySem.W.Frag) (sp_moved_walk : Sp) (C_NoMove : Addr) : TS :=
  (tSeq (tIfS (tOr (tNot (tB (tCB (rIsi K) (tCons (tVar 2) (tCons (tC (.ty "tuple")) tNil))))) (tTest (tOp (rI0 fun i j => .bl (decide (j < i))) (tCB (rLenS K) (tCons (tVar 2) tNil)) (tC (.int 2000))))) (tRet (tC .non)) tNext)
    (tTryO K C_NoMove (fun W => (tRet (tCallS sp_moved_walk (WE W) (tCons (tVar 0) (tCons (tVar 1) (tCons (tVar 2) tNil)))))) ((tRet (tC .non)))))
theorem der__led {P : Program} {w : World} {K : PySem.W.Frag} {mg : Str → Option Value} {base : Heap} {f : Addr} {cdv : Value} {A : Around} {outer : List Env} {s : Shared} {H : Hp} {E : XK} {sp_moved_walk : Sp} {C_NoMove : Addr} (hz : Fre mg)
    (c_moved_walk : Cl P w K mg base (L2.CX P w) 5 "moved_walk" p_moved_walk sp_moved_walk)
    (x_NoMove : Xc P w K mg base "NoMove" "number" C_NoMove)
    (hr : Room 5 (A.deeper (envOfC "_led" (defScope s__led) s.heap.objs.size f cdv))) :
    PSs (cxOf CX0 P w K mg base n__led "_led" (defScope s__led) f cdv A outer s H E).nox (defBody s__led) (t__led K sp_moved_walk C_NoMove) := by
  have nd := sc__led.nd
  exact (pss_cons (ps_if (PW.pt (pw_or (pt_not (pt_val (pe_callB call_isi (by rfl) hz.isinstance (by decide +kernel) (pa_cons (pv 2) (pa_cons (pe_bltn (v := .ty "tuple") (u := .type "tuple") (by rfl) hz.tuple (by decide +kernel) rfl) pa_nil))))) (pw_or1 (pt_cmpR op_gt (pe_callB call_len_seq (by rfl) hz.len (by decide +kernel) (pa_cons (pv 2) pa_nil)) (pe_gi (by rfl) hz.moves) (nomark _))))) (pss_one (ps_ret pe_non)) pss_nil)
    (pss_one (ps_try_only (tb := fun W => (tRet (tCallS sp_moved_walk (WE W) (tCons (tVar 0) (tCons (tVar 1) (tCons (tVar 2) tNil)))))) (ts := fun _ _ _ => (tRet (tC .non))) (Wout := fun _ _ _ _ => False) rfl rfl ⟨rfl, by decide, .inl x_NoMove.gC⟩ L2.takes0 (fun W pn xe tk _ => (pss_one (ps_ret (pe_clS c_moved_walk hr (by decide) (by rfl) (fun σ => passAt tk σ) (pa_cons (pv 0) (pa_cons (pv 1) (pa_cons (pv 2) pa_nil))))))) (fun a oe cls d pn _ _ => (pss_one (ps_ret pe_non))))))
abbrev s_is_equality_paper : Stmt := topS 33
abbrev n_is_equality_paper : List Str := ["web", "first", "second", "value", "here", "there"]
abbrev p_is_equality_paper : List Str := ["web", "first", "second", "value"]
theorem sc_is_equality_paper : FnScope n_is_equality_paper p_is_equality_paper (defScope s_is_equality_paper) := ⟨rfl, rfl, rfl, by decide +kernel, rfl, by decide +kernel, by decide +kernel⟩
def t_is_equality_paper (K : PySem.W.Frag) (sp__led sp_is_plain : Sp) : TS :=
  (tSeq (tIfS (tOr (tNot (tB (tCB (rIsi K) (tCons (tVar 3) (tCons (tC (.ty "tuple")) tNil))))) (tTest (tOp (rI0 fun i j => .bl (decide (i < j))) (tCB (rLenS K) (tCons (tVar 3) tNil)) (tC (.int 2))))) (tRet (tC (.bl false))) tNext)
    (tSeq (tAsg (tCall sp__led [] E0 (tCons (tVar 0) (tCons (tVar 1) (tCons (tOp (rIxT K) (tVar 3) (tC (.int 1))) tNil)))) (gName 4))
    (tSeq (tIfS (tTest (tOp rIsN0 (tVar 4) (tC .non))) (tRet (tC (.bl false))) tNext)
    (tSeq (tIfS (tTest (tOp (rEqD K) (tOp (rIxT K) (tVar 3) (tC (.int 0))) (tC (.str "equal")))) (tRet (tAndV (tOp (rEqD K) (tCB (rLenS K) (tCons (tVar 3) tNil)) (tC (.int 2))) (tOp (rEqD K) (tVar 4) (tVar 2)))) tNext)
    (tSeq (tIfS (tOr (tTest (tOp (rNeD K) (tOp (rIxT K) (tVar 3) (tC (.int 0))) (tC (.str "unlike")))) (tTest (tOp (rNeD K) (tCB (rLenS K) (tCons (tVar 3) tNil)) (tC (.int 3))))) (tRet (tC (.bl false))) tNext)
    (tSeq (tAsg (tCall sp__led [] E0 (tCons (tVar 0) (tCons (tVar 2) (tCons (tOp (rIxT K) (tVar 3) (tC (.int 2))) tNil)))) (gName 5))
    (tSeq (tIfS (tOr (tTest (tOp rIsN0 (tVar 5) (tC .non))) (tTest (tOp (rEqD K) (tVar 4) (tVar 5)))) (tRet (tC (.bl false))) tNext)
    (tRet (tAndV (tCall sp_is_plain [] E0 (tCons (tVar 0) (tCons (tVar 4) tNil))) (tCall sp_is_plain [] E0 (tCons (tVar 0) (tCons (tVar 5) tNil))))))))))))
theorem der_is_equality_paper {P : Program} {w : World} {K : PySem.W.Frag} {mg : Str → Option Value} {base : Heap} {f : Addr} {cdv : Value} {A : Around} {outer : List Env} {s : Shared} {H : Hp} {E : XK} {sp__led sp_is_plain : Sp} (hz : Fre mg)
    (c__led : Cl P w K mg base CX0 6 "_led" p__led sp__led)
    (c_is_plain : Cl P w K mg base CX0 4 "is_plain" p_is_plain sp_is_plain)
    (hr : Room 6 (A.deeper (envOfC "is_equality_paper" (defScope s_is_equality_paper) s.heap.objs.size f cdv))) :
    PSs (cxOf CX0 P w K mg base n_is_equality_paper "is_equality_paper" (defScope s_is_equality_paper) f cdv A outer s H E).nox (defBody s_is_equality_paper) (t_is_equality_paper K sp__led sp_is_plain) := by
  have nd := sc_is_equality_paper.nd
  exact (pss_cons (ps_if (PW.pt (pw_or (pt_not (pt_val (pe_callB call_isi (by rfl) hz.isinstance (by decide +kernel) (pa_cons (pv 3) (pa_cons (pe_bltn (v := .ty "tuple") (u := .type "tuple") (by rfl) hz.tuple (by decide +kernel) rfl) pa_nil))))) (pw_or1 (pt_cmpR op_lt (pe_callB call_len_seq (by rfl) hz.len (by decide +kernel) (pa_cons (pv 3) pa_nil)) pe_int (nomark _))))) (pss_one (ps_ret pe_bl)) pss_nil)
    (pss_cons (ps_set (i := 4) nd rfl (by first | exact .inl rfl | exact .inr rfl) (pe_cl c__led hr (by decide) (by rfl) (pa_cons (pv 0) (pa_cons (pv 1) (pa_cons (pe_ix ix_tup (pv 3) pe_int (fun _ _ => rfl)) pa_nil)))))
    (pss_cons (ps_if (pt_cmpR op_isN (pv 4) pe_non (nomark _)) (pss_one (ps_ret pe_bl)) pss_nil)
    (pss_cons (ps_if (pt_cmpR (op_eqD hr.units) (pe_ix ix_tup (pv 3) pe_int (fun _ _ => rfl)) pe_str (nomark _)) (pss_one (ps_ret (pe_and (pe_cmpR (op_eqD hr.units) (pe_callB call_len_seq (by rfl) hz.len (by decide +kernel) (pa_cons (pv 3) pa_nil)) pe_int (nomark _)) (pe_one (pe_cmpR (op_eqD hr.units) (pv 4) (pv 2) (nomark _)))))) pss_nil)
    (pss_cons (ps_if (PW.pt (pw_or (pt_cmpR (op_neD hr.units) (pe_ix ix_tup (pv 3) pe_int (fun _ _ => rfl)) pe_str (nomark _)) (pw_or1 (pt_cmpR (op_neD hr.units) (pe_callB call_len_seq (by rfl) hz.len (by decide +kernel) (pa_cons (pv 3) pa_nil)) pe_int (nomark _))))) (pss_one (ps_ret pe_bl)) pss_nil)
    (pss_cons (ps_set (i := 5) nd rfl (by first | exact .inl rfl | exact .inr rfl) (pe_cl c__led hr (by decide) (by rfl) (pa_cons (pv 0) (pa_cons (pv 2) (pa_cons (pe_ix ix_tup (pv 3) pe_int (fun _ _ => rfl)) pa_nil)))))
    (pss_cons (ps_if (PW.pt (pw_or (pt_cmpR op_isN (pv 5) pe_non (nomark _)) (pw_or1 (pt_cmpR (op_eqD hr.units) (pv 4) (pv 5) (nomark _))))) (pss_one (ps_ret pe_bl)) pss_nil)
    (pss_one (ps_ret (pe_and (pe_cl c_is_plain hr (by decide) (by rfl) (pa_cons (pv 0) (pa_cons (pv 4) pa_nil))) (pe_one (pe_cl c_is_plain hr (by decide) (by rfl) (pa_cons (pv 0) (pa_cons (pv 5) pa_nil))))))))))))))
abbrev s__law_begun : Stmt := topS 35
abbrev n__law_begun : List Str := ["_law_script", "_law_k", "_law_cells", "_law_great", "_law_begun_here", "_law_cell"]
abbrev p__law_begun : List Str := ["_law_script", "_law_k"]
theorem sc__law_begun : FnScope n__law_begun p__law_begun (defScope s__law_begun) := ⟨rfl, rfl, rfl, by decide +kernel, rfl, by decide +kernel, by decide +kernel⟩
def t__law_begun (K : PySem.W.Frag) : TS :=
  (tSeq (tAsg (tOp rCat (tSl (rSlL K) (tVar 0) (tPart (tVar 1)) tNoPart) (tSl (rSlL K) (tVar 0) tNoPart (tPart (tVar 1)))) (gName 2))
    (tSeq (tAsg (tLc (iList K (tVar 0)) (gName 5) (tTest (tOp (rI0 fun i j => .bl (decide (j ≤ i))) (tVar 5) (tOp (rI CPowB fun i j => .int (i ^ j.toNat)) (tC (.int 10)) (tC (.int 18))))) (tVar 5) [5]) (gName 3))
    (tSeq (tAsg (tOp (rI0 fun i j => .int (i + j)) (tC (.int 59)) (tOp (rI CMul fun i j => .int (i * j)) (tC (.int 6)) (tVar 1))) (gName 4))
    (tSeq (tFor (iList K (tVar 2)) (gName 5) (tAsg (tOp (rI (fun _ j => 0 < j) fun i j => .int (i % j)) (tCB rToInt (tCons (tOp (rI0 fun i j => .int (i + j)) (tOp (rI CMul fun i j => .int (i * j)) (tVar 4) (tC (.int 48271))) (tVar 5)) tNil)) (tC (.int 2147483647))) (gName 4)))
    (tRet (tDisp [((tC (.str "left")), (tIf (tTest (tOp (rI0 fun i j => .bl (decide (i < j))) (tVar 1) (tCB (rLenS K) (tCons (tVar 3) tNil)))) (tOp (rIxL K) (tVar 3) (tVar 1)) (tC (.int 0)))), ((tC (.str "seed")), (tVar 4)), ((tC (.str "cells")), (tOp rCat (tVar 2) (tLst (tCons (tOp (rI0 fun i j => .int (i + j)) (tOp (rI CMul fun i j => .int (i * j)) (tC (.int 43)) (tVar 1)) (tC (.int 17))) tNil)))), ((tC (.str "spot")), (tC (.int 0)))]))))))
theorem der__law_begun {P : Program} {w : World} {K : PySem.W.Frag} {mg : Str → Option Value} {base : Heap} {f : Addr} {cdv : Value} {A : Around} {outer : List Env} {s : Shared} {H : Hp} {E : XK} (hz : Fre mg)
    (hr : Room 0 (A.deeper (envOfC "_law_begun" (defScope s__law_begun) s.heap.objs.size f cdv))) :
    PSs (cxOf CX0 P w K mg base n__law_begun "_law_begun" (defScope s__law_begun) f cdv A outer s H E).nox (defBody s__law_begun) (t__law_begun K) := by
  have nd := sc__law_begun.nd
  exact (pss_cons (ps_set (i := 2) nd rfl (by first | exact .inl rfl | exact .inr rfl) (pe_op op_cat (pe_slice sl_list (pv 0) (po_some (pv 1)) po_none) (pe_slice sl_list (pv 0) po_none (po_some (pv 1)))))
    (pss_cons (ps_setLc (i := 3) (own := [("_law_cell", 5)]) rfl nd rfl rfl (sw_true rfl rfl rfl (by decide +kernel)) (pi_list (pv 0)) (blkOk_by (own := [("_law_cell", 5)]) (N := n__law_begun) (sc := defScope s__law_begun) (by decide +kernel)) (fun _ _ _ _ _ => (pg_name (i := 5) nd rfl (by first | exact .inl rfl | exact .inr rfl))) (fun _ _ _ _ _ => (pts_one (pt_cmpR op_ge (pv 5) (pe_op op_powB pe_int pe_int) (nomark _)))) (fun _ _ _ _ _ => (pv 5)))
    (pss_cons (ps_set (i := 4) nd rfl (by first | exact .inl rfl | exact .inr rfl) (pe_op op_add pe_int (pe_op op_mul pe_int (pv 1))))
    (pss_cons (ps_for PassesOwn.never rfl (pi_list (pv 2)) (pg_name (i := 5) nd rfl (by first | exact .inl rfl | exact .inr rfl)) (pss_one (ps_set (i := 4) nd rfl (by first | exact .inl rfl | exact .inr rfl) (pe_op op_mod (pe_callTy call_int1 (by rfl) hz.int (by decide +kernel) (pa_cons (pe_op op_add (pe_op op_mul (pv 4) pe_int) (pv 5)) pa_nil)) pe_int))))
    (pss_one (ps_ret (pe_disp (pps_cons pe_str (pe_ifExp (pt_cmpR op_lt (pv 1) (pe_callB call_len_seq (by rfl) hz.len (by decide +kernel) (pa_cons (pv 3) pa_nil)) (nomark _)) (pe_ix ix_list (pv 3) (pv 1) (fun _ _ => rfl)) pe_int) (pps_cons pe_str (pv 4) (pps_cons pe_str (pe_op op_cat (pv 2) (pe_lst (pa_cons (pe_op op_add (pe_op op_mul pe_int (pv 1)) pe_int) pa_nil))) (pps_cons pe_str pe_int pps_nil)))) rfl rfl (by simp) (by decide))))))))
abbrev s__law_draw : Stmt := topS 36
abbrev n__law_draw : List Str := ["_law_m", "_law_below", "_law_found", "_law_spot", "_law_cells", "_law_added", "_law_cell", "_law_blend"]
abbrev p__law_draw : List Str := ["_law_m", "_law_below"]
theorem sc__law_draw : FnScope n__law_draw p__law_draw (defScope s__law_draw) := ⟨rfl, rfl, rfl, by decide +kernel, rfl, by decide +kernel, by decide +kernel⟩
def t__law_draw (K : PySem.W.Frag) : TS :=
  (tSeq (tIfS (tTest (tOp (rI0 fun i j => .bl (decide (j < i))) (tDGet (tVar 0) (tC (.str "left"))) (tC (.int 0)))) (tSeq (tAsg (tOp (rI (fun _ j => 0 < j) fun i j => .int (i % j)) (tCB rToInt (tCons (tDGet (tVar 0) (tC (.str "left"))) tNil)) (tVar 1)) (gName 2))
    (tSeq (sDPut (tVar 0) (tC (.str "left")) (tOp (rI CDivW fun i j => .int (i / j)) (tDGet (tVar 0) (tC (.str "left"))) (tVar 1)))
    (tRet (tVar 2)))) tNext)
    (tSeq (tAsg (tDGet (tVar 0) (tC (.str "spot"))) (gName 3))
    (tSeq (sDPut (tVar 0) (tC (.str "spot")) (tOp (rI0 fun i j => .int (i + j)) (tVar 3) (tC (.int 1))))
    (tSeq (tPar 4 5 (tCons (tDGet (tVar 0) (tC (.str "cells"))) (tCons (tOp (rI0 fun i j => .int (i + j)) (tDGet (tVar 0) (tC (.str "seed"))) (tOp (rI CMul fun i j => .int (i * j)) (tOp (rI CMul fun i j => .int (i * j)) (tC (.int 40503)) (tVar 3)) (tVar 3))) tNil)))
    (tSeq (tAsg (tOp (rIxL K) (tVar 4) (tOp (rI (fun _ j => 0 < j) fun i j => .int (i % j)) (tCB rToInt (tCons (tVar 3) tNil)) (tCB (rLenS K) (tCons (tVar 4) tNil)))) (gName 6))
    (tSeq (tAsg (tOp (rI (fun _ j => 0 < j) fun i j => .int (i % j)) (tCB rToInt (tCons (tOp (rI0 fun i j => .int (i + j)) (tOp (rI CMul fun i j => .int (i * j)) (tVar 6) (tOp (rI0 fun i j => .int (i + j)) (tOp (rI CMul fun i j => .int (i * j)) (tC (.int 2)) (tVar 3)) (tC (.int 3)))) (tVar 5)) tNil)) (tC (.int 2147483647))) (gName 7))
    (tSeq (tAsg (tOp (rI (fun _ j => 0 < j) fun i j => .int (i % j)) (tCB rToInt (tCons (tOp (rI0 fun i j => .int (i + j)) (tOp (rI0 fun i j => .int (i + j)) (tOp (rI CMul fun i j => .int (i * j)) (tVar 7) (tVar 7)) (tOp (rI CMul fun i j => .int (i * j)) (tC (.int 69621)) (tVar 3))) (tDGet (tVar 0) (tC (.str "seed")))) tNil)) (tC (.int 2147483629))) (gName 7))
    (tRet (tOp (rI (fun _ j => 0 < j) fun i j => .int (i % j)) (tOp (rI CDivW fun i j => .int (i / j)) (tOp (rI (fun _ j => 0 < j) fun i j => .int (i % j)) (tCB rToInt (tCons (tOp (rI0 fun i j => .int (i + j)) (tOp (rI CMul fun i j => .int (i * j)) (tVar 7) (tC (.int 48271))) (tVar 3)) tNil)) (tC (.int 2147483647))) (tC (.int 11))) (tVar 1))))))))))
theorem der__law_draw {P : Program} {w : World} {K : PySem.W.Frag} {mg : Str → Option Value} {base : Heap} {f : Addr} {cdv : Value} {A : Around} {outer : List Env} {s : Shared} {H : Hp} {E : XK} (hz : Fre mg)
    (hr : Room 0 (A.deeper (envOfC "_law_draw" (defScope s__law_draw) s.heap.objs.size f cdv))) :
    PSs (cxOf CX0 P w K mg base n__law_draw "_law_draw" (defScope s__law_draw) f cdv A outer s H E).nox (defBody s__law_draw) (t__law_draw K) := by
  have nd := sc__law_draw.nd
  exact (pss_cons (ps_if (pt_cmpR op_gt (pe_dget (hu_of hr) (pv 0) pe_str (fun _ _ => rfl)) pe_int (nomark _)) (pss_cons (ps_set (i := 2) nd rfl (by first | exact .inl rfl | exact .inr rfl) (pe_op op_mod (pe_callTy call_int1 (by rfl) hz.int (by decide +kernel) (pa_cons (pe_dget (hu_of hr) (pv 0) pe_str (fun _ _ => rfl)) pa_nil)) (pv 1)))
    (pss_cons (ps_dput (hu_of hr) (pv 0) pe_str (pe_op op_fdivW (pe_dget (hu_of hr) (pv 0) pe_str (fun _ _ => rfl)) (pv 1)) (by rfl))
    (pss_one (ps_ret (pv 2))))) pss_nil)
    (pss_cons (ps_set (i := 3) nd rfl (by first | exact .inl rfl | exact .inr rfl) (pe_dget (hu_of hr) (pv 0) pe_str (fun _ _ => rfl)))
    (pss_cons (ps_dput (hu_of hr) (pv 0) pe_str (pe_op op_add (pv 3) pe_int) (by rfl))
    (pss_cons (ps_par (i := 4) (j := 5) rfl nd rfl rfl (by decide) rfl rfl (pa_cons (pe_dget (hu_of hr) (pv 0) pe_str (fun _ _ => rfl)) (pa_cons (pe_op op_add (pe_dget (hu_of hr) (pv 0) pe_str (fun _ _ => rfl)) (pe_op op_mul (pe_op op_mul pe_int (pv 3)) (pv 3))) pa_nil)) (by rfl))
    (pss_cons (ps_set (i := 6) nd rfl (by first | exact .inl rfl | exact .inr rfl) (pe_ix ix_list (pv 4) (pe_op op_mod (pe_callTy call_int1 (by rfl) hz.int (by decide +kernel) (pa_cons (pv 3) pa_nil)) (pe_callB call_len_seq (by rfl) hz.len (by decide +kernel) (pa_cons (pv 4) pa_nil))) (fun _ _ => rfl)))
    (pss_cons (ps_set (i := 7) nd rfl (by first | exact .inl rfl | exact .inr rfl) (pe_op op_mod (pe_callTy call_int1 (by rfl) hz.int (by decide +kernel) (pa_cons (pe_op op_add (pe_op op_mul (pv 6) (pe_op op_add (pe_op op_mul pe_int (pv 3)) pe_int)) (pv 5)) pa_nil)) pe_int))
    (pss_cons (ps_set (i := 7) nd rfl (by first | exact .inl rfl | exact .inr rfl) (pe_op op_mod (pe_callTy call_int1 (by rfl) hz.int (by decide +kernel) (pa_cons (pe_op op_add (pe_op op_add (pe_op op_mul (pv 7) (pv 7)) (pe_op op_mul pe_int (pv 3))) (pe_dget (hu_of hr) (pv 0) pe_str (fun _ _ => rfl))) pa_nil)) pe_int))
    (pss_one (ps_ret (pe_op op_mod (pe_op op_fdivW (pe_op op_mod (pe_callTy call_int1 (by rfl) hz.int (by decide +kernel) (pa_cons (pe_op op_add (pe_op op_mul (pv 7) pe_int) (pv 3)) pa_nil)) pe_int) pe_int) (pv 1)))))))))))
abbrev s__law_of : Stmt := topS 37
abbrev n__law_of : List Str := ["_law_m", "_law_some"]
abbrev p__law_of : List Str := ["_law_m", "_law_some"]
theorem sc__law_of : FnScope n__law_of p__law_of (defScope s__law_of) := ⟨rfl, rfl, rfl, by decide +kernel, rfl, by decide +kernel, by decide +kernel⟩
def t__law_of (K : PySem.W.Frag) (sp__law_draw : Sp) : TS :=
  (tRet (tOp (rIxL K) (tVar 1) (tCall sp__law_draw [] E0 (tCons (tVar 0) (tCons (tCB (rLenS K) (tCons (tVar 1) tNil)) tNil)))))
theorem der__law_of {P : Program} {w : World} {K : PySem.W.Frag} {mg : Str → Option Value} {base : Heap} {f : Addr} {cdv : Value} {A : Around} {outer : List Env} {s : Shared} {H : Hp} {E : XK} {sp__law_draw : Sp} (hz : Fre mg)
    (c__law_draw : Cl P w K mg base CX0 1 "_law_draw" p__law_draw sp__law_draw)
    (hr : Room 1 (A.deeper (envOfC "_law_of" (defScope s__law_of) s.heap.objs.size f cdv))) :
    PSs (cxOf CX0 P w K mg base n__law_of "_law_of" (defScope s__law_of) f cdv A outer s H E).nox (defBody s__law_of) (t__law_of K sp__law_draw) := by
  have nd := sc__law_of.nd
  exact (pss_one (ps_ret (pe_ix ix_list (pv 1) (pe_cl c__law_draw hr (by decide) (by rfl) (pa_cons (pv 0) (pa_cons (pe_callB call_len_seq (by rfl) hz.len (by decide +kernel) (pa_cons (pv 1) pa_nil)) pa_nil))) (fun _ _ => rfl))))
abbrev s__law_web : Stmt := topS 38
abbrev n__law_web : List Str := ["_law_m", "_law_rooms", "_law_ties", "_law_greatest", "_law_found", "_law_k", "_law_v", "_law_w", "_law_p", "_law_q", "_law_end"]
abbrev p__law_web : List Str := ["_law_m", "_law_rooms", "_law_ties", "_law_greatest"]
theorem sc__law_web : FnScope n__law_web p__law_web (defScope s__law_web) := ⟨rfl, rfl, rfl, by decide +kernel, rfl, by decide +kernel, by decide +kernel⟩
def t__law_web (K : PySem.W.Frag) (sp__law_draw sp__law_of : Sp) : TS :=
  (tSeq (tAsg (tLst tNil) (gName 4))
    (tSeq (tFor (iRng1 (tCons (tVar 2) tNil)) (gName 5) (tSeq (tAsg (tIf (tTest (tOp (rI0 fun i j => .bl (decide (i < j))) (tOp (rI0 fun i j => .int (i + j)) (tVar 5) (tC (.int 1))) (tVar 1))) (tCall sp__law_draw [] E0 (tCons (tVar 0) (tCons (tOp (rI0 fun i j => .int (i + j)) (tVar 5) (tC (.int 1))) tNil))) (tCall sp__law_draw [] E0 (tCons (tVar 0) (tCons (tVar 1) tNil)))) (gName 6))
    (tSeq (tAsg (tIf (tTest (tOp (rI0 fun i j => .bl (decide (i < j))) (tOp (rI0 fun i j => .int (i + j)) (tVar 5) (tC (.int 1))) (tVar 1))) (tOp (rI0 fun i j => .int (i + j)) (tVar 5) (tC (.int 1))) (tCall sp__law_draw [] E0 (tCons (tVar 0) (tCons (tVar 1) tNil)))) (gName 7))
    (tSeq (tAsg (tLc (iRng1 (tCons (tC (.int 2)) tNil)) (gName 10) tYes (tOp (rI CMul fun i j => .int (i * j)) (tOp (rI0 fun i j => .int (i + j)) (tC (.int 1)) (tCall sp__law_draw [] E0 (tCons (tVar 0) (tCons (tVar 3) tNil)))) (tCall sp__law_of [] E0 (tCons (tVar 0) (tCons (tLst (tCons (tC (.int 1)) (tCons (tC (.int 1)) (tCons (tC (.int 1)) (tCons (tUn (rU fun i => .int (-i)) (tC (.int 1))) tNil))))) tNil)))) [10]) (gLst K 2 (gCons (gName 8) (gCons (gName 9) gNil))))
    (tDrop (tBM K "list" rAppend (tVar 4) (tCons (tIf (tTest (tOp (rEqD K) (tCall sp__law_draw [] E0 (tCons (tVar 0) (tCons (tC (.int 2)) tNil))) (tC (.int 0)))) (tTup (tCons (tVar 6) (tCons (tVar 7) (tCons (tVar 8) (tCons (tVar 9) tNil))))) (tTup (tCons (tVar 7) (tCons (tVar 6) (tCons (tVar 9) (tCons (tVar 8) tNil)))))) tNil)))))))
    (tRet (tTup (tCons (tVar 1) (tCons (tCB (rTupOf K) (tCons (tVar 4) tNil)) tNil))))))
theorem der__law_web {P : Program} {w : World} {K : PySem.W.Frag} {mg : Str → Option Value} {base : Heap} {f : Addr} {cdv : Value} {A : Around} {outer : List Env} {s : Shared} {H : Hp} {E : XK} {sp__law_draw sp__law_of : Sp} (hz : Fre mg)
    (c__law_draw : Cl P w K mg base CX0 1 "_law_draw" p__law_draw sp__law_draw)
    (c__law_of : Cl P w K mg base CX0 2 "_law_of" p__law_of sp__law_of)
    (hr : Room 2 (A.deeper (envOfC "_law_web" (defScope s__law_web) s.heap.objs.size f cdv))) :
    PSs (cxOf CX0 P w K mg base n__law_web "_law_web" (defScope s__law_web) f cdv A outer s H E).nox (defBody s__law_web) (t__law_web K sp__law_draw sp__law_of) := by
  have nd := sc__law_web.nd
  exact (pss_cons (ps_set (i := 4) nd rfl (by first | exact .inl rfl | exact .inr rfl) (pe_lst pa_nil))
    (pss_cons (ps_for PassesOwn.never rfl (pi_range1 (by rfl) hz.range (pa_cons (pv 2) pa_nil)) (pg_name (i := 5) nd rfl (by first | exact .inl rfl | exact .inr rfl)) (pss_cons (ps_set (i := 6) nd rfl (by first | exact .inl rfl | exact .inr rfl) (pe_ifExp (pt_cmpR op_lt (pe_op op_add (pv 5) pe_int) (pv 1) (nomark _)) (pe_cl c__law_draw hr (by decide) (by rfl) (pa_cons (pv 0) (pa_cons (pe_op op_add (pv 5) pe_int) pa_nil))) (pe_cl c__law_draw hr (by decide) (by rfl) (pa_cons (pv 0) (pa_cons (pv 1) pa_nil)))))
    (pss_cons (ps_set (i := 7) nd rfl (by first | exact .inl rfl | exact .inr rfl) (pe_ifExp (pt_cmpR op_lt (pe_op op_add (pv 5) pe_int) (pv 1) (nomark _)) (pe_op op_add (pv 5) pe_int) (pe_cl c__law_draw hr (by decide) (by rfl) (pa_cons (pv 0) (pa_cons (pv 1) pa_nil)))))
    (pss_cons (ps_asg (pe_lc (own := [("_law_end", 10)]) rfl nd (pi_range1 (by rfl) hz.range (pa_cons pe_int pa_nil)) (blkOk_by (own := [("_law_end", 10)]) (N := n__law_web) (sc := defScope s__law_web) (by decide +kernel)) (fun _ _ _ _ _ => (pg_name (i := 10) nd rfl (by first | exact .inl rfl | exact .inr rfl))) (fun _ _ _ _ _ => pts_nil) (fun _ _ _ _ _ => (pe_op op_mul (pe_op op_add pe_int (pe_cl c__law_draw hr (by decide) (by rfl) (pa_cons (pv 0) (pa_cons (pv 3) pa_nil)))) (pe_cl c__law_of hr (by decide) (by rfl) (pa_cons (pv 0) (pa_cons (pe_lst (pa_cons pe_int (pa_cons pe_int (pa_cons pe_int (pa_cons (pe_un un_neg pe_int) pa_nil))))) pa_nil)))))) (pg_lst rfl (pgs_cons (pg_name (i := 8) nd rfl (by first | exact .inl rfl | exact .inr rfl)) (pgs_cons (pg_name (i := 9) nd rfl (by first | exact .inl rfl | exact .inr rfl)) pgs_nil))))
    (pss_one (ps_expr (pe_bm PySem.F.plainAttrs_list PySem.F.slot_list_append PySem.F.type_list_append mt_append (pv 4) (pa_cons (pe_ifExp (pt_cmpR (op_eqD hr.units) (pe_cl c__law_draw hr (by decide) (by rfl) (pa_cons (pv 0) (pa_cons pe_int pa_nil))) pe_int (nomark _)) (pe_tup (pa_cons (pv 6) (pa_cons (pv 7) (pa_cons (pv 8) (pa_cons (pv 9) pa_nil))))) (pe_tup (pa_cons (pv 7) (pa_cons (pv 6) (pa_cons (pv 9) (pa_cons (pv 8) pa_nil)))))) pa_nil))))))))
    (pss_one (ps_ret (pe_tup (pa_cons (pv 1) (pa_cons (pe_callTy call_tuple_of (by rfl) hz.tuple (by decide +kernel) (pa_cons (pv 4) pa_nil)) pa_nil)))))))
abbrev s__law_ends : Stmt := topS 39
abbrev n__law_ends : List Str := ["_law_web_here", "_law_tie", "_law_side", "_law_v", "_law_w", "_law_p", "_law_q"]
abbrev p__law_ends : List Str := ["_law_web_here", "_law_tie", "_law_side"]
theorem sc__law_ends : FnScope n__law_ends p__law_ends (defScope s__law_ends) := ⟨rfl, rfl, rfl, by decide +kernel, rfl, by decide +kernel, by decide +kernel⟩
def t__law_ends (K : PySem.W.Frag) : TS :=
  (tSeq (tAsg (tOp (rIxT K) (tOp (rIxT K) (tVar 0) (tC (.int 1))) (tVar 1)) (gTup K 4 (gCons (gName 3) (gCons (gName 4) (gCons (gName 5) (gCons (gName 6) gNil))))))
    (tRet (tIf (tTest (tOp (rEqD K) (tVar 2) (tC (.int 1)))) (tTup (tCons (tVar 3) (tCons (tVar 4) (tCons (tVar 5) (tCons (tVar 6) tNil))))) (tTup (tCons (tVar 4) (tCons (tVar 3) (tCons (tVar 6) (tCons (tVar 5) tNil))))))))
theorem der__law_ends {P : Program} {w : World} {K : PySem.W.Frag} {mg : Str → Option Value} {base : Heap} {f : Addr} {cdv : Value} {A : Around} {outer : List Env} {s : Shared} {H : Hp} {E : XK} (hz : Fre mg)
    (hr : Room 0 (A.deeper (envOfC "_law_ends" (defScope s__law_ends) s.heap.objs.size f cdv))) :
    PSs (cxOf CX0 P w K mg base n__law_ends "_law_ends" (defScope s__law_ends) f cdv A outer s H E).nox (defBody s__law_ends) (t__law_ends K) := by
  have nd := sc__law_ends.nd
  exact (pss_cons (ps_asg (pe_ix ix_tup (pe_ix ix_tup (pv 0) pe_int (fun _ _ => rfl)) (pv 1) (fun _ _ => rfl)) (pg_tup rfl (pgs_cons (pg_name (i := 3) nd rfl (by first | exact .inl rfl | exact .inr rfl)) (pgs_cons (pg_name (i := 4) nd rfl (by first | exact .inl rfl | exact .inr rfl)) (pgs_cons (pg_name (i := 5) nd rfl (by first | exact .inl rfl | exact .inr rfl)) (pgs_cons (pg_name (i := 6) nd rfl (by first | exact .inl rfl | exact .inr rfl)) pgs_nil))))))
    (pss_one (ps_ret (pe_ifExp (pt_cmpR (op_eqD hr.units) (pv 2) pe_int (nomark _)) (pe_tup (pa_cons (pv 3) (pa_cons (pv 4) (pa_cons (pv 5) (pa_cons (pv 6) pa_nil))))) (pe_tup (pa_cons (pv 4) (pa_cons (pv 3) (pa_cons (pv 6) (pa_cons (pv 5) pa_nil)))))))))
abbrev s__law_out : Stmt := topS 40
abbrev n__law_out : List Str := ["_law_web_here", "_law_room", "_law_found", "_law_tie", "_law_side"]
abbrev p__law_out : List Str := ["_law_web_here", "_law_room"]
theorem sc__law_out : FnScope n__law_out p__law_out (defScope s__law_out) := ⟨rfl, rfl, rfl, by decide +kernel, rfl, by decide +kernel, by decide +kernel⟩
def t__law_out (K : PySem.W.Frag) (sp__law_ends : Sp) : TS :=
  (tSeq (tAsg (tLst tNil) (gName 2))
    (tSeq (tFor (iRng1 (tCons (tCB (rLenS K) (tCons (tOp (rIxT K) (tVar 0) (tC (.int 1))) tNil)) tNil)) (gName 3) (tAsg (tOp rCat (tVar 2) (tLc (iTup K (tTup (tCons (tC (.int 1)) (tCons (tUn (rU fun i => .int (-i)) (tC (.int 1))) tNil)))) (gName 4) (tTest (tOp (rEqD K) (tOp (rIxT K) (tCall sp__law_ends [] E0 (tCons (tVar 0) (tCons (tVar 3) (tCons (tVar 4) tNil)))) (tC (.int 0))) (tVar 1))) (tTup (tCons (tVar 3) (tCons (tVar 4) tNil))) [4])) (gName 2)))
    (tRet (tVar 2))))
theorem der__law_out {P : Program} {w : World} {K : PySem.W.Frag} {mg : Str → Option Value} {base : Heap} {f : Addr} {cdv : Value} {A : Around} {outer : List Env} {s : Shared} {H : Hp} {E : XK} {sp__law_ends : Sp} (hz : Fre mg)
    (c__law_ends : Cl P w K mg base CX0 1 "_law_ends" p__law_ends sp__law_ends)
    (hr : Room 1 (A.deeper (envOfC "_law_out" (defScope s__law_out) s.heap.objs.size f cdv))) :
    PSs (cxOf CX0 P w K mg base n__law_out "_law_out" (defScope s__law_out) f cdv A outer s H E).nox (defBody s__law_out) (t__law_out K sp__law_ends) := by
  have nd := sc__law_out.nd
  exact (pss_cons (ps_set (i := 2) nd rfl (by first | exact .inl rfl | exact .inr rfl) (pe_lst pa_nil))
    (pss_cons (ps_for PassesOwn.never rfl (pi_range1 (by rfl) hz.range (pa_cons (pe_callB call_len_seq (by rfl) hz.len (by decide +kernel) (pa_cons (pe_ix ix_tup (pv 0) pe_int (fun _ _ => rfl)) pa_nil)) pa_nil)) (pg_name (i := 3) nd rfl (by first | exact .inl rfl | exact .inr rfl)) (pss_one (ps_set (i := 2) nd rfl (by first | exact .inl rfl | exact .inr rfl) (pe_op op_cat (pv 2) (pe_lc (own := [("_law_side", 4)]) rfl nd (pi_tup (pe_tup (pa_cons pe_int (pa_cons (pe_un un_neg pe_int) pa_nil)))) (blkOk_by (own := [("_law_side", 4)]) (N := n__law_out) (sc := defScope s__law_out) (by decide +kernel)) (fun _ _ _ _ _ => (pg_name (i := 4) nd rfl (by first | exact .inl rfl | exact .inr rfl))) (fun _ _ _ _ _ => (pts_one (pt_cmpR (op_eqD hr.units) (pe_ix ix_tup (pe_cl c__law_ends hr (by decide) (by rfl) (pa_cons (pv 0) (pa_cons (pv 3) (pa_cons (pv 4) pa_nil)))) pe_int (fun _ _ => rfl)) (pv 1) (nomark _)))) (fun _ _ _ _ _ => (pe_tup (pa_cons (pv 3) (pa_cons (pv 4) pa_nil)))))))))
    (pss_one (ps_ret (pv 2)))))
abbrev s__law_turns : Stmt := topS 41
abbrev n__law_turns : List Str := ["_law_m", "_law_greatest"]
abbrev p__law_turns : List Str := ["_law_m", "_law_greatest"]
theorem sc__law_turns : FnScope n__law_turns p__law_turns (defScope s__law_turns) := ⟨rfl, rfl, rfl, by decide +kernel, rfl, by decide +kernel, by decide +kernel⟩
def t__law_turns (K : PySem.W.Frag) (sp__law_draw sp__law_of : Sp) : TS :=
  (tSeq (tIfS (tTest (tOp (rEqD K) (tCall sp__law_draw [] E0 (tCons (tVar 0) (tCons (tC (.int 5)) tNil))) (tC (.int 0)))) (tRet (tOp (rI CMul fun i j => .int (i * j)) (tOp (rI0 fun i j => .int (i + j)) (tCall sp__law_draw [] E0 (tCons (tVar 0) (tCons (tVar 1) tNil))) (tC (.int 1))) (tCall sp__law_of [] E0 (tCons (tVar 0) (tCons (tLst (tCons (tC (.int 1)) (tCons (tUn (rU fun i => .int (-i)) (tC (.int 1))) tNil))) tNil))))) tNext)
    (tRet (tOp (rI0 fun i j => .int (i - j)) (tCall sp__law_draw [] E0 (tCons (tVar 0) (tCons (tC (.int 9)) tNil))) (tC (.int 4)))))
theorem der__law_turns {P : Program} {w : World} {K : PySem.W.Frag} {mg : Str → Option Value} {base : Heap} {f : Addr} {cdv : Value} {A : Around} {outer : List Env} {s : Shared} {H : Hp} {E : XK} {sp__law_draw sp__law_of : Sp} (hz : Fre mg)
    (c__law_draw : Cl P w K mg base CX0 1 "_law_draw" p__law_draw sp__law_draw)
    (c__law_of : Cl P w K mg base CX0 2 "_law_of" p__law_of sp__law_of)
    (hr : Room 2 (A.deeper (envOfC "_law_turns" (defScope s__law_turns) s.heap.objs.size f cdv))) :
    PSs (cxOf CX0 P w K mg base n__law_turns "_law_turns" (defScope s__law_turns) f cdv A outer s H E).nox (defBody s__law_turns) (t__law_turns K sp__law_draw sp__law_of) := by
  have nd := sc__law_turns.nd
  exact (pss_cons (ps_if (pt_cmpR (op_eqD hr.units) (pe_cl c__law_draw hr (by decide) (by rfl) (pa_cons (pv 0) (pa_cons pe_int pa_nil))) pe_int (nomark _)) (pss_one (ps_ret (pe_op op_mul (pe_op op_add (pe_cl c__law_draw hr (by decide) (by rfl) (pa_cons (pv 0) (pa_cons (pv 1) pa_nil))) pe_int) (pe_cl c__law_of hr (by decide) (by rfl) (pa_cons (pv 0) (pa_cons (pe_lst (pa_cons pe_int (pa_cons (pe_un un_neg pe_int) pa_nil))) pa_nil)))))) pss_nil)
    (pss_one (ps_ret (pe_op op_sub (pe_cl c__law_draw hr (by decide) (by rfl) (pa_cons (pv 0) (pa_cons pe_int pa_nil))) pe_int))))
abbrev s__law_walk : Stmt := topS 42
abbrev n__law_walk : List Str := ["_law_m", "_law_web_here", "_law_room", "_law_steps", "_law_greatest", "_law_first", "_law_found", "_law_here", "_law_lap", "_law_ways", "_law_tie", "_law_side"]
abbrev p__law_walk : List Str := ["_law_m", "_law_web_here", "_law_room", "_law_steps", "_law_greatest"]
theorem sc__law_walk : FnScope n__law_walk p__law_walk (defScope s__law_walk) := ⟨rfl, rfl, rfl, by decide +kernel, rfl, by decide +kernel, by decide +kernel⟩
def t__law_walk (K : PySem.W.Frag) (sp__law_turns sp__law_out sp__law_of sp__law_ends : Sp) : TS :=
  (tSeq (tPar3 5 6 7 (tCons (tCall sp__law_turns [] E0 (tCons (tVar 0) (tCons (tVar 4) tNil))) (tCons (tLst tNil) (tCons (tVar 2) tNil))))
    (tSeq (tFor (iRng1 (tCons (tVar 3) tNil)) (gName 8) (tSeq (tAsg (tCall sp__law_out [] E0 (tCons (tVar 1) (tCons (tVar 7) tNil))) (gName 9))
    (tIfS (tTest (tOp (rNeD K) (tVar 9) (tLst tNil))) (tSeq (tAsg (tCall sp__law_of [] E0 (tCons (tVar 0) (tCons (tVar 9) tNil))) (gTup K 2 (gCons (gName 10) (gCons (gName 11) gNil))))
    (tSeq (tAsg (tOp (rIxT K) (tCall sp__law_ends [] E0 (tCons (tVar 1) (tCons (tVar 10) (tCons (tVar 11) tNil)))) (tC (.int 1))) (gName 7))
    (tDrop (tBM K "list" rAppend (tVar 6) (tCons (tTup (tCons (tVar 10) (tCons (tVar 11) (tCons (tCall sp__law_turns [] E0 (tCons (tVar 0) (tCons (tVar 4) tNil))) tNil)))) tNil))))) tNext)))
    (tRet (tTup (tCons (tVar 2) (tCons (tVar 5) (tCons (tCB (rTupOf K) (tCons (tVar 6) tNil)) tNil)))))))
theorem der__law_walk {P : Program} {w : World} {K : PySem.W.Frag} {mg : Str → Option Value} {base : Heap} {f : Addr} {cdv : Value} {A : Around} {outer : List Env} {s : Shared} {H : Hp} {E : XK} {sp__law_turns sp__law_out sp__law_of sp__law_ends : Sp} (hz : Fre mg)
    (c__law_turns : Cl P w K mg base CX0 3 "_law_turns" p__law_turns sp__law_turns)
    (c__law_out : Cl P w K mg base CX0 2 "_law_out" p__law_out sp__law_out)
    (c__law_of : Cl P w K mg base CX0 2 "_law_of" p__law_of sp__law_of)
    (c__law_ends : Cl P w K mg base CX0 1 "_law_ends" p__law_ends sp__law_ends)
    (hr : Room 3 (A.deeper (envOfC "_law_walk" (defScope s__law_walk) s.heap.objs.size f cdv))) :
    PSs (cxOf CX0 P w K mg base n__law_walk "_law_walk" (defScope s__law_walk) f cdv A outer s H E).nox (defBody s__law_walk) (t__law_walk K sp__law_turns sp__law_out sp__law_of sp__law_ends) := by
  have nd := sc__law_walk.nd
  exact (pss_cons (ps_par3 (i := 5) (j := 6) (l := 7) rfl nd rfl rfl rfl (by decide) (by decide) (by decide) rfl rfl rfl (pa_cons (pe_cl c__law_turns hr (by decide) (by rfl) (pa_cons (pv 0) (pa_cons (pv 4) pa_nil))) (pa_cons (pe_lst pa_nil) (pa_cons (pv 2) pa_nil))) (by rfl))
    (pss_cons (ps_for PassesOwn.never rfl (pi_range1 (by rfl) hz.range (pa_cons (pv 3) pa_nil)) (pg_name (i := 8) nd rfl (by first | exact .inl rfl | exact .inr rfl)) (pss_cons (ps_set (i := 9) nd rfl (by first | exact .inl rfl | exact .inr rfl) (pe_cl c__law_out hr (by decide) (by rfl) (pa_cons (pv 1) (pa_cons (pv 7) pa_nil))))
    (pss_one (ps_if (pt_cmpR (op_neD hr.units) (pv 9) (pe_lst pa_nil) (nomark _)) (pss_cons (ps_asg (pe_cl c__law_of hr (by decide) (by rfl) (pa_cons (pv 0) (pa_cons (pv 9) pa_nil))) (pg_tup rfl (pgs_cons (pg_name (i := 10) nd rfl (by first | exact .inl rfl | exact .inr rfl)) (pgs_cons (pg_name (i := 11) nd rfl (by first | exact .inl rfl | exact .inr rfl)) pgs_nil))))
    (pss_cons (ps_set (i := 7) nd rfl (by first | exact .inl rfl | exact .inr rfl) (pe_ix ix_tup (pe_cl c__law_ends hr (by decide) (by rfl) (pa_cons (pv 1) (pa_cons (pv 10) (pa_cons (pv 11) pa_nil)))) pe_int (fun _ _ => rfl)))
    (pss_one (ps_expr (pe_bm PySem.F.plainAttrs_list PySem.F.slot_list_append PySem.F.type_list_append mt_append (pv 6) (pa_cons (pe_tup (pa_cons (pv 10) (pa_cons (pv 11) (pa_cons (pe_cl c__law_turns hr (by decide) (by rfl) (pa_cons (pv 0) (pa_cons (pv 4) pa_nil))) pa_nil)))) pa_nil)))))) pss_nil))))
    (pss_one (ps_ret (pe_tup (pa_cons (pv 2) (pa_cons (pv 5) (pa_cons (pe_callTy call_tuple_of (by rfl) hz.tuple (by decide +kernel) (pa_cons (pv 6) pa_nil)) pa_nil))))))))
abbrev s__law_plain : Stmt := topS 43
abbrev n__law_plain : List Str := ["_law_web_here", "_law_walk_here", "_law_kept", "_law_number", "_law_tie", "_law_side", "_law_turns_here", "_law_ends_here", "_law_rest", "_law_many", "_law_numbers", "_law_steps", "_law_row", "_law_k"]
abbrev p__law_plain : List Str := ["_law_web_here", "_law_walk_here"]
theorem sc__law_plain : FnScope n__law_plain p__law_plain (defScope s__law_plain) := ⟨rfl, rfl, rfl, by decide +kernel, rfl, by decide +kernel, by decide +kernel⟩
def t__law_plain (K : PySem.W.Frag) (sp__law_ends : Sp) : TS :=
  (tSeq (tPar 2 3 (tCons (tLst tNil) (tCons (tOp (rIxT K) (tVar 1) (tC (.int 1))) tNil)))
    (tSeq (tFor (iTup K (tOp (rIxT K) (tVar 1) (tC (.int 2)))) (gTup K 3 (gCons (gName 4) (gCons (gName 5) (gCons (gName 6) gNil)))) (tSeq (tAsg (tCall sp__law_ends [] E0 (tCons (tVar 0) (tCons (tVar 4) (tCons (tVar 5) tNil)))) (gName 7))
    (tSeq (tAsg (tOp (rI (fun _ j => 0 < j) fun i j => .int (i % j)) (tCB rToInt (tCons (tVar 3) tNil)) (tCB rAbs (tCons (tOp (rIxT K) (tVar 7) (tC (.int 2))) tNil))) (gName 8))
    (tSeq (tAsg (tOp (rI CDivN fun i j => .int (i.fdiv j)) (tOp (rI0 fun i j => .int (i - j)) (tVar 3) (tVar 8)) (tOp (rIxT K) (tVar 7) (tC (.int 2)))) (gName 9))
    (tIfS (tAnd (tTest (tOp (rEqD K) (tVar 8) (tC (.int 0)))) (tAnd (tTest (tOp (rNeD K) (tVar 2) (tLst tNil))) (tTest (tOp (rEqD K) (tSl (rSlA K) (tOp (rIxL K) (tVar 2) (tUn (rU fun i => .int (-i)) (tC (.int 1)))) (tPart (tC (.int 1))) tNoPart) (tTup (tCons (tVar 4) (tCons (tUn (rU fun i => .int (-i)) (tVar 5)) tNil))))))) (tAsg (tOp (rI0 fun i j => .int (i + j)) (tOp (rI0 fun i j => .int (i + j)) (tOp (rIxT K) (tBM0 K "list" rPop (tVar 2)) (tC (.int 0))) (tOp (rI CMul fun i j => .int (i * j)) (tOp (rIxT K) (tVar 7) (tC (.int 3))) (tVar 9))) (tVar 6)) (gName 3)) (tSeq (tDrop (tBM K "list" rAppend (tVar 2) (tCons (tTup (tCons (tVar 8) (tCons (tVar 4) (tCons (tVar 5) tNil)))) tNil)))
    (tAsg (tOp (rI0 fun i j => .int (i + j)) (tOp (rI CMul fun i j => .int (i * j)) (tOp (rIxT K) (tVar 7) (tC (.int 3))) (tVar 9)) (tVar 6)) (gName 3))))))))
    (tSeq (tAsg (tOp rCat (tLc (iList K (tVar 2)) (gName 12) tYes (tOp (rIxT K) (tVar 12) (tC (.int 0))) [12]) (tLst (tCons (tVar 3) tNil))) (gName 10))
    (tSeq (tAsg (tLc (iEnum K (tCons (tVar 2) tNil)) (gTup K 2 (gCons (gName 13) (gCons (gName 12) gNil))) tYes (tTup (tCons (tOp (rIxT K) (tVar 12) (tC (.int 1))) (tCons (tOp (rIxT K) (tVar 12) (tC (.int 2))) (tCons (tOp (rIxL K) (tVar 10) (tOp (rI0 fun i j => .int (i + j)) (tVar 13) (tC (.int 1)))) tNil)))) [13, 12]) (gName 11))
    (tRet (tTup (tCons (tOp (rIxT K) (tVar 1) (tC (.int 0))) (tCons (tOp (rIxL K) (tVar 10) (tC (.int 0))) (tCons (tCB (rTupOf K) (tCons (tVar 11) tNil)) tNil)))))))))
theorem der__law_plain {P : Program} {w : World} {K : PySem.W.Frag} {mg : Str → Option Value} {base : Heap} {f : Addr} {cdv : Value} {A : Around} {outer : List Env} {s : Shared} {H : Hp} {E : XK} {sp__law_ends : Sp} (hz : Fre mg)
    (c__law_ends : Cl P w K mg base CX0 1 "_law_ends" p__law_ends sp__law_ends)
    (hr : Room 1 (A.deeper (envOfC "_law_plain" (defScope s__law_plain) s.heap.objs.size f cdv))) :
    PSs (cxOf CX0 P w K mg base n__law_plain "_law_plain" (defScope s__law_plain) f cdv A outer s H E).nox (defBody s__law_plain) (t__law_plain K sp__law_ends) := by
  have nd := sc__law_plain.nd
  exact (pss_cons (ps_par (i := 2) (j := 3) rfl nd rfl rfl (by decide) rfl rfl (pa_cons (pe_lst pa_nil) (pa_cons (pe_ix ix_tup (pv 1) pe_int (fun _ _ => rfl)) pa_nil)) (by rfl))
    (pss_cons (ps_for PassesOwn.never rfl (pi_tup (pe_ix ix_tup (pv 1) pe_int (fun _ _ => rfl))) (pg_tup rfl (pgs_cons (pg_name (i := 4) nd rfl (by first | exact .inl rfl | exact .inr rfl)) (pgs_cons (pg_name (i := 5) nd rfl (by first | exact .inl rfl | exact .inr rfl)) (pgs_cons (pg_name (i := 6) nd rfl (by first | exact .inl rfl | exact .inr rfl)) pgs_nil)))) (pss_cons (ps_set (i := 7) nd rfl (by first | exact .inl rfl | exact .inr rfl) (pe_cl c__law_ends hr (by decide) (by rfl) (pa_cons (pv 0) (pa_cons (pv 4) (pa_cons (pv 5) pa_nil)))))
    (pss_cons (ps_set (i := 8) nd rfl (by first | exact .inl rfl | exact .inr rfl) (pe_op op_mod (pe_callTy call_int1 (by rfl) hz.int (by decide +kernel) (pa_cons (pv 3) pa_nil)) (pe_callB call_abs (by rfl) hz.abs (by decide +kernel) (pa_cons (pe_ix ix_tup (pv 7) pe_int (fun _ _ => rfl)) pa_nil))))
    (pss_cons (ps_set (i := 9) nd rfl (by first | exact .inl rfl | exact .inr rfl) (pe_op op_fdivN (pe_op op_sub (pv 3) (pv 8)) (pe_ix ix_tup (pv 7) pe_int (fun _ _ => rfl))))
    (pss_one (ps_if (PW.pt (pw_and (pt_cmpR (op_eqD hr.units) (pv 8) pe_int (nomark _)) (pw_and (pt_cmpR (op_neD hr.units) (pv 2) (pe_lst pa_nil) (nomark _)) (pw_and1 (pt_cmpR (op_eqD hr.units) (pe_slice sl_tupA (pe_ix ix_list (pv 2) (pe_un un_neg pe_int) (fun _ _ => rfl)) (po_some pe_int) po_none) (pe_tup (pa_cons (pv 4) (pa_cons (pe_un un_neg (pv 5)) pa_nil))) (nomark _)))))) (pss_one (ps_set (i := 3) nd rfl (by first | exact .inl rfl | exact .inr rfl) (pe_op op_add (pe_op op_add (pe_ix ix_tup (pe_bm0 PySem.F.plainAttrs_list PySem.F.slot_list_pop PySem.F.type_list_pop mt_pop (pv 2)) pe_int (fun _ _ => rfl)) (pe_op op_mul (pe_ix ix_tup (pv 7) pe_int (fun _ _ => rfl)) (pv 9))) (pv 6)))) (pss_cons (ps_expr (pe_bm PySem.F.plainAttrs_list PySem.F.slot_list_append PySem.F.type_list_append mt_append (pv 2) (pa_cons (pe_tup (pa_cons (pv 8) (pa_cons (pv 4) (pa_cons (pv 5) pa_nil)))) pa_nil)))
    (pss_one (ps_set (i := 3) nd rfl (by first | exact .inl rfl | exact .inr rfl) (pe_op op_add (pe_op op_mul (pe_ix ix_tup (pv 7) pe_int (fun _ _ => rfl)) (pv 9)) (pv 6)))))))))))
    (pss_cons (ps_set (i := 10) nd rfl (by first | exact .inl rfl | exact .inr rfl) (pe_op op_cat (pe_lc (own := [("_law_row", 12)]) rfl nd (pi_list (pv 2)) (blkOk_by (own := [("_law_row", 12)]) (N := n__law_plain) (sc := defScope s__law_plain) (by decide +kernel)) (fun _ _ _ _ _ => (pg_name (i := 12) nd rfl (by first | exact .inl rfl | exact .inr rfl))) (fun _ _ _ _ _ => pts_nil) (fun _ _ _ _ _ => (pe_ix ix_tup (pv 12) pe_int (fun _ _ => rfl)))) (pe_lst (pa_cons (pv 3) pa_nil))))
    (pss_cons (ps_setLc (i := 11) (own := [("_law_k", 13), ("_law_row", 12)]) rfl nd rfl rfl (sw_true rfl rfl rfl (by decide +kernel)) (pi_enum (by rfl) hz.enumerate (pa_cons (pv 2) pa_nil)) (blkOk_by (own := [("_law_k", 13), ("_law_row", 12)]) (N := n__law_plain) (sc := defScope s__law_plain) (by decide +kernel)) (fun _ _ _ _ _ => (pg_tup rfl (pgs_cons (pg_name (i := 13) nd rfl (by first | exact .inl rfl | exact .inr rfl)) (pgs_cons (pg_name (i := 12) nd rfl (by first | exact .inl rfl | exact .inr rfl)) pgs_nil)))) (fun _ _ _ _ _ => pts_nil) (fun _ _ _ _ _ => (pe_tup (pa_cons (pe_ix ix_tup (pv 12) pe_int (fun _ _ => rfl)) (pa_cons (pe_ix ix_tup (pv 12) pe_int (fun _ _ => rfl)) (pa_cons (pe_ix ix_list (pv 10) (pe_op op_add (pv 13) pe_int) (fun _ _ => rfl)) pa_nil))))))
    (pss_one (ps_ret (pe_tup (pa_cons (pe_ix ix_tup (pv 1) pe_int (fun _ _ => rfl)) (pa_cons (pe_ix ix_list (pv 10) pe_int (fun _ _ => rfl)) (pa_cons (pe_callTy call_tuple_of (by rfl) hz.tuple (by decide +kernel) (pa_cons (pv 11) pa_nil)) pa_nil))))))))))
abbrev s__law_spelled : Stmt := topS 44
abbrev n__law_spelled : List Str := ["_law_m", "_law_web_here", "_law_walk_here", "_law_many", "_law_lap", "_law_turns_here", "_law_crossings", "_law_i", "_law_times", "_law_ends_here", "_law_room", "_law_tie", "_law_side", "_law_ahead", "_law_more", "_law_step", "_law_k"]
abbrev p__law_spelled : List Str := ["_law_m", "_law_web_here", "_law_walk_here", "_law_many"]
theorem sc__law_spelled : FnScope n__law_spelled p__law_spelled (defScope s__law_spelled) := ⟨rfl, rfl, rfl, by decide +kernel, rfl, by decide +kernel, by decide +kernel⟩
def t__law_spelled (K : PySem.W.Frag) (sp__law_draw sp__law_ends sp__law_out sp__law_of : Sp) : TS :=
  (tSeq (tFor (iRng1 (tCons (tVar 3) tNil)) (gName 4) (tSeq (tAsg (tOp rCat (tLst (tCons (tOp (rIxT K) (tVar 2) (tC (.int 1))) tNil)) (tLc (iTup K (tOp (rIxT K) (tVar 2) (tC (.int 2)))) (gName 15) tYes (tOp (rIxT K) (tVar 15) (tC (.int 2))) [15])) (gName 5))
    (tSeq (tAsg (tLc (iTup K (tOp (rIxT K) (tVar 2) (tC (.int 2)))) (gName 15) tYes (tTup (tCons (tOp (rIxT K) (tVar 15) (tC (.int 0))) (tCons (tOp (rIxT K) (tVar 15) (tC (.int 1))) tNil))) [15]) (gName 6))
    (tSeq (tIfS (tAnd (tTest (tOp (rNeD K) (tVar 6) (tLst tNil))) (tTest (tOp (rEqD K) (tCall sp__law_draw [] E0 (tCons (tVar 0) (tCons (tC (.int 2)) tNil))) (tC (.int 0))))) (tSeq (tPar 7 8 (tCons (tOp (rI0 fun i j => .int (i + j)) (tC (.int 1)) (tCall sp__law_draw [] E0 (tCons (tVar 0) (tCons (tCB (rLenS K) (tCons (tVar 6) tNil)) tNil)))) (tCons (tOp (rI0 fun i j => .int (i - j)) (tCall sp__law_draw [] E0 (tCons (tVar 0) (tCons (tC (.int 7)) tNil))) (tC (.int 3))) tNil)))
    (tSeq (tAsg (tCall sp__law_ends [] E0 (tCons (tVar 1) (tCons (tOp (rIxT K) (tOp (rIxL K) (tVar 6) (tOp (rI0 fun i j => .int (i - j)) (tVar 7) (tC (.int 1)))) (tC (.int 0))) (tCons (tOp (rIxT K) (tOp (rIxL K) (tVar 6) (tOp (rI0 fun i j => .int (i - j)) (tVar 7) (tC (.int 1)))) (tC (.int 1))) tNil)))) (gName 9))
    (tSeq (tAsg (tOp (rI0 fun i j => .int (i - j)) (tOp (rIxL K) (tVar 5) (tOp (rI0 fun i j => .int (i - j)) (tVar 7) (tC (.int 1)))) (tOp (rI CMul fun i j => .int (i * j)) (tOp (rIxT K) (tVar 9) (tC (.int 2))) (tVar 8))) (gSub (tVar 5) (tOp (rI0 fun i j => .int (i - j)) (tVar 7) (tC (.int 1))) rSetL))
    (tAsg (tOp (rI0 fun i j => .int (i + j)) (tOp (rIxL K) (tVar 5) (tVar 7)) (tOp (rI CMul fun i j => .int (i * j)) (tOp (rIxT K) (tVar 9) (tC (.int 3))) (tVar 8))) (gSub (tVar 5) (tVar 7) rSetL))))) (tSeq (tPar 7 8 (tCons (tCall sp__law_draw [] E0 (tCons (tVar 0) (tCons (tCB (rLenS K) (tCons (tVar 5) tNil)) tNil))) (tCons (tOp (rI0 fun i j => .int (i - j)) (tCall sp__law_draw [] E0 (tCons (tVar 0) (tCons (tC (.int 7)) tNil))) (tC (.int 3))) tNil)))
    (tSeq (tAsg (tOp (rIxT K) (tVar 2) (tC (.int 0))) (gName 10))
    (tSeq (tIfS (tTest (tOp (rI0 fun i j => .bl (decide (j < i))) (tVar 7) (tC (.int 0)))) (tAsg (tOp (rIxT K) (tCall sp__law_ends [] E0 (tCons (tVar 1) (tCons (tOp (rIxT K) (tOp (rIxL K) (tVar 6) (tOp (rI0 fun i j => .int (i - j)) (tVar 7) (tC (.int 1)))) (tC (.int 0))) (tCons (tOp (rIxT K) (tOp (rIxL K) (tVar 6) (tOp (rI0 fun i j => .int (i - j)) (tVar 7) (tC (.int 1)))) (tC (.int 1))) tNil)))) (tC (.int 1))) (gName 10)) tNext)
    (tIfS (tTest (tOp (rNeD K) (tCall sp__law_out [] E0 (tCons (tVar 1) (tCons (tVar 10) tNil))) (tLst tNil))) (tSeq (tAsg (tCall sp__law_of [] E0 (tCons (tVar 0) (tCons (tCall sp__law_out [] E0 (tCons (tVar 1) (tCons (tVar 10) tNil))) tNil))) (gTup K 2 (gCons (gName 11) (gCons (gName 12) gNil))))
    (tSeq (tPar 9 13 (tCons (tCall sp__law_ends [] E0 (tCons (tVar 1) (tCons (tVar 11) (tCons (tVar 12) tNil)))) (tCons (tOp (rI0 fun i j => .int (i - j)) (tCall sp__law_draw [] E0 (tCons (tVar 0) (tCons (tC (.int 9)) tNil))) (tC (.int 4))) tNil)))
    (tSeq (tAsg (tLst (tCons (tOp (rI0 fun i j => .int (i - j)) (tVar 13) (tOp (rI CMul fun i j => .int (i * j)) (tOp (rIxT K) (tVar 9) (tC (.int 2))) (tVar 8))) (tCons (tOp (rI CMul fun i j => .int (i * j)) (tOp (rIxT K) (tVar 9) (tC (.int 3))) (tVar 8)) (tCons (tOp (rI0 fun i j => .int (i - j)) (tOp (rIxL K) (tVar 5) (tVar 7)) (tVar 13)) tNil)))) (gName 14))
    (tSeq (tAsg (tOp rCat (tOp rCat (tSl (rSlL K) (tVar 5) tNoPart (tPart (tVar 7))) (tVar 14)) (tSl (rSlL K) (tVar 5) (tPart (tOp (rI0 fun i j => .int (i + j)) (tVar 7) (tC (.int 1)))) tNoPart)) (gName 5))
    (tAsg (tOp rCat (tOp rCat (tSl (rSlL K) (tVar 6) tNoPart (tPart (tVar 7))) (tLst (tCons (tTup (tCons (tVar 11) (tCons (tVar 12) tNil))) (tCons (tTup (tCons (tVar 11) (tCons (tUn (rU fun i => .int (-i)) (tVar 12)) tNil))) tNil)))) (tSl (rSlL K) (tVar 6) (tPart (tVar 7)) tNoPart)) (gName 6)))))) tNext)))))
    (tAsg (tTup (tCons (tOp (rIxT K) (tVar 2) (tC (.int 0))) (tCons (tOp (rIxL K) (tVar 5) (tC (.int 0))) (tCons (tCB (rTupOf K) (tCons (tLc (iRng1 (tCons (tCB (rLenS K) (tCons (tVar 6) tNil)) tNil)) (gName 16) tYes (tOp (rCatA K) (tOp (rIxL K) (tVar 6) (tVar 16)) (tTup (tCons (tOp (rIxL K) (tVar 5) (tOp (rI0 fun i j => .int (i + j)) (tVar 16) (tC (.int 1)))) tNil))) [16]) tNil)) tNil)))) (gName 2))))))
    (tRet (tVar 2)))
theorem der__law_spelled {P : Program} {w : World} {K : PySem.W.Frag} {mg : Str → Option Value} {base : Heap} {f : Addr} {cdv : Value} {A : Around} {outer : List Env} {s : Shared} {H : Hp} {E : XK} {sp__law_draw sp__law_ends sp__law_out sp__law_of : Sp} (hz : Fre mg)
    (c__law_draw : Cl P w K mg base CX0 1 "_law_draw" p__law_draw sp__law_draw)
    (c__law_ends : Cl P w K mg base CX0 1 "_law_ends" p__law_ends sp__law_ends)
    (c__law_out : Cl P w K mg base CX0 2 "_law_out" p__law_out sp__law_out)
    (c__law_of : Cl P w K mg base CX0 2 "_law_of" p__law_of sp__law_of)
    (hr : Room 2 (A.deeper (envOfC "_law_spelled" (defScope s__law_spelled) s.heap.objs.size f cdv))) :
    PSs (cxOf CX0 P w K mg base n__law_spelled "_law_spelled" (defScope s__law_spelled) f cdv A outer s H E).nox (defBody s__law_spelled) (t__law_spelled K sp__law_draw sp__law_ends sp__law_out sp__law_of) := by
  have nd := sc__law_spelled.nd
  exact (pss_cons (ps_for PassesOwn.never rfl (pi_range1 (by rfl) hz.range (pa_cons (pv 3) pa_nil)) (pg_name (i := 4) nd rfl (by first | exact .inl rfl | exact .inr rfl)) (pss_cons (ps_set (i := 5) nd rfl (by first | exact .inl rfl | exact .inr rfl) (pe_op op_cat (pe_lst (pa_cons (pe_ix ix_tup (pv 2) pe_int (fun _ _ => rfl)) pa_nil)) (pe_lc (own := [("_law_step", 15)]) rfl nd (pi_tup (pe_ix ix_tup (pv 2) pe_int (fun _ _ => rfl))) (blkOk_by (own := [("_law_step", 15)]) (N := n__law_spelled) (sc := defScope s__law_spelled) (by decide +kernel)) (fun _ _ _ _ _ => (pg_name (i := 15) nd rfl (by first | exact .inl rfl | exact .inr rfl))) (fun _ _ _ _ _ => pts_nil) (fun _ _ _ _ _ => (pe_ix ix_tup (pv 15) pe_int (fun _ _ => rfl))))))
    (pss_cons (ps_set (i := 6) nd rfl (by first | exact .inl rfl | exact .inr rfl) (pe_lc (own := [("_law_step", 15)]) rfl nd (pi_tup (pe_ix ix_tup (pv 2) pe_int (fun _ _ => rfl))) (blkOk_by (own := [("_law_step", 15)]) (N := n__law_spelled) (sc := defScope s__law_spelled) (by decide +kernel)) (fun _ _ _ _ _ => (pg_name (i := 15) nd rfl (by first | exact .inl rfl | exact .inr rfl))) (fun _ _ _ _ _ => pts_nil) (fun _ _ _ _ _ => (pe_tup (pa_cons (pe_ix ix_tup (pv 15) pe_int (fun _ _ => rfl)) (pa_cons (pe_ix ix_tup (pv 15) pe_int (fun _ _ => rfl)) pa_nil))))))
    (pss_cons (ps_if (PW.pt (pw_and (pt_cmpR (op_neD hr.units) (pv 6) (pe_lst pa_nil) (nomark _)) (pw_and1 (pt_cmpR (op_eqD hr.units) (pe_cl c__law_draw hr (by decide) (by rfl) (pa_cons (pv 0) (pa_cons pe_int pa_nil))) pe_int (nomark _))))) (pss_cons (ps_par (i := 7) (j := 8) rfl nd rfl rfl (by decide) rfl rfl (pa_cons (pe_op op_add pe_int (pe_cl c__law_draw hr (by decide) (by rfl) (pa_cons (pv 0) (pa_cons (pe_callB call_len_seq (by rfl) hz.len (by decide +kernel) (pa_cons (pv 6) pa_nil)) pa_nil)))) (pa_cons (pe_op op_sub (pe_cl c__law_draw hr (by decide) (by rfl) (pa_cons (pv 0) (pa_cons pe_int pa_nil))) pe_int) pa_nil)) (by rfl))
    (pss_cons (ps_set (i := 9) nd rfl (by first | exact .inl rfl | exact .inr rfl) (pe_cl c__law_ends hr (by decide) (by rfl) (pa_cons (pv 1) (pa_cons (pe_ix ix_tup (pe_ix ix_list (pv 6) (pe_op op_sub (pv 7) pe_int) (fun _ _ => rfl)) pe_int (fun _ _ => rfl)) (pa_cons (pe_ix ix_tup (pe_ix ix_list (pv 6) (pe_op op_sub (pv 7) pe_int) (fun _ _ => rfl)) pe_int (fun _ _ => rfl)) pa_nil)))))
    (pss_cons (ps_asg (pe_op op_sub (pe_ix ix_list (pv 5) (pe_op op_sub (pv 7) pe_int) (fun _ _ => rfl)) (pe_op op_mul (pe_ix ix_tup (pv 9) pe_int (fun _ _ => rfl)) (pv 8))) (pg_sub (pv 5) (pe_op op_sub (pv 7) pe_int) set_list))
    (pss_one (ps_asg (pe_op op_add (pe_ix ix_list (pv 5) (pv 7) (fun _ _ => rfl)) (pe_op op_mul (pe_ix ix_tup (pv 9) pe_int (fun _ _ => rfl)) (pv 8))) (pg_sub (pv 5) (pv 7) set_list)))))) (pss_cons (ps_par (i := 7) (j := 8) rfl nd rfl rfl (by decide) rfl rfl (pa_cons (pe_cl c__law_draw hr (by decide) (by rfl) (pa_cons (pv 0) (pa_cons (pe_callB call_len_seq (by rfl) hz.len (by decide +kernel) (pa_cons (pv 5) pa_nil)) pa_nil))) (pa_cons (pe_op op_sub (pe_cl c__law_draw hr (by decide) (by rfl) (pa_cons (pv 0) (pa_cons pe_int pa_nil))) pe_int) pa_nil)) (by rfl))
    (pss_cons (ps_set (i := 10) nd rfl (by first | exact .inl rfl | exact .inr rfl) (pe_ix ix_tup (pv 2) pe_int (fun _ _ => rfl)))
    (pss_cons (ps_if (pt_cmpR op_gt (pv 7) pe_int (nomark _)) (pss_one (ps_set (i := 10) nd rfl (by first | exact .inl rfl | exact .inr rfl) (pe_ix ix_tup (pe_cl c__law_ends hr (by decide) (by rfl) (pa_cons (pv 1) (pa_cons (pe_ix ix_tup (pe_ix ix_list (pv 6) (pe_op op_sub (pv 7) pe_int) (fun _ _ => rfl)) pe_int (fun _ _ => rfl)) (pa_cons (pe_ix ix_tup (pe_ix ix_list (pv 6) (pe_op op_sub (pv 7) pe_int) (fun _ _ => rfl)) pe_int (fun _ _ => rfl)) pa_nil)))) pe_int (fun _ _ => rfl)))) pss_nil)
    (pss_one (ps_if (pt_cmpR (op_neD hr.units) (pe_cl c__law_out hr (by decide) (by rfl) (pa_cons (pv 1) (pa_cons (pv 10) pa_nil))) (pe_lst pa_nil) (nomark _)) (pss_cons (ps_asg (pe_cl c__law_of hr (by decide) (by rfl) (pa_cons (pv 0) (pa_cons (pe_cl c__law_out hr (by decide) (by rfl) (pa_cons (pv 1) (pa_cons (pv 10) pa_nil))) pa_nil))) (pg_tup rfl (pgs_cons (pg_name (i := 11) nd rfl (by first | exact .inl rfl | exact .inr rfl)) (pgs_cons (pg_name (i := 12) nd rfl (by first | exact .inl rfl | exact .inr rfl)) pgs_nil))))
    (pss_cons (ps_par (i := 9) (j := 13) rfl nd rfl rfl (by decide) rfl rfl (pa_cons (pe_cl c__law_ends hr (by decide) (by rfl) (pa_cons (pv 1) (pa_cons (pv 11) (pa_cons (pv 12) pa_nil)))) (pa_cons (pe_op op_sub (pe_cl c__law_draw hr (by decide) (by rfl) (pa_cons (pv 0) (pa_cons pe_int pa_nil))) pe_int) pa_nil)) (by rfl))
    (pss_cons (ps_set (i := 14) nd rfl (by first | exact .inl rfl | exact .inr rfl) (pe_lst (pa_cons (pe_op op_sub (pv 13) (pe_op op_mul (pe_ix ix_tup (pv 9) pe_int (fun _ _ => rfl)) (pv 8))) (pa_cons (pe_op op_mul (pe_ix ix_tup (pv 9) pe_int (fun _ _ => rfl)) (pv 8)) (pa_cons (pe_op op_sub (pe_ix ix_list (pv 5) (pv 7) (fun _ _ => rfl)) (pv 13)) pa_nil)))))
    (pss_cons (ps_set (i := 5) nd rfl (by first | exact .inl rfl | exact .inr rfl) (pe_op op_cat (pe_op op_cat (pe_slice sl_list (pv 5) po_none (po_some (pv 7))) (pv 14)) (pe_slice sl_list (pv 5) (po_some (pe_op op_add (pv 7) pe_int)) po_none)))
    (pss_one (ps_set (i := 6) nd rfl (by first | exact .inl rfl | exact .inr rfl) (pe_op op_cat (pe_op op_cat (pe_slice sl_list (pv 6) po_none (po_some (pv 7))) (pe_lst (pa_cons (pe_tup (pa_cons (pv 11) (pa_cons (pv 12) pa_nil))) (pa_cons (pe_tup (pa_cons (pv 11) (pa_cons (pe_un un_neg (pv 12)) pa_nil))) pa_nil)))) (pe_slice sl_list (pv 6) (po_some (pv 7)) po_none)))))))) pss_nil))))))
    (pss_one (ps_set (i := 2) nd rfl (by first | exact .inl rfl | exact .inr rfl) (pe_tup (pa_cons (pe_ix ix_tup (pv 2) pe_int (fun _ _ => rfl)) (pa_cons (pe_ix ix_list (pv 5) pe_int (fun _ _ => rfl)) (pa_cons (pe_callTy call_tuple_of (by rfl) hz.tuple (by decide +kernel) (pa_cons (pe_lc (own := [("_law_k", 16)]) rfl nd (pi_range1 (by rfl) hz.range (pa_cons (pe_callB call_len_seq (by rfl) hz.len (by decide +kernel) (pa_cons (pv 6) pa_nil)) pa_nil)) (blkOk_by (own := [("_law_k", 16)]) (N := n__law_spelled) (sc := defScope s__law_spelled) (by decide +kernel)) (fun _ _ _ _ _ => (pg_name (i := 16) nd rfl (by first | exact .inl rfl | exact .inr rfl))) (fun _ _ _ _ _ => pts_nil) (fun _ _ _ _ _ => (pe_op op_catA (pe_ix ix_list (pv 6) (pv 16) (fun _ _ => rfl)) (pe_tup (pa_cons (pe_ix ix_list (pv 5) (pe_op op_add (pv 16) pe_int) (fun _ _ => rfl)) pa_nil))))) pa_nil)) pa_nil))))))))))
    (pss_one (ps_ret (pv 2))))
abbrev s__law_flag : Stmt := topS 45
abbrev n__law_flag : List Str := ["_law_told_here", "_law_due"]
abbrev p__law_flag : List Str := ["_law_told_here", "_law_due"]
theorem sc__law_flag : FnScope n__law_flag p__law_flag (defScope s__law_flag) := ⟨rfl, rfl, rfl, by decide +kernel, rfl, by decide +kernel, by decide +kernel⟩
def t__law_flag (K : PySem.W.Frag) : TS :=
  (tRet (tIf (tB (tVar 1)) (tOp rIsB (tVar 0) (tC (.bl true))) (tOp rIsB (tVar 0) (tC (.bl false)))))
theorem der__law_flag {P : Program} {w : World} {K : PySem.W.Frag} {mg : Str → Option Value} {base : Heap} {f : Addr} {cdv : Value} {A : Around} {outer : List Env} {s : Shared} {H : Hp} {E : XK} (hz : Fre mg)
    (hr : Room 0 (A.deeper (envOfC "_law_flag" (defScope s__law_flag) s.heap.objs.size f cdv))) :
    PSs (cxOf CX0 P w K mg base n__law_flag "_law_flag" (defScope s__law_flag) f cdv A outer s H E).nox (defBody s__law_flag) (t__law_flag K) := by
  have nd := sc__law_flag.nd
  exact (pss_one (ps_ret (pe_ifExp (pt_val (pv 1)) (pe_cmpR op_isBl (pv 0) pe_bl (nomark _)) (pe_cmpR op_isBl (pv 0) pe_bl (nomark _)))))
abbrev s__law_whole : Stmt := topS 46
abbrev n__law_whole : List Str := ["_law_value"]
abbrev p__law_whole : List Str := ["_law_value"]
theorem sc__law_whole : FnScope n__law_whole p__law_whole (defScope s__law_whole) := ⟨rfl, rfl, rfl, by decide +kernel, rfl, by decide +kernel, by decide +kernel⟩
def t__law_whole (K : PySem.W.Frag) : TS :=
  (tRet (tAndV (tCB (rIsi K) (tCons (tVar 0) (tCons (tC (.ty "int")) tNil))) (tNotV (tCB (rIsi K) (tCons (tVar 0) (tCons (tC (.ty "bool")) tNil))))))
theorem der__law_whole {P : Program} {w : World} {K : PySem.W.Frag} {mg : Str → Option Value} {base : Heap} {f : Addr} {cdv : Value} {A : Around} {outer : List Env} {s : Shared} {H : Hp} {E : XK} (hz : Fre mg)
    (hr : Room 0 (A.deeper (envOfC "_law_whole" (defScope s__law_whole) s.heap.objs.size f cdv))) :
    PSs (cxOf CX0 P w K mg base n__law_whole "_law_whole" (defScope s__law_whole) f cdv A outer s H E).nox (defBody s__law_whole) (t__law_whole K) := by
  have nd := sc__law_whole.nd
  exact (pss_one (ps_ret (pe_and (pe_callB call_isi (by rfl) hz.isinstance (by decide +kernel) (pa_cons (pv 0) (pa_cons (pe_bltn (v := .ty "int") (u := .type "int") (by rfl) hz.int (by decide +kernel) rfl) pa_nil))) (pe_one (pe_not (pe_callB call_isi (by rfl) hz.isinstance (by decide +kernel) (pa_cons (pv 0) (pa_cons (pe_bltn (v := .ty "bool") (u := .type "bool") (by rfl) hz.bool (by decide +kernel) rfl) pa_nil))))))))
abbrev s__law_bound : Stmt := topS 47
abbrev n__law_bound : List Str := []
abbrev p__law_bound : List Str := []
theorem sc__law_bound : FnScope n__law_bound p__law_bound (defScope s__law_bound) := ⟨rfl, rfl, rfl, by decide +kernel, rfl, by decide +kernel, by decide +kernel⟩
def t__law_bound (K : PySem.W.Frag) : TS :=
  (tRet (tOp (rI CPowB fun i j => .int (i ^ j.toNat)) (tOp (rI CPowB fun i j => .int (i ^ j.toNat)) (tC (.int 10)) (tC (.int 60))) (tC (.int 5))))
theorem der__law_bound {P : Program} {w : World} {K : PySem.W.Frag} {mg : Str → Option Value} {base : Heap} {f : Addr} {cdv : Value} {A : Around} {outer : List Env} {s : Shared} {H : Hp} {E : XK} (hz : Fre mg)
    (hr : Room 0 (A.deeper (envOfC "_law_bound" (defScope s__law_bound) s.heap.objs.size f cdv))) :
    PSs (cxOf CX0 P w K mg base n__law_bound "_law_bound" (defScope s__law_bound) f cdv A outer s H E).nox (defBody s__law_bound) (t__law_bound K) := by
  have nd := sc__law_bound.nd
  exact (pss_one (ps_ret (pe_op op_powB (pe_op op_powB pe_int pe_int) pe_int)))
abbrev s__law_fits : Stmt := topS 48
abbrev n__law_fits : List Str := ["_law_walk_here", "_law_step"]
abbrev p__law_fits : List Str := ["_law_walk_here"]
theorem sc__law_fits : FnScope n__law_fits p__law_fits (defScope s__law_fits) := ⟨rfl, rfl, rfl, by decide +kernel, rfl, by decide +kernel, by decide +kernel⟩
def t__law_fits (K : PySem.W.Frag) (sp__law_bound : Sp) : TS :=
  (tSeq (tIfS (tOr (tTest (tOp (rI0 fun i j => .bl (decide (j < i))) (tCB (rLenS K) (tCons (tOp (rIxT K) (tVar 0) (tC (.int 2))) tNil)) (tC (.int 60)))) (tTest (tOp (rI0 fun i j => .bl (decide (j ≤ i))) (tCB rAbs (tCons (tOp (rIxT K) (tVar 0) (tC (.int 1))) tNil)) (tCall sp__law_bound [] E0 tNil)))) (tRet (tC (.bl false))) tNext)
    (tRet (tCB (rAll K) (tCons (tLc (iTup K (tOp (rIxT K) (tVar 0) (tC (.int 2)))) (gName 1) tYes (tOp (rI0 fun i j => .bl (decide (i < j))) (tCB rAbs (tCons (tOp (rIxT K) (tVar 1) (tC (.int 2))) tNil)) (tCall sp__law_bound [] E0 tNil)) [1]) tNil))))
theorem der__law_fits {P : Program} {w : World} {K : PySem.W.Frag} {mg : Str → Option Value} {base : Heap} {f : Addr} {cdv : Value} {A : Around} {outer : List Env} {s : Shared} {H : Hp} {E : XK} {sp__law_bound : Sp} (hz : Fre mg)
    (c__law_bound : Cl P w K mg base CX0 1 "_law_bound" p__law_bound sp__law_bound)
    (hr : Room 1 (A.deeper (envOfC "_law_fits" (defScope s__law_fits) s.heap.objs.size f cdv))) :
    PSs (cxOf CX0 P w K mg base n__law_fits "_law_fits" (defScope s__law_fits) f cdv A outer s H E).nox (defBody s__law_fits) (t__law_fits K sp__law_bound) := by
  have nd := sc__law_fits.nd
  exact (pss_cons (ps_if (PW.pt (pw_or (pt_cmpR op_gt (pe_callB call_len_seq (by rfl) hz.len (by decide +kernel) (pa_cons (pe_ix ix_tup (pv 0) pe_int (fun _ _ => rfl)) pa_nil)) pe_int (nomark _)) (pw_or1 (pt_cmpR op_ge (pe_callB call_abs (by rfl) hz.abs (by decide +kernel) (pa_cons (pe_ix ix_tup (pv 0) pe_int (fun _ _ => rfl)) pa_nil)) (pe_cl0 c__law_bound hr (by decide) (by rfl)) (nomark _))))) (pss_one (ps_ret pe_bl)) pss_nil)
    (pss_one (ps_ret (pe_callB (cr_all rfl) (by rfl) hz.all (by decide +kernel) (pa_cons (pe_lc (own := [("_law_step", 1)]) rfl nd (pi_tup (pe_ix ix_tup (pv 0) pe_int (fun _ _ => rfl))) (blkOk_by (own := [("_law_step", 1)]) (N := n__law_fits) (sc := defScope s__law_fits) (by decide +kernel)) (fun _ _ _ _ _ => (pg_name (i := 1) nd rfl (by first | exact .inl rfl | exact .inr rfl))) (fun _ _ _ _ _ => pts_nil) (fun _ _ _ _ _ => (pe_cmpR op_lt (pe_callB call_abs (by rfl) hz.abs (by decide +kernel) (pa_cons (pe_ix ix_tup (pv 1) pe_int (fun _ _ => rfl)) pa_nil)) (pe_cl0 c__law_bound hr (by decide) (by rfl)) (nomark _)))) pa_nil)))))
abbrev s__law_split : Stmt := topS 49
abbrev n__law_split : List Str := ["_law_walk_here", "_law_step"]
abbrev p__law_split : List Str := ["_law_walk_here"]
theorem sc__law_split : FnScope n__law_split p__law_split (defScope s__law_split) := ⟨rfl, rfl, rfl, by decide +kernel, rfl, by decide +kernel, by decide +kernel⟩
def t__law_split (K : PySem.W.Frag) : TS :=
  (tRet (tTup (tCons (tOp rCat (tLst (tCons (tOp (rIxT K) (tVar 0) (tC (.int 1))) tNil)) (tLc (iTup K (tOp (rIxT K) (tVar 0) (tC (.int 2)))) (gName 1) tYes (tOp (rIxT K) (tVar 1) (tC (.int 2))) [1])) (tCons (tLc (iTup K (tOp (rIxT K) (tVar 0) (tC (.int 2)))) (gName 1) tYes (tTup (tCons (tOp (rIxT K) (tVar 1) (tC (.int 0))) (tCons (tOp (rIxT K) (tVar 1) (tC (.int 1))) tNil))) [1]) tNil))))
theorem der__law_split {P : Program} {w : World} {K : PySem.W.Frag} {mg : Str → Option Value} {base : Heap} {f : Addr} {cdv : Value} {A : Around} {outer : List Env} {s : Shared} {H : Hp} {E : XK} (hz : Fre mg)
    (hr : Room 0 (A.deeper (envOfC "_law_split" (defScope s__law_split) s.heap.objs.size f cdv))) :
    PSs (cxOf CX0 P w K mg base n__law_split "_law_split" (defScope s__law_split) f cdv A outer s H E).nox (defBody s__law_split) (t__law_split K) := by
  have nd := sc__law_split.nd
  exact (pss_one (ps_ret (pe_tup (pa_cons (pe_op op_cat (pe_lst (pa_cons (pe_ix ix_tup (pv 0) pe_int (fun _ _ => rfl)) pa_nil)) (pe_lc (own := [("_law_step", 1)]) rfl nd (pi_tup (pe_ix ix_tup (pv 0) pe_int (fun _ _ => rfl))) (blkOk_by (own := [("_law_step", 1)]) (N := n__law_split) (sc := defScope s__law_split) (by decide +kernel)) (fun _ _ _ _ _ => (pg_name (i := 1) nd rfl (by first | exact .inl rfl | exact .inr rfl))) (fun _ _ _ _ _ => pts_nil) (fun _ _ _ _ _ => (pe_ix ix_tup (pv 1) pe_int (fun _ _ => rfl))))) (pa_cons (pe_lc (own := [("_law_step", 1)]) rfl nd (pi_tup (pe_ix ix_tup (pv 0) pe_int (fun _ _ => rfl))) (blkOk_by (own := [("_law_step", 1)]) (N := n__law_split) (sc := defScope s__law_split) (by decide +kernel)) (fun _ _ _ _ _ => (pg_name (i := 1) nd rfl (by first | exact .inl rfl | exact .inr rfl))) (fun _ _ _ _ _ => pts_nil) (fun _ _ _ _ _ => (pe_tup (pa_cons (pe_ix ix_tup (pv 1) pe_int (fun _ _ => rfl)) (pa_cons (pe_ix ix_tup (pv 1) pe_int (fun _ _ => rfl)) pa_nil))))) pa_nil)))))
abbrev s__law_glued : Stmt := topS 50
abbrev n__law_glued : List Str := ["_law_room", "_law_turns_here", "_law_crossings", "_law_k"]
abbrev p__law_glued : List Str := ["_law_room", "_law_turns_here", "_law_crossings"]
theorem sc__law_glued : FnScope n__law_glued p__law_glued (defScope s__law_glued) := ⟨rfl, rfl, rfl, by decide +kernel, rfl, by decide +kernel, by decide +kernel⟩
def t__law_glued (K : PySem.W.Frag) : TS :=
  (tRet (tTup (tCons (tVar 0) (tCons (tOp (rIxL K) (tVar 1) (tC (.int 0))) (tCons (tCB (rTupOf K) (tCons (tLc (iRng1 (tCons (tCB (rLenS K) (tCons (tVar 2) tNil)) tNil)) (gName 3) tYes (tOp (rCatA K) (tOp (rIxL K) (tVar 2) (tVar 3)) (tTup (tCons (tOp (rIxL K) (tVar 1) (tOp (rI0 fun i j => .int (i + j)) (tVar 3) (tC (.int 1)))) tNil))) [3]) tNil)) tNil)))))
theorem der__law_glued {P : Program} {w : World} {K : PySem.W.Frag} {mg : Str → Option Value} {base : Heap} {f : Addr} {cdv : Value} {A : Around} {outer : List Env} {s : Shared} {H : Hp} {E : XK} (hz : Fre mg)
    (hr : Room 0 (A.deeper (envOfC "_law_glued" (defScope s__law_glued) s.heap.objs.size f cdv))) :
    PSs (cxOf CX0 P w K mg base n__law_glued "_law_glued" (defScope s__law_glued) f cdv A outer s H E).nox (defBody s__law_glued) (t__law_glued K) := by
  have nd := sc__law_glued.nd
  exact (pss_one (ps_ret (pe_tup (pa_cons (pv 0) (pa_cons (pe_ix ix_list (pv 1) pe_int (fun _ _ => rfl)) (pa_cons (pe_callTy call_tuple_of (by rfl) hz.tuple (by decide +kernel) (pa_cons (pe_lc (own := [("_law_k", 3)]) rfl nd (pi_range1 (by rfl) hz.range (pa_cons (pe_callB call_len_seq (by rfl) hz.len (by decide +kernel) (pa_cons (pv 2) pa_nil)) pa_nil)) (blkOk_by (own := [("_law_k", 3)]) (N := n__law_glued) (sc := defScope s__law_glued) (by decide +kernel)) (fun _ _ _ _ _ => (pg_name (i := 3) nd rfl (by first | exact .inl rfl | exact .inr rfl))) (fun _ _ _ _ _ => pts_nil) (fun _ _ _ _ _ => (pe_op op_catA (pe_ix ix_list (pv 2) (pv 3) (fun _ _ => rfl)) (pe_tup (pa_cons (pe_ix ix_list (pv 1) (pe_op op_add (pv 3) pe_int) (fun _ _ => rfl)) pa_nil))))) pa_nil)) pa_nil))))))
abbrev s__law_put_move : Stmt := topS 51
abbrev n__law_put_move : List Str := ["_law_web_here", "_law_walk_here", "_law_move", "_law_turns_here", "_law_crossings", "_law_i", "_law_tie", "_law_side", "_law_ahead", "_law_room"]
abbrev p__law_put_move : List Str := ["_law_web_here", "_law_walk_here", "_law_move"]
theorem sc__law_put_move : FnScope n__law_put_move p__law_put_move (defScope s__law_put_move) := ⟨rfl, rfl, rfl, by decide +kernel, rfl, by decide +kernel, by decide +kernel⟩
def t__law_put_move (K : PySem.W.Frag) (sp__law_split sp__law_ends sp__law_glued : Sp) : TS :=
  (tSeq (tAsg (tCall sp__law_split [] E0 (tCons (tVar 1) tNil)) (gTup K 2 (gCons (gName 3) (gCons (gName 4) gNil))))
    (tSeq (tAsg (tTup (tCons (tOp (rIxT K) (tVar 2) (tC (.int 1))) (tCons (tOp (rIxT K) (tVar 2) (tC (.int 2))) (tCons (tOp (rIxT K) (tVar 2) (tC (.int 3))) (tCons (tOp (rIxT K) (tVar 2) (tC (.int 4))) tNil))))) (gTup K 4 (gCons (gName 5) (gCons (gName 6) (gCons (gName 7) (gCons (gName 8) gNil))))))
    (tSeq (tIfS (tOr (tNot (tTest (tChain (rI0 fun i j => .bl (decide (i ≤ j))) (rI0 fun i j => .bl (decide (i ≤ j))) (tC (.int 0)) (tVar 5) (tCB (rLenS K) (tCons (tVar 4) tNil))))) (tOr (tNot (tTest (tChain (rI0 fun i j => .bl (decide (i ≤ j))) (rI0 fun i j => .bl (decide (i < j))) (tC (.int 0)) (tVar 6) (tCB (rLenS K) (tCons (tOp (rIxT K) (tVar 0) (tC (.int 1))) tNil))))) (tTest (tOp (rIn K true) (tVar 7) (tTup (tCons (tC (.int 1)) (tCons (tUn (rU fun i => .int (-i)) (tC (.int 1))) tNil))))))) (tRet (tC .non)) tNext)
    (tSeq (tAsg (tOp (rIxT K) (tVar 1) (tC (.int 0))) (gName 9))
    (tSeq (tIfS (tTest (tOp (rI0 fun i j => .bl (decide (j < i))) (tVar 5) (tC (.int 0)))) (tAsg (tOp (rIxT K) (tCall sp__law_ends [] E0 (tCons (tVar 0) (tCons (tOp (rIxT K) (tOp (rIxL K) (tVar 4) (tOp (rI0 fun i j => .int (i - j)) (tVar 5) (tC (.int 1)))) (tC (.int 0))) (tCons (tOp (rIxT K) (tOp (rIxL K) (tVar 4) (tOp (rI0 fun i j => .int (i - j)) (tVar 5) (tC (.int 1)))) (tC (.int 1))) tNil)))) (tC (.int 1))) (gName 9)) tNext)
    (tSeq (tIfS (tTest (tOp (rNeD K) (tOp (rIxT K) (tCall sp__law_ends [] E0 (tCons (tVar 0) (tCons (tVar 6) (tCons (tVar 7) tNil)))) (tC (.int 0))) (tVar 9))) (tRet (tC .non)) tNext)
    (tSeq (tAsg (tOp rCat (tOp rCat (tSl (rSlL K) (tVar 3) tNoPart (tPart (tVar 5))) (tLst (tCons (tVar 8) (tCons (tC (.int 0)) (tCons (tOp (rI0 fun i j => .int (i - j)) (tOp (rIxL K) (tVar 3) (tVar 5)) (tVar 8)) tNil))))) (tSl (rSlL K) (tVar 3) (tPart (tOp (rI0 fun i j => .int (i + j)) (tVar 5) (tC (.int 1)))) tNoPart)) (gName 3))
    (tRet (tCall sp__law_glued [] E0 (tCons (tOp (rIxT K) (tVar 1) (tC (.int 0))) (tCons (tVar 3) (tCons (tOp rCat (tOp rCat (tSl (rSlL K) (tVar 4) tNoPart (tPart (tVar 5))) (tLst (tCons (tTup (tCons (tVar 6) (tCons (tVar 7) tNil))) (tCons (tTup (tCons (tVar 6) (tCons (tUn (rU fun i => .int (-i)) (tVar 7)) tNil))) tNil)))) (tSl (rSlL K) (tVar 4) (tPart (tVar 5)) tNoPart)) tNil))))))))))))
theorem der__law_put_move {P : Program} {w : World} {K : PySem.W.Frag} {mg : Str → Option Value} {base : Heap} {f : Addr} {cdv : Value} {A : Around} {outer : List Env} {s : Shared} {H : Hp} {E : XK} {sp__law_split sp__law_ends sp__law_glued : Sp} (hz : Fre mg)
    (c__law_split : Cl P w K mg base CX0 1 "_law_split" p__law_split sp__law_split)
    (c__law_ends : Cl P w K mg base CX0 1 "_law_ends" p__law_ends sp__law_ends)
    (c__law_glued : Cl P w K mg base CX0 1 "_law_glued" p__law_glued sp__law_glued)
    (hr : Room 1 (A.deeper (envOfC "_law_put_move" (defScope s__law_put_move) s.heap.objs.size f cdv))) :
    PSs (cxOf CX0 P w K mg base n__law_put_move "_law_put_move" (defScope s__law_put_move) f cdv A outer s H E).nox (defBody s__law_put_move) (t__law_put_move K sp__law_split sp__law_ends sp__law_glued) := by
  have nd := sc__law_put_move.nd
  exact (pss_cons (ps_asg (pe_cl c__law_split hr (by decide) (by rfl) (pa_cons (pv 1) pa_nil)) (pg_tup rfl (pgs_cons (pg_name (i := 3) nd rfl (by first | exact .inl rfl | exact .inr rfl)) (pgs_cons (pg_name (i := 4) nd rfl (by first | exact .inl rfl | exact .inr rfl)) pgs_nil))))
    (pss_cons (ps_asg (pe_tup (pa_cons (pe_ix ix_tup (pv 2) pe_int (fun _ _ => rfl)) (pa_cons (pe_ix ix_tup (pv 2) pe_int (fun _ _ => rfl)) (pa_cons (pe_ix ix_tup (pv 2) pe_int (fun _ _ => rfl)) (pa_cons (pe_ix ix_tup (pv 2) pe_int (fun _ _ => rfl)) pa_nil))))) (pg_tup rfl (pgs_cons (pg_name (i := 5) nd rfl (by first | exact .inl rfl | exact .inr rfl)) (pgs_cons (pg_name (i := 6) nd rfl (by first | exact .inl rfl | exact .inr rfl)) (pgs_cons (pg_name (i := 7) nd rfl (by first | exact .inl rfl | exact .inr rfl)) (pgs_cons (pg_name (i := 8) nd rfl (by first | exact .inl rfl | exact .inr rfl)) pgs_nil))))))
    (pss_cons (ps_if (PW.pt (pw_or (pt_not (pt_chain op_le op_le pe_int (pv 5) (pe_callB call_len_seq (by rfl) hz.len (by decide +kernel) (pa_cons (pv 4) pa_nil)))) (pw_or (pt_not (pt_chain op_le op_lt pe_int (pv 6) (pe_callB call_len_seq (by rfl) hz.len (by decide +kernel) (pa_cons (pe_ix ix_tup (pv 0) pe_int (fun _ _ => rfl)) pa_nil)))) (pw_or1 (pt_cmpR op_notIn_seq (pv 7) (pe_tup (pa_cons pe_int (pa_cons (pe_un un_neg pe_int) pa_nil))) (by rfl)))))) (pss_one (ps_ret pe_non)) pss_nil)
    (pss_cons (ps_set (i := 9) nd rfl (by first | exact .inl rfl | exact .inr rfl) (pe_ix ix_tup (pv 1) pe_int (fun _ _ => rfl)))
    (pss_cons (ps_if (pt_cmpR op_gt (pv 5) pe_int (nomark _)) (pss_one (ps_set (i := 9) nd rfl (by first | exact .inl rfl | exact .inr rfl) (pe_ix ix_tup (pe_cl c__law_ends hr (by decide) (by rfl) (pa_cons (pv 0) (pa_cons (pe_ix ix_tup (pe_ix ix_list (pv 4) (pe_op op_sub (pv 5) pe_int) (fun _ _ => rfl)) pe_int (fun _ _ => rfl)) (pa_cons (pe_ix ix_tup (pe_ix ix_list (pv 4) (pe_op op_sub (pv 5) pe_int) (fun _ _ => rfl)) pe_int (fun _ _ => rfl)) pa_nil)))) pe_int (fun _ _ => rfl)))) pss_nil)
    (pss_cons (ps_if (pt_cmpR (op_neD hr.units) (pe_ix ix_tup (pe_cl c__law_ends hr (by decide) (by rfl) (pa_cons (pv 0) (pa_cons (pv 6) (pa_cons (pv 7) pa_nil)))) pe_int (fun _ _ => rfl)) (pv 9) (nomark _)) (pss_one (ps_ret pe_non)) pss_nil)
    (pss_cons (ps_set (i := 3) nd rfl (by first | exact .inl rfl | exact .inr rfl) (pe_op op_cat (pe_op op_cat (pe_slice sl_list (pv 3) po_none (po_some (pv 5))) (pe_lst (pa_cons (pv 8) (pa_cons pe_int (pa_cons (pe_op op_sub (pe_ix ix_list (pv 3) (pv 5) (fun _ _ => rfl)) (pv 8)) pa_nil))))) (pe_slice sl_list (pv 3) (po_some (pe_op op_add (pv 5) pe_int)) po_none)))
    (pss_one (ps_ret (pe_cl c__law_glued hr (by decide) (by rfl) (pa_cons (pe_ix ix_tup (pv 1) pe_int (fun _ _ => rfl)) (pa_cons (pv 3) (pa_cons (pe_op op_cat (pe_op op_cat (pe_slice sl_list (pv 4) po_none (po_some (pv 5))) (pe_lst (pa_cons (pe_tup (pa_cons (pv 6) (pa_cons (pv 7) pa_nil))) (pa_cons (pe_tup (pa_cons (pv 6) (pa_cons (pe_un un_neg (pv 7)) pa_nil))) pa_nil)))) (pe_slice sl_list (pv 4) (po_some (pv 5)) po_none)) pa_nil)))))))))))))
abbrev s__law_strike_move : Stmt := topS 52
abbrev n__law_strike_move : List Str := ["_law_walk_here", "_law_i", "_law_turns_here", "_law_crossings", "_law_both"]
abbrev p__law_strike_move : List Str := ["_law_walk_here", "_law_i"]
theorem sc__law_strike_move : FnScope n__law_strike_move p__law_strike_move (defScope s__law_strike_move) := ⟨rfl, rfl, rfl, by decide +kernel, rfl, by decide +kernel, by decide +kernel⟩
def t__law_strike_move (K : PySem.W.Frag) (sp__law_split sp__law_glued : Sp) : TS :=
  (tSeq (tAsg (tCall sp__law_split [] E0 (tCons (tVar 0) tNil)) (gTup K 2 (gCons (gName 2) (gCons (gName 3) gNil))))
    (tSeq (tIfS (tOr (tNot (tTest (tChain (rI0 fun i j => .bl (decide (i ≤ j))) (rI0 fun i j => .bl (decide (i < j))) (tC (.int 1)) (tVar 1) (tCB (rLenS K) (tCons (tVar 3) tNil))))) (tTest (tOp (rNeD K) (tOp (rIxL K) (tVar 2) (tVar 1)) (tC (.int 0))))) (tRet (tC .non)) tNext)
    (tSeq (tIfS (tOr (tTest (tOp (rNeD K) (tOp (rIxT K) (tOp (rIxL K) (tVar 3) (tOp (rI0 fun i j => .int (i - j)) (tVar 1) (tC (.int 1)))) (tC (.int 0))) (tOp (rIxT K) (tOp (rIxL K) (tVar 3) (tVar 1)) (tC (.int 0))))) (tTest (tOp (rNeD K) (tOp (rIxT K) (tOp (rIxL K) (tVar 3) (tOp (rI0 fun i j => .int (i - j)) (tVar 1) (tC (.int 1)))) (tC (.int 1))) (tUn (rU fun i => .int (-i)) (tOp (rIxT K) (tOp (rIxL K) (tVar 3) (tVar 1)) (tC (.int 1))))))) (tRet (tC .non)) tNext)
    (tSeq (tAsg (tLst (tCons (tOp (rI0 fun i j => .int (i + j)) (tOp (rIxL K) (tVar 2) (tOp (rI0 fun i j => .int (i - j)) (tVar 1) (tC (.int 1)))) (tOp (rIxL K) (tVar 2) (tOp (rI0 fun i j => .int (i + j)) (tVar 1) (tC (.int 1))))) tNil)) (gName 4))
    (tSeq (tAsg (tOp rCat (tOp rCat (tSl (rSlL K) (tVar 2) tNoPart (tPart (tOp (rI0 fun i j => .int (i - j)) (tVar 1) (tC (.int 1))))) (tVar 4)) (tSl (rSlL K) (tVar 2) (tPart (tOp (rI0 fun i j => .int (i + j)) (tVar 1) (tC (.int 2)))) tNoPart)) (gName 2))
    (tRet (tCall sp__law_glued [] E0 (tCons (tOp (rIxT K) (tVar 0) (tC (.int 0))) (tCons (tVar 2) (tCons (tOp rCat (tSl (rSlL K) (tVar 3) tNoPart (tPart (tOp (rI0 fun i j => .int (i - j)) (tVar 1) (tC (.int 1))))) (tSl (rSlL K) (tVar 3) (tPart (tOp (rI0 fun i j => .int (i + j)) (tVar 1) (tC (.int 1)))) tNoPart)) tNil))))))))))
theorem der__law_strike_move {P : Program} {w : World} {K : PySem.W.Frag} {mg : Str → Option Value} {base : Heap} {f : Addr} {cdv : Value} {A : Around} {outer : List Env} {s : Shared} {H : Hp} {E : XK} {sp__law_split sp__law_glued : Sp} (hz : Fre mg)
    (c__law_split : Cl P w K mg base CX0 1 "_law_split" p__law_split sp__law_split)
    (c__law_glued : Cl P w K mg base CX0 1 "_law_glued" p__law_glued sp__law_glued)
    (hr : Room 1 (A.deeper (envOfC "_law_strike_move" (defScope s__law_strike_move) s.heap.objs.size f cdv))) :
    PSs (cxOf CX0 P w K mg base n__law_strike_move "_law_strike_move" (defScope s__law_strike_move) f cdv A outer s H E).nox (defBody s__law_strike_move) (t__law_strike_move K sp__law_split sp__law_glued) := by
  have nd := sc__law_strike_move.nd
  exact (pss_cons (ps_asg (pe_cl c__law_split hr (by decide) (by rfl) (pa_cons (pv 0) pa_nil)) (pg_tup rfl (pgs_cons (pg_name (i := 2) nd rfl (by first | exact .inl rfl | exact .inr rfl)) (pgs_cons (pg_name (i := 3) nd rfl (by first | exact .inl rfl | exact .inr rfl)) pgs_nil))))
    (pss_cons (ps_if (PW.pt (pw_or (pt_not (pt_chain op_le op_lt pe_int (pv 1) (pe_callB call_len_seq (by rfl) hz.len (by decide +kernel) (pa_cons (pv 3) pa_nil)))) (pw_or1 (pt_cmpR (op_neD hr.units) (pe_ix ix_list (pv 2) (pv 1) (fun _ _ => rfl)) pe_int (nomark _))))) (pss_one (ps_ret pe_non)) pss_nil)
    (pss_cons (ps_if (PW.pt (pw_or (pt_cmpR (op_neD hr.units) (pe_ix ix_tup (pe_ix ix_list (pv 3) (pe_op op_sub (pv 1) pe_int) (fun _ _ => rfl)) pe_int (fun _ _ => rfl)) (pe_ix ix_tup (pe_ix ix_list (pv 3) (pv 1) (fun _ _ => rfl)) pe_int (fun _ _ => rfl)) (nomark _)) (pw_or1 (pt_cmpR (op_neD hr.units) (pe_ix ix_tup (pe_ix ix_list (pv 3) (pe_op op_sub (pv 1) pe_int) (fun _ _ => rfl)) pe_int (fun _ _ => rfl)) (pe_un un_neg (pe_ix ix_tup (pe_ix ix_list (pv 3) (pv 1) (fun _ _ => rfl)) pe_int (fun _ _ => rfl))) (nomark _))))) (pss_one (ps_ret pe_non)) pss_nil)
    (pss_cons (ps_set (i := 4) nd rfl (by first | exact .inl rfl | exact .inr rfl) (pe_lst (pa_cons (pe_op op_add (pe_ix ix_list (pv 2) (pe_op op_sub (pv 1) pe_int) (fun _ _ => rfl)) (pe_ix ix_list (pv 2) (pe_op op_add (pv 1) pe_int) (fun _ _ => rfl))) pa_nil)))
    (pss_cons (ps_set (i := 2) nd rfl (by first | exact .inl rfl | exact .inr rfl) (pe_op op_cat (pe_op op_cat (pe_slice sl_list (pv 2) po_none (po_some (pe_op op_sub (pv 1) pe_int))) (pv 4)) (pe_slice sl_list (pv 2) (po_some (pe_op op_add (pv 1) pe_int)) po_none)))
    (pss_one (ps_ret (pe_cl c__law_glued hr (by decide) (by rfl) (pa_cons (pe_ix ix_tup (pv 0) pe_int (fun _ _ => rfl)) (pa_cons (pv 2) (pa_cons (pe_op op_cat (pe_slice sl_list (pv 3) po_none (po_some (pe_op op_sub (pv 1) pe_int))) (pe_slice sl_list (pv 3) (po_some (pe_op op_add (pv 1) pe_int)) po_none)) pa_nil)))))))))))
abbrev s__law_carry_move : Stmt := topS 53
abbrev n__law_carry_move : List Str := ["_law_web_here", "_law_walk_here", "_law_i", "_law_times", "_law_turns_here", "_law_crossings", "_law_ends_here"]
abbrev p__law_carry_move : List Str := ["_law_web_here", "_law_walk_here", "_law_i", "_law_times"]
theorem sc__law_carry_move : FnScope n__law_carry_move p__law_carry_move (defScope s__law_carry_move) := ⟨rfl, rfl, rfl, by decide +kernel, rfl, by decide +kernel, by decide +kernel⟩
def t__law_carry_move (K : PySem.W.Frag) (sp__law_split sp__law_ends sp__law_glued : Sp) : TS :=
  (tSeq (tAsg (tCall sp__law_split [] E0 (tCons (tVar 1) tNil)) (gTup K 2 (gCons (gName 4) (gCons (gName 5) gNil))))
    (tSeq (tIfS (tNot (tTest (tChain (rI0 fun i j => .bl (decide (i ≤ j))) (rI0 fun i j => .bl (decide (i ≤ j))) (tC (.int 1)) (tVar 2) (tCB (rLenS K) (tCons (tVar 5) tNil))))) (tRet (tC .non)) tNext)
    (tSeq (tAsg (tCall sp__law_ends [] E0 (tCons (tVar 0) (tCons (tOp (rIxT K) (tOp (rIxL K) (tVar 5) (tOp (rI0 fun i j => .int (i - j)) (tVar 2) (tC (.int 1)))) (tC (.int 0))) (tCons (tOp (rIxT K) (tOp (rIxL K) (tVar 5) (tOp (rI0 fun i j => .int (i - j)) (tVar 2) (tC (.int 1)))) (tC (.int 1))) tNil)))) (gName 6))
    (tSeq (tAsg (tOp (rI0 fun i j => .int (i - j)) (tOp (rIxL K) (tVar 4) (tOp (rI0 fun i j => .int (i - j)) (tVar 2) (tC (.int 1)))) (tOp (rI CMul fun i j => .int (i * j)) (tOp (rIxT K) (tVar 6) (tC (.int 2))) (tVar 3))) (gSub (tVar 4) (tOp (rI0 fun i j => .int (i - j)) (tVar 2) (tC (.int 1))) rSetL))
    (tSeq (tAsg (tOp (rI0 fun i j => .int (i + j)) (tOp (rIxL K) (tVar 4) (tVar 2)) (tOp (rI CMul fun i j => .int (i * j)) (tOp (rIxT K) (tVar 6) (tC (.int 3))) (tVar 3))) (gSub (tVar 4) (tVar 2) rSetL))
    (tRet (tCall sp__law_glued [] E0 (tCons (tOp (rIxT K) (tVar 1) (tC (.int 0))) (tCons (tVar 4) (tCons (tVar 5) tNil))))))))))
theorem der__law_carry_move {P : Program} {w : World} {K : PySem.W.Frag} {mg : Str → Option Value} {base : Heap} {f : Addr} {cdv : Value} {A : Around} {outer : List Env} {s : Shared} {H : Hp} {E : XK} {sp__law_split sp__law_ends sp__law_glued : Sp} (hz : Fre mg)
    (c__law_split : Cl P w K mg base CX0 1 "_law_split" p__law_split sp__law_split)
    (c__law_ends : Cl P w K mg base CX0 1 "_law_ends" p__law_ends sp__law_ends)
    (c__law_glued : Cl P w K mg base CX0 1 "_law_glued" p__law_glued sp__law_glued)
    (hr : Room 1 (A.deeper (envOfC "_law_carry_move" (defScope s__law_carry_move) s.heap.objs.size f cdv))) :
    PSs (cxOf CX0 P w K mg base n__law_carry_move "_law_carry_move" (defScope s__law_carry_move) f cdv A outer s H E).nox (defBody s__law_carry_move) (t__law_carry_move K sp__law_split sp__law_ends sp__law_glued) := by
  have nd := sc__law_carry_move.nd
  exact (pss_cons (ps_asg (pe_cl c__law_split hr (by decide) (by rfl) (pa_cons (pv 1) pa_nil)) (pg_tup rfl (pgs_cons (pg_name (i := 4) nd rfl (by first | exact .inl rfl | exact .inr rfl)) (pgs_cons (pg_name (i := 5) nd rfl (by first | exact .inl rfl | exact .inr rfl)) pgs_nil))))
    (pss_cons (ps_if (pt_not (pt_chain op_le op_le pe_int (pv 2) (pe_callB call_len_seq (by rfl) hz.len (by decide +kernel) (pa_cons (pv 5) pa_nil)))) (pss_one (ps_ret pe_non)) pss_nil)
    (pss_cons (ps_set (i := 6) nd rfl (by first | exact .inl rfl | exact .inr rfl) (pe_cl c__law_ends hr (by decide) (by rfl) (pa_cons (pv 0) (pa_cons (pe_ix ix_tup (pe_ix ix_list (pv 5) (pe_op op_sub (pv 2) pe_int) (fun _ _ => rfl)) pe_int (fun _ _ => rfl)) (pa_cons (pe_ix ix_tup (pe_ix ix_list (pv 5) (pe_op op_sub (pv 2) pe_int) (fun _ _ => rfl)) pe_int (fun _ _ => rfl)) pa_nil)))))
    (pss_cons (ps_asg (pe_op op_sub (pe_ix ix_list (pv 4) (pe_op op_sub (pv 2) pe_int) (fun _ _ => rfl)) (pe_op op_mul (pe_ix ix_tup (pv 6) pe_int (fun _ _ => rfl)) (pv 3))) (pg_sub (pv 4) (pe_op op_sub (pv 2) pe_int) set_list))
    (pss_cons (ps_asg (pe_op op_add (pe_ix ix_list (pv 4) (pv 2) (fun _ _ => rfl)) (pe_op op_mul (pe_ix ix_tup (pv 6) pe_int (fun _ _ => rfl)) (pv 3))) (pg_sub (pv 4) (pv 2) set_list))
    (pss_one (ps_ret (pe_cl c__law_glued hr (by decide) (by rfl) (pa_cons (pe_ix ix_tup (pv 1) pe_int (fun _ _ => rfl)) (pa_cons (pv 4) (pa_cons (pv 5) pa_nil)))))))))))
abbrev s__law_moved : Stmt := topS 54
abbrev n__law_moved : List Str := ["_law_web_here", "_law_walk_here", "_law_move", "_law_found", "_law_part"]
abbrev p__law_moved : List Str := ["_law_web_here", "_law_walk_here", "_law_move"]
theorem sc__law_moved : FnScope n__law_moved p__law_moved (defScope s__law_moved) := ⟨rfl, rfl, rfl, by decide +kernel, rfl, by decide +kernel, by decide +kernel⟩
def t__law_moved (K : PySem.W.Frag) (sp__law_whole sp__law_carry_move sp__law_strike_move sp__law_put_move sp__law_fits : Sp) : TS :=
  (tSeq (tIfS (tOr (tNot (tB (tCB (rIsi K) (tCons (tVar 2) (tCons (tC (.ty "tuple")) tNil))))) (tOr (tTest (tOp (rI0 fun i j => .bl (decide (i < j))) (tCB (rLenS K) (tCons (tVar 2) tNil)) (tC (.int 2)))) (tNot (tB (tCB (rIsi K) (tCons (tOp (rIxT K) (tVar 2) (tC (.int 0))) (tCons (tC (.ty "str")) tNil))))))) (tRet (tC .non)) tNext)
    (tSeq (tIfS (tNot (tB (tCB (rAll K) (tCons (tLc (iTup K (tSl (rSlA K) (tVar 2) (tPart (tC (.int 1))) tNoPart)) (gName 4) tYes (tCall sp__law_whole [] E0 (tCons (tVar 4) tNil)) [4]) tNil)))) (tRet (tC .non)) tNext)
    (tSeq (tAsg (tC .non) (gName 3))
    (tSeq (tIfS (tAnd (tTest (tOp (rEqD K) (tOp (rIxT K) (tVar 2) (tC (.int 0))) (tC (.str "carry")))) (tTest (tOp (rEqD K) (tCB (rLenS K) (tCons (tVar 2) tNil)) (tC (.int 3))))) (tAsg (tCall sp__law_carry_move [] E0 (tCons (tVar 0) (tCons (tVar 1) (tCons (tOp (rIxT K) (tVar 2) (tC (.int 1))) (tCons (tOp (rIxT K) (tVar 2) (tC (.int 2))) tNil))))) (gName 3)) tNext)
    (tSeq (tIfS (tAnd (tTest (tOp (rEqD K) (tOp (rIxT K) (tVar 2) (tC (.int 0))) (tC (.str "strike")))) (tTest (tOp (rEqD K) (tCB (rLenS K) (tCons (tVar 2) tNil)) (tC (.int 2))))) (tAsg (tCall sp__law_strike_move [] E0 (tCons (tVar 1) (tCons (tOp (rIxT K) (tVar 2) (tC (.int 1))) tNil))) (gName 3)) tNext)
    (tSeq (tIfS (tAnd (tTest (tOp (rEqD K) (tOp (rIxT K) (tVar 2) (tC (.int 0))) (tC (.str "put")))) (tTest (tOp (rEqD K) (tCB (rLenS K) (tCons (tVar 2) tNil)) (tC (.int 5))))) (tAsg (tCall sp__law_put_move [] E0 (tCons (tVar 0) (tCons (tVar 1) (tCons (tVar 2) tNil)))) (gName 3)) tNext)
    (tRet (tIf (tAnd (tTest (tOp rNotN0 (tVar 3) (tC .non))) (tB (tCall sp__law_fits [] E0 (tCons (tVar 3) tNil)))) (tVar 3) (tC .non)))))))))
theorem der__law_moved {P : Program} {w : World} {K : PySem.W.Frag} {mg : Str → Option Value} {base : Heap} {f : Addr} {cdv : Value} {A : Around} {outer : List Env} {s : Shared} {H : Hp} {E : XK} {sp__law_whole sp__law_carry_move sp__law_strike_move sp__law_put_move sp__law_fits : Sp} (hz : Fre mg)
    (c__law_whole : Cl P w K mg base CX0 1 "_law_whole" p__law_whole sp__law_whole)
    (c__law_carry_move : Cl P w K mg base CX0 2 "_law_carry_move" p__law_carry_move sp__law_carry_move)
    (c__law_strike_move : Cl P w K mg base CX0 2 "_law_strike_move" p__law_strike_move sp__law_strike_move)
    (c__law_put_move : Cl P w K mg base CX0 2 "_law_put_move" p__law_put_move sp__law_put_move)
    (c__law_fits : Cl P w K mg base CX0 2 "_law_fits" p__law_fits sp__law_fits)
    (hr : Room 2 (A.deeper (envOfC "_law_moved" (defScope s__law_moved) s.heap.objs.size f cdv))) :
    PSs (cxOf CX0 P w K mg base n__law_moved "_law_moved" (defScope s__law_moved) f cdv A outer s H E).nox (defBody s__law_moved) (t__law_moved K sp__law_whole sp__law_carry_move sp__law_strike_move sp__law_put_move sp__law_fits) := by
  have nd := sc__law_moved.nd
  exact (pss_cons (ps_if (PW.pt (pw_or (pt_not (pt_val (pe_callB call_isi (by rfl) hz.isinstance (by decide +kernel) (pa_cons (pv 2) (pa_cons (pe_bltn (v := .ty "tuple") (u := .type "tuple") (by rfl) hz.tuple (by decide +kernel) rfl) pa_nil))))) (pw_or (pt_cmpR op_lt (pe_callB call_len_seq (by rfl) hz.len (by decide +kernel) (pa_cons (pv 2) pa_nil)) pe_int (nomark _)) (pw_or1 (pt_not (pt_val (pe_callB call_isi (by rfl) hz.isinstance (by decide +kernel) (pa_cons (pe_ix ix_tup (pv 2) pe_int (fun _ _ => rfl)) (pa_cons (pe_bltn (v := .ty "str") (u := .type "str") (by rfl) hz.str (by decide +kernel) rfl) pa_nil))))))))) (pss_one (ps_ret pe_non)) pss_nil)
    (pss_cons (ps_if (pt_not (pt_val (pe_callB (cr_all rfl) (by rfl) hz.all (by decide +kernel) (pa_cons (pe_lc (own := [("_law_part", 4)]) rfl nd (pi_tup (pe_slice sl_tupA (pv 2) (po_some pe_int) po_none)) (blkOk_by (own := [("_law_part", 4)]) (N := n__law_moved) (sc := defScope s__law_moved) (by decide +kernel)) (fun _ _ _ _ _ => (pg_name (i := 4) nd rfl (by first | exact .inl rfl | exact .inr rfl))) (fun _ _ _ _ _ => pts_nil) (fun _ _ _ _ _ => (pe_cl c__law_whole hr (by decide) (by rfl) (pa_cons (pv 4) pa_nil)))) pa_nil)))) (pss_one (ps_ret pe_non)) pss_nil)
    (pss_cons (ps_set (i := 3) nd rfl (by first | exact .inl rfl | exact .inr rfl) pe_non)
    (pss_cons (ps_if (PW.pt (pw_and (pt_cmpR (op_eqD hr.units) (pe_ix ix_tup (pv 2) pe_int (fun _ _ => rfl)) pe_str (nomark _)) (pw_and1 (pt_cmpR (op_eqD hr.units) (pe_callB call_len_seq (by rfl) hz.len (by decide +kernel) (pa_cons (pv 2) pa_nil)) pe_int (nomark _))))) (pss_one (ps_set (i := 3) nd rfl (by first | exact .inl rfl | exact .inr rfl) (pe_cl c__law_carry_move hr (by decide) (by rfl) (pa_cons (pv 0) (pa_cons (pv 1) (pa_cons (pe_ix ix_tup (pv 2) pe_int (fun _ _ => rfl)) (pa_cons (pe_ix ix_tup (pv 2) pe_int (fun _ _ => rfl)) pa_nil))))))) pss_nil)
    (pss_cons (ps_if (PW.pt (pw_and (pt_cmpR (op_eqD hr.units) (pe_ix ix_tup (pv 2) pe_int (fun _ _ => rfl)) pe_str (nomark _)) (pw_and1 (pt_cmpR (op_eqD hr.units) (pe_callB call_len_seq (by rfl) hz.len (by decide +kernel) (pa_cons (pv 2) pa_nil)) pe_int (nomark _))))) (pss_one (ps_set (i := 3) nd rfl (by first | exact .inl rfl | exact .inr rfl) (pe_cl c__law_strike_move hr (by decide) (by rfl) (pa_cons (pv 1) (pa_cons (pe_ix ix_tup (pv 2) pe_int (fun _ _ => rfl)) pa_nil))))) pss_nil)
    (pss_cons (ps_if (PW.pt (pw_and (pt_cmpR (op_eqD hr.units) (pe_ix ix_tup (pv 2) pe_int (fun _ _ => rfl)) pe_str (nomark _)) (pw_and1 (pt_cmpR (op_eqD hr.units) (pe_callB call_len_seq (by rfl) hz.len (by decide +kernel) (pa_cons (pv 2) pa_nil)) pe_int (nomark _))))) (pss_one (ps_set (i := 3) nd rfl (by first | exact .inl rfl | exact .inr rfl) (pe_cl c__law_put_move hr (by decide) (by rfl) (pa_cons (pv 0) (pa_cons (pv 1) (pa_cons (pv 2) pa_nil)))))) pss_nil)
    (pss_one (ps_ret (pe_ifExp (PW.pt (pw_and (pt_cmpR op_notN (pv 3) pe_non (nomark _)) (pw_and1 (pt_val (pe_cl c__law_fits hr (by decide) (by rfl) (pa_cons (pv 3) pa_nil)))))) (pv 3) pe_non)))))))))
abbrev s__law_led : Stmt := topS 55
abbrev n__law_led : List Str := ["_law_web_here", "_law_walk_here", "_law_moves", "_law_move"]
abbrev p__law_led : List Str := ["_law_web_here", "_law_walk_here", "_law_moves"]
theorem sc__law_led : FnScope n__law_led p__law_led (defScope s__law_led) := ⟨rfl, rfl, rfl, by decide +kernel, rfl, by decide +kernel, by decide +kernel⟩
def t__law_led (K : PySem.W.Frag) (sp__law_moved : Sp) : TS :=
  (tSeq (tIfS (tOr (tNot (tB (tCB (rIsi K) (tCons (tVar 2) (tCons (tC (.ty "tuple")) tNil))))) (tTest (tOp (rI0 fun i j => .bl (decide (j < i))) (tCB (rLenS K) (tCons (tVar 2) tNil)) (tC (.int 2000))))) (tRet (tC .non)) tNext)
    (tSeq (tFor (iTup K (tVar 2)) (gName 3) (tAsg (tIf (tTest (tOp rNotN0 (tVar 1) (tC .non))) (tCall sp__law_moved [] E0 (tCons (tVar 0) (tCons (tVar 1) (tCons (tVar 3) tNil)))) (tC .non)) (gName 1)))
    (tRet (tVar 1))))
theorem der__law_led {P : Program} {w : World} {K : PySem.W.Frag} {mg : Str → Option Value} {base : Heap} {f : Addr} {cdv : Value} {A : Around} {outer : List Env} {s : Shared} {H : Hp} {E : XK} {sp__law_moved : Sp} (hz : Fre mg)
    (c__law_moved : Cl P w K mg base CX0 3 "_law_moved" p__law_moved sp__law_moved)
    (hr : Room 3 (A.deeper (envOfC "_law_led" (defScope s__law_led) s.heap.objs.size f cdv))) :
    PSs (cxOf CX0 P w K mg base n__law_led "_law_led" (defScope s__law_led) f cdv A outer s H E).nox (defBody s__law_led) (t__law_led K sp__law_moved) := by
  have nd := sc__law_led.nd
  exact (pss_cons (ps_if (PW.pt (pw_or (pt_not (pt_val (pe_callB call_isi (by rfl) hz.isinstance (by decide +kernel) (pa_cons (pv 2) (pa_cons (pe_bltn (v := .ty "tuple") (u := .type "tuple") (by rfl) hz.tuple (by decide +kernel) rfl) pa_nil))))) (pw_or1 (pt_cmpR op_gt (pe_callB call_len_seq (by rfl) hz.len (by decide +kernel) (pa_cons (pv 2) pa_nil)) pe_int (nomark _))))) (pss_one (ps_ret pe_non)) pss_nil)
    (pss_cons (ps_for PassesOwn.never rfl (pi_tup (pv 2)) (pg_name (i := 3) nd rfl (by first | exact .inl rfl | exact .inr rfl)) (pss_one (ps_set (i := 1) nd rfl (by first | exact .inl rfl | exact .inr rfl) (pe_ifExp (pt_cmpR op_notN (pv 1) pe_non (nomark _)) (pe_cl c__law_moved hr (by decide) (by rfl) (pa_cons (pv 0) (pa_cons (pv 1) (pa_cons (pv 3) pa_nil)))) pe_non))))
    (pss_one (ps_ret (pv 1)))))
abbrev s__law_great_web : Stmt := topS 56
abbrev n__law_great_web : List Str := ["_law_m", "_law_rooms"]
abbrev p__law_great_web : List Str := ["_law_m"]
theorem sc__law_great_web : FnScope n__law_great_web p__law_great_web (defScope s__law_great_web) := ⟨rfl, rfl, rfl, by decide +kernel, rfl, by decide +kernel, by decide +kernel⟩
def t__law_great_web (K : PySem.W.Frag) (sp__law_draw sp__law_web sp__law_of : Sp) : TS :=
  (tSeq (tAsg (tOp (rI0 fun i j => .int (i + j)) (tC (.int 1)) (tCall sp__law_draw [] E0 (tCons (tVar 0) (tCons (tC (.int 3)) tNil)))) (gName 1))
    (tRet (tCall sp__law_web [] E0 (tCons (tVar 0) (tCons (tVar 1) (tCons (tOp (rI0 fun i j => .int (i + j)) (tOp (rI0 fun i j => .int (i - j)) (tVar 1) (tC (.int 1))) (tCall sp__law_draw [] E0 (tCons (tVar 0) (tCons (tC (.int 3)) tNil)))) (tCons (tCall sp__law_of [] E0 (tCons (tVar 0) (tCons (tLst (tCons (tC (.int 3)) (tCons (tC (.int 4)) (tCons (tC (.int 9)) (tCons (tC (.int 9)) (tCons (tC (.int 1000)) tNil)))))) tNil))) tNil)))))))
theorem der__law_great_web {P : Program} {w : World} {K : PySem.W.Frag} {mg : Str → Option Value} {base : Heap} {f : Addr} {cdv : Value} {A : Around} {outer : List Env} {s : Shared} {H : Hp} {E : XK} {sp__law_draw sp__law_web sp__law_of : Sp} (hz : Fre mg)
    (c__law_draw : Cl P w K mg base CX0 1 "_law_draw" p__law_draw sp__law_draw)
    (c__law_web : Cl P w K mg base CX0 3 "_law_web" p__law_web sp__law_web)
    (c__law_of : Cl P w K mg base CX0 2 "_law_of" p__law_of sp__law_of)
    (hr : Room 3 (A.deeper (envOfC "_law_great_web" (defScope s__law_great_web) s.heap.objs.size f cdv))) :
    PSs (cxOf CX0 P w K mg base n__law_great_web "_law_great_web" (defScope s__law_great_web) f cdv A outer s H E).nox (defBody s__law_great_web) (t__law_great_web K sp__law_draw sp__law_web sp__law_of) := by
  have nd := sc__law_great_web.nd
  exact (pss_cons (ps_set (i := 1) nd rfl (by first | exact .inl rfl | exact .inr rfl) (pe_op op_add pe_int (pe_cl c__law_draw hr (by decide) (by rfl) (pa_cons (pv 0) (pa_cons pe_int pa_nil)))))
    (pss_one (ps_ret (pe_cl c__law_web hr (by decide) (by rfl) (pa_cons (pv 0) (pa_cons (pv 1) (pa_cons (pe_op op_add (pe_op op_sub (pv 1) pe_int) (pe_cl c__law_draw hr (by decide) (by rfl) (pa_cons (pv 0) (pa_cons pe_int pa_nil)))) (pa_cons (pe_cl c__law_of hr (by decide) (by rfl) (pa_cons (pv 0) (pa_cons (pe_lst (pa_cons pe_int (pa_cons pe_int (pa_cons pe_int (pa_cons pe_int (pa_cons pe_int pa_nil)))))) pa_nil))) pa_nil))))))))
abbrev s__law_some_walk : Stmt := topS 57
abbrev n__law_some_walk : List Str := ["_law_m", "_law_web_here", "_law_steps", "_law_walk_here"]
abbrev p__law_some_walk : List Str := ["_law_m", "_law_web_here", "_law_steps"]
theorem sc__law_some_walk : FnScope n__law_some_walk p__law_some_walk (defScope s__law_some_walk) := ⟨rfl, rfl, rfl, by decide +kernel, rfl, by decide +kernel, by decide +kernel⟩
def t__law_some_walk (K : PySem.W.Frag) (sp__law_walk sp__law_of sp__law_draw sp__law_spelled : Sp) : TS :=
  (tSeq (tAsg (tCall sp__law_walk [] E0 (tCons (tVar 0) (tCons (tVar 1) (tCons (tCall sp__law_draw [] E0 (tCons (tVar 0) (tCons (tOp (rIxT K) (tVar 1) (tC (.int 0))) tNil))) (tCons (tCall sp__law_draw [] E0 (tCons (tVar 0) (tCons (tOp (rI0 fun i j => .int (i + j)) (tVar 2) (tC (.int 1))) tNil))) (tCons (tCall sp__law_of [] E0 (tCons (tVar 0) (tCons (tLst (tCons (tC (.int 9)) (tCons (tC (.int 60)) (tCons (tOp (rI CPowB fun i j => .int (i ^ j.toNat)) (tC (.int 10)) (tC (.int 12))) tNil)))) tNil))) tNil)))))) (gName 3))
    (tRet (tCall sp__law_spelled [] E0 (tCons (tVar 0) (tCons (tVar 1) (tCons (tVar 3) (tCons (tCall sp__law_draw [] E0 (tCons (tVar 0) (tCons (tC (.int 5)) tNil))) tNil)))))))
theorem der__law_some_walk {P : Program} {w : World} {K : PySem.W.Frag} {mg : Str → Option Value} {base : Heap} {f : Addr} {cdv : Value} {A : Around} {outer : List Env} {s : Shared} {H : Hp} {E : XK} {sp__law_walk sp__law_of sp__law_draw sp__law_spelled : Sp} (hz : Fre mg)
    (c__law_walk : Cl P w K mg base CX0 4 "_law_walk" p__law_walk sp__law_walk)
    (c__law_of : Cl P w K mg base CX0 2 "_law_of" p__law_of sp__law_of)
    (c__law_draw : Cl P w K mg base CX0 1 "_law_draw" p__law_draw sp__law_draw)
    (c__law_spelled : Cl P w K mg base CX0 3 "_law_spelled" p__law_spelled sp__law_spelled)
    (hr : Room 4 (A.deeper (envOfC "_law_some_walk" (defScope s__law_some_walk) s.heap.objs.size f cdv))) :
    PSs (cxOf CX0 P w K mg base n__law_some_walk "_law_some_walk" (defScope s__law_some_walk) f cdv A outer s H E).nox (defBody s__law_some_walk) (t__law_some_walk K sp__law_walk sp__law_of sp__law_draw sp__law_spelled) := by
  have nd := sc__law_some_walk.nd
  exact (pss_cons (ps_set (i := 3) nd rfl (by first | exact .inl rfl | exact .inr rfl) (pe_cl c__law_walk hr (by decide) (by rfl) (pa_cons (pv 0) (pa_cons (pv 1) (pa_cons (pe_cl c__law_draw hr (by decide) (by rfl) (pa_cons (pv 0) (pa_cons (pe_ix ix_tup (pv 1) pe_int (fun _ _ => rfl)) pa_nil))) (pa_cons (pe_cl c__law_draw hr (by decide) (by rfl) (pa_cons (pv 0) (pa_cons (pe_op op_add (pv 2) pe_int) pa_nil))) (pa_cons (pe_cl c__law_of hr (by decide) (by rfl) (pa_cons (pv 0) (pa_cons (pe_lst (pa_cons pe_int (pa_cons pe_int (pa_cons (pe_op op_powB pe_int pe_int) pa_nil)))) pa_nil))) pa_nil)))))))
    (pss_one (ps_ret (pe_cl c__law_spelled hr (by decide) (by rfl) (pa_cons (pv 0) (pa_cons (pv 1) (pa_cons (pv 3) (pa_cons (pe_cl c__law_draw hr (by decide) (by rfl) (pa_cons (pv 0) (pa_cons pe_int pa_nil))) pa_nil))))))))
abbrev s__law_is_plain : Stmt := topS 58
abbrev n__law_is_plain : List Str := ["_law_web_here", "_law_walk_here", "_law_turns_here", "_law_crossings", "_law_k", "_law_ends_here"]
abbrev p__law_is_plain : List Str := ["_law_web_here", "_law_walk_here"]
theorem sc__law_is_plain : FnScope n__law_is_plain p__law_is_plain (defScope s__law_is_plain) := ⟨rfl, rfl, rfl, by decide +kernel, rfl, by decide +kernel, by decide +kernel⟩
def t__law_is_plain (K : PySem.W.Frag) (sp__law_split sp__law_ends : Sp) : TS :=
  (tSeq (tAsg (tCall sp__law_split [] E0 (tCons (tVar 1) tNil)) (gTup K 2 (gCons (gName 2) (gCons (gName 3) gNil))))
    (tSeq (tFor (iRng1 (tCons (tCB (rLenS K) (tCons (tVar 3) tNil)) tNil)) (gName 4) (tSeq (tAsg (tCall sp__law_ends [] E0 (tCons (tVar 0) (tCons (tOp (rIxT K) (tOp (rIxL K) (tVar 3) (tVar 4)) (tC (.int 0))) (tCons (tOp (rIxT K) (tOp (rIxL K) (tVar 3) (tVar 4)) (tC (.int 1))) tNil)))) (gName 5))
    (tSeq (tIfS (tNot (tTest (tChain (rI0 fun i j => .bl (decide (i ≤ j))) (rI0 fun i j => .bl (decide (i < j))) (tC (.int 0)) (tOp (rIxL K) (tVar 2) (tVar 4)) (tCB rAbs (tCons (tOp (rIxT K) (tVar 5) (tC (.int 2))) tNil))))) (tRet (tC (.bl false))) tNext)
    (tIfS (tAnd (tTest (tOp (rI0 fun i j => .bl (decide (j < i))) (tVar 4) (tC (.int 0)))) (tAnd (tTest (tOp (rEqD K) (tOp (rIxL K) (tVar 2) (tVar 4)) (tC (.int 0)))) (tTest (tOp (rEqD K) (tOp (rIxL K) (tVar 3) (tVar 4)) (tTup (tCons (tOp (rIxT K) (tOp (rIxL K) (tVar 3) (tOp (rI0 fun i j => .int (i - j)) (tVar 4) (tC (.int 1)))) (tC (.int 0))) (tCons (tUn (rU fun i => .int (-i)) (tOp (rIxT K) (tOp (rIxL K) (tVar 3) (tOp (rI0 fun i j => .int (i - j)) (tVar 4) (tC (.int 1)))) (tC (.int 1)))) tNil))))))) (tRet (tC (.bl false))) tNext))))
    (tRet (tC (.bl true)))))
theorem der__law_is_plain {P : Program} {w : World} {K : PySem.W.Frag} {mg : Str → Option Value} {base : Heap} {f : Addr} {cdv : Value} {A : Around} {outer : List Env} {s : Shared} {H : Hp} {E : XK} {sp__law_split sp__law_ends : Sp} (hz : Fre mg)
    (c__law_split : Cl P w K mg base CX0 1 "_law_split" p__law_split sp__law_split)
    (c__law_ends : Cl P w K mg base CX0 1 "_law_ends" p__law_ends sp__law_ends)
    (hr : Room 1 (A.deeper (envOfC "_law_is_plain" (defScope s__law_is_plain) s.heap.objs.size f cdv))) :
    PSs (cxOf CX0 P w K mg base n__law_is_plain "_law_is_plain" (defScope s__law_is_plain) f cdv A outer s H E).nox (defBody s__law_is_plain) (t__law_is_plain K sp__law_split sp__law_ends) := by
  have nd := sc__law_is_plain.nd
  exact (pss_cons (ps_asg (pe_cl c__law_split hr (by decide) (by rfl) (pa_cons (pv 1) pa_nil)) (pg_tup rfl (pgs_cons (pg_name (i := 2) nd rfl (by first | exact .inl rfl | exact .inr rfl)) (pgs_cons (pg_name (i := 3) nd rfl (by first | exact .inl rfl | exact .inr rfl)) pgs_nil))))
    (pss_cons (ps_for PassesOwn.never rfl (pi_range1 (by rfl) hz.range (pa_cons (pe_callB call_len_seq (by rfl) hz.len (by decide +kernel) (pa_cons (pv 3) pa_nil)) pa_nil)) (pg_name (i := 4) nd rfl (by first | exact .inl rfl | exact .inr rfl)) (pss_cons (ps_set (i := 5) nd rfl (by first | exact .inl rfl | exact .inr rfl) (pe_cl c__law_ends hr (by decide) (by rfl) (pa_cons (pv 0) (pa_cons (pe_ix ix_tup (pe_ix ix_list (pv 3) (pv 4) (fun _ _ => rfl)) pe_int (fun _ _ => rfl)) (pa_cons (pe_ix ix_tup (pe_ix ix_list (pv 3) (pv 4) (fun _ _ => rfl)) pe_int (fun _ _ => rfl)) pa_nil)))))
    (pss_cons (ps_if (pt_not (pt_chain op_le op_lt pe_int (pe_ix ix_list (pv 2) (pv 4) (fun _ _ => rfl)) (pe_callB call_abs (by rfl) hz.abs (by decide +kernel) (pa_cons (pe_ix ix_tup (pv 5) pe_int (fun _ _ => rfl)) pa_nil)))) (pss_one (ps_ret pe_bl)) pss_nil)
    (pss_one (ps_if (PW.pt (pw_and (pt_cmpR op_gt (pv 4) pe_int (nomark _)) (pw_and (pt_cmpR (op_eqD hr.units) (pe_ix ix_list (pv 2) (pv 4) (fun _ _ => rfl)) pe_int (nomark _)) (pw_and1 (pt_cmpR (op_eqD hr.units) (pe_ix ix_list (pv 3) (pv 4) (fun _ _ => rfl)) (pe_tup (pa_cons (pe_ix ix_tup (pe_ix ix_list (pv 3) (pe_op op_sub (pv 4) pe_int) (fun _ _ => rfl)) pe_int (fun _ _ => rfl)) (pa_cons (pe_un un_neg (pe_ix ix_tup (pe_ix ix_list (pv 3) (pe_op op_sub (pv 4) pe_int) (fun _ _ => rfl)) pe_int (fun _ _ => rfl))) pa_nil))) (nomark _)))))) (pss_one (ps_ret pe_bl)) pss_nil)))))
    (pss_one (ps_ret pe_bl))))
abbrev s__law_told : Stmt := topS 59
abbrev n__law_told : List Str := ["_law_web_here", "_law_one", "_law_two", "_law_found", "e"]
abbrev p__law_told : List Str := ["_law_web_here", "_law_one", "_law_two"]
theorem sc__law_told : FnScope n__law_told p__law_told (defScope s__law_told) := ⟨rfl, rfl, rfl, by decide +kernel, rfl, by decide +kernel, by decide +kernel⟩
def t__law_told (K : PySem.W.Frag) (sp_equality_paper : Sp) (C_TooGreat : Addr) : TS :=
  (tSeq (tTryA K C_TooGreat 4 (fun W => (tAsg (tCallS sp_equality_paper (WE W) (tCons (tVar 0) (tCons (tVar 1) (tCons (tVar 2) tNil)))) (gName 3))) (fun a cls d => (tAsg (tXf a cls d C_TooGreat "what" (tVar 4)) (gName 3))))
    (tRet (tVar 3)))
theorem der__law_told {P : Program} {w : World} {K : PySem.W.Frag} {mg : Str → Option Value} {base : Heap} {f : Addr} {cdv : Value} {A : Around} {outer : List Env} {s : Shared} {H : Hp} {E : XK} {sp_equality_paper : Sp} {C_TooGreat : Addr} (hz : Fre mg)
    (c_equality_paper : Cl P w K mg base (L2.CX P w) 7 "equality_paper" p_equality_paper sp_equality_paper)
    (x_TooGreat : Xc P w K mg base "TooGreat" "what" C_TooGreat)
    (f_TooGreat : XfC K C_TooGreat)
    (hr : Room 7 (A.deeper (envOfC "_law_told" (defScope s__law_told) s.heap.objs.size f cdv))) :
    PSs (cxOf CX0 P w K mg base n__law_told "_law_told" (defScope s__law_told) f cdv A outer s H E).nox (defBody s__law_told) (t__law_told K sp_equality_paper C_TooGreat) := by
  have nd := sc__law_told.nd
  exact (pss_cons (ps_try_as (i := 4) (tb := fun W => (tAsg (tCallS sp_equality_paper (WE W) (tCons (tVar 0) (tCons (tVar 1) (tCons (tVar 2) tNil)))) (gName 3))) (ts := fun a cls d => (tAsg (tXf a cls d C_TooGreat "what" (tVar 4)) (gName 3))) (Wout := fun _ _ _ _ => False) rfl rfl nd rfl rfl ⟨rfl, by decide, .inl x_TooGreat.gC⟩ L2.takes0 (fun W pn xe tk _ => (pss_one (ps_set (i := 3) nd rfl (by first | exact .inl rfl | exact .inr rfl) (pe_clS c_equality_paper hr (by decide) (by rfl) (fun σ => passAt tk σ) (pa_cons (pv 0) (pa_cons (pv 1) (pa_cons (pv 2) pa_nil))))))) (fun a oe cls d pn hzc hf => (pss_one (ps_set (i := 3) nd rfl (by first | exact .inl rfl | exact .inr rfl) (pe_xf f_TooGreat x_TooGreat.no hzc hf (pv 4))))))
    (pss_one (ps_ret (pv 3))))
abbrev s__law_right : Stmt := topS 60
abbrev n__law_right : List Str := ["_law_web_here", "_law_one", "_law_two", "_law_paper", "_law_first", "_law_second"]
abbrev p__law_right : List Str := ["_law_web_here", "_law_one", "_law_two", "_law_paper"]
theorem sc__law_right : FnScope n__law_right p__law_right (defScope s__law_right) := ⟨rfl, rfl, rfl, by decide +kernel, rfl, by decide +kernel, by decide +kernel⟩
def t__law_right (K : PySem.W.Frag) (sp__law_led sp__law_is_plain : Sp) : TS :=
  (tSeq (tIfS (tOr (tNot (tB (tCB (rIsi K) (tCons (tVar 3) (tCons (tC (.ty "tuple")) tNil))))) (tTest (tOp (rEqD K) (tCB (rLenS K) (tCons (tVar 3) tNil)) (tC (.int 0))))) (tRet (tC (.bl false))) tNext)
    (tSeq (tIfS (tAnd (tTest (tOp (rEqD K) (tOp (rIxT K) (tVar 3) (tC (.int 0))) (tC (.str "equal")))) (tTest (tOp (rEqD K) (tCB (rLenS K) (tCons (tVar 3) tNil)) (tC (.int 2))))) (tRet (tOp (rEqD K) (tCall sp__law_led [] E0 (tCons (tVar 0) (tCons (tVar 1) (tCons (tOp (rIxT K) (tVar 3) (tC (.int 1))) tNil)))) (tVar 2))) tNext)
    (tSeq (tIfS (tOr (tTest (tOp (rNeD K) (tOp (rIxT K) (tVar 3) (tC (.int 0))) (tC (.str "unlike")))) (tTest (tOp (rNeD K) (tCB (rLenS K) (tCons (tVar 3) tNil)) (tC (.int 3))))) (tRet (tC (.bl false))) tNext)
    (tSeq (tPar 4 5 (tCons (tCall sp__law_led [] E0 (tCons (tVar 0) (tCons (tVar 1) (tCons (tOp (rIxT K) (tVar 3) (tC (.int 1))) tNil)))) (tCons (tCall sp__law_led [] E0 (tCons (tVar 0) (tCons (tVar 2) (tCons (tOp (rIxT K) (tVar 3) (tC (.int 2))) tNil)))) tNil)))
    (tSeq (tIfS (tOr (tTest (tOp rIsN0 (tVar 4) (tC .non))) (tOr (tTest (tOp rIsN0 (tVar 5) (tC .non))) (tTest (tOp (rEqD K) (tVar 4) (tVar 5))))) (tRet (tC (.bl false))) tNext)
    (tRet (tAndV (tCall sp__law_is_plain [] E0 (tCons (tVar 0) (tCons (tVar 4) tNil))) (tCall sp__law_is_plain [] E0 (tCons (tVar 0) (tCons (tVar 5) tNil))))))))))
theorem der__law_right {P : Program} {w : World} {K : PySem.W.Frag} {mg : Str → Option Value} {base : Heap} {f : Addr} {cdv : Value} {A : Around} {outer : List Env} {s : Shared} {H : Hp} {E : XK} {sp__law_led sp__law_is_plain : Sp} (hz : Fre mg)
    (c__law_led : Cl P w K mg base CX0 4 "_law_led" p__law_led sp__law_led)
    (c__law_is_plain : Cl P w K mg base CX0 2 "_law_is_plain" p__law_is_plain sp__law_is_plain)
    (hr : Room 4 (A.deeper (envOfC "_law_right" (defScope s__law_right) s.heap.objs.size f cdv))) :
    PSs (cxOf CX0 P w K mg base n__law_right "_law_right" (defScope s__law_right) f cdv A outer s H E).nox (defBody s__law_right) (t__law_right K sp__law_led sp__law_is_plain) := by
  have nd := sc__law_right.nd
  exact (pss_cons (ps_if (PW.pt (pw_or (pt_not (pt_val (pe_callB call_isi (by rfl) hz.isinstance (by decide +kernel) (pa_cons (pv 3) (pa_cons (pe_bltn (v := .ty "tuple") (u := .type "tuple") (by rfl) hz.tuple (by decide +kernel) rfl) pa_nil))))) (pw_or1 (pt_cmpR (op_eqD hr.units) (pe_callB call_len_seq (by rfl) hz.len (by decide +kernel) (pa_cons (pv 3) pa_nil)) pe_int (nomark _))))) (pss_one (ps_ret pe_bl)) pss_nil)
    (pss_cons (ps_if (PW.pt (pw_and (pt_cmpR (op_eqD hr.units) (pe_ix ix_tup (pv 3) pe_int (fun _ _ => rfl)) pe_str (nomark _)) (pw_and1 (pt_cmpR (op_eqD hr.units) (pe_callB call_len_seq (by rfl) hz.len (by decide +kernel) (pa_cons (pv 3) pa_nil)) pe_int (nomark _))))) (pss_one (ps_ret (pe_cmpR (op_eqD hr.units) (pe_cl c__law_led hr (by decide) (by rfl) (pa_cons (pv 0) (pa_cons (pv 1) (pa_cons (pe_ix ix_tup (pv 3) pe_int (fun _ _ => rfl)) pa_nil)))) (pv 2) (nomark _)))) pss_nil)
    (pss_cons (ps_if (PW.pt (pw_or (pt_cmpR (op_neD hr.units) (pe_ix ix_tup (pv 3) pe_int (fun _ _ => rfl)) pe_str (nomark _)) (pw_or1 (pt_cmpR (op_neD hr.units) (pe_callB call_len_seq (by rfl) hz.len (by decide +kernel) (pa_cons (pv 3) pa_nil)) pe_int (nomark _))))) (pss_one (ps_ret pe_bl)) pss_nil)
    (pss_cons (ps_par (i := 4) (j := 5) rfl nd rfl rfl (by decide) rfl rfl (pa_cons (pe_cl c__law_led hr (by decide) (by rfl) (pa_cons (pv 0) (pa_cons (pv 1) (pa_cons (pe_ix ix_tup (pv 3) pe_int (fun _ _ => rfl)) pa_nil)))) (pa_cons (pe_cl c__law_led hr (by decide) (by rfl) (pa_cons (pv 0) (pa_cons (pv 2) (pa_cons (pe_ix ix_tup (pv 3) pe_int (fun _ _ => rfl)) pa_nil)))) pa_nil)) (by rfl))
    (pss_cons (ps_if (PW.pt (pw_or (pt_cmpR op_isN (pv 4) pe_non (nomark _)) (pw_or (pt_cmpR op_isN (pv 5) pe_non (nomark _)) (pw_or1 (pt_cmpR (op_eqD hr.units) (pv 4) (pv 5) (nomark _)))))) (pss_one (ps_ret pe_bl)) pss_nil)
    (pss_one (ps_ret (pe_and (pe_cl c__law_is_plain hr (by decide) (by rfl) (pa_cons (pv 0) (pa_cons (pv 4) pa_nil))) (pe_one (pe_cl c__law_is_plain hr (by decide) (by rfl) (pa_cons (pv 0) (pa_cons (pv 5) pa_nil))))))))))))
abbrev s__law_due_moves : Stmt := topS 61
abbrev n__law_due_moves : List Str := ["_law_web_here", "_law_walk_here", "_law_kept", "_law_number", "_law_found", "_law_tie", "_law_side", "_law_turns_here", "_law_ends_here", "_law_rest", "_law_many"]
abbrev p__law_due_moves : List Str := ["_law_web_here", "_law_walk_here"]
theorem sc__law_due_moves : FnScope n__law_due_moves p__law_due_moves (defScope s__law_due_moves) := ⟨rfl, rfl, rfl, by decide +kernel, rfl, by decide +kernel, by decide +kernel⟩
def t__law_due_moves (K : PySem.W.Frag) (sp__law_ends : Sp) : TS :=
  (tSeq (tPar3 2 3 4 (tCons (tLst tNil) (tCons (tOp (rIxT K) (tVar 1) (tC (.int 1))) (tCons (tLst tNil) tNil))))
    (tSeq (tFor (iTup K (tOp (rIxT K) (tVar 1) (tC (.int 2)))) (gTup K 3 (gCons (gName 5) (gCons (gName 6) (gCons (gName 7) gNil)))) (tSeq (tAsg (tCall sp__law_ends [] E0 (tCons (tVar 0) (tCons (tVar 5) (tCons (tVar 6) tNil)))) (gName 8))
    (tSeq (tAsg (tOp (rI (fun _ j => 0 < j) fun i j => .int (i % j)) (tCB rToInt (tCons (tVar 3) tNil)) (tCB rAbs (tCons (tOp (rIxT K) (tVar 8) (tC (.int 2))) tNil))) (gName 9))
    (tSeq (tAsg (tOp (rI CDivN fun i j => .int (i.fdiv j)) (tOp (rI0 fun i j => .int (i - j)) (tVar 3) (tVar 9)) (tOp (rIxT K) (tVar 8) (tC (.int 2)))) (gName 10))
    (tSeq (tIfS (tTest (tOp (rNeD K) (tVar 10) (tC (.int 0)))) (tDrop (tBM K "list" rAppend (tVar 4) (tCons (tTup (tCons (tC (.str "carry")) (tCons (tOp (rI0 fun i j => .int (i + j)) (tCB (rLenS K) (tCons (tVar 2) tNil)) (tC (.int 1))) (tCons (tVar 10) tNil)))) tNil))) tNext)
    (tIfS (tAnd (tTest (tOp (rEqD K) (tVar 9) (tC (.int 0)))) (tAnd (tTest (tOp (rNeD K) (tVar 2) (tLst tNil))) (tTest (tOp (rEqD K) (tSl (rSlA K) (tOp (rIxL K) (tVar 2) (tUn (rU fun i => .int (-i)) (tC (.int 1)))) (tPart (tC (.int 1))) tNoPart) (tTup (tCons (tVar 5) (tCons (tUn (rU fun i => .int (-i)) (tVar 6)) tNil))))))) (tSeq (tDrop (tBM K "list" rAppend (tVar 4) (tCons (tTup (tCons (tC (.str "strike")) (tCons (tCB (rLenS K) (tCons (tVar 2) tNil)) tNil))) tNil)))
    (tAsg (tOp (rI0 fun i j => .int (i + j)) (tOp (rI0 fun i j => .int (i + j)) (tOp (rIxT K) (tBM0 K "list" rPop (tVar 2)) (tC (.int 0))) (tOp (rI CMul fun i j => .int (i * j)) (tOp (rIxT K) (tVar 8) (tC (.int 3))) (tVar 10))) (tVar 7)) (gName 3))) (tSeq (tDrop (tBM K "list" rAppend (tVar 2) (tCons (tTup (tCons (tVar 9) (tCons (tVar 5) (tCons (tVar 6) tNil)))) tNil)))
    (tAsg (tOp (rI0 fun i j => .int (i + j)) (tOp (rI CMul fun i j => .int (i * j)) (tOp (rIxT K) (tVar 8) (tC (.int 3))) (tVar 10)) (tVar 7)) (gName 3)))))))))
    (tRet (tCB (rTupOf K) (tCons (tVar 4) tNil)))))
theorem der__law_due_moves {P : Program} {w : World} {K : PySem.W.Frag} {mg : Str → Option Value} {base : Heap} {f : Addr} {cdv : Value} {A : Around} {outer : List Env} {s : Shared} {H : Hp} {E : XK} {sp__law_ends : Sp} (hz : Fre mg)
    (c__law_ends : Cl P w K mg base CX0 1 "_law_ends" p__law_ends sp__law_ends)
    (hr : Room 1 (A.deeper (envOfC "_law_due_moves" (defScope s__law_due_moves) s.heap.objs.size f cdv))) :
    PSs (cxOf CX0 P w K mg base n__law_due_moves "_law_due_moves" (defScope s__law_due_moves) f cdv A outer s H E).nox (defBody s__law_due_moves) (t__law_due_moves K sp__law_ends) := by
  have nd := sc__law_due_moves.nd
  exact (pss_cons (ps_par3 (i := 2) (j := 3) (l := 4) rfl nd rfl rfl rfl (by decide) (by decide) (by decide) rfl rfl rfl (pa_cons (pe_lst pa_nil) (pa_cons (pe_ix ix_tup (pv 1) pe_int (fun _ _ => rfl)) (pa_cons (pe_lst pa_nil) pa_nil))) (by rfl))
    (pss_cons (ps_for PassesOwn.never rfl (pi_tup (pe_ix ix_tup (pv 1) pe_int (fun _ _ => rfl))) (pg_tup rfl (pgs_cons (pg_name (i := 5) nd rfl (by first | exact .inl rfl | exact .inr rfl)) (pgs_cons (pg_name (i := 6) nd rfl (by first | exact .inl rfl | exact .inr rfl)) (pgs_cons (pg_name (i := 7) nd rfl (by first | exact .inl rfl | exact .inr rfl)) pgs_nil)))) (pss_cons (ps_set (i := 8) nd rfl (by first | exact .inl rfl | exact .inr rfl) (pe_cl c__law_ends hr (by decide) (by rfl) (pa_cons (pv 0) (pa_cons (pv 5) (pa_cons (pv 6) pa_nil)))))
    (pss_cons (ps_set (i := 9) nd rfl (by first | exact .inl rfl | exact .inr rfl) (pe_op op_mod (pe_callTy call_int1 (by rfl) hz.int (by decide +kernel) (pa_cons (pv 3) pa_nil)) (pe_callB call_abs (by rfl) hz.abs (by decide +kernel) (pa_cons (pe_ix ix_tup (pv 8) pe_int (fun _ _ => rfl)) pa_nil))))
    (pss_cons (ps_set (i := 10) nd rfl (by first | exact .inl rfl | exact .inr rfl) (pe_op op_fdivN (pe_op op_sub (pv 3) (pv 9)) (pe_ix ix_tup (pv 8) pe_int (fun _ _ => rfl))))
    (pss_cons (ps_if (pt_cmpR (op_neD hr.units) (pv 10) pe_int (nomark _)) (pss_one (ps_expr (pe_bm PySem.F.plainAttrs_list PySem.F.slot_list_append PySem.F.type_list_append mt_append (pv 4) (pa_cons (pe_tup (pa_cons pe_str (pa_cons (pe_op op_add (pe_callB call_len_seq (by rfl) hz.len (by decide +kernel) (pa_cons (pv 2) pa_nil)) pe_int) (pa_cons (pv 10) pa_nil)))) pa_nil)))) pss_nil)
    (pss_one (ps_if (PW.pt (pw_and (pt_cmpR (op_eqD hr.units) (pv 9) pe_int (nomark _)) (pw_and (pt_cmpR (op_neD hr.units) (pv 2) (pe_lst pa_nil) (nomark _)) (pw_and1 (pt_cmpR (op_eqD hr.units) (pe_slice sl_tupA (pe_ix ix_list (pv 2) (pe_un un_neg pe_int) (fun _ _ => rfl)) (po_some pe_int) po_none) (pe_tup (pa_cons (pv 5) (pa_cons (pe_un un_neg (pv 6)) pa_nil))) (nomark _)))))) (pss_cons (ps_expr (pe_bm PySem.F.plainAttrs_list PySem.F.slot_list_append PySem.F.type_list_append mt_append (pv 4) (pa_cons (pe_tup (pa_cons pe_str (pa_cons (pe_callB call_len_seq (by rfl) hz.len (by decide +kernel) (pa_cons (pv 2) pa_nil)) pa_nil))) pa_nil)))
    (pss_one (ps_set (i := 3) nd rfl (by first | exact .inl rfl | exact .inr rfl) (pe_op op_add (pe_op op_add (pe_ix ix_tup (pe_bm0 PySem.F.plainAttrs_list PySem.F.slot_list_pop PySem.F.type_list_pop mt_pop (pv 2)) pe_int (fun _ _ => rfl)) (pe_op op_mul (pe_ix ix_tup (pv 8) pe_int (fun _ _ => rfl)) (pv 10))) (pv 7))))) (pss_cons (ps_expr (pe_bm PySem.F.plainAttrs_list PySem.F.slot_list_append PySem.F.type_list_append mt_append (pv 2) (pa_cons (pe_tup (pa_cons (pv 9) (pa_cons (pv 5) (pa_cons (pv 6) pa_nil)))) pa_nil)))
    (pss_one (ps_set (i := 3) nd rfl (by first | exact .inl rfl | exact .inr rfl) (pe_op op_add (pe_op op_mul (pe_ix ix_tup (pv 8) pe_int (fun _ _ => rfl)) (pv 10)) (pv 7))))))))))))
    (pss_one (ps_ret (pe_callTy call_tuple_of (by rfl) hz.tuple (by decide +kernel) (pa_cons (pv 4) pa_nil))))))
abbrev s__law_bent_moves : Stmt := topS 62
abbrev n__law_bent_moves : List Str := ["_law_m", "_law_moves", "_law_way", "_law_more", "_law_spot", "_law_move", "_law_other", "_law_part"]
abbrev p__law_bent_moves : List Str := ["_law_m", "_law_moves"]
theorem sc__law_bent_moves : FnScope n__law_bent_moves p__law_bent_moves (defScope s__law_bent_moves) := ⟨rfl, rfl, rfl, by decide +kernel, rfl, by decide +kernel, by decide +kernel⟩
def t__law_bent_moves (K : PySem.W.Frag) (sp__law_of sp__law_draw : Sp) : TS :=
  (tSeq (tPar 2 3 (tCons (tCall sp__law_draw [] E0 (tCons (tVar 0) (tCons (tC (.int 7)) tNil))) (tCons (tCall sp__law_of [] E0 (tCons (tVar 0) (tCons (tLst (tCons (tTup (tCons (tC (.str "carry")) (tCons (tC (.int 1)) (tCons (tC (.int 2)) tNil)))) (tCons (tTup (tCons (tC (.str "strike")) (tCons (tC (.int 1)) tNil))) (tCons (tTup (tCons (tC (.str "put")) (tCons (tC (.int 0)) (tCons (tC (.int 0)) (tCons (tC (.int 1)) (tCons (tC (.int 0)) tNil)))))) (tCons (tTup (tCons (tC (.str "carry")) (tCons (tC (.int 1)) (tCons (tC (.int 0)) tNil)))) tNil))))) tNil))) tNil)))
    (tSeq (tIfS (tOr (tTest (tOp (rEqD K) (tVar 2) (tC (.int 0)))) (tTest (tOp (rEqD K) (tVar 1) (tTup tNil)))) (tRet (tOp (rCatA K) (tVar 1) (tTup (tCons (tVar 3) tNil)))) tNext)
    (tSeq (tAsg (tCall sp__law_draw [] E0 (tCons (tVar 0) (tCons (tCB (rLenS K) (tCons (tVar 1) tNil)) tNil))) (gName 4))
    (tSeq (tAsg (tOp (rIxT K) (tVar 1) (tVar 4)) (gName 5))
    (tSeq (tIfS (tTest (tOp (rEqD K) (tVar 2) (tC (.int 1)))) (tRet (tOp (rCatA K) (tSl (rSlA K) (tVar 1) tNoPart (tPart (tVar 4))) (tSl (rSlA K) (tVar 1) (tPart (tOp (rI0 fun i j => .int (i + j)) (tVar 4) (tC (.int 1)))) tNoPart))) tNext)
    (tSeq (tIfS (tTest (tOp (rEqD K) (tVar 2) (tC (.int 2)))) (tRet (tOp (rCatA K) (tOp (rCatA K) (tSl (rSlA K) (tVar 1) tNoPart (tPart (tVar 4))) (tTup (tCons (tVar 5) (tCons (tVar 5) tNil)))) (tSl (rSlA K) (tVar 1) (tPart (tOp (rI0 fun i j => .int (i + j)) (tVar 4) (tC (.int 1)))) tNoPart))) tNext)
    (tSeq (tIfS (tTest (tOp (rEqD K) (tVar 2) (tC (.int 3)))) (tRet (tOp (rCatA K) (tOp (rCatA K) (tOp (rCatA K) (tSl (rSlA K) (tVar 1) tNoPart (tPart (tVar 4))) (tSl (rSlA K) (tVar 1) (tPart (tOp (rI0 fun i j => .int (i + j)) (tVar 4) (tC (.int 1)))) (tPart (tOp (rI0 fun i j => .int (i + j)) (tVar 4) (tC (.int 2)))))) (tTup (tCons (tVar 5) tNil))) (tSl (rSlA K) (tVar 1) (tPart (tOp (rI0 fun i j => .int (i + j)) (tVar 4) (tC (.int 2)))) tNoPart))) tNext)
    (tSeq (tIfS (tTest (tOp (rEqD K) (tVar 2) (tC (.int 4)))) (tSeq (tAsg (tCall sp__law_of [] E0 (tCons (tVar 0) (tCons (tLst (tCons (tC .non) (tCons (tC (.str "carry")) (tCons (tTup tNil) (tCons (tTup (tCons (tC (.str "carry")) tNil)) (tCons (tOp (rCatA K) (tVar 5) (tTup (tCons (tC (.int 0)) tNil))) (tCons (tSl (rSlA K) (tVar 5) tNoPart (tPart (tUn (rU fun i => .int (-i)) (tC (.int 1))))) tNil))))))) tNil))) (gName 6))
    (tRet (tOp (rCatA K) (tOp (rCatA K) (tSl (rSlA K) (tVar 1) tNoPart (tPart (tVar 4))) (tTup (tCons (tVar 6) tNil))) (tSl (rSlA K) (tVar 1) (tPart (tOp (rI0 fun i j => .int (i + j)) (tVar 4) (tC (.int 1)))) tNoPart)))) tNext)
    (tSeq (tAsg (tCall sp__law_of [] E0 (tCons (tVar 0) (tCons (tLst (tCons (tOp (rI0 fun i j => .int (i + j)) (tOp (rIxT K) (tVar 5) (tUn (rU fun i => .int (-i)) (tC (.int 1)))) (tC (.int 1))) (tCons (tOp (rI0 fun i j => .int (i - j)) (tOp (rIxT K) (tVar 5) (tUn (rU fun i => .int (-i)) (tC (.int 1)))) (tC (.int 1))) (tCons (tUn (rU fun i => .int (-i)) (tOp (rIxT K) (tVar 5) (tUn (rU fun i => .int (-i)) (tC (.int 1))))) (tCons (tC (.bl true)) (tCons (tC .non) (tCons (tC (.str "1")) (tCons (tTup (tCons (tC (.int 1)) tNil)) tNil)))))))) tNil))) (gName 7))
    (tRet (tOp (rCatA K) (tOp (rCatA K) (tSl (rSlA K) (tVar 1) tNoPart (tPart (tVar 4))) (tTup (tCons (tOp (rCatA K) (tSl (rSlA K) (tVar 5) tNoPart (tPart (tUn (rU fun i => .int (-i)) (tC (.int 1))))) (tTup (tCons (tVar 7) tNil))) tNil))) (tSl (rSlA K) (tVar 1) (tPart (tOp (rI0 fun i j => .int (i + j)) (tVar 4) (tC (.int 1)))) tNoPart))))))))))))
theorem der__law_bent_moves {P : Program} {w : World} {K : PySem.W.Frag} {mg : Str → Option Value} {base : Heap} {f : Addr} {cdv : Value} {A : Around} {outer : List Env} {s : Shared} {H : Hp} {E : XK} {sp__law_of sp__law_draw : Sp} (hz : Fre mg)
    (c__law_of : Cl P w K mg base CX0 2 "_law_of" p__law_of sp__law_of)
    (c__law_draw : Cl P w K mg base CX0 1 "_law_draw" p__law_draw sp__law_draw)
    (hr : Room 2 (A.deeper (envOfC "_law_bent_moves" (defScope s__law_bent_moves) s.heap.objs.size f cdv))) :
    PSs (cxOf CX0 P w K mg base n__law_bent_moves "_law_bent_moves" (defScope s__law_bent_moves) f cdv A outer s H E).nox (defBody s__law_bent_moves) (t__law_bent_moves K sp__law_of sp__law_draw) := by
  have nd := sc__law_bent_moves.nd
  exact (pss_cons (ps_par (i := 2) (j := 3) rfl nd rfl rfl (by decide) rfl rfl (pa_cons (pe_cl c__law_draw hr (by decide) (by rfl) (pa_cons (pv 0) (pa_cons pe_int pa_nil))) (pa_cons (pe_cl c__law_of hr (by decide) (by rfl) (pa_cons (pv 0) (pa_cons (pe_lst (pa_cons (pe_tup (pa_cons pe_str (pa_cons pe_int (pa_cons pe_int pa_nil)))) (pa_cons (pe_tup (pa_cons pe_str (pa_cons pe_int pa_nil))) (pa_cons (pe_tup (pa_cons pe_str (pa_cons pe_int (pa_cons pe_int (pa_cons pe_int (pa_cons pe_int pa_nil)))))) (pa_cons (pe_tup (pa_cons pe_str (pa_cons pe_int (pa_cons pe_int pa_nil)))) pa_nil))))) pa_nil))) pa_nil)) (by rfl))
    (pss_cons (ps_if (PW.pt (pw_or (pt_cmpR (op_eqD hr.units) (pv 2) pe_int (nomark _)) (pw_or1 (pt_cmpR (op_eqD hr.units) (pv 1) (pe_tup pa_nil) (nomark _))))) (pss_one (ps_ret (pe_op op_catA (pv 1) (pe_tup (pa_cons (pv 3) pa_nil))))) pss_nil)
    (pss_cons (ps_set (i := 4) nd rfl (by first | exact .inl rfl | exact .inr rfl) (pe_cl c__law_draw hr (by decide) (by rfl) (pa_cons (pv 0) (pa_cons (pe_callB call_len_seq (by rfl) hz.len (by decide +kernel) (pa_cons (pv 1) pa_nil)) pa_nil))))
    (pss_cons (ps_set (i := 5) nd rfl (by first | exact .inl rfl | exact .inr rfl) (pe_ix ix_tup (pv 1) (pv 4) (fun _ _ => rfl)))
    (pss_cons (ps_if (pt_cmpR (op_eqD hr.units) (pv 2) pe_int (nomark _)) (pss_one (ps_ret (pe_op op_catA (pe_slice sl_tupA (pv 1) po_none (po_some (pv 4))) (pe_slice sl_tupA (pv 1) (po_some (pe_op op_add (pv 4) pe_int)) po_none)))) pss_nil)
    (pss_cons (ps_if (pt_cmpR (op_eqD hr.units) (pv 2) pe_int (nomark _)) (pss_one (ps_ret (pe_op op_catA (pe_op op_catA (pe_slice sl_tupA (pv 1) po_none (po_some (pv 4))) (pe_tup (pa_cons (pv 5) (pa_cons (pv 5) pa_nil)))) (pe_slice sl_tupA (pv 1) (po_some (pe_op op_add (pv 4) pe_int)) po_none)))) pss_nil)
    (pss_cons (ps_if (pt_cmpR (op_eqD hr.units) (pv 2) pe_int (nomark _)) (pss_one (ps_ret (pe_op op_catA (pe_op op_catA (pe_op op_catA (pe_slice sl_tupA (pv 1) po_none (po_some (pv 4))) (pe_slice sl_tupA (pv 1) (po_some (pe_op op_add (pv 4) pe_int)) (po_some (pe_op op_add (pv 4) pe_int)))) (pe_tup (pa_cons (pv 5) pa_nil))) (pe_slice sl_tupA (pv 1) (po_some (pe_op op_add (pv 4) pe_int)) po_none)))) pss_nil)
    (pss_cons (ps_if (pt_cmpR (op_eqD hr.units) (pv 2) pe_int (nomark _)) (pss_cons (ps_set (i := 6) nd rfl (by first | exact .inl rfl | exact .inr rfl) (pe_cl c__law_of hr (by decide) (by rfl) (pa_cons (pv 0) (pa_cons (pe_lst (pa_cons pe_non (pa_cons pe_str (pa_cons (pe_tup pa_nil) (pa_cons (pe_tup (pa_cons pe_str pa_nil)) (pa_cons (pe_op op_catA (pv 5) (pe_tup (pa_cons pe_int pa_nil))) (pa_cons (pe_slice sl_tupA (pv 5) po_none (po_some (pe_un un_neg pe_int))) pa_nil))))))) pa_nil))))
    (pss_one (ps_ret (pe_op op_catA (pe_op op_catA (pe_slice sl_tupA (pv 1) po_none (po_some (pv 4))) (pe_tup (pa_cons (pv 6) pa_nil))) (pe_slice sl_tupA (pv 1) (po_some (pe_op op_add (pv 4) pe_int)) po_none))))) pss_nil)
    (pss_cons (ps_set (i := 7) nd rfl (by first | exact .inl rfl | exact .inr rfl) (pe_cl c__law_of hr (by decide) (by rfl) (pa_cons (pv 0) (pa_cons (pe_lst (pa_cons (pe_op op_add (pe_ix ix_tup (pv 5) (pe_un un_neg pe_int) (fun _ _ => rfl)) pe_int) (pa_cons (pe_op op_sub (pe_ix ix_tup (pv 5) (pe_un un_neg pe_int) (fun _ _ => rfl)) pe_int) (pa_cons (pe_un un_neg (pe_ix ix_tup (pv 5) (pe_un un_neg pe_int) (fun _ _ => rfl))) (pa_cons pe_bl (pa_cons pe_non (pa_cons pe_str (pa_cons (pe_tup (pa_cons pe_int pa_nil)) pa_nil)))))))) pa_nil))))
    (pss_one (ps_ret (pe_op op_catA (pe_op op_catA (pe_slice sl_tupA (pv 1) po_none (po_some (pv 4))) (pe_tup (pa_cons (pe_op op_catA (pe_slice sl_tupA (pv 5) po_none (po_some (pe_un un_neg pe_int))) (pe_tup (pa_cons (pv 7) pa_nil))) pa_nil))) (pe_slice sl_tupA (pv 1) (po_some (pe_op op_add (pv 4) pe_int)) po_none)))))))))))))
abbrev s__law_bent : Stmt := topS 63
abbrev n__law_bent : List Str := ["_law_m", "_law_paper", "_law_way", "_law_odd", "_law_spot"]
abbrev p__law_bent : List Str := ["_law_m", "_law_paper"]
theorem sc__law_bent : FnScope n__law_bent p__law_bent (defScope s__law_bent) := ⟨rfl, rfl, rfl, by decide +kernel, rfl, by decide +kernel, by decide +kernel⟩
def t__law_bent (K : PySem.W.Frag) (sp__law_draw sp__law_of sp__law_bent_moves : Sp) : TS :=
  (tSeq (tAsg (tCall sp__law_draw [] E0 (tCons (tVar 0) (tCons (tC (.int 8)) tNil))) (gName 2))
    (tSeq (tAsg (tLst (tCons (tC .non) (tCons (tTup tNil) (tCons (tC (.str "equal")) (tCons (tTup (tCons (tC (.str "equal")) tNil)) (tCons (tTup (tCons (tC (.str "unlike")) (tCons (tTup tNil) tNil))) (tCons (tTup (tCons (tC (.str "equal")) (tCons (tTup tNil) (tCons (tTup tNil) tNil)))) (tCons (tOp (rCatA K) (tTup (tCons (tC (.str "like")) tNil)) (tSl (rSlA K) (tVar 1) (tPart (tC (.int 1))) tNoPart)) (tCons (tOp (rCatA K) (tVar 1) (tTup (tCons (tTup tNil) tNil))) tNil))))))))) (gName 3))
    (tSeq (tIfS (tTest (tOp (rEqD K) (tVar 2) (tC (.int 0)))) (tRet (tCall sp__law_of [] E0 (tCons (tVar 0) (tCons (tVar 3) tNil)))) tNext)
    (tSeq (tIfS (tTest (tOp (rEqD K) (tVar 2) (tC (.int 1)))) (tRet (tOp (rCatA K) (tTup (tCons (tIf (tTest (tOp (rEqD K) (tOp (rIxT K) (tVar 1) (tC (.int 0))) (tC (.str "equal")))) (tC (.str "unlike")) (tC (.str "equal"))) tNil)) (tSl (rSlA K) (tVar 1) (tPart (tC (.int 1))) tNoPart))) tNext)
    (tSeq (tIfS (tAnd (tTest (tOp (rEqD K) (tVar 2) (tC (.int 2)))) (tTest (tOp (rEqD K) (tCB (rLenS K) (tCons (tVar 1) tNil)) (tC (.int 3))))) (tRet (tTup (tCons (tOp (rIxT K) (tVar 1) (tC (.int 0))) (tCons (tOp (rIxT K) (tVar 1) (tC (.int 2))) (tCons (tOp (rIxT K) (tVar 1) (tC (.int 1))) tNil))))) tNext)
    (tSeq (tAsg (tOp (rI0 fun i j => .int (i + j)) (tC (.int 1)) (tCall sp__law_draw [] E0 (tCons (tVar 0) (tCons (tOp (rI0 fun i j => .int (i - j)) (tCB (rLenS K) (tCons (tVar 1) tNil)) (tC (.int 1))) tNil)))) (gName 4))
    (tRet (tOp (rCatA K) (tOp (rCatA K) (tSl (rSlA K) (tVar 1) tNoPart (tPart (tVar 4))) (tTup (tCons (tCall sp__law_bent_moves [] E0 (tCons (tVar 0) (tCons (tOp (rIxT K) (tVar 1) (tVar 4)) tNil))) tNil))) (tSl (rSlA K) (tVar 1) (tPart (tOp (rI0 fun i j => .int (i + j)) (tVar 4) (tC (.int 1)))) tNoPart)))))))))
theorem der__law_bent {P : Program} {w : World} {K : PySem.W.Frag} {mg : Str → Option Value} {base : Heap} {f : Addr} {cdv : Value} {A : Around} {outer : List Env} {s : Shared} {H : Hp} {E : XK} {sp__law_draw sp__law_of sp__law_bent_moves : Sp} (hz : Fre mg)
    (c__law_draw : Cl P w K mg base CX0 1 "_law_draw" p__law_draw sp__law_draw)
    (c__law_of : Cl P w K mg base CX0 2 "_law_of" p__law_of sp__law_of)
    (c__law_bent_moves : Cl P w K mg base CX0 3 "_law_bent_moves" p__law_bent_moves sp__law_bent_moves)
    (hr : Room 3 (A.deeper (envOfC "_law_bent" (defScope s__law_bent) s.heap.objs.size f cdv))) :
    PSs (cxOf CX0 P w K mg base n__law_bent "_law_bent" (defScope s__law_bent) f cdv A outer s H E).nox (defBody s__law_bent) (t__law_bent K sp__law_draw sp__law_of sp__law_bent_moves) := by
  have nd := sc__law_bent.nd
  exact (pss_cons (ps_set (i := 2) nd rfl (by first | exact .inl rfl | exact .inr rfl) (pe_cl c__law_draw hr (by decide) (by rfl) (pa_cons (pv 0) (pa_cons pe_int pa_nil))))
    (pss_cons (ps_set (i := 3) nd rfl (by first | exact .inl rfl | exact .inr rfl) (pe_lst (pa_cons pe_non (pa_cons (pe_tup pa_nil) (pa_cons pe_str (pa_cons (pe_tup (pa_cons pe_str pa_nil)) (pa_cons (pe_tup (pa_cons pe_str (pa_cons (pe_tup pa_nil) pa_nil))) (pa_cons (pe_tup (pa_cons pe_str (pa_cons (pe_tup pa_nil) (pa_cons (pe_tup pa_nil) pa_nil)))) (pa_cons (pe_op op_catA (pe_tup (pa_cons pe_str pa_nil)) (pe_slice sl_tupA (pv 1) (po_some pe_int) po_none)) (pa_cons (pe_op op_catA (pv 1) (pe_tup (pa_cons (pe_tup pa_nil) pa_nil))) pa_nil))))))))))
    (pss_cons (ps_if (pt_cmpR (op_eqD hr.units) (pv 2) pe_int (nomark _)) (pss_one (ps_ret (pe_cl c__law_of hr (by decide) (by rfl) (pa_cons (pv 0) (pa_cons (pv 3) pa_nil))))) pss_nil)
    (pss_cons (ps_if (pt_cmpR (op_eqD hr.units) (pv 2) pe_int (nomark _)) (pss_one (ps_ret (pe_op op_catA (pe_tup (pa_cons (pe_ifExp (pt_cmpR (op_eqD hr.units) (pe_ix ix_tup (pv 1) pe_int (fun _ _ => rfl)) pe_str (nomark _)) pe_str pe_str) pa_nil)) (pe_slice sl_tupA (pv 1) (po_some pe_int) po_none)))) pss_nil)
    (pss_cons (ps_if (PW.pt (pw_and (pt_cmpR (op_eqD hr.units) (pv 2) pe_int (nomark _)) (pw_and1 (pt_cmpR (op_eqD hr.units) (pe_callB call_len_seq (by rfl) hz.len (by decide +kernel) (pa_cons (pv 1) pa_nil)) pe_int (nomark _))))) (pss_one (ps_ret (pe_tup (pa_cons (pe_ix ix_tup (pv 1) pe_int (fun _ _ => rfl)) (pa_cons (pe_ix ix_tup (pv 1) pe_int (fun _ _ => rfl)) (pa_cons (pe_ix ix_tup (pv 1) pe_int (fun _ _ => rfl)) pa_nil)))))) pss_nil)
    (pss_cons (ps_set (i := 4) nd rfl (by first | exact .inl rfl | exact .inr rfl) (pe_op op_add pe_int (pe_cl c__law_draw hr (by decide) (by rfl) (pa_cons (pv 0) (pa_cons (pe_op op_sub (pe_callB call_len_seq (by rfl) hz.len (by decide +kernel) (pa_cons (pv 1) pa_nil)) pe_int) pa_nil)))))
    (pss_one (ps_ret (pe_op op_catA (pe_op op_catA (pe_slice sl_tupA (pv 1) po_none (po_some (pv 4))) (pe_tup (pa_cons (pe_cl c__law_bent_moves hr (by decide) (by rfl) (pa_cons (pv 0) (pa_cons (pe_ix ix_tup (pv 1) (pv 4) (fun _ _ => rfl)) pa_nil))) pa_nil))) (pe_slice sl_tupA (pv 1) (po_some (pe_op op_add (pv 4) pe_int)) po_none))))))))))
abbrev s__law_far : Stmt := topS 64
abbrev n__law_far : List Str := ["_law_m", "_law_web_here", "_law_walk_here", "_law_turns_here", "_law_crossings", "_law_spot"]
abbrev p__law_far : List Str := ["_law_m", "_law_web_here"]
theorem sc__law_far : FnScope n__law_far p__law_far (defScope s__law_far) := ⟨rfl, rfl, rfl, by decide +kernel, rfl, by decide +kernel, by decide +kernel⟩
def t__law_far (K : PySem.W.Frag) (sp__law_walk sp__law_draw sp__law_split sp__law_bound sp__law_of sp__law_glued : Sp) : TS :=
  (tSeq (tAsg (tCall sp__law_walk [] E0 (tCons (tVar 0) (tCons (tVar 1) (tCons (tCall sp__law_draw [] E0 (tCons (tVar 0) (tCons (tOp (rIxT K) (tVar 1) (tC (.int 0))) tNil))) (tCons (tOp (rI0 fun i j => .int (i + j)) (tC (.int 1)) (tCall sp__law_draw [] E0 (tCons (tVar 0) (tCons (tC (.int 6)) tNil)))) (tCons (tC (.int 9)) tNil)))))) (gName 2))
    (tSeq (tAsg (tCall sp__law_split [] E0 (tCons (tVar 2) tNil)) (gTup K 2 (gCons (gName 3) (gCons (gName 4) gNil))))
    (tSeq (tAsg (tCall sp__law_draw [] E0 (tCons (tVar 0) (tCons (tCB (rLenS K) (tCons (tVar 3) tNil)) tNil))) (gName 5))
    (tSeq (tAsg (tOp (rI CMul fun i j => .int (i * j)) (tOp (rI0 fun i j => .int (i - j)) (tOp (rI CDivN fun i j => .int (i.fdiv j)) (tCall sp__law_bound [] E0 tNil) (tCall sp__law_of [] E0 (tCons (tVar 0) (tCons (tLst (tCons (tC (.int 2)) (tCons (tC (.int 10)) (tCons (tC (.int 1000)) tNil)))) tNil)))) (tCall sp__law_draw [] E0 (tCons (tVar 0) (tCons (tC (.int 9)) tNil)))) (tCall sp__law_of [] E0 (tCons (tVar 0) (tCons (tLst (tCons (tC (.int 1)) (tCons (tUn (rU fun i => .int (-i)) (tC (.int 1))) tNil))) tNil)))) (gSub (tVar 3) (tVar 5) rSetL))
    (tRet (tCall sp__law_glued [] E0 (tCons (tOp (rIxT K) (tVar 2) (tC (.int 0))) (tCons (tVar 3) (tCons (tVar 4) tNil)))))))))
theorem der__law_far {P : Program} {w : World} {K : PySem.W.Frag} {mg : Str → Option Value} {base : Heap} {f : Addr} {cdv : Value} {A : Around} {outer : List Env} {s : Shared} {H : Hp} {E : XK} {sp__law_walk sp__law_draw sp__law_split sp__law_bound sp__law_of sp__law_glued : Sp} (hz : Fre mg)
    (c__law_walk : Cl P w K mg base CX0 4 "_law_walk" p__law_walk sp__law_walk)
    (c__law_draw : Cl P w K mg base CX0 1 "_law_draw" p__law_draw sp__law_draw)
    (c__law_split : Cl P w K mg base CX0 1 "_law_split" p__law_split sp__law_split)
    (c__law_bound : Cl P w K mg base CX0 1 "_law_bound" p__law_bound sp__law_bound)
    (c__law_of : Cl P w K mg base CX0 2 "_law_of" p__law_of sp__law_of)
    (c__law_glued : Cl P w K mg base CX0 1 "_law_glued" p__law_glued sp__law_glued)
    (hr : Room 4 (A.deeper (envOfC "_law_far" (defScope s__law_far) s.heap.objs.size f cdv))) :
    PSs (cxOf CX0 P w K mg base n__law_far "_law_far" (defScope s__law_far) f cdv A outer s H E).nox (defBody s__law_far) (t__law_far K sp__law_walk sp__law_draw sp__law_split sp__law_bound sp__law_of sp__law_glued) := by
  have nd := sc__law_far.nd
  exact (pss_cons (ps_set (i := 2) nd rfl (by first | exact .inl rfl | exact .inr rfl) (pe_cl c__law_walk hr (by decide) (by rfl) (pa_cons (pv 0) (pa_cons (pv 1) (pa_cons (pe_cl c__law_draw hr (by decide) (by rfl) (pa_cons (pv 0) (pa_cons (pe_ix ix_tup (pv 1) pe_int (fun _ _ => rfl)) pa_nil))) (pa_cons (pe_op op_add pe_int (pe_cl c__law_draw hr (by decide) (by rfl) (pa_cons (pv 0) (pa_cons pe_int pa_nil)))) (pa_cons pe_int pa_nil)))))))
    (pss_cons (ps_asg (pe_cl c__law_split hr (by decide) (by rfl) (pa_cons (pv 2) pa_nil)) (pg_tup rfl (pgs_cons (pg_name (i := 3) nd rfl (by first | exact .inl rfl | exact .inr rfl)) (pgs_cons (pg_name (i := 4) nd rfl (by first | exact .inl rfl | exact .inr rfl)) pgs_nil))))
    (pss_cons (ps_set (i := 5) nd rfl (by first | exact .inl rfl | exact .inr rfl) (pe_cl c__law_draw hr (by decide) (by rfl) (pa_cons (pv 0) (pa_cons (pe_callB call_len_seq (by rfl) hz.len (by decide +kernel) (pa_cons (pv 3) pa_nil)) pa_nil))))
    (pss_cons (ps_asg (pe_op op_mul (pe_op op_sub (pe_op op_fdivN (pe_cl0 c__law_bound hr (by decide) (by rfl)) (pe_cl c__law_of hr (by decide) (by rfl) (pa_cons (pv 0) (pa_cons (pe_lst (pa_cons pe_int (pa_cons pe_int (pa_cons pe_int pa_nil)))) pa_nil)))) (pe_cl c__law_draw hr (by decide) (by rfl) (pa_cons (pv 0) (pa_cons pe_int pa_nil)))) (pe_cl c__law_of hr (by decide) (by rfl) (pa_cons (pv 0) (pa_cons (pe_lst (pa_cons pe_int (pa_cons (pe_un un_neg pe_int) pa_nil))) pa_nil)))) (pg_sub (pv 3) (pv 5) set_list))
    (pss_one (ps_ret (pe_cl c__law_glued hr (by decide) (by rfl) (pa_cons (pe_ix ix_tup (pv 2) pe_int (fun _ _ => rfl)) (pa_cons (pv 3) (pa_cons (pv 4) pa_nil))))))))))
abbrev s__law_pair : Stmt := topS 65
abbrev n__law_pair : List Str := ["_law_m", "_law_web_here", "_law_walk_here", "_law_way", "_law_other", "_law_turns_here", "_law_crossings", "_law_spot"]
abbrev p__law_pair : List Str := ["_law_m", "_law_web_here"]
theorem sc__law_pair : FnScope n__law_pair p__law_pair (defScope s__law_pair) := ⟨rfl, rfl, rfl, by decide +kernel, rfl, by decide +kernel, by decide +kernel⟩
def t__law_pair (K : PySem.W.Frag) (sp__law_some_walk sp__law_draw sp__law_far sp__law_spelled sp__law_split sp__law_of sp__law_glued : Sp) : TS :=
  (tSeq (tAsg (tCall sp__law_some_walk [] E0 (tCons (tVar 0) (tCons (tVar 1) (tCons (tC (.int 10)) tNil)))) (gName 2))
    (tSeq (tAsg (tCall sp__law_draw [] E0 (tCons (tVar 0) (tCons (tC (.int 5)) tNil))) (gName 3))
    (tSeq (tIfS (tTest (tOp (rEqD K) (tVar 3) (tC (.int 0)))) (tRet (tTup (tCons (tVar 2) (tCons (tCall sp__law_some_walk [] E0 (tCons (tVar 0) (tCons (tVar 1) (tCons (tC (.int 8)) tNil)))) tNil)))) tNext)
    (tSeq (tIfS (tTest (tOp (rEqD K) (tVar 3) (tC (.int 4)))) (tRet (tIf (tTest (tOp (rEqD K) (tCall sp__law_draw [] E0 (tCons (tVar 0) (tCons (tC (.int 2)) tNil))) (tC (.int 0)))) (tTup (tCons (tVar 2) (tCons (tCall sp__law_far [] E0 (tCons (tVar 0) (tCons (tVar 1) tNil))) tNil))) (tTup (tCons (tCall sp__law_far [] E0 (tCons (tVar 0) (tCons (tVar 1) tNil))) (tCons (tVar 2) tNil))))) tNext)
    (tSeq (tAsg (tCall sp__law_spelled [] E0 (tCons (tVar 0) (tCons (tVar 1) (tCons (tVar 2) (tCons (tOp (rI0 fun i j => .int (i + j)) (tC (.int 1)) (tCall sp__law_draw [] E0 (tCons (tVar 0) (tCons (tC (.int 6)) tNil)))) tNil))))) (gName 4))
    (tSeq (tIfS (tTest (tOp (rEqD K) (tVar 3) (tC (.int 1)))) (tSeq (tAsg (tCall sp__law_split [] E0 (tCons (tVar 4) tNil)) (gTup K 2 (gCons (gName 5) (gCons (gName 6) gNil))))
    (tSeq (tAsg (tCall sp__law_draw [] E0 (tCons (tVar 0) (tCons (tCB (rLenS K) (tCons (tVar 5) tNil)) tNil))) (gName 7))
    (tSeq (tAsg (tOp (rI0 fun i j => .int (i + j)) (tOp (rIxL K) (tVar 5) (tVar 7)) (tCall sp__law_of [] E0 (tCons (tVar 0) (tCons (tLst (tCons (tC (.int 1)) (tCons (tUn (rU fun i => .int (-i)) (tC (.int 1))) (tCons (tC (.int 2)) tNil)))) tNil)))) (gSub (tVar 5) (tVar 7) rSetL))
    (tAsg (tCall sp__law_glued [] E0 (tCons (tOp (rIxT K) (tVar 4) (tC (.int 0))) (tCons (tVar 5) (tCons (tVar 6) tNil)))) (gName 4))))) tNext)
    (tRet (tTup (tCons (tVar 2) (tCons (tVar 4) tNil))))))))))
theorem der__law_pair {P : Program} {w : World} {K : PySem.W.Frag} {mg : Str → Option Value} {base : Heap} {f : Addr} {cdv : Value} {A : Around} {outer : List Env} {s : Shared} {H : Hp} {E : XK} {sp__law_some_walk sp__law_draw sp__law_far sp__law_spelled sp__law_split sp__law_of sp__law_glued : Sp} (hz : Fre mg)
    (c__law_some_walk : Cl P w K mg base CX0 5 "_law_some_walk" p__law_some_walk sp__law_some_walk)
    (c__law_draw : Cl P w K mg base CX0 1 "_law_draw" p__law_draw sp__law_draw)
    (c__law_far : Cl P w K mg base CX0 5 "_law_far" p__law_far sp__law_far)
    (c__law_spelled : Cl P w K mg base CX0 3 "_law_spelled" p__law_spelled sp__law_spelled)
    (c__law_split : Cl P w K mg base CX0 1 "_law_split" p__law_split sp__law_split)
    (c__law_of : Cl P w K mg base CX0 2 "_law_of" p__law_of sp__law_of)
    (c__law_glued : Cl P w K mg base CX0 1 "_law_glued" p__law_glued sp__law_glued)
    (hr : Room 5 (A.deeper (envOfC "_law_pair" (defScope s__law_pair) s.heap.objs.size f cdv))) :
    PSs (cxOf CX0 P w K mg base n__law_pair "_law_pair" (defScope s__law_pair) f cdv A outer s H E).nox (defBody s__law_pair) (t__law_pair K sp__law_some_walk sp__law_draw sp__law_far sp__law_spelled sp__law_split sp__law_of sp__law_glued) := by
  have nd := sc__law_pair.nd
  exact (pss_cons (ps_set (i := 2) nd rfl (by first | exact .inl rfl | exact .inr rfl) (pe_cl c__law_some_walk hr (by decide) (by rfl) (pa_cons (pv 0) (pa_cons (pv 1) (pa_cons pe_int pa_nil)))))
    (pss_cons (ps_set (i := 3) nd rfl (by first | exact .inl rfl | exact .inr rfl) (pe_cl c__law_draw hr (by decide) (by rfl) (pa_cons (pv 0) (pa_cons pe_int pa_nil))))
    (pss_cons (ps_if (pt_cmpR (op_eqD hr.units) (pv 3) pe_int (nomark _)) (pss_one (ps_ret (pe_tup (pa_cons (pv 2) (pa_cons (pe_cl c__law_some_walk hr (by decide) (by rfl) (pa_cons (pv 0) (pa_cons (pv 1) (pa_cons pe_int pa_nil)))) pa_nil))))) pss_nil)
    (pss_cons (ps_if (pt_cmpR (op_eqD hr.units) (pv 3) pe_int (nomark _)) (pss_one (ps_ret (pe_ifExp (pt_cmpR (op_eqD hr.units) (pe_cl c__law_draw hr (by decide) (by rfl) (pa_cons (pv 0) (pa_cons pe_int pa_nil))) pe_int (nomark _)) (pe_tup (pa_cons (pv 2) (pa_cons (pe_cl c__law_far hr (by decide) (by rfl) (pa_cons (pv 0) (pa_cons (pv 1) pa_nil))) pa_nil))) (pe_tup (pa_cons (pe_cl c__law_far hr (by decide) (by rfl) (pa_cons (pv 0) (pa_cons (pv 1) pa_nil))) (pa_cons (pv 2) pa_nil)))))) pss_nil)
    (pss_cons (ps_set (i := 4) nd rfl (by first | exact .inl rfl | exact .inr rfl) (pe_cl c__law_spelled hr (by decide) (by rfl) (pa_cons (pv 0) (pa_cons (pv 1) (pa_cons (pv 2) (pa_cons (pe_op op_add pe_int (pe_cl c__law_draw hr (by decide) (by rfl) (pa_cons (pv 0) (pa_cons pe_int pa_nil)))) pa_nil))))))
    (pss_cons (ps_if (pt_cmpR (op_eqD hr.units) (pv 3) pe_int (nomark _)) (pss_cons (ps_asg (pe_cl c__law_split hr (by decide) (by rfl) (pa_cons (pv 4) pa_nil)) (pg_tup rfl (pgs_cons (pg_name (i := 5) nd rfl (by first | exact .inl rfl | exact .inr rfl)) (pgs_cons (pg_name (i := 6) nd rfl (by first | exact .inl rfl | exact .inr rfl)) pgs_nil))))
    (pss_cons (ps_set (i := 7) nd rfl (by first | exact .inl rfl | exact .inr rfl) (pe_cl c__law_draw hr (by decide) (by rfl) (pa_cons (pv 0) (pa_cons (pe_callB call_len_seq (by rfl) hz.len (by decide +kernel) (pa_cons (pv 5) pa_nil)) pa_nil))))
    (pss_cons (ps_asg (pe_op op_add (pe_ix ix_list (pv 5) (pv 7) (fun _ _ => rfl)) (pe_cl c__law_of hr (by decide) (by rfl) (pa_cons (pv 0) (pa_cons (pe_lst (pa_cons pe_int (pa_cons (pe_un un_neg pe_int) (pa_cons pe_int pa_nil)))) pa_nil)))) (pg_sub (pv 5) (pv 7) set_list))
    (pss_one (ps_set (i := 4) nd rfl (by first | exact .inl rfl | exact .inr rfl) (pe_cl c__law_glued hr (by decide) (by rfl) (pa_cons (pe_ix ix_tup (pv 4) pe_int (fun _ _ => rfl)) (pa_cons (pv 5) (pa_cons (pv 6) pa_nil))))))))) pss_nil)
    (pss_one (ps_ret (pe_tup (pa_cons (pv 2) (pa_cons (pv 4) pa_nil)))))))))))
abbrev s__law_many_right : Stmt := topS 66
abbrev n__law_many_right : List Str := ["_law_web_here", "_law_walk_here", "_law_move", "_law_told_here", "_law_many"]
abbrev p__law_many_right : List Str := ["_law_web_here"]
theorem sc__law_many_right : FnScope n__law_many_right p__law_many_right (defScope s__law_many_right) := ⟨rfl, rfl, rfl, by decide +kernel, rfl, by decide +kernel, by decide +kernel⟩
def t__law_many_right (K : PySem.W.Frag) (sp_is_equality_paper : Sp) : TS :=
  (tSeq (tIfS (tTest (tOp (rEqD K) (tOp (rIxT K) (tVar 0) (tC (.int 1))) (tTup tNil))) (tRet (tC (.bl true))) tNext)
    (tSeq (tAsg (tTup (tCons (tTup (tCons (tOp (rIxT K) (tOp (rIxT K) (tOp (rIxT K) (tVar 0) (tC (.int 1))) (tC (.int 0))) (tC (.int 0))) (tCons (tC (.int 0)) (tCons (tTup (tCons (tTup (tCons (tC (.int 0)) (tCons (tC (.int 1)) (tCons (tC (.int 0)) tNil)))) tNil)) tNil)))) (tCons (tTup (tCons (tTup (tCons (tC (.str "carry")) (tCons (tC (.int 1)) (tCons (tC (.int 0)) tNil)))) tNil)) tNil))) (gTup K 2 (gCons (gName 1) (gCons (gName 2) gNil))))
    (tSeq (tAsg (tLc (iList K (tLst (tCons (tC (.int 2000)) (tCons (tC (.int 2001)) tNil)))) (gName 4) tYes (tCall sp_is_equality_paper [] E0 (tCons (tVar 0) (tCons (tVar 1) (tCons (tVar 1) (tCons (tTup (tCons (tC (.str "equal")) (tCons (tOp (rMany K) (tVar 2) (tVar 4)) tNil))) tNil))))) [4]) (gName 3))
    (tRet (tOp (rEqD K) (tVar 3) (tLst (tCons (tC (.bl true)) (tCons (tC (.bl false)) tNil))))))))
theorem der__law_many_right {P : Program} {w : World} {K : PySem.W.Frag} {mg : Str → Option Value} {base : Heap} {f : Addr} {cdv : Value} {A : Around} {outer : List Env} {s : Shared} {H : Hp} {E : XK} {sp_is_equality_paper : Sp} (hz : Fre mg)
    (c_is_equality_paper : Cl P w K mg base CX0 7 "is_equality_paper" p_is_equality_paper sp_is_equality_paper)
    (hr : Room 7 (A.deeper (envOfC "_law_many_right" (defScope s__law_many_right) s.heap.objs.size f cdv))) :
    PSs (cxOf CX0 P w K mg base n__law_many_right "_law_many_right" (defScope s__law_many_right) f cdv A outer s H E).nox (defBody s__law_many_right) (t__law_many_right K sp_is_equality_paper) := by
  have nd := sc__law_many_right.nd
  exact (pss_cons (ps_if (pt_cmpR (op_eqD hr.units) (pe_ix ix_tup (pv 0) pe_int (fun _ _ => rfl)) (pe_tup pa_nil) (nomark _)) (pss_one (ps_ret pe_bl)) pss_nil)
    (pss_cons (ps_asg (pe_tup (pa_cons (pe_tup (pa_cons (pe_ix ix_tup (pe_ix ix_tup (pe_ix ix_tup (pv 0) pe_int (fun _ _ => rfl)) pe_int (fun _ _ => rfl)) pe_int (fun _ _ => rfl)) (pa_cons pe_int (pa_cons (pe_tup (pa_cons (pe_tup (pa_cons pe_int (pa_cons pe_int (pa_cons pe_int pa_nil)))) pa_nil)) pa_nil)))) (pa_cons (pe_tup (pa_cons (pe_tup (pa_cons pe_str (pa_cons pe_int (pa_cons pe_int pa_nil)))) pa_nil)) pa_nil))) (pg_tup rfl (pgs_cons (pg_name (i := 1) nd rfl (by first | exact .inl rfl | exact .inr rfl)) (pgs_cons (pg_name (i := 2) nd rfl (by first | exact .inl rfl | exact .inr rfl)) pgs_nil))))
    (pss_cons (ps_setLc (i := 3) (own := [("_law_many", 4)]) rfl nd rfl rfl (sw_true rfl rfl rfl (by decide +kernel)) (pi_list (pe_lst (pa_cons pe_int (pa_cons pe_int pa_nil)))) (blkOk_by (own := [("_law_many", 4)]) (N := n__law_many_right) (sc := defScope s__law_many_right) (by decide +kernel)) (fun _ _ _ _ _ => (pg_name (i := 4) nd rfl (by first | exact .inl rfl | exact .inr rfl))) (fun _ _ _ _ _ => pts_nil) (fun _ _ _ _ _ => (pe_cl c_is_equality_paper hr (by decide) (by rfl) (pa_cons (pv 0) (pa_cons (pv 1) (pa_cons (pv 1) (pa_cons (pe_tup (pa_cons pe_str (pa_cons (pe_op op_many (pv 2) (pv 4)) pa_nil))) pa_nil)))))))
    (pss_one (ps_ret (pe_cmpR (op_eqD hr.units) (pv 3) (pe_lst (pa_cons pe_bl (pa_cons pe_bl pa_nil))) (nomark _)))))))
abbrev s_law : Stmt := topS 67
abbrev n_law : List Str := ["_law_script", "_law_k", "_law_m", "_law_web_here", "_law_turn", "_law_one", "_law_two", "_law_told_here", "_law_first", "_law_second", "_law_word", "_law_lap", "_law_bent_here"]
abbrev p_law : List Str := ["_law_script"]
theorem sc_law : FnScope n_law p_law (defScope s_law) := ⟨rfl, rfl, rfl, by decide +kernel, rfl, by decide +kernel, by decide +kernel⟩
def t_law (K : PySem.W.Frag) (sp__law_begun sp__law_great_web sp__law_many_right sp__law_pair sp__law_told sp__law_led sp__law_due_moves sp__law_plain sp__law_right sp__law_bent sp__law_flag sp_is_equality_paper : Sp) : TS :=
  (tSeq (tFor (iRng1 (tCons (tC (.int 3)) tNil)) (gName 1) (tSeq (tAsg (tCall sp__law_begun [] E0 (tCons (tVar 0) (tCons (tVar 1) tNil))) (gName 2))
    (tSeq (tAsg (tCall sp__law_great_web [] E0 (tCons (tVar 2) tNil)) (gName 3))
    (tSeq (tIfS (tAnd (tTest (tOp (rEqD K) (tVar 1) (tC (.int 0)))) (tNot (tB (tCall sp__law_many_right [] E0 (tCons (tVar 3) tNil))))) (tRet (tC (.bl false))) tNext)
    (tFor (iRng1 (tCons (tC (.int 2)) tNil)) (gName 4) (tSeq (tAsg (tCall sp__law_pair [] E0 (tCons (tVar 2) (tCons (tVar 3) tNil))) (gTup K 2 (gCons (gName 5) (gCons (gName 6) gNil))))
    (tSeq (tAsg (tCall sp__law_told [] E0 (tCons (tVar 3) (tCons (tVar 5) (tCons (tVar 6) tNil)))) (gName 7))
    (tSeq (tAsg (tCall sp__law_led [] E0 (tCons (tVar 3) (tCons (tVar 5) (tCons (tCall sp__law_due_moves [] E0 (tCons (tVar 3) (tCons (tVar 5) tNil))) tNil)))) (gName 8))
    (tSeq (tAsg (tCall sp__law_led [] E0 (tCons (tVar 3) (tCons (tVar 6) (tCons (tCall sp__law_due_moves [] E0 (tCons (tVar 3) (tCons (tVar 6) tNil))) tNil)))) (gName 9))
    (tSeq (tIfS (tTest (tOp (rNeD K) (tOp (rEqD K) (tVar 7) (tC (.str "turns"))) (tOrV (tOp rIsN0 (tVar 8) (tC .non)) (tOp rIsN0 (tVar 9) (tC .non))))) (tRet (tC (.bl false))) tNext)
    (tIfS (tTest (tOp (rNeD K) (tVar 7) (tC (.str "turns")))) (tSeq (tAsg (tIf (tTest (tOp (rEqD K) (tCall sp__law_plain [] E0 (tCons (tVar 3) (tCons (tVar 5) tNil))) (tCall sp__law_plain [] E0 (tCons (tVar 3) (tCons (tVar 6) tNil))))) (tC (.str "equal")) (tC (.str "unlike"))) (gName 10))
    (tSeq (tIfS (tOr (tNot (tB (tCall sp__law_right [] E0 (tCons (tVar 3) (tCons (tVar 5) (tCons (tVar 6) (tCons (tVar 7) tNil))))))) (tTest (tOp (rNeD K) (tOp (rIxT K) (tVar 7) (tC (.int 0))) (tVar 10)))) (tRet (tC (.bl false))) tNext)
    (tSeq (tFor (iRng1 (tCons (tC (.int 5)) tNil)) (gName 11) (tSeq (tAsg (tIf (tTest (tOp (rEqD K) (tVar 11) (tC (.int 0)))) (tVar 7) (tCall sp__law_bent [] E0 (tCons (tVar 2) (tCons (tVar 7) tNil)))) (gName 12))
    (tIfS (tNot (tB (tCall sp__law_flag [] E0 (tCons (tCall sp_is_equality_paper [] E0 (tCons (tVar 3) (tCons (tVar 5) (tCons (tVar 6) (tCons (tVar 12) tNil))))) (tCons (tCall sp__law_right [] E0 (tCons (tVar 3) (tCons (tVar 5) (tCons (tVar 6) (tCons (tVar 12) tNil))))) tNil))))) (tRet (tC (.bl false))) tNext)))
    (tIfS (tNot (tB (tCall sp__law_flag [] E0 (tCons (tCall sp_is_equality_paper [] E0 (tCons (tVar 3) (tCons (tVar 6) (tCons (tVar 5) (tCons (tVar 7) tNil))))) (tCons (tCall sp__law_right [] E0 (tCons (tVar 3) (tCons (tVar 6) (tCons (tVar 5) (tCons (tVar 7) tNil))))) tNil))))) (tRet (tC (.bl false))) tNext)))) tNext)))))))))))
    (tRet (tC (.bl true))))
theorem der_law {P : Program} {w : World} {K : PySem.W.Frag} {mg : Str → Option Value} {base : Heap} {f : Addr} {cdv : Value} {A : Around} {outer : List Env} {s : Shared} {H : Hp} {E : XK} {sp__law_begun sp__law_great_web sp__law_many_right sp__law_pair sp__law_told sp__law_led sp__law_due_moves sp__law_plain sp__law_right sp__law_bent sp__law_flag sp_is_equality_paper : Sp} (hz : Fre mg)
    (c__law_begun : Cl P w K mg base CX0 1 "_law_begun" p__law_begun sp__law_begun)
    (c__law_great_web : Cl P w K mg base CX0 4 "_law_great_web" p__law_great_web sp__law_great_web)
    (c__law_many_right : Cl P w K mg base CX0 8 "_law_many_right" p__law_many_right sp__law_many_right)
    (c__law_pair : Cl P w K mg base CX0 6 "_law_pair" p__law_pair sp__law_pair)
    (c__law_told : Cl P w K mg base CX0 8 "_law_told" p__law_told sp__law_told)
    (c__law_led : Cl P w K mg base CX0 4 "_law_led" p__law_led sp__law_led)
    (c__law_due_moves : Cl P w K mg base CX0 2 "_law_due_moves" p__law_due_moves sp__law_due_moves)
    (c__law_plain : Cl P w K mg base CX0 2 "_law_plain" p__law_plain sp__law_plain)
    (c__law_right : Cl P w K mg base CX0 5 "_law_right" p__law_right sp__law_right)
    (c__law_bent : Cl P w K mg base CX0 4 "_law_bent" p__law_bent sp__law_bent)
    (c__law_flag : Cl P w K mg base CX0 1 "_law_flag" p__law_flag sp__law_flag)
    (c_is_equality_paper : Cl P w K mg base CX0 7 "is_equality_paper" p_is_equality_paper sp_is_equality_paper)
    (hr : Room 8 (A.deeper (envOfC "law" (defScope s_law) s.heap.objs.size f cdv))) :
    PSs (cxOf CX0 P w K mg base n_law "law" (defScope s_law) f cdv A outer s H E).nox (defBody s_law) (t_law K sp__law_begun sp__law_great_web sp__law_many_right sp__law_pair sp__law_told sp__law_led sp__law_due_moves sp__law_plain sp__law_right sp__law_bent sp__law_flag sp_is_equality_paper) := by
  have nd := sc_law.nd
  exact (pss_cons (ps_for PassesOwn.never rfl (pi_range1 (by rfl) hz.range (pa_cons pe_int pa_nil)) (pg_name (i := 1) nd rfl (by first | exact .inl rfl | exact .inr rfl)) (pss_cons (ps_set (i := 2) nd rfl (by first | exact .inl rfl | exact .inr rfl) (pe_cl c__law_begun hr (by decide) (by rfl) (pa_cons (pv 0) (pa_cons (pv 1) pa_nil))))
    (pss_cons (ps_set (i := 3) nd rfl (by first | exact .inl rfl | exact .inr rfl) (pe_cl c__law_great_web hr (by decide) (by rfl) (pa_cons (pv 2) pa_nil)))
    (pss_cons (ps_if (PW.pt (pw_and (pt_cmpR (op_eqD hr.units) (pv 1) pe_int (nomark _)) (pw_and1 (pt_not (pt_val (pe_cl c__law_many_right hr (by decide) (by rfl) (pa_cons (pv 3) pa_nil))))))) (pss_one (ps_ret pe_bl)) pss_nil)
    (pss_one (ps_for PassesOwn.never rfl (pi_range1 (by rfl) hz.range (pa_cons pe_int pa_nil)) (pg_name (i := 4) nd rfl (by first | exact .inl rfl | exact .inr rfl)) (pss_cons (ps_asg (pe_cl c__law_pair hr (by decide) (by rfl) (pa_cons (pv 2) (pa_cons (pv 3) pa_nil))) (pg_tup rfl (pgs_cons (pg_name (i := 5) nd rfl (by first | exact .inl rfl | exact .inr rfl)) (pgs_cons (pg_name (i := 6) nd rfl (by first | exact .inl rfl | exact .inr rfl)) pgs_nil))))
    (pss_cons (ps_set (i := 7) nd rfl (by first | exact .inl rfl | exact .inr rfl) (pe_cl c__law_told hr (by decide) (by rfl) (pa_cons (pv 3) (pa_cons (pv 5) (pa_cons (pv 6) pa_nil)))))
    (pss_cons (ps_set (i := 8) nd rfl (by first | exact .inl rfl | exact .inr rfl) (pe_cl c__law_led hr (by decide) (by rfl) (pa_cons (pv 3) (pa_cons (pv 5) (pa_cons (pe_cl c__law_due_moves hr (by decide) (by rfl) (pa_cons (pv 3) (pa_cons (pv 5) pa_nil))) pa_nil)))))
    (pss_cons (ps_set (i := 9) nd rfl (by first | exact .inl rfl | exact .inr rfl) (pe_cl c__law_led hr (by decide) (by rfl) (pa_cons (pv 3) (pa_cons (pv 6) (pa_cons (pe_cl c__law_due_moves hr (by decide) (by rfl) (pa_cons (pv 3) (pa_cons (pv 6) pa_nil))) pa_nil)))))
    (pss_cons (ps_if (pt_cmpR (op_neD hr.units) (pe_cmpR (op_eqD hr.units) (pv 7) pe_str (nomark _)) (pe_or (pe_cmpR op_isN (pv 8) pe_non (nomark _)) (pe_one (pe_cmpR op_isN (pv 9) pe_non (nomark _)))) (nomark _)) (pss_one (ps_ret pe_bl)) pss_nil)
    (pss_one (ps_if (pt_cmpR (op_neD hr.units) (pv 7) pe_str (nomark _)) (pss_cons (ps_set (i := 10) nd rfl (by first | exact .inl rfl | exact .inr rfl) (pe_ifExp (pt_cmpR (op_eqD hr.units) (pe_cl c__law_plain hr (by decide) (by rfl) (pa_cons (pv 3) (pa_cons (pv 5) pa_nil))) (pe_cl c__law_plain hr (by decide) (by rfl) (pa_cons (pv 3) (pa_cons (pv 6) pa_nil))) (nomark _)) pe_str pe_str))
    (pss_cons (ps_if (PW.pt (pw_or (pt_not (pt_val (pe_cl c__law_right hr (by decide) (by rfl) (pa_cons (pv 3) (pa_cons (pv 5) (pa_cons (pv 6) (pa_cons (pv 7) pa_nil))))))) (pw_or1 (pt_cmpR (op_neD hr.units) (pe_ix ix_tup (pv 7) pe_int (fun _ _ => rfl)) (pv 10) (nomark _))))) (pss_one (ps_ret pe_bl)) pss_nil)
    (pss_cons (ps_for PassesOwn.never rfl (pi_range1 (by rfl) hz.range (pa_cons pe_int pa_nil)) (pg_name (i := 11) nd rfl (by first | exact .inl rfl | exact .inr rfl)) (pss_cons (ps_set (i := 12) nd rfl (by first | exact .inl rfl | exact .inr rfl) (pe_ifExp (pt_cmpR (op_eqD hr.units) (pv 11) pe_int (nomark _)) (pv 7) (pe_cl c__law_bent hr (by decide) (by rfl) (pa_cons (pv 2) (pa_cons (pv 7) pa_nil)))))
    (pss_one (ps_if (pt_not (pt_val (pe_cl c__law_flag hr (by decide) (by rfl) (pa_cons (pe_cl c_is_equality_paper hr (by decide) (by rfl) (pa_cons (pv 3) (pa_cons (pv 5) (pa_cons (pv 6) (pa_cons (pv 12) pa_nil))))) (pa_cons (pe_cl c__law_right hr (by decide) (by rfl) (pa_cons (pv 3) (pa_cons (pv 5) (pa_cons (pv 6) (pa_cons (pv 12) pa_nil))))) pa_nil))))) (pss_one (ps_ret pe_bl)) pss_nil))))
    (pss_one (ps_if (pt_not (pt_val (pe_cl c__law_flag hr (by decide) (by rfl) (pa_cons (pe_cl c_is_equality_paper hr (by decide) (by rfl) (pa_cons (pv 3) (pa_cons (pv 6) (pa_cons (pv 5) (pa_cons (pv 7) pa_nil))))) (pa_cons (pe_cl c__law_right hr (by decide) (by rfl) (pa_cons (pv 3) (pa_cons (pv 6) (pa_cons (pv 5) (pa_cons (pv 7) pa_nil))))) pa_nil))))) (pss_one (ps_ret pe_bl)) pss_nil))))) pss_nil)))))))))))))
    (pss_one (ps_ret pe_bl)))
/-! ### webs and walks as plain data -/
abbrev Cr := Int × Int
abbrev Tie := Int × Int × Int × Int
abbrev Kp := Int × Int × Int
structure Web where
  rooms : Int
  ties : List Tie
structure Wk where
  room : Int
  ts : List Int
  cs : List Cr
  deriving DecidableEq
def tieD (t : Tie) : PyData := .tuple [.int t.1, .int t.2.1, .int t.2.2.1, .int t.2.2.2]
def webD (W : Web) : PyData := .tuple [.int W.rooms, .tuple (W.ties.map tieD)]
def crD (c : Cr) : PyData := .tuple [.int c.1, .int c.2]
def stD (p : Cr × Int) : PyData := .tuple [.int p.1.1, .int p.1.2, .int p.2]
def Wk.sts (w : Wk) : List (Cr × Int) := w.cs.zip w.ts.tail
def wkD (w : Wk) : PyData := .tuple [.int w.room, .int (w.ts.getD 0 0), .tuple (w.sts.map stD)]
def intsD (l : List Int) : List PyData := l.map PyData.int
def crsD (l : List Cr) : List PyData := l.map crD
structure Wk.Ok (w : Wk) : Prop where
  len : w.ts.length = w.cs.length + 1
def ends (W : Web) (t s : Int) : Tie := match W.ties.getD t.toNat (0, 0, 0, 0) with
  | (v, u, p, q) => if s = 1 then (v, u, p, q) else (u, v, q, p)
def endsD (e : Tie) : PyData := tieD e
/-- a web whose ends are no zeros, and small -/
structure Web.Ok (W : Web) : Prop where
  few : W.ties.length ≤ 20
  nz : ∀ t ∈ W.ties, t.2.2.1 ≠ 0 ∧ t.2.2.2 ≠ 0
  sm : ∀ t ∈ W.ties, t.2.2.1.natAbs ≤ 1000 ∧ t.2.2.2.natAbs ≤ 1000
/-- a crossing of the web -/
def Cro (W : Web) (c : Cr) : Prop := 0 ≤ c.1 ∧ c.1 < W.ties.length ∧ (c.2 = 1 ∨ c.2 = -1)
/-- crossings one behind the other, from a room to a room -/
def Path (W : Web) : Int → List Cr → Int → Prop
  | v, [], u => v = u
  | v, c :: r, u => Cro W c ∧ (ends W c.1 c.2).1 = v ∧ Path W (ends W c.1 c.2).2.1 r u
structure Wk.In (W : Web) (w : Wk) : Prop where
  ok : w.Ok
  path : ∃ u, Path W w.room w.cs u
theorem Path.cro {W : Web} : ∀ {cs : List Cr} {v u : Int}, Path W v cs u → ∀ c ∈ cs, Cro W c
  | [], _, _, _, c, h => by cases h
  | d :: r, v, u, p, c, h => by
    obtain ⟨h1, h2, h3⟩ := p
    rcases List.mem_cons.mp h with e | e
    · rw [e]; exact h1
    · exact Path.cro h3 c e
theorem Path.app {W : Web} : ∀ {as bs : List Cr} {v u : Int}, Path W v (as ++ bs) u ↔ ∃ x, Path W v as x ∧ Path W x bs u
  | [], bs, v, u => by
    constructor
    · intro h; exact ⟨v, rfl, h⟩
    · rintro ⟨x, h1, h2⟩
      have e : v = x := h1
      rw [e]; exact h2
  | a :: as, bs, v, u => by
    constructor
    · rintro ⟨h1, h2, h3⟩
      obtain ⟨x, h4, h5⟩ := (Path.app (as := as)).mp h3
      exact ⟨x, ⟨h1, h2, h4⟩, h5⟩
    · rintro ⟨x, ⟨h1, h2, h4⟩, h5⟩
      exact ⟨h1, h2, (Path.app (as := as)).mpr ⟨x, h4, h5⟩⟩
/-- the room behind the first i crossings -/
def roomAt (W : Web) (w : Wk) (i : Nat) : Int := if i = 0 then w.room else (ends W (w.cs.getD (i - 1) (0, 0)).1 (w.cs.getD (i - 1) (0, 0)).2).2.1
theorem Path.fn {W : Web} : ∀ {cs : List Cr} {v u x : Int}, Path W v cs u → Path W v cs x → u = x
  | [], v, u, x, h1, h2 => by
    have e1 : v = u := h1
    have e2 : v = x := h2
    omega
  | c :: r, v, u, x, h1, h2 => Path.fn h1.2.2 h2.2.2
theorem Path.last {W : Web} {as : List Cr} {c : Cr} {v u : Int} (h : Path W v (as ++ [c]) u) : u = (ends W c.1 c.2).2.1 := by
  obtain ⟨x, _, h2⟩ := Path.app.mp h
  exact h2.2.2.symm
theorem Path.roomAt {W : Web} {w : Wk} {i : Nat} {x : Int} (hi : i ≤ w.cs.length) (h : Path W w.room (w.cs.take i) x) : K8.roomAt W w i = x := by
  unfold K8.roomAt
  by_cases h0 : i = 0
  · subst h0
    rw [if_pos rfl]
    exact h
  · rw [if_neg h0]
    have hlt : i - 1 < w.cs.length := by omega
    have e : w.cs.take i = w.cs.take (i - 1) ++ [w.cs[i - 1]] := by
      have e2 : i = (i - 1) + 1 := by omega
      conv => lhs; rw [e2]
      rw [List.take_add_one, List.getElem?_eq_getElem hlt]
      rfl
    rw [e] at h
    rw [h.last, List.getD_eq_getElem?_getD, List.getElem?_eq_getElem hlt]
    rfl
theorem ends_back {W : Web} {t s : Int} (h : s = 1 ∨ s = -1) : ends W t (-s) = ((ends W t s).2.1, (ends W t s).1, (ends W t s).2.2.2, (ends W t s).2.2.1) := by
  unfold ends
  rcases h with h | h
  · subst h
    rfl
  · subst h
    rfl
theorem Cro.back {W : Web} {t s : Int} (h : Cro W (t, s)) : Cro W (t, -s) := by
  obtain ⟨h1, h2, h3⟩ := h
  refine ⟨h1, h2, ?_⟩
  have h3 : s = 1 ∨ s = -1 := h3
  show -s = 1 ∨ -s = -1
  omega
theorem Web.Ok.ends {W : Web} (h : W.Ok) {t s : Int} (c : Cro W (t, s)) : (ends W t s).2.2.1 ≠ 0 ∧ (K8.ends W t s).2.2.2 ≠ 0 ∧ (K8.ends W t s).2.2.1.natAbs ≤ 1000 ∧ (K8.ends W t s).2.2.2.natAbs ≤ 1000 := by
  obtain ⟨h1, h2, _⟩ := c
  have h1 : 0 ≤ t := h1
  have h2 : t < W.ties.length := h2
  have hlt : t.toNat < W.ties.length := by omega
  have e : W.ties.getD t.toNat (0, 0, 0, 0) = W.ties[t.toNat] := by
    rw [List.getD_eq_getElem?_getD, List.getElem?_eq_getElem hlt]
    rfl
  have hm : W.ties[t.toNat] ∈ W.ties := List.getElem_mem hlt
  obtain ⟨a1, a2⟩ := h.nz _ hm
  obtain ⟨b1, b2⟩ := h.sm _ hm
  unfold K8.ends
  rw [e]
  generalize W.ties[t.toNat] = x at a1 a2 b1 b2
  obtain ⟨v, u, p, q⟩ := x
  by_cases hs : s = 1
  · simp only [hs, if_true]
    exact ⟨a1, a2, b1, b2⟩
  · simp only [hs, if_false]
    exact ⟨a2, a1, b2, b1⟩
/-! ### moves -/
def TB : Int := 10 ^ 300
def inB (i : Int) : Bool := decide (-TB < i) && decide (i < TB)
def Wk.fits (w : Wk) : Bool := decide (w.cs.length ≤ 60) && w.ts.all inB
def carry (W : Web) (w : Wk) (i m : Int) : Wk :=
  let c := w.cs.getD (i.toNat - 1) (0, 0)
  let e := ends W c.1 c.2
  let ts := w.ts.set (i.toNat - 1) (w.ts.getD (i.toNat - 1) 0 - e.2.2.1 * m)
  ⟨w.room, ts.set i.toNat (ts.getD i.toNat 0 + e.2.2.2 * m), w.cs⟩
def strikeN (w : Wk) (n : Nat) : Option Wk :=
  if w.ts.getD n 0 = 0 ∧ w.cs.getD (n - 1) (0, 0) = ((w.cs.getD n (0, 0)).1, -(w.cs.getD n (0, 0)).2) then
    some ⟨w.room, w.ts.take (n - 1) ++ [w.ts.getD (n - 1) 0 + w.ts.getD (n + 1) 0] ++ w.ts.drop (n + 2), w.cs.take (n - 1) ++ w.cs.drop (n + 1)⟩
  else none
def strike (w : Wk) (i : Int) : Option Wk := strikeN w i.toNat
def putN (W : Web) (w : Wk) (n : Nat) (t s a : Int) : Option Wk :=
  if (ends W t s).1 = roomAt W w n then
    some ⟨w.room, w.ts.take n ++ [a, 0, w.ts.getD n 0 - a] ++ w.ts.drop (n + 1), w.cs.take n ++ [(t, s), (t, -s)] ++ w.cs.drop n⟩
  else none
def putIn (W : Web) (w : Wk) (i t s a : Int) : Option Wk := putN W w i.toNat t s a
inductive Mv where
  | carry (i m : Int) | strike (i : Int) | put (i t s a : Int)
  deriving DecidableEq
def mvD : Mv → PyData
  | .carry i m => .tuple [.str "carry", .int i, .int m]
  | .strike i => .tuple [.str "strike", .int i]
  | .put i t s a => .tuple [.str "put", .int i, .int t, .int s, .int a]
def mvs (ms : List Mv) : List PyData := ms.map mvD
def mvOnceM (W : Web) (w : Wk) : Mv → Option Wk
  | .carry i m => if 1 ≤ i ∧ i ≤ w.cs.length then some (carry W w i m) else none
  | .strike i => if 1 ≤ i ∧ i < w.cs.length then strike w i else none
  | .put i t s a => if 0 ≤ i ∧ i ≤ w.cs.length ∧ 0 ≤ t ∧ t < W.ties.length ∧ (s = 1 ∨ s = -1) then putIn W w i t s a else none
/-- a value as a move -/
def toMv : PyData → Option Mv
  | .tuple [.str z, .int i, .int m] => if z = "carry" then some (.carry i m) else none
  | .tuple [.str z, .int i] => if z = "strike" then some (.strike i) else none
  | .tuple [.str z, .int i, .int t, .int s, .int a] => if z = "put" then some (.put i t s a) else none
  | _ => none
def mvOnce (W : Web) (w : Wk) (d : PyData) : Option Wk := (toMv d).bind (mvOnceM W w)
def okW (o : Option Wk) : Option Wk := o.filter Wk.fits
def mv (W : Web) (w : Wk) (d : PyData) : Option Wk := okW (mvOnce W w d)
def led (W : Web) : Wk → List PyData → Option Wk
  | w, [] => some w
  | w, d :: ds => (mv W w d).bind fun x => led W x ds
def ledD (W : Web) (w : Wk) : PyData → Option Wk
  | .tuple ds => if ds.length ≤ 2000 then led W w ds else none
  | _ => none
theorem toMv_mvD (m : Mv) : toMv (mvD m) = some m := by
  cases m <;> rfl
theorem carry_in {W : Web} {w : Wk} {i m : Int} (h : w.In W) : (carry W w i m).In W := by
  refine ⟨⟨?_⟩, h.path⟩
  show ((w.ts.set _ _).set _ _).length = _
  rw [List.length_set, List.length_set]
  exact h.ok.len
theorem strike_in {W : Web} {w x : Wk} {i : Int} (h : w.In W) (h1 : 1 ≤ i) (h2 : i < w.cs.length) (e : strike w i = some x) : x.In W := by
  unfold strike strikeN at e
  split at e
  · rename_i hc
    obtain ⟨hc1, hc2⟩ := hc
    cases e
    have hl := h.ok.len
    generalize hn : i.toNat = n at hc1 hc2
    have n1 : 1 ≤ n := by omega
    have n2 : n < w.cs.length := by omega
    refine ⟨⟨?_⟩, ?_⟩
    · simp only [List.length_append, List.length_take, List.length_drop, List.length_cons, List.length_nil]
      omega
    · obtain ⟨u, hp⟩ := h.path
      have e1 : w.cs = w.cs.take (n - 1) ++ ([w.cs[n - 1]] ++ ([w.cs[n]] ++ w.cs.drop (n + 1))) := by
        have a1 : w.cs = w.cs.take (n - 1) ++ w.cs.drop (n - 1) := (List.take_append_drop _ _).symm
        have a2 : w.cs.drop (n - 1) = w.cs[n - 1] :: w.cs.drop n := by
          have := List.drop_eq_getElem_cons (l := w.cs) (i := n - 1) (by omega)
          rw [show n - 1 + 1 = n by omega] at this
          exact this
        have a3 : w.cs.drop n = w.cs[n] :: w.cs.drop (n + 1) := List.drop_eq_getElem_cons n2
        rw [a2, a3] at a1
        exact a1
      have g1 : w.cs.getD (n - 1) (0, 0) = w.cs[n - 1] := by
        rw [List.getD_eq_getElem?_getD, List.getElem?_eq_getElem (by omega)]
        rfl
      have g2 : w.cs.getD n (0, 0) = w.cs[n] := by
        rw [List.getD_eq_getElem?_getD, List.getElem?_eq_getElem n2]
        rfl
      rw [g1, g2] at hc2
      rw [e1] at hp
      obtain ⟨x1, p1, p2⟩ := Path.app.mp hp
      obtain ⟨x2, p3, p4⟩ := Path.app.mp p2
      obtain ⟨x3, p5, p6⟩ := Path.app.mp p4
      refine ⟨u, Path.app.mpr ⟨x1, p1, ?_⟩⟩
      have q1 := p3.2.1
      have q2 : _ = x2 := p3.2.2
      have q3 := p5.2.1
      have q4 : _ = x3 := p5.2.2
      have cr := p5.1
      rw [hc2] at q1 q2
      have eb := ends_back (W := W) (t := w.cs[n].1) (s := w.cs[n].2) cr.2.2
      rw [eb] at q1 q2
      have e3 : x1 = x3 := by
        rw [← q1, ← q4]
      rw [e3]
      exact p6
  · cases e
theorem put_in {W : Web} {w x : Wk} {i t s a : Int} (h : w.In W) (h1 : 0 ≤ i) (h2 : i ≤ w.cs.length) (hc : Cro W (t, s)) (e : putIn W w i t s a = some x) : x.In W := by
  unfold putIn putN at e
  split at e
  · rename_i hr
    cases e
    have hl := h.ok.len
    generalize hn : i.toNat = n at hr
    have n2 : n ≤ w.cs.length := by omega
    refine ⟨⟨?_⟩, ?_⟩
    · simp only [List.length_append, List.length_take, List.length_drop, List.length_cons, List.length_nil]
      omega
    · obtain ⟨u, hp⟩ := h.path
      rw [← List.take_append_drop n w.cs] at hp
      obtain ⟨x, p1, p2⟩ := Path.app.mp hp
      have ex := Path.roomAt n2 p1
      rw [ex] at hr
      refine ⟨u, ?_⟩
      show Path W w.room (w.cs.take n ++ [(t, s), (t, -s)] ++ w.cs.drop n) u
      rw [List.append_assoc]
      refine Path.app.mpr ⟨x, p1, hc, hr, hc.back, ?_, ?_⟩
      · show (ends W t (-s)).1 = _
        rw [ends_back hc.2.2]
      · show Path W (ends W t (-s)).2.1 _ _
        rw [ends_back hc.2.2]
        show Path W (ends W t s).1 _ _
        rw [hr]
        exact p2
  · cases e
theorem mvOnceM_in {W : Web} {w x : Wk} {m : Mv} (h : w.In W) (e : mvOnceM W w m = some x) : x.In W := by
  cases m with
  | carry i m =>
    simp only [mvOnceM] at e
    split at e
    · cases e
      exact carry_in h
    · cases e
  | strike i =>
    simp only [mvOnceM] at e
    split at e
    · rename_i hi
      exact strike_in h hi.1 hi.2 e
    · cases e
  | put i t s a =>
    simp only [mvOnceM] at e
    split at e
    · rename_i hi
      exact put_in h hi.1 hi.2.1 ⟨hi.2.2.1, hi.2.2.2.1, hi.2.2.2.2⟩ e
    · cases e
theorem okW_some {o : Option Wk} {x : Wk} (h : okW o = some x) : o = some x ∧ x.fits = true := by
  unfold okW at h
  exact Option.filter_eq_some_iff.mp h
theorem mv_in {W : Web} {w x : Wk} {d : PyData} (h : w.In W) (e : mv W w d = some x) : x.In W ∧ x.fits = true := by
  obtain ⟨e1, e2⟩ := okW_some e
  refine ⟨?_, e2⟩
  unfold mvOnce at e1
  cases q : toMv d with
  | none => rw [q] at e1; cases e1
  | some m =>
    rw [q] at e1
    exact mvOnceM_in h e1
theorem led_in {W : Web} : ∀ {ds : List PyData} {w x : Wk}, w.In W → w.fits = true → led W w ds = some x → x.In W ∧ x.fits = true
  | [], w, x, h, f, e => by cases e; exact ⟨h, f⟩
  | d :: ds, w, x, h, f, e => by
    unfold led at e
    cases q : mv W w d with
    | none => rw [q] at e; cases e
    | some y =>
      rw [q] at e
      obtain ⟨h1, h2⟩ := mv_in h q
      exact led_in h1 h2 e
theorem led_app {W : Web} : ∀ {as bs : List PyData} {w : Wk}, led W w (as ++ bs) = (led W w as).bind fun x => led W x bs
  | [], bs, w => rfl
  | a :: as, bs, w => by
    show (mv W w a).bind (fun x => led W x (as ++ bs)) = ((mv W w a).bind fun x => led W x as).bind _
    cases mv W w a with
    | none => rfl
    | some y => exact led_app (as := as)
theorem mv_mvD {W : Web} {w : Wk} (m : Mv) : mv W w (mvD m) = okW (mvOnceM W w m) := by
  unfold mv mvOnce
  rw [toMv_mvD]
  rfl
/-! ### going along -/
def absI (i : Int) : Int := if i < 0 then -i else i
def restI (P x : Int) : Int := x % absI P
def manyI (P x : Int) : Int := (x - restI P x).fdiv P
theorem absI_pos {P : Int} (h : P ≠ 0) : 0 < absI P := by
  unfold absI
  split <;> omega
theorem absI_le {P : Int} (h : P.natAbs ≤ 1000) : absI P ≤ 1000 := by
  unfold absI
  split <;> omega
theorem rest_lo {P x : Int} (h : P ≠ 0) : 0 ≤ restI P x := Int.emod_nonneg _ (by have := absI_pos h; omega)
theorem rest_hi {P x : Int} (h : P ≠ 0) : restI P x < absI P := Int.emod_lt_of_pos _ (absI_pos h)
theorem rest_many {P x : Int} (h : P ≠ 0) : x - P * manyI P x = restI P x := by
  unfold manyI
  have hd : absI P ∣ (x - restI P x) := by
    unfold restI
    have e := Int.emod_add_mul_ediv x (absI P)
    refine ⟨x / absI P, ?_⟩
    omega
  have hd2 : P ∣ (x - restI P x) := by
    refine Int.dvd_trans ?_ hd
    unfold absI
    split
    · exact Int.dvd_neg.mpr (Int.dvd_refl P)
    · exact Int.dvd_refl P
  have e := Int.mul_fdiv_cancel' hd2
  omega
abbrev Go := List Kp × Int
def popsB (kept : List Kp) (r : Int) (c : Cr) : Bool := decide (r = 0) && match kept.getLast? with
  | some k => decide (k.2.1 = c.1) && decide (k.2.2 = -c.2)
  | none => false
def lastR (kept : List Kp) : Int := match kept.getLast? with
  | some k => k.1
  | none => 0
def eA (W : Web) (c : Cr) : Int := (ends W c.1 c.2).2.2.1
def eB (W : Web) (c : Cr) : Int := (ends W c.1 c.2).2.2.2
def gR (W : Web) (g : Go) (x : Cr × Int) : Int := restI (eA W x.1) g.2
def gM (W : Web) (g : Go) (x : Cr × Int) : Int := manyI (eA W x.1) g.2
def gP (W : Web) (g : Go) (x : Cr × Int) : Bool := popsB g.1 (gR W g x) x.1
def gN (W : Web) (g : Go) (x : Cr × Int) : Int := eB W x.1 * gM W g x + x.2
def turnG (W : Web) (g : Go) (x : Cr × Int) : Go :=
  if gP W g x = true then (g.1.dropLast, lastR g.1 + gN W g x) else (g.1 ++ [(gR W g x, x.1.1, x.1.2)], gN W g x)
def goAll (W : Web) (g : Go) (xs : List (Cr × Int)) : Go := xs.foldl (turnG W) g
def begin (w : Wk) : Go := ([], w.ts.getD 0 0)
def reducedM (W : Web) (w : Wk) : Go := goAll W (begin w) w.sts
def walkOf (room : Int) (g : Go) : Wk := ⟨room, g.1.map (·.1) ++ [g.2], g.1.map (·.2)⟩
def plainM (W : Web) (w : Wk) : Wk := walkOf w.room (reducedM W w)
def movesG (W : Web) (g : Go) (x : Cr × Int) : List Mv :=
  (if gM W g x = 0 then [] else [.carry (g.1.length + 1) (gM W g x)]) ++ (if gP W g x = true then [.strike g.1.length] else [])
def dueM (W : Web) : Go → List (Cr × Int) → List Mv
  | _, [] => []
  | g, x :: xs => movesG W g x ++ dueM W (turnG W g x) xs
def due (W : Web) (w : Wk) : List Mv := dueM W (begin w) w.sts
def chkG (W : Web) (g : Go) (x : Cr × Int) : Bool := inB (gN W g x) && (!gP W g x || inB (lastR g.1 + gN W g x))
def chkAll (W : Web) : Go → List (Cr × Int) → Bool
  | _, [] => true
  | g, x :: xs => chkG W g x && chkAll W (turnG W g x) xs
/-- the plain moves, none where a number is too great -/
def pm (W : Web) (w : Wk) : Option (List Mv) := if chkAll W (begin w) w.sts = true then some (due W w) else none
/-- on the way: what is kept, then what is still to come -/
def mid (room : Int) (g : Go) (xs : List (Cr × Int)) : Wk := ⟨room, g.1.map (·.1) ++ g.2 :: xs.map (·.2), g.1.map (·.2) ++ xs.map (·.1)⟩
theorem zip_fst {α β : Type} : ∀ {as : List α} {bs : List β}, as.length = bs.length → (as.zip bs).map (·.1) = as
  | [], [], _ => rfl
  | a :: as, b :: bs, h => by
    rw [List.zip_cons_cons, List.map_cons, zip_fst (by simpa using h)]
  | [], _ :: _, h => by cases h
  | _ :: _, [], h => by cases h
theorem zip_snd {α β : Type} : ∀ {as : List α} {bs : List β}, as.length = bs.length → (as.zip bs).map (·.2) = bs
  | [], [], _ => rfl
  | a :: as, b :: bs, h => by
    rw [List.zip_cons_cons, List.map_cons, zip_snd (by simpa using h)]
  | [], _ :: _, h => by cases h
  | _ :: _, [], h => by cases h
theorem Wk.Ok.parts {w : Wk} (h : w.Ok) : ∃ k r, w.ts = k :: r ∧ r.length = w.cs.length := by
  have hl := h.len
  cases e : w.ts with
  | nil => rw [e] at hl; cases hl
  | cons k r =>
    rw [e] at hl
    exact ⟨k, r, rfl, by simpa using hl⟩
theorem mid_begin {w : Wk} (h : w.Ok) : mid w.room (begin w) w.sts = w := by
  obtain ⟨k, r, e, hl⟩ := h.parts
  obtain ⟨room, ts, cs⟩ := w
  have e' : ts = k :: r := e
  subst e'
  have hl' : cs.length = r.length := hl.symm
  unfold mid begin Wk.sts
  simp only [List.map_nil, List.nil_append, List.tail_cons, zip_fst hl', zip_snd hl']
  rfl
theorem mid_end (room : Int) (g : Go) : mid room g [] = walkOf room g := by
  unfold mid walkOf
  simp
theorem sts_cs {w : Wk} (h : w.Ok) : w.sts.map (·.1) = w.cs := by
  obtain ⟨k, r, e, hl⟩ := h.parts
  unfold Wk.sts
  rw [e]
  exact zip_fst (by simpa using hl.symm)
theorem sts_len {w : Wk} (h : w.Ok) : w.sts.length = w.cs.length := by
  rw [← List.length_map (f := (·.1)), sts_cs h]
theorem getD_mid {α : Type} (as : List α) (x : α) (bs : List α) (d : α) : (as ++ x :: bs).getD as.length d = x := by
  rw [List.getD_eq_getElem?_getD, List.getElem?_append_right (Nat.le_refl _), Nat.sub_self]
  rfl
theorem set_mid {α : Type} (as : List α) (x y : α) (bs : List α) : (as ++ x :: bs).set as.length y = as ++ y :: bs := by
  rw [List.set_append_right _ _ (Nat.le_refl _), Nat.sub_self]
  rfl
theorem getD_mid1 {α : Type} (as : List α) (x y : α) (bs : List α) (d : α) : (as ++ x :: y :: bs).getD (as.length + 1) d = y := by
  rw [List.getD_eq_getElem?_getD, List.getElem?_append_right (by omega), show as.length + 1 - as.length = 1 by omega]
  rfl
theorem set_mid1 {α : Type} (as : List α) (x y z : α) (bs : List α) : (as ++ x :: y :: bs).set (as.length + 1) z = as ++ x :: z :: bs := by
  rw [List.set_append_right _ _ (by omega), show as.length + 1 - as.length = 1 by omega]
  rfl
theorem inB_small {i : Int} (h : 0 ≤ i) (h2 : i < 1000) : inB i = true := by
  unfold inB TB
  rw [Bool.and_eq_true, decide_eq_true_eq, decide_eq_true_eq]
  have e : (1000 : Int) < 10 ^ 300 := by decide
  omega
theorem fits_cs {w : Wk} (h : w.fits = true) : w.cs.length ≤ 60 := by
  unfold Wk.fits at h
  rw [Bool.and_eq_true, decide_eq_true_eq] at h
  exact h.1
theorem fits_ts {w : Wk} (h : w.fits = true) : ∀ i ∈ w.ts, inB i = true := by
  unfold Wk.fits at h
  rw [Bool.and_eq_true] at h
  exact List.all_eq_true.mp h.2
theorem fits_iff {w : Wk} : w.fits = true ↔ w.cs.length ≤ 60 ∧ ∀ i ∈ w.ts, inB i = true := by
  unfold Wk.fits
  rw [Bool.and_eq_true, decide_eq_true_eq, List.all_eq_true]
/-- the carry of a turn -/
def mid1 (W : Web) (room : Int) (g : Go) (x : Cr × Int) (xs : List (Cr × Int)) : Wk := ⟨room, g.1.map (·.1) ++ gR W g x :: gN W g x :: xs.map (·.2), g.1.map (·.2) ++ x.1 :: xs.map (·.1)⟩
theorem turn_carry {W : Web} (hW : W.Ok) {room : Int} {g : Go} {x : Cr × Int} {xs : List (Cr × Int)} (hc : Cro W x.1) : carry W (mid room g (x :: xs)) (g.1.length + 1) (gM W g x) = mid1 W room g x xs := by
  unfold carry mid mid1
  have e0 : ((g.1.length : Int) + 1).toNat = g.1.length + 1 := by omega
  have e1 : g.1.length + 1 - 1 = g.1.length := by omega
  have h1 : (g.1.map (·.2) ++ (x :: xs).map (·.1)).getD g.1.length (0, 0) = x.1 := by
    have := getD_mid (g.1.map (·.2)) x.1 (xs.map (·.1)) (0, 0)
    rw [List.length_map] at this
    exact this
  have h2 : (g.1.map (·.1) ++ g.2 :: (x :: xs).map (·.2)).getD g.1.length 0 = g.2 := by
    have := getD_mid (g.1.map (·.1)) g.2 ((x :: xs).map (·.2)) 0
    rw [List.length_map] at this
    exact this
  have h3 : ∀ y, (g.1.map (·.1) ++ g.2 :: (x :: xs).map (·.2)).set g.1.length y = g.1.map (·.1) ++ y :: x.2 :: xs.map (·.2) := fun y => by
    have := set_mid (g.1.map (·.1)) g.2 y ((x :: xs).map (·.2))
    rw [List.length_map] at this
    exact this
  have h4 : ∀ y, (g.1.map (·.1) ++ y :: x.2 :: xs.map (·.2)).getD (g.1.length + 1) 0 = x.2 := fun y => by
    have := getD_mid1 (g.1.map (·.1)) y x.2 (xs.map (·.2)) 0
    rw [List.length_map] at this
    exact this
  have h5 : ∀ y z, (g.1.map (·.1) ++ y :: x.2 :: xs.map (·.2)).set (g.1.length + 1) z = g.1.map (·.1) ++ y :: z :: xs.map (·.2) := fun y z => by
    have := set_mid1 (g.1.map (·.1)) y x.2 z (xs.map (·.2))
    rw [List.length_map] at this
    exact this
  simp only [e0, e1, h1, h2, h3, h4, h5]
  have hr : g.2 - (ends W x.1.1 x.1.2).2.2.1 * gM W g x = gR W g x := rest_many (hW.ends (t := x.1.1) (s := x.1.2) hc).1
  have hn : x.2 + (ends W x.1.1 x.1.2).2.2.2 * gM W g x = gN W g x := by
    unfold gN eB
    omega
  rw [hr, hn]
  rfl
theorem turn_same {W : Web} (hW : W.Ok) {room : Int} {g : Go} {x : Cr × Int} {xs : List (Cr × Int)} (hc : Cro W x.1) (h : gM W g x = 0) : mid room g (x :: xs) = mid1 W room g x xs := by
  have hr : g.2 - (ends W x.1.1 x.1.2).2.2.1 * gM W g x = gR W g x := rest_many (hW.ends (t := x.1.1) (s := x.1.2) hc).1
  rw [h] at hr
  have hn : gN W g x = x.2 := by
    unfold gN
    rw [h]
    omega
  have e : g.2 = gR W g x := by omega
  unfold mid mid1
  rw [hn, ← e]
  rfl
theorem getLast?_split {α : Type} {l : List α} {a : α} (h : l.getLast? = some a) : l = l.dropLast ++ [a] := by
  have hne : l ≠ [] := fun z => by
    subst z
    cases h
  rw [List.getLast?_eq_some_getLast hne] at h
  cases h
  exact (List.dropLast_concat_getLast hne).symm
theorem turn_strike {W : Web} {room : Int} {g : Go} {x : Cr × Int} {xs : List (Cr × Int)} (h : gP W g x = true) :
    1 ≤ g.1.length ∧ strikeN (mid1 W room g x xs) g.1.length = some (mid room (g.1.dropLast, lastR g.1 + gN W g x) xs) := by
  unfold gP popsB at h
  rw [Bool.and_eq_true, decide_eq_true_eq] at h
  obtain ⟨h0, h1⟩ := h
  cases hk : g.1.getLast? with
  | none => rw [hk] at h1; cases h1
  | some k =>
    rw [hk] at h1
    simp only [Bool.and_eq_true, decide_eq_true_eq] at h1
    have hs := getLast?_split hk
    have hlr : lastR g.1 = k.1 := by
      unfold lastR
      rw [hk]
    generalize hd : g.1.dropLast = d at hs
    have hl : g.1.length = d.length + 1 := by
      rw [hs, List.length_append]
      rfl
    refine ⟨by omega, ?_⟩
    unfold strikeN mid1 mid
    rw [hlr, hl, hs, h0]
    simp only [List.map_append, List.map_cons, List.map_nil, List.append_assoc, List.cons_append, List.nil_append, Nat.add_sub_cancel]
    have a1 : (d.map (·.1) ++ k.1 :: 0 :: gN W g x :: xs.map (·.2)).getD (d.length + 1) 0 = 0 := by
      have := getD_mid1 (d.map (·.1)) k.1 0 (gN W g x :: xs.map (·.2)) 0
      rw [List.length_map] at this
      exact this
    have a2 : (d.map (·.1) ++ k.1 :: 0 :: gN W g x :: xs.map (·.2)).getD d.length 0 = k.1 := by
      have := getD_mid (d.map (·.1)) k.1 (0 :: gN W g x :: xs.map (·.2)) 0
      rw [List.length_map] at this
      exact this
    have a3 : (d.map (·.1) ++ k.1 :: 0 :: gN W g x :: xs.map (·.2)).getD (d.length + 1 + 1) 0 = gN W g x := by
      rw [List.getD_eq_getElem?_getD, List.getElem?_append_right (by simp; omega), List.length_map, show d.length + 1 + 1 - d.length = 2 by omega]
      rfl
    have a4 : (d.map (·.2) ++ k.2 :: x.1 :: xs.map (·.1)).getD d.length (0, 0) = k.2 := by
      have := getD_mid (d.map (·.2)) k.2 (x.1 :: xs.map (·.1)) (0, 0)
      rw [List.length_map] at this
      exact this
    have a5 : (d.map (·.2) ++ k.2 :: x.1 :: xs.map (·.1)).getD (d.length + 1) (0, 0) = x.1 := by
      have := getD_mid1 (d.map (·.2)) k.2 x.1 (xs.map (·.1)) (0, 0)
      rw [List.length_map] at this
      exact this
    rw [a1, a2, a3, a4, a5, if_pos ⟨rfl, Prod.ext h1.1 h1.2⟩]
    have t1 : (d.map (·.1) ++ k.1 :: 0 :: gN W g x :: xs.map (·.2)).take d.length = d.map (·.1) := by
      rw [List.take_append_of_le_length (by simp), List.take_of_length_le (by simp)]
    have t2 : (d.map (·.2) ++ k.2 :: x.1 :: xs.map (·.1)).take d.length = d.map (·.2) := by
      rw [List.take_append_of_le_length (by simp), List.take_of_length_le (by simp)]
    have t3 : (d.map (·.1) ++ k.1 :: 0 :: gN W g x :: xs.map (·.2)).drop (d.length + 1 + 2) = xs.map (·.2) := by
      rw [List.drop_append, List.length_map, List.drop_of_length_le (by simp; omega), show d.length + 1 + 2 - d.length = 3 by omega]
      rfl
    have t4 : (d.map (·.2) ++ k.2 :: x.1 :: xs.map (·.1)).drop (d.length + 1 + 1) = xs.map (·.1) := by
      rw [List.drop_append, List.length_map, List.drop_of_length_le (by simp; omega), show d.length + 1 + 1 - d.length = 2 by omega]
      rfl
    rw [t1, t2, t3, t4]
theorem fits_mid1 {W : Web} (hW : W.Ok) {room : Int} {g : Go} {x : Cr × Int} {xs : List (Cr × Int)} (hc : Cro W x.1) (hf : (mid room g (x :: xs)).fits = true) : (mid1 W room g x xs).fits = inB (gN W g x) := by
  have h1 := fits_cs hf
  have h2 := fits_ts hf
  have hlo := rest_lo (x := g.2) (hW.ends (t := x.1.1) (s := x.1.2) hc).1
  have hhi := rest_hi (x := g.2) (hW.ends (t := x.1.1) (s := x.1.2) hc).1
  have hle := absI_le (hW.ends (t := x.1.1) (s := x.1.2) hc).2.2.1
  have hr : inB (gR W g x) = true := inB_small hlo (by
    have : gR W g x < absI (ends W x.1.1 x.1.2).2.2.1 := hhi
    omega)
  cases hb : inB (gN W g x) with
  | true =>
    refine fits_iff.mpr ⟨?_, fun i hi => ?_⟩
    · have e : (mid1 W room g x xs).cs.length = (mid room g (x :: xs)).cs.length := by
        unfold mid1 mid
        simp
      rw [e]
      exact h1
    · have hi' : i ∈ g.1.map (·.1) ++ gR W g x :: gN W g x :: xs.map (·.2) := hi
      rcases List.mem_append.mp hi' with q | q
      · exact h2 i (by unfold mid; exact List.mem_append_left _ q)
      · rcases List.mem_cons.mp q with q | q
        · rw [q]; exact hr
        · rcases List.mem_cons.mp q with q | q
          · rw [q]; exact hb
          · exact h2 i (by unfold mid; exact List.mem_append_right _ (List.mem_cons_of_mem _ (List.mem_cons_of_mem _ q)))
  | false =>
    cases hq : (mid1 W room g x xs).fits with
    | false => rfl
    | true =>
      have := fits_ts hq (gN W g x) (by unfold mid1; exact List.mem_append_right _ (List.mem_cons_of_mem _ List.mem_cons_self))
      rw [hb] at this
      cases this
theorem fits_pop {W : Web} {room : Int} {g : Go} {x : Cr × Int} {xs : List (Cr × Int)} (hf : (mid1 W room g x xs).fits = true) : (mid room (g.1.dropLast, lastR g.1 + gN W g x) xs).fits = inB (lastR g.1 + gN W g x) := by
  have h1 := fits_cs hf
  have h2 := fits_ts hf
  cases hb : inB (lastR g.1 + gN W g x) with
  | true =>
    refine fits_iff.mpr ⟨?_, fun i hi => ?_⟩
    · have e : (mid room (g.1.dropLast, lastR g.1 + gN W g x) xs).cs.length ≤ (mid1 W room g x xs).cs.length := by
        unfold mid1 mid
        simp
        omega
      omega
    · have hi' : i ∈ g.1.dropLast.map (·.1) ++ (lastR g.1 + gN W g x) :: xs.map (·.2) := hi
      rcases List.mem_append.mp hi' with q | q
      · refine h2 i ?_
        unfold mid1
        refine List.mem_append_left _ ?_
        obtain ⟨a, ha, hb⟩ := List.mem_map.mp q
        exact List.mem_map.mpr ⟨a, List.dropLast_subset _ ha, hb⟩
      · rcases List.mem_cons.mp q with q | q
        · rw [q]; exact hb
        · exact h2 i (by unfold mid1; exact List.mem_append_right _ (List.mem_cons_of_mem _ (List.mem_cons_of_mem _ q)))
  | false =>
    cases hq : (mid room (g.1.dropLast, lastR g.1 + gN W g x) xs).fits with
    | false => rfl
    | true =>
      have := fits_ts hq (lastR g.1 + gN W g x) (by unfold mid; exact List.mem_append_right _ List.mem_cons_self)
      rw [hb] at this
      cases this
theorem okW_of (w : Wk) : okW (some w) = if w.fits = true then some w else none := by
  unfold okW
  rw [Option.filter_some]
/-- one turn: the moves lead on if the numbers are within the bounds, else they lead nowhere -/
theorem led_turn {W : Web} (hW : W.Ok) {room : Int} {g : Go} {x : Cr × Int} {xs : List (Cr × Int)} (hc : Cro W x.1) (hf : (mid room g (x :: xs)).fits = true) :
    led W (mid room g (x :: xs)) (mvs (movesG W g x)) = if chkG W g x = true then some (mid room (turnG W g x) xs) else none := by
  have hb := fits_mid1 (room := room) (xs := xs) hW hc hf
  -- the carry
  have first : ∀ rest : List PyData, led W (mid room g (x :: xs)) (mvs (if gM W g x = 0 then [] else [.carry (g.1.length + 1) (gM W g x)]) ++ rest) = if inB (gN W g x) = true then led W (mid1 W room g x xs) rest else none := fun rest => by
    by_cases h0 : gM W g x = 0
    · rw [if_pos h0, turn_same hW hc h0]
      have hb2 : inB (gN W g x) = true := by
        rw [← hb, ← turn_same hW hc h0]
        exact hf
      rw [if_pos hb2]
      rfl
    · rw [if_neg h0]
      show (mv W (mid room g (x :: xs)) (mvD (.carry (g.1.length + 1) (gM W g x)))).bind (fun y => led W y ([] ++ rest)) = _
      rw [mv_mvD]
      have hcond : (1 : Int) ≤ (g.1.length : Int) + 1 ∧ (g.1.length : Int) + 1 ≤ (mid room g (x :: xs)).cs.length := by
        have e : (mid room g (x :: xs)).cs.length = g.1.length + (xs.length + 1) := by
          unfold mid
          simp
        rw [e]
        omega
      have e1 : mvOnceM W (mid room g (x :: xs)) (.carry (g.1.length + 1) (gM W g x)) = some (mid1 W room g x xs) := by
        simp only [mvOnceM]
        rw [if_pos hcond, turn_carry hW hc]
      rw [e1, okW_of, hb]
      cases inB (gN W g x) <;> rfl
  unfold movesG mvs
  rw [List.map_append]
  have f := first ((if gP W g x = true then [Mv.strike g.1.length] else []).map mvD)
  unfold mvs at f
  rw [f]
  unfold chkG turnG
  cases hN : inB (gN W g x) with
  | false => rfl
  | true =>
    rw [if_pos rfl, Bool.true_and]
    cases hP : gP W g x with
    | false =>
      simp only [Bool.false_eq_true, if_false, Bool.not_false, Bool.true_or, if_true]
      show some (mid1 W room g x xs) = _
      unfold mid1 mid
      simp
    | true =>
      simp only [if_true, Bool.not_true, Bool.false_or]
      obtain ⟨hl, hs⟩ := turn_strike (room := room) (xs := xs) hP
      show (mv W (mid1 W room g x xs) (mvD (.strike g.1.length))).bind (fun y => led W y []) = _
      rw [mv_mvD]
      have hcond : (1 : Int) ≤ (g.1.length : Int) ∧ (g.1.length : Int) < (mid1 W room g x xs).cs.length := by
        have e : (mid1 W room g x xs).cs.length = g.1.length + (xs.length + 1) := by
          unfold mid1
          simp
        rw [e]
        omega
      have e1 : mvOnceM W (mid1 W room g x xs) (.strike g.1.length) = some (mid room (g.1.dropLast, lastR g.1 + gN W g x) xs) := by
        simp only [mvOnceM]
        rw [if_pos hcond]
        unfold strike
        rw [Int.toNat_natCast]
        exact hs
      have hf1 : (mid1 W room g x xs).fits = true := hb.trans hN
      rw [e1, okW_of, fits_pop hf1]
      cases inB (lastR g.1 + gN W g x) <;> rfl
theorem led_due {W : Web} (hW : W.Ok) {room : Int} : ∀ (xs : List (Cr × Int)) (g : Go), (∀ x ∈ xs, Cro W x.1) → (mid room g xs).fits = true →
    led W (mid room g xs) (mvs (dueM W g xs)) = if chkAll W g xs = true then some (mid room (goAll W g xs) []) else none
  | [], g, _, _ => rfl
  | x :: xs, g, hc, hf => by
    have ht := led_turn (room := room) (xs := xs) hW (hc x List.mem_cons_self) hf
    unfold dueM mvs
    rw [List.map_append]
    rw [show led W (mid room g (x :: xs)) ((movesG W g x).map mvD ++ (dueM W (turnG W g x) xs).map mvD) = _ from led_app]
    unfold mvs at ht
    rw [ht]
    unfold chkAll
    cases hk : chkG W g x with
    | false => rfl
    | true =>
      simp only [if_true, Bool.true_and, Option.bind_some]
      have hin : (mid room (turnG W g x) xs).fits = true := by
        rw [if_pos hk] at ht
        -- the last move led to it, or it is the walk itself
        cases hm : (movesG W g x).map mvD with
        | nil =>
          rw [hm] at ht
          have e : mid room g (x :: xs) = mid room (turnG W g x) xs := Option.some.inj ht
          rw [← e]
          exact hf
        | cons a as =>
          rw [hm] at ht
          have gen : ∀ (ds : List PyData) (w y : Wk), w.fits = true → led W w ds = some y → y.fits = true := by
            intro ds
            induction ds with
            | nil =>
              intro w y h e
              cases e
              exact h
            | cons d ds ih =>
              intro w y h e
              unfold led at e
              cases q : mv W w d with
              | none => rw [q] at e; cases e
              | some z =>
                rw [q] at e
                exact ih z y (okW_some q).2 e
          exact gen _ _ _ hf ht
      have ih := led_due hW (room := room) xs (turnG W g x) (fun y hy => hc y (List.mem_cons_of_mem _ hy)) hin
      unfold mvs at ih
      exact ih
/-! ### what moves lead to; moves taken back -/
theorem cros_of {W : Web} {w : Wk} (h : w.In W) : ∀ x ∈ w.sts, Cro W x.1 := fun x hx => by
  obtain ⟨u, hp⟩ := h.path
  refine hp.cro x.1 ?_
  rw [← sts_cs h.ok]
  exact List.mem_map_of_mem hx
theorem led_pm {W : Web} (hW : W.Ok) {w : Wk} (h : w.In W) (hf : w.fits = true) : led W w (mvs (due W w)) = if chkAll W (begin w) w.sts = true then some (plainM W w) else none := by
  have q := led_due hW (room := w.room) w.sts (begin w) (cros_of h) (by rw [mid_begin h.ok]; exact hf)
  rw [mid_begin h.ok, mid_end] at q
  exact q
theorem pm_some {W : Web} {w : Wk} {ms : List Mv} (h : pm W w = some ms) : ms = due W w ∧ chkAll W (begin w) w.sts = true := by
  unfold pm at h
  split at h
  · rename_i hc
    cases h
    exact ⟨rfl, hc⟩
  · cases h
theorem pm_none {W : Web} {w : Wk} (h : pm W w = none) : chkAll W (begin w) w.sts = false := by
  unfold pm at h
  split at h
  · cases h
  · rename_i hc
    cases q : chkAll W (begin w) w.sts with
    | true => exact absurd q hc
    | false => rfl
def takeBack (w : Wk) : Mv → Mv
  | .carry i m => .carry i (-m)
  | .strike i => .put (i - 1) (w.cs.getD (i - 1).toNat (0, 0)).1 (w.cs.getD (i - 1).toNat (0, 0)).2 (w.ts.getD (i - 1).toNat 0)
  | .put i _ _ _ => .strike (i + 1)
def notPut : Mv → Bool
  | .put _ _ _ _ => false
  | _ => true
theorem getD_set_self {α : Type} {l : List α} {i : Nat} {x d : α} (h : i < l.length) : (l.set i x).getD i d = x := by
  rw [List.getD_eq_getElem?_getD, List.getElem?_set_self h]
  rfl
theorem getD_set_ne {α : Type} {l : List α} {i j : Nat} {x d : α} (h : i ≠ j) : (l.set i x).getD j d = l.getD j d := by
  rw [List.getD_eq_getElem?_getD, List.getD_eq_getElem?_getD, List.getElem?_set_ne h]
theorem set_getD_self {α : Type} {l : List α} {i : Nat} {d : α} (h : i < l.length) : l.set i (l.getD i d) = l := by
  rw [List.getD_eq_getElem?_getD, List.getElem?_eq_getElem h]
  exact List.set_getElem_self h
theorem carry_back {W : Web} {w : Wk} {i m : Int} (hl : w.ts.length = w.cs.length + 1) (h1 : 1 ≤ i) (h2 : i ≤ w.cs.length) : carry W (carry W w i m) i (-m) = w := by
  obtain ⟨room, ts, cs⟩ := w
  have hl : ts.length = cs.length + 1 := hl
  have h2 : i ≤ (cs.length : Int) := h2
  unfold carry
  simp only
  generalize (ends W (cs.getD (i.toNat - 1) (0, 0)).1 (cs.getD (i.toNat - 1) (0, 0)).2).2.2.1 = P
  generalize (ends W (cs.getD (i.toNat - 1) (0, 0)).1 (cs.getD (i.toNat - 1) (0, 0)).2).2.2.2 = Q
  generalize hn : i.toNat = n
  have n1 : 1 ≤ n := by omega
  have n2 : n ≤ cs.length := by omega
  have ne : n - 1 ≠ n := by omega
  have e1 : (ts.set (n - 1) (ts.getD (n - 1) 0 - P * m)).getD n 0 = ts.getD n 0 := getD_set_ne ne
  rw [e1]
  generalize hA : ts.getD (n - 1) 0 = a
  generalize hB : ts.getD n 0 = b
  have e2 : ((ts.set (n - 1) (a - P * m)).set n (b + Q * m)).getD (n - 1) 0 = a - P * m := by
    rw [getD_set_ne (Ne.symm ne), getD_set_self (by omega)]
  rw [e2]
  have e3 : a - P * m - P * -m = a := by
    rw [Int.mul_neg]
    omega
  rw [e3]
  have e4 : (((ts.set (n - 1) (a - P * m)).set n (b + Q * m)).set (n - 1) a).getD n 0 = b + Q * m := by
    rw [getD_set_ne ne, getD_set_self (by rw [List.length_set]; omega)]
  rw [e4]
  have e5 : b + Q * m + Q * -m = b := by
    rw [Int.mul_neg]
    omega
  rw [e5]
  have e6 : (((ts.set (n - 1) (a - P * m)).set n (b + Q * m)).set (n - 1) a).set n b = ts := by
    rw [List.set_comm (b + Q * m) a (Ne.symm ne), List.set_set, List.set_set, ← hA, set_getD_self (by omega), ← hB, set_getD_self (by omega)]
  rw [e6]
theorem strike_back {W : Web} {w x : Wk} {i : Int} (h : w.In W) (h1 : 1 ≤ i) (h2 : i < w.cs.length) (e : strike w i = some x) :
    mvOnceM W x (takeBack w (.strike i)) = some w := by
  have hx := strike_in h h1 h2 e
  unfold strike strikeN at e
  split at e
  · rename_i hc
    obtain ⟨hc1, hc2⟩ := hc
    cases e
    obtain ⟨u, hp⟩ := h.path
    have hl := h.ok.len
    obtain ⟨room, ts, cs⟩ := w
    have hl : ts.length = cs.length + 1 := hl
    have h2 : i < (cs.length : Int) := h2
    generalize hn : i.toNat = n at hc1 hc2 hx
    have n1 : 1 ≤ n := by omega
    have n2 : n < cs.length := by omega
    have e0 : (i - 1).toNat = n - 1 := by omega
    have cr : Cro W (cs.getD (n - 1) (0, 0)) := by
      rw [List.getD_eq_getElem?_getD, List.getElem?_eq_getElem (by omega)]
      exact hp.cro _ (List.getElem_mem (l := cs) (by omega))
    simp only [takeBack, mvOnceM]
    rw [e0]
    have g1 : cs.getD (n - 1) (0, 0) = cs[n - 1] := by
      rw [List.getD_eq_getElem?_getD, List.getElem?_eq_getElem (by omega)]
      rfl
    have g2 : cs.getD n (0, 0) = cs[n] := by
      rw [List.getD_eq_getElem?_getD, List.getElem?_eq_getElem n2]
      rfl
    have t1 : ts.getD (n - 1) 0 = ts[n - 1] := by
      rw [List.getD_eq_getElem?_getD, List.getElem?_eq_getElem (by omega)]
      rfl
    have t2 : ts.getD n 0 = ts[n] := by
      rw [List.getD_eq_getElem?_getD, List.getElem?_eq_getElem (by omega)]
      rfl
    have t3 : ts.getD (n + 1) 0 = ts[n + 1] := by
      rw [List.getD_eq_getElem?_getD, List.getElem?_eq_getElem (by omega)]
      rfl
    have sc : cs = cs.take (n - 1) ++ cs[n - 1] :: cs[n] :: cs.drop (n + 1) := by
      have a1 : cs = cs.take (n - 1) ++ cs.drop (n - 1) := (List.take_append_drop _ _).symm
      have a2 : cs.drop (n - 1) = cs[n - 1] :: cs.drop n := by
        have := List.drop_eq_getElem_cons (l := cs) (i := n - 1) (by omega)
        rw [show n - 1 + 1 = n by omega] at this
        exact this
      have a3 : cs.drop n = cs[n] :: cs.drop (n + 1) := List.drop_eq_getElem_cons n2
      rw [a2, a3] at a1
      exact a1
    have st : ts = ts.take (n - 1) ++ ts[n - 1] :: ts[n] :: ts[n + 1] :: ts.drop (n + 2) := by
      have a1 : ts = ts.take (n - 1) ++ ts.drop (n - 1) := (List.take_append_drop _ _).symm
      have a2 : ts.drop (n - 1) = ts[n - 1] :: ts.drop n := by
        have := List.drop_eq_getElem_cons (l := ts) (i := n - 1) (by omega)
        rw [show n - 1 + 1 = n by omega] at this
        exact this
      have a3 : ts.drop n = ts[n] :: ts.drop (n + 1) := List.drop_eq_getElem_cons (by omega)
      have a4 : ts.drop (n + 1) = ts[n + 1] :: ts.drop (n + 2) := List.drop_eq_getElem_cons (by omega)
      rw [a2, a3, a4] at a1
      exact a1
    rw [g1] at cr ⊢
    rw [g1, g2] at hc2
    rw [t2] at hc1
    rw [t1, t3]
    generalize hA : cs.take (n - 1) = A at sc
    generalize hB : cs.drop (n + 1) = B at sc
    generalize hC : ts.take (n - 1) = C at st
    generalize hD : ts.drop (n + 2) = D at st
    have lA : A.length = n - 1 := by
      rw [← hA, List.length_take]
      omega
    have lC : C.length = n - 1 := by
      rw [← hC, List.length_take]
      omega
    generalize cs[n - 1] = c1 at sc hc2 cr
    generalize cs[n] = c2 at sc hc2
    generalize ts[n - 1] = k1 at st
    generalize ts[n] = k2 at st hc1
    generalize ts[n + 1] = k3 at st
    have cond : 0 ≤ i - 1 ∧ i - 1 ≤ ((A ++ B).length : Int) ∧ 0 ≤ c1.1 ∧ c1.1 < (W.ties.length : Int) ∧ (c1.2 = 1 ∨ c1.2 = -1) := by
      refine ⟨by omega, ?_, cr.1, cr.2.1, cr.2.2⟩
      rw [List.length_append, lA]
      omega
    rw [if_pos cond]
    unfold putIn putN
    rw [e0]
    simp only
    -- the room
    rw [sc] at hp
    obtain ⟨y, p1, p2⟩ := Path.app.mp hp
    have p1' : Path W room A y := p1
    have hroom : roomAt W ⟨room, C ++ [k1 + k3] ++ D, A ++ B⟩ (n - 1) = y := by
      refine Path.roomAt (by show n - 1 ≤ (A ++ B).length; rw [List.length_append, lA]; omega) ?_
      show Path W room ((A ++ B).take (n - 1)) y
      rw [← lA, List.take_append_of_le_length (Nat.le_refl _), List.take_of_length_le (Nat.le_refl _)]
      exact p1'
    have hy : (ends W c1.1 c1.2).1 = y := p2.2.1
    rw [if_pos (hy.trans hroom.symm)]
    have q1 : (A ++ B).take (n - 1) = A := by
      rw [← lA, List.take_append_of_le_length (Nat.le_refl _), List.take_of_length_le (Nat.le_refl _)]
    have q2 : (A ++ B).drop (n - 1) = B := by
      rw [← lA, List.drop_append_of_le_length (Nat.le_refl _), List.drop_of_length_le (Nat.le_refl _)]
      rfl
    have q3 : (C ++ [k1 + k3] ++ D).take (n - 1) = C := by
      rw [List.append_assoc, ← lC, List.take_append_of_le_length (Nat.le_refl _), List.take_of_length_le (Nat.le_refl _)]
    have q4 : (C ++ [k1 + k3] ++ D).drop (n - 1 + 1) = D := by
      have : (C ++ [k1 + k3]).length = n - 1 + 1 := by rw [List.length_append, lC]; rfl
      rw [← this, List.drop_append_of_le_length (Nat.le_refl _), List.drop_of_length_le (Nat.le_refl _)]
      rfl
    have q5 : (C ++ [k1 + k3] ++ D).getD (n - 1) 0 = k1 + k3 := by
      rw [List.append_assoc, ← lC]
      exact getD_mid C (k1 + k3) D 0
    rw [q1, q2, q3, q4, q5]
    have e3 : k1 + k3 - k1 = k3 := by omega
    have ec : (c1.1, -c1.2) = c2 := by
      rw [hc2]
      simp
    rw [e3, ec, ← hc1]
    congr 1
    rw [Wk.mk.injEq]
    refine ⟨rfl, ?_, ?_⟩
    · rw [st]
      simp
    · rw [sc]
      simp
  · cases e
/-- each of such moves is taken back -/
theorem back_one {W : Web} {w x : Wk} {m : Mv} (h : w.In W) (hm : notPut m = true) (e : mvOnceM W w m = some x) : mvOnceM W x (takeBack w m) = some w := by
  cases m with
  | carry i m =>
    simp only [mvOnceM] at e
    split at e
    · rename_i hi
      cases e
      simp only [takeBack, mvOnceM]
      have hc : 1 ≤ i ∧ i ≤ ((carry W w i m).cs.length : Int) := hi
      rw [if_pos hc, carry_back h.ok.len hi.1 hi.2]
    · cases e
  | strike i =>
    simp only [mvOnceM] at e
    split at e
    · rename_i hi
      exact strike_back h hi.1 hi.2 e
    · cases e
  | put i t s a => cases hm
def backM (W : Web) : Wk → List Mv → List Mv
  | _, [] => []
  | w, m :: ms => backM W ((mv W w (mvD m)).getD w) ms ++ [takeBack w m]
theorem led_back {W : Web} : ∀ {ms : List Mv} {w x : Wk}, w.In W → w.fits = true → (∀ m ∈ ms, notPut m = true) → led W w (mvs ms) = some x → led W x (mvs (backM W w ms)) = some w
  | [], w, x, _, _, _, e => by
    cases e
    rfl
  | m :: ms, w, x, h, hf, hp, e => by
    have e' : (mv W w (mvD m)).bind (fun y => led W y (mvs ms)) = some x := e
    cases q : mv W w (mvD m) with
    | none => rw [q] at e'; cases e'
    | some y =>
      rw [q] at e'
      obtain ⟨hy, hyf⟩ := mv_in h q
      have ih := led_back hy hyf (fun z hz => hp z (List.mem_cons_of_mem _ hz)) e'
      unfold backM
      rw [q]
      show led W x (((backM W y ms) ++ [takeBack w m]).map mvD) = some w
      rw [List.map_append, led_app]
      unfold mvs at ih
      rw [ih]
      show (mv W y (mvD (takeBack w m))).bind (fun z => led W z []) = some w
      rw [mv_mvD] at q ⊢
      rw [back_one h (hp m List.mem_cons_self) (okW_some q).1, okW_of, if_pos hf]
      rfl
theorem moves_notPut {W : Web} {g : Go} {x : Cr × Int} : ∀ m ∈ movesG W g x, notPut m = true := fun m hm => by
  unfold movesG at hm
  rcases List.mem_append.mp hm with q | q
  · split at q
    · cases q
    · rw [List.mem_singleton.mp q]
      rfl
  · split at q
    · rw [List.mem_singleton.mp q]
      rfl
    · cases q
theorem due_notPut {W : Web} : ∀ {xs : List (Cr × Int)} {g : Go}, ∀ m ∈ dueM W g xs, notPut m = true
  | [], g, m, h => by cases h
  | x :: xs, g, m, h => by
    unfold dueM at h
    rcases List.mem_append.mp h with q | q
    · exact moves_notPut m q
    · exact due_notPut m q
theorem moves_len {W : Web} {g : Go} {x : Cr × Int} : (movesG W g x).length ≤ 2 := by
  unfold movesG
  split <;> split <;> simp
theorem due_len {W : Web} : ∀ {xs : List (Cr × Int)} {g : Go}, (dueM W g xs).length ≤ 2 * xs.length
  | [], g => Nat.zero_le _
  | x :: xs, g => by
    unfold dueM
    rw [List.length_append, List.length_cons]
    have h1 := moves_len (W := W) (g := g) (x := x)
    have h2 := due_len (W := W) (xs := xs) (g := turnG W g x)
    omega
theorem back_len {W : Web} : ∀ {ms : List Mv} {w : Wk}, (backM W w ms).length = ms.length
  | [], w => rfl
  | m :: ms, w => by
    unfold backM
    rw [List.length_append, back_len]
    rfl
/-! ### plain -/
def plainAt (W : Web) (w : Wk) (k : Nat) : Bool :=
  decide (0 ≤ w.ts.getD k 0) && decide (w.ts.getD k 0 < absI (eA W (w.cs.getD k (0, 0)))) &&
    !(decide (0 < k) && decide (w.ts.getD k 0 = 0) && decide (w.cs.getD k (0, 0) = ((w.cs.getD (k - 1) (0, 0)).1, -(w.cs.getD (k - 1) (0, 0)).2)))
def isPlainB (W : Web) (w : Wk) : Bool := (List.range w.cs.length).all (plainAt W w)
theorem isPlainB_iff {W : Web} {w : Wk} : isPlainB W w = true ↔ ∀ k, k < w.cs.length → plainAt W w k = true := by
  unfold isPlainB
  rw [List.all_eq_true]
  exact ⟨fun h k hk => h k (List.mem_range.mpr hk), fun h k hk => h k (List.mem_range.mp hk)⟩
/-- what is kept is plain -/
def KeptOk (W : Web) (kept : List Kp) : Prop := ∀ (k : Nat) (r t s : Int), kept[k]? = some (r, t, s) → 0 ≤ r ∧ r < absI (eA W (t, s)) ∧ ∀ (r0 t0 s0 : Int), 0 < k → kept[k - 1]? = some (r0, t0, s0) → r = 0 → ¬ (t0 = t ∧ s0 = -s)
theorem kept_turn {W : Web} (hW : W.Ok) {g : Go} {x : Cr × Int} (hc : Cro W x.1) (h : KeptOk W g.1) : KeptOk W (turnG W g x).1 := by
  unfold turnG
  cases hP : gP W g x with
  | true =>
    rw [if_pos rfl]
    intro k r t s e
    have e' : g.1.dropLast[k]? = some (r, t, s) := e
    rw [List.getElem?_dropLast] at e'
    split at e'
    · rename_i hk
      obtain ⟨a, b, c⟩ := h k r t s e'
      refine ⟨a, b, fun r0 t0 s0 h0 e0 => c r0 t0 s0 h0 ?_⟩
      have e0' : g.1.dropLast[k - 1]? = some (r0, t0, s0) := e0
      rw [List.getElem?_dropLast] at e0'
      split at e0'
      · exact e0'
      · cases e0'
    · cases e'
  | false =>
    rw [if_neg (by decide)]
    intro k r t s e
    have e' : (g.1 ++ [(gR W g x, x.1.1, x.1.2)])[k]? = some (r, t, s) := e
    by_cases hk : k < g.1.length
    · rw [List.getElem?_append_left hk] at e'
      obtain ⟨a, b, c⟩ := h k r t s e'
      refine ⟨a, b, fun r0 t0 s0 h0 e0 => c r0 t0 s0 h0 ?_⟩
      have e0' : (g.1 ++ [(gR W g x, x.1.1, x.1.2)])[k - 1]? = some (r0, t0, s0) := e0
      rw [List.getElem?_append_left (by omega)] at e0'
      exact e0'
    · have hk2 : k = g.1.length := by
        rcases Nat.lt_or_ge k (g.1.length + 1) with q | q
        · omega
        · rw [List.getElem?_eq_none (by simp; omega)] at e'
          cases e'
      subst hk2
      rw [List.getElem?_append_right (Nat.le_refl _), Nat.sub_self] at e'
      have e2 : (gR W g x, x.1.1, x.1.2) = (r, t, s) := by
        have q : some (gR W g x, x.1.1, x.1.2) = some (r, t, s) := e'
        exact Option.some.inj q
      cases e2
      refine ⟨rest_lo (hW.ends (t := x.1.1) (s := x.1.2) hc).1, rest_hi (hW.ends (t := x.1.1) (s := x.1.2) hc).1, fun r0 t0 s0 h0 e0 hr hop => ?_⟩
      have e0' : (g.1 ++ [(gR W g x, x.1.1, x.1.2)])[g.1.length - 1]? = some (r0, t0, s0) := e0
      rw [List.getElem?_append_left (by omega)] at e0'
      have hl : g.1.getLast? = some (r0, t0, s0) := by
        rw [List.getLast?_eq_getElem?]
        exact e0'
      unfold gP popsB at hP
      rw [hl] at hP
      simp only [hr, hop.1, hop.2, decide_true, Bool.and_self] at hP
      cases hP
theorem kept_all {W : Web} (hW : W.Ok) : ∀ {xs : List (Cr × Int)} {g : Go}, (∀ x ∈ xs, Cro W x.1) → KeptOk W g.1 → KeptOk W (goAll W g xs).1
  | [], g, _, h => h
  | x :: xs, g, hc, h => kept_all hW (xs := xs) (g := turnG W g x) (fun y hy => hc y (List.mem_cons_of_mem _ hy)) (kept_turn hW (hc x List.mem_cons_self) h)
theorem getD_some {α : Type} {l : List α} {i : Nat} {x d : α} (h : l[i]? = some x) : l.getD i d = x := by
  rw [List.getD_eq_getElem?_getD, h]
  rfl
theorem plain_isPlain {W : Web} (hW : W.Ok) {w : Wk} (h : w.In W) : isPlainB W (plainM W w) = true := by
  have hk : KeptOk W (reducedM W w).1 := kept_all hW (cros_of h) (fun k r t s e => by
    have : ([] : List Kp)[k]? = some (r, t, s) := e
    rw [List.getElem?_nil] at this
    cases this)
  rw [isPlainB_iff]
  intro k hlt
  unfold plainM walkOf at hlt ⊢
  generalize (reducedM W w) = g at hk hlt
  have hlt' : k < g.1.length := by
    have : k < (g.1.map (·.2)).length := hlt
    rw [List.length_map] at this
    exact this
  obtain ⟨⟨r, t, s⟩, he⟩ : ∃ z, g.1[k]? = some z := ⟨_, List.getElem?_eq_getElem hlt'⟩
  obtain ⟨a, b, c⟩ := hk k r t s he
  have e1 : (g.1.map (·.1) ++ [g.2]).getD k 0 = r := getD_some (by
    rw [List.getElem?_append_left (by rw [List.length_map]; exact hlt'), List.getElem?_map, he]
    rfl)
  have e2 : (g.1.map (·.2)).getD k (0, 0) = (t, s) := getD_some (by
    rw [List.getElem?_map, he]
    rfl)
  unfold plainAt
  simp only [e1, e2]
  rw [decide_eq_true a, decide_eq_true b]
  by_cases hk0 : 0 < k
  · obtain ⟨⟨r0, t0, s0⟩, he0⟩ : ∃ z, g.1[k - 1]? = some z := ⟨_, List.getElem?_eq_getElem (by omega)⟩
    have e3 : (g.1.map (·.2)).getD (k - 1) (0, 0) = (t0, s0) := getD_some (by
      rw [List.getElem?_map, he0]
      rfl)
    simp only [e3]
    by_cases hr : r = 0
    · have hn := c r0 t0 s0 hk0 he0 hr
      have : ¬ ((t, s) = (t0, -s0)) := fun q => hn (by
        rw [Prod.mk.injEq] at q
        exact ⟨q.1.symm, by omega⟩)
      simp [this]
    · simp [hr]
  · simp [hk0]
theorem turn_plain {W : Web} (hW : W.Ok) {g : Go} {x : Cr × Int} (hc : Cro W x.1) (h1 : 0 ≤ g.2) (h2 : g.2 < absI (eA W x.1)) (hp : gP W g x = false) : turnG W g x = (g.1 ++ [(g.2, x.1.1, x.1.2)], x.2) := by
  have hr : gR W g x = g.2 := Int.emod_eq_of_lt h1 h2
  have hm : gM W g x = 0 := by
    show manyI (eA W x.1) g.2 = 0
    unfold manyI
    have : restI (eA W x.1) g.2 = g.2 := hr
    rw [this, Int.sub_self]
    exact Int.zero_fdiv _
  unfold turnG
  rw [hp, if_neg (by decide), hr]
  unfold gN
  rw [hm, Int.mul_zero, Int.zero_add]
theorem zip_fst_take {α β : Type} : ∀ {as : List α} {bs : List β}, bs.length ≤ as.length → (as.zip bs).map Prod.fst = as.take bs.length
  | as, [], _ => by simp
  | a :: as, b :: bs, h => by
    rw [List.zip_cons_cons, List.map_cons, zip_fst_take (by simpa using h)]
    rfl
  | [], _ :: _, h => by cases h
theorem plain_fix {W : Web} (hW : W.Ok) {w : Wk} (h : w.In W) (hp : isPlainB W w = true) : plainM W w = w := by
  rw [isPlainB_iff] at hp
  have hl := h.ok.len
  have hsl := sts_len h.ok
  have hsc := sts_cs h.ok
  -- behind i steps: all are kept
  have key : ∀ i, i ≤ w.cs.length → goAll W (begin w) (w.sts.take i) = ((w.ts.zip w.cs).take i |>.map fun p => (p.1, p.2.1, p.2.2), w.ts.getD i 0) := by
    intro i
    induction i with
    | zero =>
      intro _
      rw [List.take_zero, List.take_zero]
      rfl
    | succ i ih =>
      intro hi
      have hi' : i < w.cs.length := by omega
      have ih := ih (by omega)
      have hst : w.sts[i]? = some (w.cs[i], w.ts[i + 1]'(by omega)) := by
        unfold Wk.sts
        rw [List.getElem?_zip_eq_some]
        refine ⟨List.getElem?_eq_getElem hi', ?_⟩
        rw [List.getElem?_tail, List.getElem?_eq_getElem (by omega)]
      have ets : w.ts.getD i 0 = w.ts[i]'(by omega) := getD_some (List.getElem?_eq_getElem (by omega))
      have ecs : w.cs.getD i (0, 0) = w.cs[i] := getD_some (List.getElem?_eq_getElem hi')
      have hpi := hp i hi'
      unfold plainAt at hpi
      rw [ets, ecs] at hpi
      simp only [Bool.and_eq_true, decide_eq_true_eq, Bool.not_eq_true'] at hpi
      obtain ⟨⟨p1, p2⟩, p3⟩ := hpi
      have etake : w.sts.take (i + 1) = w.sts.take i ++ [(w.cs[i], w.ts[i + 1]'(by omega))] := by
        rw [List.take_add_one, hst]
        rfl
      have ezip : (w.ts.zip w.cs).take (i + 1) = (w.ts.zip w.cs).take i ++ [(w.ts[i]'(by omega), w.cs[i])] := by
        rw [List.take_add_one]
        have : (w.ts.zip w.cs)[i]? = some (w.ts[i]'(by omega), w.cs[i]) := by
          rw [List.getElem?_zip_eq_some]
          exact ⟨List.getElem?_eq_getElem (by omega), List.getElem?_eq_getElem hi'⟩
        rw [this]
        rfl
      unfold goAll at ih ⊢
      rw [etake, List.foldl_append, ih]
      show turnG W _ _ = _
      have hcro : Cro W w.cs[i] := by
        obtain ⟨u, hpa⟩ := h.path
        exact hpa.cro _ (List.getElem_mem hi')
      rw [turn_plain hW (x := (w.cs[i], w.ts[i + 1]'(by omega))) hcro (by rw [ets]; exact p1) (by rw [ets]; exact p2) ?_]
      · rw [ezip, List.map_append, ets]
        have : w.ts.getD (i + 1) 0 = w.ts[i + 1]'(by omega) := getD_some (List.getElem?_eq_getElem (by omega))
        rw [this]
        rfl
      · -- not popped
        have hr : gR W (((w.ts.zip w.cs).take i |>.map fun p => ((p.1, p.2.1, p.2.2) : Kp)), w.ts.getD i 0) (w.cs[i], w.ts[i + 1]'(by omega)) = w.ts[i]'(by omega) := by
          rw [ets]
          exact Int.emod_eq_of_lt p1 p2
        unfold gP
        rw [hr]
        unfold popsB
        by_cases h0 : 0 < i
        · have hlast : ((w.ts.zip w.cs).take i |>.map fun p => ((p.1, p.2.1, p.2.2) : Kp)).getLast? = some (w.ts[i - 1]'(by omega), (w.cs[i - 1]'(by omega)).1, (w.cs[i - 1]'(by omega)).2) := by
            rw [List.getLast?_eq_getElem?, List.length_map, List.length_take, List.length_zip, List.getElem?_map, List.getElem?_take]
            have e1 : min i (min w.ts.length w.cs.length) - 1 = i - 1 := by omega
            rw [e1, if_pos (by omega)]
            have : (w.ts.zip w.cs)[i - 1]? = some (w.ts[i - 1]'(by omega), w.cs[i - 1]'(by omega)) := by
              rw [List.getElem?_zip_eq_some]
              exact ⟨List.getElem?_eq_getElem (by omega), List.getElem?_eq_getElem (by omega)⟩
            rw [this]
            rfl
          rw [hlast]
          have ecs1 : w.cs.getD (i - 1) (0, 0) = w.cs[i - 1]'(by omega) := getD_some (List.getElem?_eq_getElem (by omega))
          rw [ecs1] at p3
          by_cases hz : w.ts[i]'(by omega) = 0
          · rw [decide_eq_true hz, Bool.true_and]
            rw [decide_eq_true h0, decide_eq_true hz] at p3
            simp only [Bool.and_self, Bool.true_and, decide_eq_false_iff_not] at p3
            cases hq : (decide ((w.cs[i - 1]'(by omega)).1 = w.cs[i].1) && decide ((w.cs[i - 1]'(by omega)).2 = -w.cs[i].2)) with
            | false => exact hq
            | true =>
              rw [Bool.and_eq_true, decide_eq_true_eq, decide_eq_true_eq] at hq
              have hq2 : w.cs[i] = ((w.cs[i - 1]'(by omega)).1, -(w.cs[i - 1]'(by omega)).2) := Prod.ext hq.1.symm (show w.cs[i].2 = -(w.cs[i - 1]'(by omega)).2 by omega)
              exact absurd hq2 p3
          · rw [decide_eq_false hz, Bool.false_and]
        · have hi0 : i = 0 := by omega
          subst hi0
          simp
  have hfull := key w.cs.length (Nat.le_refl _)
  have et : w.sts.take w.cs.length = w.sts := List.take_of_length_le (by omega)
  rw [et] at hfull
  unfold plainM reducedM
  rw [hfull]
  have ez : (w.ts.zip w.cs).take w.cs.length = w.ts.zip w.cs := List.take_of_length_le (by rw [List.length_zip]; omega)
  rw [ez]
  obtain ⟨room, ts, cs⟩ := w
  have hl : ts.length = cs.length + 1 := hl
  unfold walkOf
  rw [Wk.mk.injEq]
  refine ⟨rfl, ?_, ?_⟩
  · show (((ts.zip cs).map fun p => ((p.1, p.2.1, p.2.2) : Kp)).map (·.1)) ++ [ts.getD cs.length 0] = ts
    rw [List.map_map]
    have e1 : ((ts.zip cs).map ((·.1) ∘ fun p => ((p.1, p.2.1, p.2.2) : Kp))) = ts.take cs.length := by
      have : ((·.1) ∘ fun p : Int × Cr => ((p.1, p.2.1, p.2.2) : Kp)) = Prod.fst := rfl
      rw [this]
      exact zip_fst_take (by omega)
    rw [e1]
    have e2 : ts.getD cs.length 0 = ts[cs.length]'(by omega) := getD_some (List.getElem?_eq_getElem (by omega))
    rw [e2]
    have : ts.take (cs.length + 1) = ts.take cs.length ++ [ts[cs.length]'(by omega)] := by
      rw [List.take_add_one, List.getElem?_eq_getElem (by omega)]
      rfl
    rw [← this]
    exact List.take_of_length_le (by omega)
  · show (((ts.zip cs).map fun p => ((p.1, p.2.1, p.2.2) : Kp)).map (·.2)) = cs
    rw [List.map_map]
    have : ((·.2) ∘ fun p : Int × Cr => ((p.1, p.2.1, p.2.2) : Kp)) = Prod.snd := rfl
    rw [this]
    exact List.map_snd_zip (by omega)
/-! ### isinstance over data -/
def tyN : PD → String
  | .none => "NoneType"
  | .bool _ => "bool"
  | .int _ => "int"
  | .str _ => "str"
  | .list _ => "list"
  | .tuple _ => "tuple"
  | .dict _ => "dict"
theorem ty_dp {K : PySem.W.Frag} {H : Hp} {v : V} {x : PD} (h : Dp K H v x) : TyX K H v (.type (tyN x)) := by
  cases h with
  | non => exact .base .non
  | bl b => exact .base (.bl b)
  | int i => exact .base (.int i)
  | str z => exact .base (.str z)
  | lst hs _ =>
    rcases hs with (e | ⟨o, e⟩) | ⟨o, its, n, e, c, _⟩
    · exact .base (.lst e)
    · exact .base (.frz e)
    · exact .kList e c
  | tup hs _ =>
    rcases hs with (e | ⟨o, e⟩) | ⟨o, its, n, e, c, _⟩
    · exact .base (.tup e)
    · exact .fTuple e
    · exact .kTuple e c
def isTupB : PD → Bool
  | .tuple _ => true
  | _ => false
def isStrB : PD → Bool
  | .str _ => true
  | _ => false
def isIntB : PD → Bool
  | .int _ => true
  | .bool _ => true
  | _ => false
def isBoolB : PD → Bool
  | .bool _ => true
  | _ => false
def wholeB : PD → Bool
  | .int _ => true
  | _ => false
section
variable {g : En} {Γ : List Bnd} {n : Nat} {Q : Rt → Nat → Prop} {te : TE} {N : List Bnd → Nat → Prop} {Rr : Rt → Nat → Prop}
theorem ev_isi {nm : String} {f : PD → Bool} (hf : ∀ x, isNon x = isNon x → (∀ ds, x ≠ .dict ds) → kitB (tyN x) nm = some (f x)) (h : Ev g te Γ n fun x n1 => (∀ ds, x.pd ≠ .dict ds) ∧ Q (.d (.bool (f x.pd))) n1) :
    Ev g (tCB (rIsi g.K) (tCons te (tCons (tC (.ty nm)) tNil))) Γ n Q := fun σ H A R k =>
  h σ H A _ fun x n1 v J ⟨hd, q⟩ A1 x1 r1 => ⟨v, .ty nm, .type (tyN x.pd), .type nm, f x.pd, rfl, .ty nm, ty_dp r1.dp, kit_ty (hf _ rfl hd), k _ _ _ J q A1 x1 (.bl _)⟩
theorem dp_nodict {K : PySem.W.Frag} {H : Hp} {v : V} {x : PD} (h : Dp K H v x) : ∀ ds, x ≠ .dict ds := fun ds e => by
  subst e
  cases h
theorem ev_isi' {nm : String} {f : PD → Bool} (hf : ∀ x, (∀ ds, x ≠ .dict ds) → kitB (tyN x) nm = some (f x)) (h : Ev g te Γ n fun x n1 => Q (.d (.bool (f x.pd))) n1) :
    Ev g (tCB (rIsi g.K) (tCons te (tCons (tC (.ty nm)) tNil))) Γ n Q := fun σ H A R k =>
  h σ H A _ fun x n1 v J q A1 x1 r1 => ⟨v, .ty nm, .type (tyN x.pd), .type nm, f x.pd, rfl, .ty nm, ty_dp r1.dp, kit_ty (hf _ (dp_nodict r1.dp)), k _ _ _ J q A1 x1 (.bl _)⟩
theorem ev_isTup (h : Ev g te Γ n fun x n1 => Q (.d (.bool (isTupB x.pd))) n1) : Ev g (tCB (rIsi g.K) (tCons te (tCons (tC (.ty "tuple")) tNil))) Γ n Q :=
  ev_isi' (fun x hd => by cases x <;> first | rfl | decide +kernel | exact absurd rfl (hd _)) h
theorem ev_isStr (h : Ev g te Γ n fun x n1 => Q (.d (.bool (isStrB x.pd))) n1) : Ev g (tCB (rIsi g.K) (tCons te (tCons (tC (.ty "str")) tNil))) Γ n Q :=
  ev_isi' (fun x hd => by cases x <;> first | rfl | decide +kernel | exact absurd rfl (hd _)) h
theorem ev_isInt (h : Ev g te Γ n fun x n1 => Q (.d (.bool (isIntB x.pd))) n1) : Ev g (tCB (rIsi g.K) (tCons te (tCons (tC (.ty "int")) tNil))) Γ n Q :=
  ev_isi' (fun x hd => by cases x <;> first | rfl | decide +kernel | exact absurd rfl (hd _)) h
theorem ev_isBool (h : Ev g te Γ n fun x n1 => Q (.d (.bool (isBoolB x.pd))) n1) : Ev g (tCB (rIsi g.K) (tCons te (tCons (tC (.ty "bool")) tNil))) Γ n Q :=
  ev_isi' (fun x hd => by cases x <;> first | rfl | decide +kernel | exact absurd rfl (hd _)) h
/-- name = data or a new list -/
theorem sg_set {i : Nat} (h : Ev g te Γ n fun r n1 => r.fit = true ∧ N (Γ.set i r.bnd) n1) : Sg g (tAsg te (gName i)) Γ n N Rr := fun D σ H A kn kr =>
  h σ H A _ fun r n1 v J ⟨hf, q⟩ A1 x1 r1 => kn _ _ _ _ q (A1.setR A.fr (Ex.refl J) r1 hf fun p j es hp hj e1 e2 => A.trk e1 e2 hp)
end
/-! ### equality of data -/
theorem eqv_int (a b : Int) : PyData.eqv (.int a) (.int b) = decide (a = b) := by
  by_cases h : a = b
  · subst h
    simp [PyData.eqv]
  · simp [PyData.eqv, h]
theorem eqvAll_map {α : Type} [DecidableEq α] {f : α → PD} (h : ∀ a b, PyData.eqv (f a) (f b) = decide (a = b)) : ∀ as bs : List α, PyData.eqvAll (as.map f) (bs.map f) = decide (as = bs)
  | [], [] => by simp [PyData.eqvAll]
  | [], b :: bs => by simp [PyData.eqvAll]
  | a :: as, [] => by simp [PyData.eqvAll]
  | a :: as, b :: bs => by
    rw [List.map_cons, List.map_cons, PyData.eqvAll, h, eqvAll_map h as bs]
    by_cases h1 : a = b <;> by_cases h2 : as = bs <;> simp [h1, h2]
theorem eqv_cr (a b : Cr) : PyData.eqv (crD a) (crD b) = decide (a = b) := by
  obtain ⟨a1, a2⟩ := a
  obtain ⟨b1, b2⟩ := b
  simp only [crD, PyData.eqv, PyData.eqvAll, Bool.and_true]
  by_cases h1 : a1 = b1 <;> by_cases h2 : a2 = b2 <;> simp [h1, h2]
theorem eqv_st (a b : Cr × Int) : PyData.eqv (stD a) (stD b) = decide (a = b) := by
  obtain ⟨⟨a1, a2⟩, a3⟩ := a
  obtain ⟨⟨b1, b2⟩, b3⟩ := b
  simp only [stD, PyData.eqv, PyData.eqvAll, Bool.and_true]
  by_cases h1 : a1 = b1 <;> by_cases h2 : a2 = b2 <;> by_cases h3 : a3 = b3 <;> simp [h1, h2, h3]
theorem wk_ext {a b : Wk} (ha : a.Ok) (hb : b.Ok) (h1 : a.room = b.room) (h2 : a.ts.getD 0 0 = b.ts.getD 0 0) (h3 : a.sts = b.sts) : a = b := by
  have q1 := mid_begin ha
  have q2 := mid_begin hb
  rw [← q1, ← q2, h1, h3]
  unfold begin
  rw [h2]
theorem eqv_wk {a b : Wk} (ha : a.Ok) (hb : b.Ok) : PyData.eqv (wkD a) (wkD b) = decide (a = b) := by
  simp only [wkD, PyData.eqv, PyData.eqvAll, Bool.and_true]
  rw [eqvAll_map eqv_st]
  by_cases h : a = b
  · subst h
    simp
  · rw [decide_eq_false h]
    by_cases h1 : a.room = b.room
    · by_cases h2 : a.ts.getD 0 0 = b.ts.getD 0 0
      · by_cases h3 : a.sts = b.sts
        · exact absurd (wk_ext ha hb h1 h2 h3) h
        · rw [decide_eq_false h3]
          simp
      · simp only [List.getD_eq_getElem?_getD] at h2
        simp [h2]
    · simp [h1]
def optD : Option Wk → PD
  | some w => wkD w
  | none => .none
/-! ### data as the law bends it -/
structure Dk (k : Nat) (d : PD) : Prop where
  nl : nl d = true
  lay : d.canLay0 = true
  dep : d.depth ≤ k
theorem layAll_iff : ∀ {ds : List PD}, PyData.canLayAll0 ds = true ↔ ∀ d ∈ ds, d.canLay0 = true
  | [] => by simp [PyData.canLayAll0]
  | d :: ds => by
    rw [PyData.canLayAll0, Bool.and_eq_true, layAll_iff]
    simp
theorem depAll_le {k : Nat} : ∀ {ds : List PD}, (∀ d ∈ ds, d.depth ≤ k) → PyData.depthAll ds ≤ k
  | [], _ => by simp [PyData.depthAll]
  | d :: ds, h => by
    rw [PyData.depthAll]
    exact Nat.max_le.mpr ⟨h d List.mem_cons_self, depAll_le fun e he => h e (List.mem_cons_of_mem _ he)⟩
theorem Dk.tup {k : Nat} {ds : List PD} (h : ∀ d ∈ ds, Dk k d) : Dk (k + 1) (.tuple ds) := by
  refine ⟨?_, ?_, ?_⟩
  · rw [K8.nl]
    exact nlAll_iff.mpr fun d hd => (h d hd).nl
  · rw [PyData.canLay0]
    exact layAll_iff.mpr fun d hd => (h d hd).lay
  · rw [PyData.depth]
    exact Nat.succ_le_succ (depAll_le fun d hd => (h d hd).dep)
theorem Dk.item {k : Nat} {ds : List PD} (h : Dk (k + 1) (.tuple ds)) : ∀ d ∈ ds, Dk k d := fun d hd => by
  obtain ⟨h1, h2, h3⟩ := h
  rw [K8.nl] at h1
  rw [PyData.canLay0] at h2
  rw [PyData.depth] at h3
  exact ⟨nlAll_iff.mp h1 d hd, layAll_iff.mp h2 d hd, Nat.le_trans (PyData.depth_le_depthAll ds d hd) (Nat.le_of_succ_le_succ h3)⟩
theorem Dk.up {k m : Nat} {d : PD} (h : Dk k d) (hk : k ≤ m) : Dk m d := ⟨h.nl, h.lay, Nat.le_trans h.dep hk⟩
theorem Dk.int (k : Nat) (i : Int) : Dk k (.int i) := ⟨rfl, rfl, Nat.zero_le _⟩
theorem Dk.bool (k : Nat) (i : Bool) : Dk k (.bool i) := ⟨rfl, rfl, Nat.zero_le _⟩
theorem Dk.none (k : Nat) : Dk k .none := ⟨rfl, rfl, Nat.zero_le _⟩
theorem Dk.str (k : Nat) {z : Str} (h : PyData.canLay0 (.str z) = true := by decide +kernel) : Dk k (.str z) := ⟨rfl, h, Nat.zero_le _⟩
theorem Dk.shp {k : Nat} {d : PD} (h : Dk k d) (hk : k ≤ 64) : SeqAt.shaped d = true := by
  unfold SeqAt.shaped
  rw [h.lay, Bool.true_and, decide_eq_true_eq]
  exact Nat.le_trans h.dep hk
theorem dk_cr (c : Cr) : Dk 1 (crD c) := .tup fun d hd => by
  simp only [List.mem_cons, List.not_mem_nil, or_false] at hd
  rcases hd with e | e <;> (rw [e]; exact .int _ _)
theorem dk_st (c : Cr × Int) : Dk 1 (stD c) := .tup fun d hd => by
  simp only [List.mem_cons, List.not_mem_nil, or_false] at hd
  rcases hd with e | e | e <;> (rw [e]; exact .int _ _)
theorem dk_tie (c : Tie) : Dk 1 (tieD c) := .tup fun d hd => by
  simp only [List.mem_cons, List.not_mem_nil, or_false] at hd
  rcases hd with e | e | e | e <;> (rw [e]; exact .int _ _)
theorem dk_map {α : Type} {k : Nat} {f : α → PD} {l : List α} (h : ∀ a, Dk k (f a)) : Dk (k + 1) (.tuple (l.map f)) := .tup fun d hd => by
  obtain ⟨a, _, e⟩ := List.mem_map.mp hd
  rw [← e]
  exact h a
theorem dk_wk (w : Wk) : Dk 3 (wkD w) := .tup fun d hd => by
  simp only [List.mem_cons, List.not_mem_nil, or_false] at hd
  rcases hd with e | e | e <;> rw [e]
  · exact .int _ _
  · exact .int _ _
  · exact dk_map dk_st
theorem dk_web (W : Web) : Dk 3 (webD W) := .tup fun d hd => by
  simp only [List.mem_cons, List.not_mem_nil, or_false] at hd
  rcases hd with e | e <;> rw [e]
  · exact .int _ _
  · exact dk_map dk_tie
theorem dk_opt (o : Option Wk) : Dk 3 (optD o) := by
  cases o with
  | none => exact .none _
  | some w => exact dk_wk w
theorem dk_mv (m : Mv) : Dk 1 (mvD m) := by
  cases m <;> (refine .tup fun d hd => ?_) <;> simp only [List.mem_cons, List.not_mem_nil, or_false] at hd
  · rcases hd with e | e | e <;> rw [e]
    · exact .str _
    · exact .int _ _
    · exact .int _ _
  · rcases hd with e | e <;> rw [e]
    · exact .str _
    · exact .int _ _
  · rcases hd with e | e | e | e | e <;> rw [e]
    · exact .str _
    · exact .int _ _
    · exact .int _ _
    · exact .int _ _
    · exact .int _ _
theorem dk_mvs (ms : List Mv) : Dk 2 (.tuple (mvs ms)) := dk_map dk_mv
def Few (d : PD) : Prop := ∀ ds, d = .tuple ds → ds.length ≤ 5000
def FewM (d : PD) : Prop := ∀ ds, d = .tuple ds → ∀ m ∈ ds, Few m
def FewP (d : PD) : Prop := ∀ ds, d = .tuple ds → ∀ m ∈ ds, FewM m
theorem few_mv (m : Mv) : Few (mvD m) := fun ds e => by
  cases m <;> (cases e; simp)
theorem fewM_mvs (ms : List Mv) : FewM (.tuple (mvs ms)) := fun ds e m hm => by
  cases e
  obtain ⟨x, _, e⟩ := List.mem_map.mp hm
  rw [← e]
  exact few_mv x
/-! ### mirrors -/
def ep (W : Web) (a b : Wk) : Option PD := (pm W a).bind fun m => (pm W b).bind fun o =>
  some (if plainM W a = plainM W b then .tuple [.str "equal", .tuple (mvs (m ++ backM W b o))] else .tuple [.str "unlike", .tuple (mvs m), .tuple (mvs o)])
def toldD : Option PD → PD
  | some d => d
  | none => .str "turns"
def rightM (W : Web) (a b : Wk) : PD → Bool
  | .tuple [z, m] => PyData.eqv z (.str "equal") && decide (ledD W a m = some b)
  | .tuple [z, m, o] => PyData.eqv z (.str "unlike") && (match ledD W a m, ledD W b o with
    | some x, some y => !decide (x = y) && (isPlainB W x && isPlainB W y)
    | _, _ => false)
  | _ => false
/-! ### promises, one for each def -/
variable (K : PySem.W.Frag)
def sp_is_whole : Sp := spP K (fun d : PD => [d]) (fun _ => True) fun d r => r = .d (.bool (wholeB d))
def sp_ends_of : Sp := spP K (fun i : Web × Int × Int => [webD i.1, .int i.2.1, .int i.2.2]) (fun i => Cro i.1 (i.2.1, i.2.2)) fun i r => r = .d (tieD (ends i.1 i.2.1 i.2.2))
def sp_is_turns : Sp := spP K (fun i : Int => [.int i]) (fun _ => True) fun i r => r = .d (.bool (inB i))
def sp_split_walk : Sp := spP K (fun w : Wk => [wkD w]) (fun w => w.Ok ∧ w.cs.length ≤ 100) fun w r => r = .ll (intsD w.ts) (crsD w.cs)
def sp_glued_walk : Sp := spP K (fun i : Int × List Int × List Cr => [.int i.1, .list (intsD i.2.1), .list (crsD i.2.2)]) (fun i => i.2.1.length = i.2.2.length + 1 ∧ i.2.2.length ≤ 100) fun i r => r = .d (wkD ⟨i.1, i.2.1, i.2.2⟩)
def sp__carried : Sp := spP K (fun i : Web × Wk × Int × Int => [webD i.1, wkD i.2.1, .int i.2.2.1, .int i.2.2.2]) (fun i => i.1.Ok ∧ i.2.1.In i.1 ∧ i.2.1.cs.length ≤ 60 ∧ 1 ≤ i.2.2.1 ∧ i.2.2.1 ≤ i.2.1.cs.length) fun i r => r = .d (wkD (carry i.1 i.2.1 i.2.2.1 i.2.2.2))
def sp__struck : Sp := spP K (fun i : Wk × Int => [wkD i.1, .int i.2]) (fun i => i.1.Ok ∧ i.1.cs.length ≤ 60 ∧ 1 ≤ i.2 ∧ i.2 < i.1.cs.length) fun i r => r = .d (optD (strike i.1 i.2))
def sp__put_in : Sp := spP K (fun i : Web × Wk × Int × Int × Int × Int => [webD i.1, wkD i.2.1, .int i.2.2.1, .tuple [.int i.2.2.2.1, .int i.2.2.2.2.1], .int i.2.2.2.2.2])
  (fun i => i.2.1.In i.1 ∧ i.2.1.cs.length ≤ 60 ∧ 0 ≤ i.2.2.1 ∧ i.2.2.1 ≤ i.2.1.cs.length ∧ Cro i.1 (i.2.2.2.1, i.2.2.2.2.1)) fun i r => r = .d (optD (putIn i.1 i.2.1 i.2.2.1 i.2.2.2.1 i.2.2.2.2.1 i.2.2.2.2.2))
def sp__moved_once : Sp := spP K (fun i : Web × Wk × PD => [webD i.1, wkD i.2.1, i.2.2]) (fun i => i.1.Ok ∧ i.2.1.In i.1 ∧ i.2.1.cs.length ≤ 60 ∧ Dk 8 i.2.2 ∧ Few i.2.2) fun i r => r = .d (optD (mvOnce i.1 i.2.1 i.2.2))
def sp_moved_walk (C : Addr) : Sp := spX K C "number" (fun i : Web × Wk × List PD => [webD i.1, wkD i.2.1, .tuple i.2.2]) (fun i => i.1.Ok ∧ i.2.1.In i.1 ∧ i.2.1.fits = true ∧ Dk 9 (.tuple i.2.2) ∧ ∀ m ∈ i.2.2, Few m)
  (fun i r => ∃ x, led i.1 i.2.1 i.2.2 = some x ∧ r = .d (wkD x)) fun i x => led i.1 i.2.1 i.2.2 = none ∧ ∃ j, x = .int j
def sp_rest_of : Sp := spP K (fun i : Int × Int => [.int i.1, .int i.2]) (fun i => i.2 ≠ 0 ∧ i.2.natAbs ≤ 1000) fun i r => r = .d (.tuple [.int (restI i.2 i.1), .int (manyI i.2 i.1)])
def sp_are_opposite : Sp := spP K (fun i : Cr × Cr => [crD i.1, crD i.2]) (fun _ => True) fun i r => r = .d (.bool (decide (i.1.1 = i.2.1) && decide (i.1.2 = -i.2.2)))
def kpD (k : Kp) : PD := .tuple [.int k.1, .int k.2.1, .int k.2.2]
def sp_reduced : Sp := spP K (fun i : Web × Wk => [webD i.1, wkD i.2]) (fun i => i.1.Ok ∧ i.2.In i.1 ∧ i.2.cs.length ≤ 60) fun i r => r = .d (.tuple [.tuple ((reducedM i.1 i.2).1.map kpD), .int (reducedM i.1 i.2).2])
def sp_walk_of : Sp := spP K (fun i : Int × List Kp × Int => [.int i.1, .tuple (i.2.1.map kpD), .int i.2.2]) (fun i => i.2.1.length ≤ 100) fun i r => r = .d (wkD (walkOf i.1 (i.2.1, i.2.2)))
def sp_plain_freely : Sp := spP K (fun i : Web × Wk => [webD i.1, wkD i.2]) (fun i => i.1.Ok ∧ i.2.In i.1 ∧ i.2.cs.length ≤ 60) fun i r => r = .d (wkD (plainM i.1 i.2))
def sp_is_plain : Sp := spP K (fun i : Web × Wk => [webD i.1, wkD i.2]) (fun i => i.1.Ok ∧ i.2.In i.1 ∧ i.2.cs.length ≤ 60) fun i r => r = .d (.bool (isPlainB i.1 i.2))
def sp__checked (C : Addr) : Sp := spX K C "what" (fun i : Int => [.int i]) (fun _ => True) (fun i r => inB i = true ∧ r = .d (.int i)) fun i x => inB i = false ∧ x = .str "turns"
def sp_plain_moves (C : Addr) : Sp := spX K C "what" (fun i : Web × Wk => [webD i.1, wkD i.2]) (fun i => i.1.Ok ∧ i.2.In i.1 ∧ i.2.fits = true) (fun i r => ∃ ms, pm i.1 i.2 = some ms ∧ r = .d (.tuple (mvs ms))) fun i x => pm i.1 i.2 = none ∧ x = .str "turns"
def sp__taken_back : Sp := spP K (fun i : Wk × Mv => [wkD i.1, mvD i.2]) (fun i => i.1.Ok ∧ i.1.cs.length ≤ 60 ∧ notPut i.2 = true ∧ ∀ j, i.2 = .strike j → 1 ≤ j ∧ j < i.1.cs.length) fun i r => r = .d (mvD (takeBack i.1 i.2))
def sp_back_moves : Sp := spP K (fun i : Web × Wk × List Mv => [webD i.1, wkD i.2.1, .tuple (mvs i.2.2)]) (fun i => i.1.Ok ∧ i.2.1.In i.1 ∧ i.2.1.fits = true ∧ i.2.2.length ≤ 200 ∧ (∀ m ∈ i.2.2, notPut m = true) ∧ (led i.1 i.2.1 (mvs i.2.2)).isSome = true)
  fun i r => r = .d (.tuple (mvs (backM i.1 i.2.1 i.2.2)))
def sp_equality_paper (C : Addr) : Sp := spX K C "what" (fun i : Web × Wk × Wk => [webD i.1, wkD i.2.1, wkD i.2.2]) (fun i => i.1.Ok ∧ i.2.1.In i.1 ∧ i.2.1.fits = true ∧ i.2.2.In i.1 ∧ i.2.2.fits = true)
  (fun i r => ∃ d, ep i.1 i.2.1 i.2.2 = some d ∧ r = .d d) fun i x => ep i.1 i.2.1 i.2.2 = none ∧ x = .str "turns"
def sp__led : Sp := spP K (fun i : Web × Wk × PD => [webD i.1, wkD i.2.1, i.2.2]) (fun i => i.1.Ok ∧ i.2.1.In i.1 ∧ i.2.1.fits = true ∧ Dk 9 i.2.2 ∧ FewM i.2.2) fun i r => r = .d (optD (ledD i.1 i.2.1 i.2.2))
def sp_is_equality_paper : Sp := spP K (fun i : Web × Wk × Wk × PD => [webD i.1, wkD i.2.1, wkD i.2.2.1, i.2.2.2]) (fun i => i.1.Ok ∧ i.2.1.In i.1 ∧ i.2.1.fits = true ∧ i.2.2.1.In i.1 ∧ i.2.2.1.fits = true ∧ Dk 10 i.2.2.2 ∧ FewP i.2.2.2)
  fun i r => r = .d (.bool (rightM i.1 i.2.1 i.2.2.1 i.2.2.2))
abbrev sp__law_ends : Sp := sp_ends_of K
abbrev sp__law_split : Sp := sp_split_walk K
abbrev sp__law_glued : Sp := sp_glued_walk K
def sp__law_flag : Sp := spP K (fun i : Bool × Bool => [.bool i.1, .bool i.2]) (fun _ => True) fun i r => r = .d (.bool (decide (i.1 = i.2)))
abbrev sp__law_whole : Sp := sp_is_whole K
def sp__law_bound : Sp := spP K (fun _ : Unit => []) (fun _ => True) fun _ r => r = .d (.int TB)
def sp__law_fits : Sp := spP K (fun w : Wk => [wkD w]) (fun w => w.Ok ∧ w.cs.length ≤ 100) fun w r => r = .d (.bool w.fits)
def sp__law_put_move : Sp := spP K (fun i : Web × Wk × Int × Int × Int × Int => [webD i.1, wkD i.2.1, mvD (.put i.2.2.1 i.2.2.2.1 i.2.2.2.2.1 i.2.2.2.2.2)]) (fun i => i.2.1.In i.1 ∧ i.2.1.cs.length ≤ 60)
  fun i r => r = .d (optD (mvOnceM i.1 i.2.1 (.put i.2.2.1 i.2.2.2.1 i.2.2.2.2.1 i.2.2.2.2.2)))
def sp__law_strike_move : Sp := spP K (fun i : Wk × Int => [wkD i.1, .int i.2]) (fun i => i.1.Ok ∧ i.1.cs.length ≤ 60) fun i r => r = .d (optD (if 1 ≤ i.2 ∧ i.2 < i.1.cs.length then strike i.1 i.2 else none))
def sp__law_carry_move : Sp := spP K (fun i : Web × Wk × Int × Int => [webD i.1, wkD i.2.1, .int i.2.2.1, .int i.2.2.2]) (fun i => i.1.Ok ∧ i.2.1.In i.1 ∧ i.2.1.cs.length ≤ 60) fun i r => r = .d (optD (mvOnceM i.1 i.2.1 (.carry i.2.2.1 i.2.2.2)))
def sp__law_moved : Sp := spP K (fun i : Web × Wk × PD => [webD i.1, wkD i.2.1, i.2.2]) (fun i => i.1.Ok ∧ i.2.1.In i.1 ∧ i.2.1.cs.length ≤ 60 ∧ Dk 8 i.2.2 ∧ Few i.2.2) fun i r => r = .d (optD (mv i.1 i.2.1 i.2.2))
abbrev sp__law_led : Sp := sp__led K
abbrev sp__law_is_plain : Sp := sp_is_plain K
abbrev sp__law_right : Sp := sp_is_equality_paper K
def sp__law_told : Sp := spP K (fun i : Web × Wk × Wk => [webD i.1, wkD i.2.1, wkD i.2.2]) (fun i => i.1.Ok ∧ i.2.1.In i.1 ∧ i.2.1.fits = true ∧ i.2.2.In i.1 ∧ i.2.2.fits = true) fun i r => r = .d (toldD (ep i.1 i.2.1 i.2.2))
def sp__law_due_moves : Sp := spP K (fun i : Web × Wk => [webD i.1, wkD i.2]) (fun i => i.1.Ok ∧ i.2.In i.1 ∧ i.2.cs.length ≤ 60) fun i r => r = .d (.tuple (mvs (due i.1 i.2)))
abbrev sp__law_plain : Sp := sp_plain_freely K
def sp__law_many_right : Sp := spP K (fun W : Web => [webD W]) (fun W => W.Ok) fun _ r => r = .d (.bool true)
/-- a walk of a web, of few steps and small numbers -/
structure Sm (W : Web) (w : Wk) (L : Nat) (B : Int) : Prop where
  inn : w.In W
  few : w.cs.length ≤ L
  sm : ∀ x ∈ w.ts, -B ≤ x ∧ x ≤ B
def sp__law_draw : Sp := spM K 1 (fun b : Int => [.int b]) (fun b => 1 ≤ b ∧ b ≤ 10000000000000) fun b r => ∃ x : Int, r = .d (.int x) ∧ 0 ≤ x ∧ x < b
def sp__law_of : Sp := spM K 1 (fun ds : List PD => [.list ds]) (fun ds => ds ≠ [] ∧ ds.length ≤ 1000) fun ds r => ∃ d, d ∈ ds ∧ r = .d d
def sp__law_web : Sp := spM K 100 (fun i : Int × Int × Int => [.int i.1, .int i.2.1, .int i.2.2]) (fun i => (1 ≤ i.1 ∧ i.1 ≤ 10) ∧ (0 ≤ i.2.1 ∧ i.2.1 ≤ 10) ∧ 1 ≤ i.2.2 ∧ i.2.2 ≤ 1000) fun i r => ∃ W : Web, r = .d (webD W) ∧ W.Ok ∧ W.rooms = i.1
def sp__law_out : Sp := spP K (fun i : Web × Int => [webD i.1, .int i.2]) (fun i => i.1.Ok) fun i r => ∃ cs : List Cr, r = .l (crsD cs) ∧ cs.length ≤ 40 ∧ (∀ c ∈ cs, Cro i.1 c ∧ (ends i.1 c.1 c.2).1 = i.2) ∧ ∀ c, Cro i.1 c → (ends i.1 c.1 c.2).1 = i.2 → c ∈ cs
def sp__law_turns : Sp := spM K 3 (fun i : Int => [.int i]) (fun i => 1 ≤ i ∧ i ≤ 1000000000000) fun _ r => ∃ x : Int, r = .d (.int x) ∧ -1000000000000 ≤ x ∧ x ≤ 1000000000000
def sp__law_walk : Sp := spM K 100 (fun i : Web × Int × Int × Int => [webD i.1, .int i.2.1, .int i.2.2.1, .int i.2.2.2]) (fun i => i.1.Ok ∧ (0 ≤ i.2.2.1 ∧ i.2.2.1 ≤ 10) ∧ 1 ≤ i.2.2.2 ∧ i.2.2.2 ≤ 1000000000000)
  fun i r => ∃ w : Wk, r = .d (wkD w) ∧ Sm i.1 w 10 1000000000000
def sp__law_spelled : Sp := spM K 100 (fun i : Web × Wk × Int × Nat × Int => [webD i.1, wkD i.2.1, .int i.2.2.1]) (fun i => i.1.Ok ∧ (0 ≤ i.2.2.1 ∧ i.2.2.1 ≤ 6) ∧ Sm i.1 i.2.1 i.2.2.2.1 i.2.2.2.2 ∧ i.2.2.2.1 ≤ 40 ∧ 0 ≤ i.2.2.2.2)
  fun i r => ∃ w : Wk, r = .d (wkD w) ∧ Sm i.1 w (i.2.2.2.1 + 12) (i.2.2.2.2 + 60000)
def sp__law_great_web : Sp := spM K 110 (fun _ : Unit => []) (fun _ => True) fun _ r => ∃ W : Web, r = .d (webD W) ∧ W.Ok ∧ 1 ≤ W.rooms ∧ W.rooms ≤ 10
def sp__law_some_walk : Sp := spM K 210 (fun i : Web × Int => [webD i.1, .int i.2]) (fun i => i.1.Ok ∧ (1 ≤ i.1.rooms ∧ i.1.rooms ≤ 10) ∧ 0 ≤ i.2 ∧ i.2 ≤ 10) fun i r => ∃ w : Wk, r = .d (wkD w) ∧ Sm i.1 w 22 2000000000000
def sp__law_far : Sp := spM K 120 (fun W : Web => [webD W]) (fun W => W.Ok ∧ 1 ≤ W.rooms ∧ W.rooms ≤ 10) fun W r => ∃ w : Wk, r = .d (wkD w) ∧ w.In W ∧ w.fits = true
def sp__law_pair : Sp := spM K 1000 (fun W : Web => [webD W]) (fun W => W.Ok ∧ 1 ≤ W.rooms ∧ W.rooms ≤ 10) fun W r => ∃ a b : Wk, r = .d (.tuple [wkD a, wkD b]) ∧ a.In W ∧ a.fits = true ∧ b.In W ∧ b.fits = true
def sp__law_bent_moves : Sp := spM K 5 (fun ms : List Mv => [.tuple (mvs ms)]) (fun ms => ms.length ≤ 1000) fun _ r => ∃ d, r = .d d ∧ Dk 4 d ∧ FewM d
def PapOk (d : PD) : Prop := (∃ ms, d = .tuple [.str "equal", .tuple (mvs ms)] ∧ ms.length ≤ 1000) ∨ ∃ ms os, d = .tuple [.str "unlike", .tuple (mvs ms), .tuple (mvs os)] ∧ ms.length ≤ 1000 ∧ os.length ≤ 1000
def sp__law_bent : Sp := spM K 10 (fun d : PD => [d]) PapOk fun _ r => ∃ d, r = .d d ∧ Dk 10 d ∧ FewP d
section
variable {g : En} {Γ : List Bnd} {n : Nat} {Q : Rt → Nat → Prop} {t : TA} {E : XK} {C : Addr}
theorem EvA.imp {QA QB : List PD → Nat → Prop} (h : EvA g t Γ n QA) (k : ∀ r m, QA r m → QB r m) : EvA g t Γ n QB := fun σ H A R q => h σ H A R fun r n' v J z => q r n' v J (k r n' z)
theorem cl_is_whole (h : EvA g t Γ n fun ds n1 => ∃ d, ds = [d] ∧ Q (.d (.bool (wholeB d))) n1) : Ev g (tCall (sp_is_whole g.K) [] E t) Γ n Q :=
  ev_call (h.imp fun ds m ⟨d, e, q⟩ => ⟨d, e, trivial, fun r hr => by rw [hr]; exact q⟩)
theorem cl_ends_of (h : EvA g t Γ n fun ds n1 => ∃ W t s, ds = [webD W, .int t, .int s] ∧ Cro W (t, s) ∧ Q (.d (tieD (ends W t s))) n1) : Ev g (tCall (sp_ends_of g.K) [] E t) Γ n Q :=
  ev_call (h.imp fun ds m ⟨W, t, s, e, p, q⟩ => ⟨(W, t, s), e, p, fun r hr => by rw [hr]; exact q⟩)
theorem cl_is_turns (h : EvA g t Γ n fun ds n1 => ∃ i, ds = [.int i] ∧ Q (.d (.bool (inB i))) n1) : Ev g (tCall (sp_is_turns g.K) [] E t) Γ n Q :=
  ev_call (h.imp fun ds m ⟨d, e, q⟩ => ⟨d, e, trivial, fun r hr => by rw [hr]; exact q⟩)
theorem cl_split_walk (h : EvA g t Γ n fun ds n1 => ∃ w : Wk, ds = [wkD w] ∧ (w.Ok ∧ w.cs.length ≤ 100) ∧ Q (.ll (intsD w.ts) (crsD w.cs)) n1) : Ev g (tCall (sp_split_walk g.K) [] E t) Γ n Q :=
  ev_call (h.imp fun ds m ⟨w, e, p, q⟩ => ⟨w, e, p, fun r hr => by rw [hr]; exact q⟩)
def Glue (ds : List PD) (QQ : Rt → Prop) : Prop := ∃ (r : Int) (ts : List Int) (cs : List Cr), ds = [.int r, .list (intsD ts), .list (crsD cs)] ∧ (ts.length = cs.length + 1 ∧ cs.length ≤ 100) ∧ QQ (.d (wkD ⟨r, ts, cs⟩))
theorem glue_leaf {ds : List PD} {QQ : Rt → Prop} {r : Int} {ts : List Int} {cs : List Cr} {dt dc : List PD} (e : ds = [.int r, .list dt, .list dc]) (e1 : dt = intsD ts) (e2 : dc = crsD cs) (p : ts.length = cs.length + 1 ∧ cs.length ≤ 100) (q : QQ (.d (wkD ⟨r, ts, cs⟩))) : Glue ds QQ :=
  ⟨r, ts, cs, by rw [e, e1, e2], p, q⟩
theorem cl_glued_walk (h : EvA g t Γ n fun ds n1 => Glue ds fun r => Q r n1) : Ev g (tCall (sp_glued_walk g.K) [] E t) Γ n Q :=
  ev_call (h.imp fun ds m ⟨r, ts, cs, e, p, q⟩ => ⟨(r, ts, cs), e, p, fun r hr => by rw [hr]; exact q⟩)
theorem cl__carried (h : EvA g t Γ n fun ds n1 => ∃ (W : Web) (w : Wk) (i m : Int), ds = [webD W, wkD w, .int i, .int m] ∧ (W.Ok ∧ w.In W ∧ w.cs.length ≤ 60 ∧ 1 ≤ i ∧ i ≤ w.cs.length) ∧ Q (.d (wkD (carry W w i m))) n1) : Ev g (tCall (sp__carried g.K) [] E t) Γ n Q :=
  ev_call (h.imp fun ds m ⟨W, w, i, j, e, p, q⟩ => ⟨(W, w, i, j), e, p, fun r hr => by rw [hr]; exact q⟩)
theorem cl__struck (h : EvA g t Γ n fun ds n1 => ∃ (w : Wk) (i : Int), ds = [wkD w, .int i] ∧ (w.Ok ∧ w.cs.length ≤ 60 ∧ 1 ≤ i ∧ i < w.cs.length) ∧ Q (.d (optD (strike w i))) n1) : Ev g (tCall (sp__struck g.K) [] E t) Γ n Q :=
  ev_call (h.imp fun ds m ⟨w, i, e, p, q⟩ => ⟨(w, i), e, p, fun r hr => by rw [hr]; exact q⟩)
theorem cl__put_in (h : EvA g t Γ n fun ds n1 => ∃ (W : Web) (w : Wk) (i t s a : Int), ds = [webD W, wkD w, .int i, .tuple [.int t, .int s], .int a] ∧ (w.In W ∧ w.cs.length ≤ 60 ∧ 0 ≤ i ∧ i ≤ w.cs.length ∧ Cro W (t, s)) ∧ Q (.d (optD (putIn W w i t s a))) n1) : Ev g (tCall (sp__put_in g.K) [] E t) Γ n Q :=
  ev_call (h.imp fun ds m ⟨W, w, i, t, s, a, e, p, q⟩ => ⟨(W, w, i, t, s, a), e, p, fun r hr => by rw [hr]; exact q⟩)
theorem cl__moved_once (h : EvA g t Γ n fun ds n1 => ∃ (W : Web) (w : Wk) (d : PD), ds = [webD W, wkD w, d] ∧ (W.Ok ∧ w.In W ∧ w.cs.length ≤ 60 ∧ Dk 8 d ∧ Few d) ∧ Q (.d (optD (mvOnce W w d))) n1) : Ev g (tCall (sp__moved_once g.K) [] E t) Γ n Q :=
  ev_call (h.imp fun ds m ⟨W, w, d, e, p, q⟩ => ⟨(W, w, d), e, p, fun r hr => by rw [hr]; exact q⟩)
theorem cl_rest_of (h : EvA g t Γ n fun ds n1 => ∃ (x P : Int), ds = [.int x, .int P] ∧ (P ≠ 0 ∧ P.natAbs ≤ 1000) ∧ Q (.d (.tuple [.int (restI P x), .int (manyI P x)])) n1) : Ev g (tCall (sp_rest_of g.K) [] E t) Γ n Q :=
  ev_call (h.imp fun ds m ⟨x, P, e, p, q⟩ => ⟨(x, P), e, p, fun r hr => by rw [hr]; exact q⟩)
theorem cl_are_opposite (h : EvA g t Γ n fun ds n1 => ∃ (a b c d : Int), ds = [.tuple [.int a, .int b], .tuple [.int c, .int d]] ∧ Q (.d (.bool (decide (a = c) && decide (b = -d)))) n1) : Ev g (tCall (sp_are_opposite g.K) [] E t) Γ n Q :=
  ev_call (h.imp fun ds m ⟨a, b, c, d, e, q⟩ => ⟨((a, b), (c, d)), e, trivial, fun r hr => by rw [hr]; exact q⟩)
theorem cl_reduced (h : EvA g t Γ n fun ds n1 => ∃ (W : Web) (w : Wk), ds = [webD W, wkD w] ∧ (W.Ok ∧ w.In W ∧ w.cs.length ≤ 60) ∧ Q (.d (.tuple [.tuple ((reducedM W w).1.map kpD), .int (reducedM W w).2])) n1) : Ev g (tCall (sp_reduced g.K) [] E t) Γ n Q :=
  ev_call (h.imp fun ds m ⟨W, w, e, p, q⟩ => ⟨(W, w), e, p, fun r hr => by rw [hr]; exact q⟩)
theorem cl_walk_of (h : EvA g t Γ n fun ds n1 => ∃ (r : Int) (l : List Kp) (x : Int), ds = [.int r, .tuple (l.map kpD), .int x] ∧ l.length ≤ 100 ∧ Q (.d (wkD (walkOf r (l, x)))) n1) : Ev g (tCall (sp_walk_of g.K) [] E t) Γ n Q :=
  ev_call (h.imp fun ds m ⟨W, l, x, e, p, q⟩ => ⟨(W, l, x), e, p, fun r hr => by rw [hr]; exact q⟩)
theorem cl_plain_freely (h : EvA g t Γ n fun ds n1 => ∃ (W : Web) (w : Wk), ds = [webD W, wkD w] ∧ (W.Ok ∧ w.In W ∧ w.cs.length ≤ 60) ∧ Q (.d (wkD (plainM W w))) n1) : Ev g (tCall (sp_plain_freely g.K) [] E t) Γ n Q :=
  ev_call (h.imp fun ds m ⟨W, w, e, p, q⟩ => ⟨(W, w), e, p, fun r hr => by rw [hr]; exact q⟩)
theorem cl_is_plain (h : EvA g t Γ n fun ds n1 => ∃ (W : Web) (w : Wk), ds = [webD W, wkD w] ∧ (W.Ok ∧ w.In W ∧ w.cs.length ≤ 60) ∧ Q (.d (.bool (isPlainB W w))) n1) : Ev g (tCall (sp_is_plain g.K) [] E t) Γ n Q :=
  ev_call (h.imp fun ds m ⟨W, w, e, p, q⟩ => ⟨(W, w), e, p, fun r hr => by rw [hr]; exact q⟩)
theorem cl__taken_back (h : EvA g t Γ n fun ds n1 => ∃ (w : Wk) (m : Mv), ds = [wkD w, mvD m] ∧ (w.Ok ∧ w.cs.length ≤ 60 ∧ notPut m = true ∧ ∀ j, m = .strike j → 1 ≤ j ∧ j < w.cs.length) ∧ Q (.d (mvD (takeBack w m))) n1) : Ev g (tCall (sp__taken_back g.K) [] E t) Γ n Q :=
  ev_call (h.imp fun ds m ⟨W, w, e, p, q⟩ => ⟨(W, w), e, p, fun r hr => by rw [hr]; exact q⟩)
theorem cl_back_moves (h : EvA g t Γ n fun ds n1 => ∃ (W : Web) (w : Wk) (ms : List Mv), ds = [webD W, wkD w, .tuple (mvs ms)] ∧ (W.Ok ∧ w.In W ∧ w.fits = true ∧ ms.length ≤ 200 ∧ (∀ m ∈ ms, notPut m = true) ∧ (led W w (mvs ms)).isSome = true) ∧ Q (.d (.tuple (mvs (backM W w ms)))) n1) :
    Ev g (tCall (sp_back_moves g.K) [] E t) Γ n Q := ev_call (h.imp fun ds m ⟨W, w, ms, e, p, q⟩ => ⟨(W, w, ms), e, p, fun r hr => by rw [hr]; exact q⟩)
theorem cl__led (h : EvA g t Γ n fun ds n1 => ∃ (W : Web) (w : Wk) (d : PD), ds = [webD W, wkD w, d] ∧ (W.Ok ∧ w.In W ∧ w.fits = true ∧ Dk 9 d ∧ FewM d) ∧ Q (.d (optD (ledD W w d))) n1) : Ev g (tCall (sp__led g.K) [] E t) Γ n Q :=
  ev_call (h.imp fun ds m ⟨W, w, d, e, p, q⟩ => ⟨(W, w, d), e, p, fun r hr => by rw [hr]; exact q⟩)
theorem cl_is_equality_paper (h : EvA g t Γ n fun ds n1 => ∃ (W : Web) (a b : Wk) (d : PD), ds = [webD W, wkD a, wkD b, d] ∧ (W.Ok ∧ a.In W ∧ a.fits = true ∧ b.In W ∧ b.fits = true ∧ Dk 10 d ∧ FewP d) ∧ Q (.d (.bool (rightM W a b d))) n1) : Ev g (tCall (sp_is_equality_paper g.K) [] E t) Γ n Q :=
  ev_call (h.imp fun ds m ⟨W, a, b, d, e, p, q⟩ => ⟨(W, a, b, d), e, p, fun r hr => by rw [hr]; exact q⟩)
theorem cl__law_flag (h : EvA g t Γ n fun ds n1 => ∃ a b, ds = [.bool a, .bool b] ∧ Q (.d (.bool (decide (a = b)))) n1) : Ev g (tCall (sp__law_flag g.K) [] E t) Γ n Q :=
  ev_call (h.imp fun ds m ⟨a, b, e, q⟩ => ⟨(a, b), e, trivial, fun r hr => by rw [hr]; exact q⟩)
theorem cl__law_bound (q : Q (.d (.int TB)) n) : Ev g (tCall (sp__law_bound g.K) [] E tNil) Γ n Q := ev_call (ea_nil ⟨(), rfl, trivial, fun r hr => by rw [hr]; exact q⟩)
theorem cl__law_fits (h : EvA g t Γ n fun ds n1 => ∃ w : Wk, ds = [wkD w] ∧ (w.Ok ∧ w.cs.length ≤ 100) ∧ Q (.d (.bool w.fits)) n1) : Ev g (tCall (sp__law_fits g.K) [] E t) Γ n Q :=
  ev_call (h.imp fun ds m ⟨w, e, p, q⟩ => ⟨w, e, p, fun r hr => by rw [hr]; exact q⟩)
theorem cl__law_put_move (h : EvA g t Γ n fun ds n1 => ∃ (W : Web) (w : Wk) (i t s a : Int), ds = [webD W, wkD w, .tuple [.str "put", .int i, .int t, .int s, .int a]] ∧ (w.In W ∧ w.cs.length ≤ 60) ∧ Q (.d (optD (mvOnceM W w (.put i t s a)))) n1) : Ev g (tCall (sp__law_put_move g.K) [] E t) Γ n Q :=
  ev_call (h.imp fun ds m ⟨W, w, i, t, s, a, e, p, q⟩ => ⟨(W, w, i, t, s, a), e, p, fun r hr => by rw [hr]; exact q⟩)
theorem cl__law_strike_move (W : Web) (h : EvA g t Γ n fun ds n1 => ∃ (w : Wk) (i : Int), ds = [wkD w, .int i] ∧ (w.Ok ∧ w.cs.length ≤ 60) ∧ Q (.d (optD (mvOnceM W w (.strike i)))) n1) : Ev g (tCall (sp__law_strike_move g.K) [] E t) Γ n Q :=
  ev_call (h.imp fun ds m ⟨w, i, e, p, q⟩ => ⟨(w, i), e, p, fun r hr => by rw [hr]; exact q⟩)
theorem cl__law_carry_move (h : EvA g t Γ n fun ds n1 => ∃ (W : Web) (w : Wk) (i m : Int), ds = [webD W, wkD w, .int i, .int m] ∧ (W.Ok ∧ w.In W ∧ w.cs.length ≤ 60) ∧ Q (.d (optD (mvOnceM W w (.carry i m)))) n1) : Ev g (tCall (sp__law_carry_move g.K) [] E t) Γ n Q :=
  ev_call (h.imp fun ds m ⟨W, w, i, j, e, p, q⟩ => ⟨(W, w, i, j), e, p, fun r hr => by rw [hr]; exact q⟩)
theorem cl__law_moved (h : EvA g t Γ n fun ds n1 => ∃ (W : Web) (w : Wk) (d : PD), ds = [webD W, wkD w, d] ∧ (W.Ok ∧ w.In W ∧ w.cs.length ≤ 60 ∧ Dk 8 d ∧ Few d) ∧ Q (.d (optD (mv W w d))) n1) : Ev g (tCall (sp__law_moved g.K) [] E t) Γ n Q :=
  ev_call (h.imp fun ds m ⟨W, w, d, e, p, q⟩ => ⟨(W, w, d), e, p, fun r hr => by rw [hr]; exact q⟩)
theorem cl__law_told (h : EvA g t Γ n fun ds n1 => ∃ (W : Web) (a b : Wk), ds = [webD W, wkD a, wkD b] ∧ (W.Ok ∧ a.In W ∧ a.fits = true ∧ b.In W ∧ b.fits = true) ∧ Q (.d (toldD (ep W a b))) n1) : Ev g (tCall (sp__law_told g.K) [] E t) Γ n Q :=
  ev_call (h.imp fun ds m ⟨W, a, b, e, p, q⟩ => ⟨(W, a, b), e, p, fun r hr => by rw [hr]; exact q⟩)
theorem cl__law_due_moves (h : EvA g t Γ n fun ds n1 => ∃ (W : Web) (w : Wk), ds = [webD W, wkD w] ∧ (W.Ok ∧ w.In W ∧ w.cs.length ≤ 60) ∧ Q (.d (.tuple (mvs (due W w)))) n1) : Ev g (tCall (sp__law_due_moves g.K) [] E t) Γ n Q :=
  ev_call (h.imp fun ds m ⟨W, w, e, p, q⟩ => ⟨(W, w), e, p, fun r hr => by rw [hr]; exact q⟩)
theorem cl__law_many_right (h : EvA g t Γ n fun ds n1 => ∃ W : Web, ds = [webD W] ∧ W.Ok ∧ Q (.d (.bool true)) n1) : Ev g (tCall (sp__law_many_right g.K) [] E t) Γ n Q :=
  ev_call (h.imp fun ds m ⟨w, e, p, q⟩ => ⟨w, e, p, fun r hr => by rw [hr]; exact q⟩)
theorem cl__law_out (h : EvA g t Γ n fun ds n1 => ∃ (W : Web) (v : Int), ds = [webD W, .int v] ∧ W.Ok ∧ ∀ cs : List Cr, cs.length ≤ 40 → (∀ c ∈ cs, Cro W c ∧ (ends W c.1 c.2).1 = v) → (∀ c, Cro W c → (ends W c.1 c.2).1 = v → c ∈ cs) → Q (.l (crsD cs)) n1) : Ev g (tCall (sp__law_out g.K) [] E t) Γ n Q :=
  ev_call (h.imp fun ds m ⟨w, v, e, p, q⟩ => ⟨(w, v), e, p, fun r ⟨cs, hr, h1, h2, h3⟩ => by rw [hr]; exact q cs h1 h2 h3⟩)
/-! draws -/
theorem cl__law_draw {i : Nat} (hm : Γ[i]? = some .mr) (h : EvA g t Γ n fun ds n1 => ∃ b : Int, ds = [.int b] ∧ n1 + 1 ≤ LIM ∧ (1 ≤ b ∧ b ≤ 10000000000000) ∧ ∀ x : Int, 0 ≤ x → x < b → Q (.d (.int x)) (n1 + 1)) : Ev g (tCall (sp__law_draw g.K) [] E (tCons (tVar i) t)) Γ n Q :=
  ev_callM hm (h.imp fun ds m ⟨b, e, l, p, q⟩ => ⟨b, e, l, p, fun r ⟨x, hr, h1, h2⟩ => by rw [hr]; exact q x h1 h2⟩)
theorem cl__law_of {i : Nat} (hm : Γ[i]? = some .mr) (h : EvA g t Γ n fun ds n1 => ∃ b : List PD, ds = [.list b] ∧ n1 + 1 ≤ LIM ∧ (b ≠ [] ∧ b.length ≤ 1000) ∧ ∀ x, x ∈ b → Q (.d x) (n1 + 1)) : Ev g (tCall (sp__law_of g.K) [] E (tCons (tVar i) t)) Γ n Q :=
  ev_callM hm (h.imp fun ds m ⟨b, e, l, p, q⟩ => ⟨b, e, l, p, fun r ⟨x, h1, hr⟩ => by rw [hr]; exact q x h1⟩)
theorem cl__law_web {i : Nat} (hm : Γ[i]? = some .mr) (h : EvA g t Γ n fun ds n1 => ∃ a b c : Int, ds = [.int a, .int b, .int c] ∧ n1 + 100 ≤ LIM ∧ ((1 ≤ a ∧ a ≤ 10) ∧ (0 ≤ b ∧ b ≤ 10) ∧ 1 ≤ c ∧ c ≤ 1000) ∧ ∀ W : Web, W.Ok → W.rooms = a → Q (.d (webD W)) (n1 + 100)) : Ev g (tCall (sp__law_web g.K) [] E (tCons (tVar i) t)) Γ n Q :=
  ev_callM hm (h.imp fun ds m ⟨a, b, c, e, l, p, q⟩ => ⟨(a, b, c), e, l, p, fun r ⟨x, hr, h1, h2⟩ => by rw [hr]; exact q x h1 h2⟩)
theorem cl__law_turns {i : Nat} (hm : Γ[i]? = some .mr) (h : EvA g t Γ n fun ds n1 => ∃ a : Int, ds = [.int a] ∧ n1 + 3 ≤ LIM ∧ (1 ≤ a ∧ a ≤ 1000000000000) ∧ ∀ x : Int, -1000000000000 ≤ x → x ≤ 1000000000000 → Q (.d (.int x)) (n1 + 3)) : Ev g (tCall (sp__law_turns g.K) [] E (tCons (tVar i) t)) Γ n Q :=
  ev_callM hm (h.imp fun ds m ⟨a, e, l, p, q⟩ => ⟨a, e, l, p, fun r ⟨x, hr, h1, h2⟩ => by rw [hr]; exact q x h1 h2⟩)
theorem cl__law_walk {i : Nat} (hm : Γ[i]? = some .mr) (h : EvA g t Γ n fun ds n1 => ∃ (W : Web) (a b c : Int), ds = [webD W, .int a, .int b, .int c] ∧ n1 + 100 ≤ LIM ∧ (W.Ok ∧ (0 ≤ b ∧ b ≤ 10) ∧ 1 ≤ c ∧ c ≤ 1000000000000) ∧ ∀ w : Wk, Sm W w 10 1000000000000 → Q (.d (wkD w)) (n1 + 100)) : Ev g (tCall (sp__law_walk g.K) [] E (tCons (tVar i) t)) Γ n Q :=
  ev_callM hm (h.imp fun ds m ⟨W, a, b, c, e, l, p, q⟩ => ⟨(W, a, b, c), e, l, p, fun r ⟨x, hr, h1⟩ => by rw [hr]; exact q x h1⟩)
theorem cl__law_spelled {i : Nat} (L : Nat) (B : Int) (hm : Γ[i]? = some .mr) (h : EvA g t Γ n fun ds n1 => ∃ (W : Web) (w : Wk) (b : Int), ds = [webD W, wkD w, .int b] ∧ n1 + 100 ≤ LIM ∧ (W.Ok ∧ (0 ≤ b ∧ b ≤ 6) ∧ Sm W w L B ∧ L ≤ 40 ∧ 0 ≤ B) ∧ ∀ w : Wk, Sm W w (L + 12) (B + 60000) → Q (.d (wkD w)) (n1 + 100)) : Ev g (tCall (sp__law_spelled g.K) [] E (tCons (tVar i) t)) Γ n Q :=
  ev_callM hm (h.imp fun ds m ⟨W, w, b, e, l, p, q⟩ => ⟨(W, w, b, L, B), e, l, p, fun r ⟨x, hr, h1⟩ => by rw [hr]; exact q x h1⟩)
theorem cl__law_great_web {i : Nat} (hm : Γ[i]? = some .mr) (hl : n + 110 ≤ LIM) (q : ∀ W : Web, W.Ok → 1 ≤ W.rooms → W.rooms ≤ 10 → Q (.d (webD W)) (n + 110)) : Ev g (tCall (sp__law_great_web g.K) [] E (tCons (tVar i) tNil)) Γ n Q :=
  ev_callM hm (ea_nil ⟨(), rfl, hl, trivial, fun r ⟨x, hr, h1, h2, h3⟩ => by rw [hr]; exact q x h1 h2 h3⟩)
theorem cl__law_some_walk {i : Nat} (hm : Γ[i]? = some .mr) (h : EvA g t Γ n fun ds n1 => ∃ (W : Web) (a : Int), ds = [webD W, .int a] ∧ n1 + 210 ≤ LIM ∧ (W.Ok ∧ (1 ≤ W.rooms ∧ W.rooms ≤ 10) ∧ 0 ≤ a ∧ a ≤ 10) ∧ ∀ w : Wk, Sm W w 22 2000000000000 → Q (.d (wkD w)) (n1 + 210)) : Ev g (tCall (sp__law_some_walk g.K) [] E (tCons (tVar i) t)) Γ n Q :=
  ev_callM hm (h.imp fun ds m ⟨W, a, e, l, p, q⟩ => ⟨(W, a), e, l, p, fun r ⟨x, hr, h1⟩ => by rw [hr]; exact q x h1⟩)
theorem cl__law_far {i : Nat} (hm : Γ[i]? = some .mr) (h : EvA g t Γ n fun ds n1 => ∃ W : Web, ds = [webD W] ∧ n1 + 120 ≤ LIM ∧ (W.Ok ∧ 1 ≤ W.rooms ∧ W.rooms ≤ 10) ∧ ∀ w : Wk, w.In W → w.fits = true → Q (.d (wkD w)) (n1 + 120)) : Ev g (tCall (sp__law_far g.K) [] E (tCons (tVar i) t)) Γ n Q :=
  ev_callM hm (h.imp fun ds m ⟨W, e, l, p, q⟩ => ⟨W, e, l, p, fun r ⟨x, hr, h1, h2⟩ => by rw [hr]; exact q x h1 h2⟩)
theorem cl__law_pair {i : Nat} (hm : Γ[i]? = some .mr) (h : EvA g t Γ n fun ds n1 => ∃ W : Web, ds = [webD W] ∧ n1 + 1000 ≤ LIM ∧ (W.Ok ∧ 1 ≤ W.rooms ∧ W.rooms ≤ 10) ∧ ∀ a b : Wk, a.In W → a.fits = true → b.In W → b.fits = true → Q (.d (.tuple [wkD a, wkD b])) (n1 + 1000)) : Ev g (tCall (sp__law_pair g.K) [] E (tCons (tVar i) t)) Γ n Q :=
  ev_callM hm (h.imp fun ds m ⟨W, e, l, p, q⟩ => ⟨W, e, l, p, fun r ⟨x, y, hr, h1, h2, h3, h4⟩ => by rw [hr]; exact q x y h1 h2 h3 h4⟩)
theorem cl__law_bent_moves {i : Nat} (hm : Γ[i]? = some .mr) (h : EvA g t Γ n fun ds n1 => ∃ ms : List Mv, ds = [.tuple (mvs ms)] ∧ n1 + 5 ≤ LIM ∧ ms.length ≤ 1000 ∧ ∀ d, Dk 4 d → FewM d → Q (.d d) (n1 + 5)) : Ev g (tCall (sp__law_bent_moves g.K) [] E (tCons (tVar i) t)) Γ n Q :=
  ev_callM hm (h.imp fun ds m ⟨ms, e, l, p, q⟩ => ⟨ms, e, l, p, fun r ⟨x, hr, h1, h2⟩ => by rw [hr]; exact q x h1 h2⟩)
theorem cl__law_bent {i : Nat} (hm : Γ[i]? = some .mr) (h : EvA g t Γ n fun ds n1 => ∃ d, ds = [d] ∧ n1 + 10 ≤ LIM ∧ PapOk d ∧ ∀ d, Dk 10 d → FewP d → Q (.d d) (n1 + 10)) : Ev g (tCall (sp__law_bent g.K) [] E (tCons (tVar i) t)) Γ n Q :=
  ev_callM hm (h.imp fun ds m ⟨ms, e, l, p, q⟩ => ⟨ms, e, l, p, fun r ⟨x, hr, h1, h2⟩ => by rw [hr]; exact q x h1 h2⟩)
end
/-! ### small facts of lists of data -/
theorem nla_map {α : Type} {f : α → PD} {l : List α} (h : ∀ a, nl (f a) = true) : nlAll (l.map f) = true := nlAll_iff.mpr fun d hd => by
  obtain ⟨a, _, e⟩ := List.mem_map.mp hd
  rw [← e]
  exact h a
theorem nla_ints (l : List Int) : nlAll (intsD l) = true := nla_map fun _ => rfl
theorem nla_crs (l : List Cr) : nlAll (crsD l) = true := nla_map fun _ => rfl
theorem nla_mvs (l : List Mv) : nlAll (mvs l) = true := nla_map fun m => (dk_mv m).nl
theorem nla_kps (l : List Kp) : nlAll (l.map kpD) = true := nla_map fun _ => rfl
theorem nla_sts (l : List (Cr × Int)) : nlAll (l.map stD) = true := nla_map fun _ => rfl
theorem nla_ties (l : List Tie) : nlAll (l.map tieD) = true := nla_map fun _ => rfl
theorem at_map {α : Type} {f : α → PD} {l : List α} {i : Int} (d : α) (h0 : 0 ≤ i) (h1 : i < l.length) : atI (l.map f) i = some (f (l.getD i.toNat d)) := by
  have e : ixN (l.map f).length i = some i.toNat := by
    unfold ixN
    rw [if_pos h0, List.length_map, if_pos h1]
  unfold atI
  rw [e, List.getD_eq_getElem?_getD]
  have hj : i.toNat < l.length := by omega
  show (l.map f)[i.toNat]? = _
  rw [List.getElem?_map, List.getElem?_eq_getElem hj]
  rfl
theorem at_ints {l : List Int} {i : Int} (h0 : 0 ≤ i) (h1 : i < l.length) : atI (intsD l) i = some (.int (l.getD i.toNat 0)) := at_map 0 h0 h1
theorem at_crs {l : List Cr} {i : Int} (h0 : 0 ≤ i) (h1 : i < l.length) : atI (crsD l) i = some (crD (l.getD i.toNat (0, 0))) := at_map (0, 0) h0 h1
theorem at_ties {l : List Tie} {i : Int} (h0 : 0 ≤ i) (h1 : i < l.length) : atI (l.map tieD) i = some (tieD (l.getD i.toNat (0, 0, 0, 0))) := at_map (0, 0, 0, 0) h0 h1
theorem cut_take (xs : List PD) {i : Int} (h : 0 ≤ i) : cutD xs none (some i) = xs.take i.toNat := by
  obtain ⟨n, rfl⟩ := Int.eq_ofNat_of_zero_le h
  unfold cutD
  rw [HT.sIx_none, HT.sIx_nat, List.drop_zero, Nat.sub_zero, Int.toNat_natCast]
  rcases Nat.le_total n xs.length with q | q
  · rw [Nat.min_eq_left q]
  · rw [Nat.min_eq_right q, List.take_length, List.take_of_length_le q]
theorem cut_drop (xs : List PD) {i : Int} (h : 0 ≤ i) : cutD xs (some i) none = xs.drop i.toNat := by
  obtain ⟨n, rfl⟩ := Int.eq_ofNat_of_zero_le h
  unfold cutD
  rw [HT.sIx_none, HT.sIx_nat, Int.toNat_natCast]
  rcases Nat.le_total n xs.length with q | q
  · rw [Nat.min_eq_left q, List.take_of_length_le (by rw [List.length_drop]; omega)]
  · rw [Nat.min_eq_right q, List.drop_length, List.drop_of_length_le q]
    simp
theorem ints_take (l : List Int) (n : Nat) : (intsD l).take n = intsD (l.take n) := List.map_take.symm
theorem ints_drop (l : List Int) (n : Nat) : (intsD l).drop n = intsD (l.drop n) := List.map_drop.symm
theorem ints_app (a b : List Int) : intsD a ++ intsD b = intsD (a ++ b) := List.map_append.symm
theorem ints_set (a : List Int) (i : Nat) (x : Int) : (intsD a).set i (.int x) = intsD (a.set i x) := List.map_set.symm
theorem ints_len (a : List Int) : (intsD a).length = a.length := List.length_map ..
theorem crs_take (l : List Cr) (n : Nat) : (crsD l).take n = crsD (l.take n) := List.map_take.symm
theorem crs_drop (l : List Cr) (n : Nat) : (crsD l).drop n = crsD (l.drop n) := List.map_drop.symm
theorem crs_app (a b : List Cr) : crsD a ++ crsD b = crsD (a ++ b) := List.map_append.symm
theorem crs_len (a : List Cr) : (crsD a).length = a.length := List.length_map ..
theorem ite_t {c : Prop} [Decidable c] {a b : Prop} (h : c) (q : a) : if c then a else b := by rw [if_pos h]; exact q
theorem ite_f {b : Bool} {A B : Prop} (h : b = false) (q : B) : if b = true then A else B := by rw [if_neg (by rw [h]; exact Bool.false_ne_true)]; exact q
theorem ite_c {b : Bool} {A B : Prop} (h : b = true → A) (q : b = false → B) : if b = true then A else B := by
  cases b with
  | true => rw [if_pos rfl]; exact h rfl
  | false => rw [if_neg Bool.false_ne_true]; exact q rfl
theorem le_i_app {a b : List PD} {x y : List Int} (h : a = intsD x) (k : b = intsD y) : a ++ b = intsD (x ++ y) := by rw [h, k, ints_app]
theorem le_i_take {a : List PD} {x : List Int} {n : Nat} (h : a = intsD x) : a.take n = intsD (x.take n) := by rw [h, ints_take]
theorem le_i_drop {a : List PD} {x : List Int} {n : Nat} (h : a = intsD x) : a.drop n = intsD (x.drop n) := by rw [h, ints_drop]
theorem le_i_cons {a : List PD} {x : List Int} {i : Int} (h : a = intsD x) : PyData.int i :: a = intsD (i :: x) := by rw [h] <;> rfl
theorem le_i_nil : [] = intsD [] := rfl
theorem le_c_app {a b : List PD} {x y : List Cr} (h : a = crsD x) (k : b = crsD y) : a ++ b = crsD (x ++ y) := by rw [h, k, crs_app]
theorem le_c_take {a : List PD} {x : List Cr} {n : Nat} (h : a = crsD x) : a.take n = crsD (x.take n) := by rw [h, crs_take]
theorem le_c_drop {a : List PD} {x : List Cr} {n : Nat} (h : a = crsD x) : a.drop n = crsD (x.drop n) := by rw [h, crs_drop]
theorem le_c_cons {a : List PD} {x : List Cr} {t s : Int} (h : a = crsD x) : PyData.tuple [.int t, .int s] :: a = crsD ((t, s) :: x) := by rw [h] <;> rfl
theorem le_c_nil : [] = crsD [] := rfl
theorem nlAll_take {a : List PD} {n : Nat} (h : nlAll a = true) : nlAll (a.take n) = true := nlAll_iff.mpr fun d hd => nlAll_iff.mp h d (List.mem_of_mem_take hd)
theorem nlAll_drop {a : List PD} {n : Nat} (h : nlAll a = true) : nlAll (a.drop n) = true := nlAll_iff.mpr fun d hd => nlAll_iff.mp h d (List.mem_of_mem_drop hd)
theorem fit_app {a b : List PD} (h : (Rt.l a).fit = true) (k : (Rt.l b).fit = true) : (Rt.l (a ++ b)).fit = true := nlAll_append h k
theorem fit_take {a : List PD} {n : Nat} (h : (Rt.l a).fit = true) : (Rt.l (a.take n)).fit = true := nlAll_take h
theorem fit_drop {a : List PD} {n : Nat} (h : (Rt.l a).fit = true) : (Rt.l (a.drop n)).fit = true := nlAll_drop h
theorem cmul_l {i j : Int} (h : i.natAbs ≤ 1000000000000000) : CMul i j := Or.inl ⟨by omega, by omega⟩
theorem cmul_r {i j : Int} (h : j.natAbs ≤ 1000000000000000) : CMul i j := Or.inr ⟨by omega, by omega⟩
theorem cro_get {W : Web} {w : Wk} {j : Nat} (h : w.In W) (hj : j < w.cs.length) : Cro W ((w.cs.getD j (0, 0)).1, (w.cs.getD j (0, 0)).2) := by
  obtain ⟨u, hp⟩ := h.path
  refine hp.cro _ ?_
  have e : w.cs.getD j (0, 0) = w.cs[j] := by
    rw [List.getD_eq_getElem?_getD, List.getElem?_eq_getElem hj]
    rfl
  rw [e]
  exact List.getElem_mem hj
section
variable {g : En} {Γ : List Bnd} {n : Nat} {N : List Bnd → Nat → Prop} {Rr : Rt → Nat → Prop} {te ti : TE}
theorem ints_at {ts : List Int} {k : Int} (h : 0 ≤ k ∧ k < ts.length) : (intsD ts)[k.toNat]? = some (.int (ts.getD k.toNat 0)) := by
  unfold intsD
  rw [List.getElem?_map, List.getD_eq_getElem?_getD, List.getElem?_eq_getElem (by omega)]
  rfl
theorem sg_imp2 {ts : TS} {Q M : List Bnd → Nat → Prop} (h : Sg g ts Γ n Q Rr) (k : ∀ Γ' m, Q Γ' m → M Γ' m) : Sg g ts Γ n M Rr := h.imp k
/-- xs[k] op= e, xs of ints -/
theorem sg_augI {i : Nat} {ts : List Int} {f : Int → Int → Int} (e : Γ[i]? = some (.own (intsD ts))) (h : Ev g ti Γ n fun s n1 => ∃ k : Int, s.pd = .int k ∧ (0 ≤ k ∧ k < ts.length) ∧ Ev g te Γ n1 fun r n2 => ∃ b, r.pd = .int b ∧ N (Γ.set i (.own (intsD (ts.set k.toNat (f (ts.getD k.toNat 0) b))))) n2) :
    Sg g (tAugS (tVar i) ti te (rGetL g.K) (ipI f) rSetL) Γ n N Rr := sg_augL e (h.imp fun s n1 ⟨k, e1, hk, q⟩ => ⟨k.toNat, ts.getD k.toNat 0, by rw [e1, Int.toNat_of_nonneg hk.1], ints_at hk, q.imp fun r n2 ⟨b, e2, q2⟩ => ⟨b, e2, by rw [ints_set]; exact q2⟩⟩)
/-- xs[k] = e, xs of ints -/
theorem sg_setI {i : Nat} {ts : List Int} (e : Γ[i]? = some (.own (intsD ts))) (h : Ev g te Γ n fun r n1 => Ev g ti Γ n1 fun s n2 => ∃ k b : Int, s.pd = .int k ∧ r.pd = .int b ∧ (0 ≤ k ∧ k < ts.length) ∧ N (Γ.set i (.own (intsD (ts.set k.toNat b)))) n2) :
    Sg g (tAsg te (gSub (tVar i) ti rSetL)) Γ n N Rr := sg_setL e (h.imp fun r n1 q => q.imp fun s n2 ⟨k, b, e1, e2, hk, q⟩ => ⟨k, k.toNat, e1, by
    unfold ixN
    rw [if_pos hk.1, ints_len, if_pos hk.2], by rw [e2] <;> rfl, by rw [e2, ints_set]; exact q⟩)
end
section
variable {g : En} {Γ : List Bnd} {n : Nat} {Q : Rt → Nat → Prop} {te tk : TE}
theorem ev_takeL (h : Ev g te Γ n fun x n1 => Ev g tk Γ n1 fun y n2 => ∃ ds k, x.pd = .list ds ∧ y.pd = .int k ∧ 0 ≤ k ∧ Q (.l (ds.take k.toNat)) n2) : Ev g (tSl (rSlL g.K) te tNoPart (tPart tk)) Γ n Q :=
  ev_slL (h.imp fun x n1 q => eo_none (eo_some (q.imp fun y n2 ⟨ds, k, e1, e2, hk, q2⟩ => ⟨k, e2, ds, e1, by rw [cut_take _ hk]; exact q2⟩)))
theorem ev_dropL (h : Ev g te Γ n fun x n1 => Ev g tk Γ n1 fun y n2 => ∃ ds k, x.pd = .list ds ∧ y.pd = .int k ∧ 0 ≤ k ∧ Q (.l (ds.drop k.toNat)) n2) : Ev g (tSl (rSlL g.K) te (tPart tk) tNoPart) Γ n Q :=
  ev_slL (h.imp fun x n1 q => eo_some (q.imp fun y n2 ⟨ds, k, e1, e2, hk, q2⟩ => ⟨k, e2, eo_none ⟨ds, e1, by rw [cut_drop _ hk]; exact q2⟩⟩))
theorem ev_takeT (h : Ev g te Γ n fun x n1 => Ev g tk Γ n1 fun y n2 => ∃ ds k, x.pd = .tuple ds ∧ y.pd = .int k ∧ 0 ≤ k ∧ Q (.d (.tuple (ds.take k.toNat))) n2) : Ev g (tSl (rSlA g.K) te tNoPart (tPart tk)) Γ n Q :=
  ev_slT (h.imp fun x n1 q => eo_none (eo_some (q.imp fun y n2 ⟨ds, k, e1, e2, hk, q2⟩ => ⟨k, e2, ds, e1, by rw [cut_take _ hk]; exact q2⟩)))
theorem ev_dropT (h : Ev g te Γ n fun x n1 => Ev g tk Γ n1 fun y n2 => ∃ ds k, x.pd = .tuple ds ∧ y.pd = .int k ∧ 0 ≤ k ∧ Q (.d (.tuple (ds.drop k.toNat))) n2) : Ev g (tSl (rSlA g.K) te (tPart tk) tNoPart) Γ n Q :=
  ev_slT (h.imp fun x n1 q => eo_some (q.imp fun y n2 ⟨ds, k, e1, e2, hk, q2⟩ => ⟨k, e2, eo_none ⟨ds, e1, by rw [cut_drop _ hk]; exact q2⟩⟩))
end
section
variable {g : En} {Γ : List Bnd} {n : Nat} {Q : Rt → Nat → Prop} {te : TE} {gt : TG}
/-- [f x for x in ..], the source a list of one kind -/
theorem ev_mapS {α : Type} {wi : TI} {vs : List Nat} (e f : α → PD) (h : Src g wi Γ n fun ds n1 => ∃ l : List α, ds = l.map e ∧ nlAll (l.map e) = true ∧ l.length ≤ 100000 ∧
      (∀ a ∈ l, Gt g gt (e a) (wipeG Γ vs) n1 (fun k => k ∈ vs) fun Γ' => Ev g te Γ' n1 fun r n2 => n2 = n1 ∧ nl r.pd = true ∧ r.pd = f a) ∧ Q (.l (l.map f)) n1) :
    Ev g (tLc wi gt tYes te vs) Γ n Q := ev_lc fun σ H A R k => h σ H A R fun ds n1 J it ⟨l, ed, hn, hl, hs, hd⟩ => by
      subst ed
      exact k _ n1 J it ⟨hn, fun i acc m => m = n1 ∧ acc = (l.take i).map f, ⟨rfl, by simp⟩, fun i d acc n2 hi ⟨e1, e2⟩ => by
        subst e1
        rw [List.getElem?_map] at hi
        obtain ⟨a, ha, hae⟩ := Option.map_eq_some_iff.mp hi
        subst hae
        have hmem := List.mem_of_getElem? ha
        intro σ H v A hd hn R k
        refine hs a hmem σ H v A hd hn R fun Γ' σ' q A' l1 f1 => k Γ' σ' (et_yes ?_) A' l1 f1
        refine q.imp fun r m ⟨h1, h2, h3⟩ => ⟨h2, ?_, h1, ?_⟩
        · have hlt : i < l.length := by
            rcases Nat.lt_or_ge i l.length with z | z
            · exact z
            · rw [List.getElem?_eq_none z] at ha; cases ha
          rw [e2, List.length_map, List.length_take]
          omega
        · rw [e2, List.take_add_one, ha, List.map_append, h3]
          rfl,
      fun acc n2 ⟨e1, e2⟩ hna => by
        subst e1
        rw [List.length_map, List.take_length] at e2
        subst e2
        exact hd⟩
end
section
variable {g : En} {Γ : List Bnd} {n : Nat} {Q : Rt → Nat → Prop} {te : TE} {gt : TG} {ts : TS} {N : List Bnd → Nat → Prop} {Rr : Rt → Nat → Prop} {t : TA}
theorem sg_raise {E : XK} {C : Addr} {f : Str} (h : EvA g t Γ n fun ds n1 => ∃ x, ds = [x] ∧ ∀ z d J, Ex g.m g.H0 J → g.H0 d = none → J d = some (.xd [(f, z)]) → Dp g.K J z x → E (.ref C) (some d) J) : Sg g (tRaiseX C f (fun cls d _ H => E cls d H) t) Γ n N Rr := fun D σ H A kn kr =>
  h σ H A _ fun ds n1 vs J ⟨x, e, q⟩ A1 x1 r1 => by
    subst e
    cases r1 with
    | cons h1 h2 =>
      cases h2
      refine ⟨_, rfl, fun d L hs hd hx => ?_⟩
      have x2 : Ex g.m J L := Ex.of_same hs
      exact q _ d L (A1.fr.trans x2) (A1.fr.back hd) hx (dp_mono x2 h1)
/-- for targets in a tuple of one kind -/
theorem sg_forS {α : Type} (e : α → PD) (h : Ev g te Γ n fun r n1 => ∃ l : List α, r.pd = .tuple (l.map e) ∧ nlAll (l.map e) = true ∧ ∃ Iv : Nat → List Bnd → Nat → Prop, Iv 0 Γ n1 ∧
      (∀ v i a Γ' n', l[i]? = some a → Iv i Γ' n' → Gt (g.pinned v (.tuple (l.map e))) gt (e a) Γ' n' (fun _ => True) fun Γ2 => Sg (g.pinned v (.tuple (l.map e))) ts Γ2 n' (Iv (i + 1)) Rr) ∧ ∀ Γ' n', Iv l.length Γ' n' → N Γ' n') :
    Sg g (tFor (iTup g.K te) gt ts) Γ n N Rr := sg_forT (h.imp fun r n1 ⟨l, e1, hn, Iv, h0, hs, hd⟩ => ⟨l.map e, e1, hn, Iv, h0, fun v i d Γ' n' hi hI => by
      rw [List.getElem?_map] at hi
      obtain ⟨a, ha, hae⟩ := Option.map_eq_some_iff.mp hi
      subst hae
      exact hs v i a Γ' n' ha hI, fun Γ' n' hI => hd Γ' n' (by rw [List.length_map] at hI; exact hI)⟩)
/-- for number, x in enumerate(tuple) -/
theorem sg_forE (h : EvA g t Γ n fun rs n1 => ∃ ds, rs = [.tuple ds] ∧ nlAll ds = true ∧ ∃ Iv : Nat → List Bnd → Nat → Prop, Iv 0 Γ n1 ∧
      (∀ v i d Γ' n', ds[i]? = some d → Iv i Γ' n' → Gt (g.pinned v (.tuple ds)) gt (.tuple [.int (i : Nat), d]) Γ' n' (fun _ => True) fun Γ2 => Sg (g.pinned v (.tuple ds)) ts Γ2 n' (Iv (i + 1)) Rr) ∧ ∀ Γ' n', Iv ds.length Γ' n' → N Γ' n') :
    Sg g (tFor (iEnumT g.K t) gt ts) Γ n N Rr := fun D σ H A kn kr =>
  h σ H A _ fun rs n1 vs J ⟨ds, e, hn, Iv, h0, hs, hd⟩ A1 x1 r1 => by
    subst e
    cases r1 with
    | cons hd1 hnil =>
      cases hnil
      obtain ⟨a, xs, rfl, hq, hx⟩ := dp_tup hd1
      have hxl := dpa_len hx
      have hnt : nl (.tuple ds) = true := by rw [nl]; exact hn
      refine ⟨a, xs, rfl, hq, ?_⟩
      refine ⟨fun i m τ L => m = ds.length - i ∧ i ≤ ds.length ∧ ∃ Γ' n', Iv i Γ' n' ∧ At (g.pinned (.ref a) (.tuple ds)) Γ' n' τ L, ⟨ds.length, by simp, Nat.zero_le _, Γ, n1, h0, A1.pinned hd1 hnt⟩, ?_⟩
      rintro i m τ L ⟨rfl, hi, Γ', n', hI, B⟩
      obtain ⟨_, hdp⟩ := B.pin (.ref a, .tuple ds) List.mem_cons_self
      obtain ⟨a', ys, ea, hy1, hy2⟩ := dp_tup hdp
      cases ea
      have hlen := dpa_len hy2
      by_cases hlt : i < ds.length
      · refine .inr ⟨⟨ys, ys[i]'(by omega), hy1, List.getElem?_eq_getElem _, by omega⟩, fun τ' L' => ∃ Γ2 n2, Iv (i + 1) Γ2 n2 ∧ At (g.pinned (.ref a) (.tuple ds)) Γ2 n2 τ' L', fun τ' L' ⟨Γ2, n2, q2, B2⟩ => ⟨ds.length - (i + 1), by omega, rfl, hlt, Γ2, n2, q2, B2⟩, fun x L' hy => ?_⟩
        obtain ⟨T, y, rfl, hT, rfl, hy⟩ := hy
        obtain ⟨d, hd1, hd2⟩ := dpa_got hy2 (hy ys hy1)
        have hnd := nlAll_get hn hd1
        refine hs (.ref a) i d Γ' n' hd1 hI τ _ (.ref T) (B.new hT) (.tup (SqT.of upd_same) (dpa_mono (m := none) (Ex.new hT) (.cons (.int _) (.cons hd2 .nil)))) (by rw [nl, nlAll, nlAll, nlAll, hnd] <;> rfl) _ fun Γ2 σ2 q2 B2 _ _ => ?_
        exact q2 _ σ2 _ B2 (fun Γ3 n3 σ3 J3 q3 B3 => ⟨Γ3, n3, q3, B3⟩) kr
      · have e : i = ds.length := by omega
        subst e
        exact .inl ⟨⟨ys, hy1, by omega, by omega⟩, kn Γ' n' τ L (hd Γ' n' hI) B.unpin⟩
end
theorem mvs_len (ms : List Mv) : (mvs ms).length = ms.length := List.length_map ..
theorem mvs_app (a b : List Mv) : mvs a ++ mvs b = mvs (a ++ b) := List.map_append.symm
theorem eqv_str (a b : Str) : PyData.eqv (.str a) (.str b) = decide (a = b) := by
  by_cases h : a = b
  · subst h
    simp [PyData.eqv]
  · simp [PyData.eqv, h]
/-! ### going along, step by step -/
theorem goAll_snoc (W : Web) (G : Go) (xs : List (Cr × Int)) (a : Cr × Int) : goAll W G (xs ++ [a]) = turnG W (goAll W G xs) a := by
  unfold goAll
  rw [List.foldl_append]
  rfl
theorem turn_len (W : Web) (G : Go) (a : Cr × Int) : (turnG W G a).1.length ≤ G.1.length + 1 := by
  unfold turnG
  split
  · show G.1.dropLast.length ≤ _
    rw [List.length_dropLast]
    omega
  · simp
theorem goAll_len (W : Web) : ∀ (xs : List (Cr × Int)) (G : Go), (goAll W G xs).1.length ≤ G.1.length + xs.length
  | [], G => Nat.le_refl _
  | x :: xs, G => by
    have h1 := goAll_len W xs (turnG W G x)
    have h2 := turn_len W G x
    show (goAll W (turnG W G x) xs).1.length ≤ _
    rw [List.length_cons]
    omega
theorem take_snoc {α : Type} {l : List α} {i : Nat} {a : α} (h : l[i]? = some a) : l.take (i + 1) = l.take i ++ [a] := by
  rw [List.take_add_one, h]
  rfl
theorem getLast_app {α : Type} (l : List α) (a : α) : (l ++ [a]).getLast? = some a := by simp
theorem at_last_kp {l : List Kp} {k : Kp} (h : l.getLast? = some k) : atI (l.map kpD) (-1) = some (kpD k) := by
  rw [getLast?_split h, List.map_append]
  exact atI_last _ _
theorem last_kp {l : List Kp} {k : Kp} (h : l.getLast? = some k) : (l.map kpD)[(l.map kpD).length - 1]? = some (kpD k) := by
  rw [getLast?_split h, List.map_append, List.length_append]
  show _ = some (kpD k)
  rw [List.getElem?_append_right (by simp)]
  simp
theorem shp_kps (l : List Kp) : SeqAt.shaped (.list (l.map kpD)) = true := by
  unfold SeqAt.shaped
  rw [Bool.and_eq_true]
  refine ⟨?_, ?_⟩
  · rw [PyData.canLay0]
    refine layAll_iff.mpr fun d hd => ?_
    obtain ⟨a, _, e⟩ := List.mem_map.mp hd
    rw [← e] <;> rfl
  · rw [decide_eq_true_eq, PyData.depth]
    refine Nat.le_trans (Nat.succ_le_succ (depAll_le (k := 1) fun d hd => ?_)) (by decide)
    obtain ⟨a, _, e⟩ := List.mem_map.mp hd
    rw [← e]
    exact Nat.le_refl _
theorem kps_nil (l : List Kp) : PyData.eqv (.list (l.map kpD)) (.list []) = decide (l = []) := by
  cases l <;> simp [PyData.eqv, PyData.eqvAll]
/-- what decides a turn -/
theorem turn_cases (W : Web) (G : Go) (a : Cr × Int) :
    (gP W G a = true ∧ ∃ k, G.1.getLast? = some k ∧ restI (ends W a.1.1 a.1.2).2.2.1 G.2 = 0 ∧ G.1 ≠ [] ∧ k.2.1 = a.1.1 ∧ k.2.2 = -a.1.2) ∨
    (gP W G a = false ∧ (restI (ends W a.1.1 a.1.2).2.2.1 G.2 ≠ 0 ∨ (restI (ends W a.1.1 a.1.2).2.2.1 G.2 = 0 ∧ G.1 = []) ∨
      (restI (ends W a.1.1 a.1.2).2.2.1 G.2 = 0 ∧ G.1 ≠ [] ∧ ∃ k, G.1.getLast? = some k ∧ (decide (k.2.1 = a.1.1) && decide (k.2.2 = -a.1.2)) = false))) := by
  unfold gP popsB
  by_cases hr : gR W G a = 0
  · cases hk : G.1.getLast? with
    | none =>
      right
      refine ⟨by simp, .inr (.inl ⟨hr, ?_⟩)⟩
      exact List.getLast?_eq_none_iff.mp hk
    | some k =>
      have hne : G.1 ≠ [] := fun z => by rw [z] at hk; cases hk
      cases hd : (decide (k.2.1 = a.1.1) && decide (k.2.2 = -a.1.2)) with
      | true =>
        left
        have hd2 := hd
        rw [Bool.and_eq_true, decide_eq_true_eq, decide_eq_true_eq] at hd2
        refine ⟨?_, k, rfl, hr, hne, hd2.1, hd2.2⟩
        rw [decide_eq_true hr, Bool.true_and]
        exact hd
      | false =>
        right
        refine ⟨?_, .inr (.inr ⟨hr, hne, k, rfl, hd⟩)⟩
        rw [decide_eq_true hr, Bool.true_and]
        exact hd
  · right
    exact ⟨by simp [hr], .inl hr⟩
theorem turn_add {W : Web} {G : Go} {a : Cr × Int} (h : gP W G a = false) : turnG W G a = (G.1 ++ [(gR W G a, a.1.1, a.1.2)], gN W G a) := by
  unfold turnG
  rw [if_neg (by rw [h]; exact Bool.false_ne_true)]
theorem turn_pop {W : Web} {G : Go} {a : Cr × Int} {k : Kp} (h : gP W G a = true) (hk : G.1.getLast? = some k) : turnG W G a = (G.1.dropLast, k.1 + gN W G a) := by
  unfold turnG lastR
  rw [if_pos h, hk]
theorem cdivn {x P : Int} (h : P ≠ 0) (h2 : P.natAbs ≤ 1000) : CDivN x P := ⟨h, by omega⟩
theorem abs_pos {P : Int} (h : P ≠ 0) : 0 < if P < 0 then -P else P := by
  split <;> omega
theorem map_dropLast {α β : Type} (f : α → β) (l : List α) : (l.map f).dropLast = l.dropLast.map f := by
  rw [List.dropLast_eq_take, List.dropLast_eq_take, List.length_map, List.map_take]
section
variable {g : En} {Γ : List Bnd} {n : Nat} {te : TE} {N : List Bnd → Nat → Prop} {Rr : Rt → Nat → Prop} {E : XK} {C : Addr}
/-- name = _checked(xs.pop()[0] + ..) -/
theorem sg_chkP {i : Nat} (h : EvP g te Γ n fun a Γ' n' => (inB a = true → N (Γ'.set i (.dat (.int a))) n') ∧
      (inB a = false → ∀ z d J, Ex g.m g.H0 J → g.H0 d = none → J d = some (.xd [("what", z)]) → Dp g.K J z (.str "turns") → E (.ref C) (some d) J)) :
    Sg g (tAsg (tCall (sp__checked g.K C) [] E (tCons te tNil)) (gName i)) Γ n N Rr := fun D σ H A kn kr =>
  h σ H A _ fun a Γ' n' J ⟨q1, q2⟩ A1 => by
    refine ⟨a, by rw [List.append_nil]; exact .cons (.int a) .nil, trivial, fun r v L ⟨hb, hr⟩ x2 r2 => ?_, fun x z d L ⟨hb, hx⟩ x2 hd hxd hz => ?_⟩
    · subst hr
      exact kn _ _ _ _ (q1 hb) ((A1.growN x2).setD r2 (.inl rfl))
    · subst hx
      exact q2 hb z d L (A1.fr.trans x2.none_to) (A1.fr.back hd) hxd hz
theorem cl__checked {Q : Rt → Nat → Prop} {t : TA} (h : EvA g t Γ n fun ds n1 => ∃ i, ds = [.int i] ∧ (inB i = true → Q (.d (.int i)) n1) ∧
      (inB i = false → ∀ z d J, Ex g.m g.H0 J → g.H0 d = none → J d = some (.xd [("what", z)]) → Dp g.K J z (.str "turns") → E (.ref C) (some d) J)) : Ev g (tCall (sp__checked g.K C) [] E t) Γ n Q := fun σ H A R k =>
  h σ H A _ fun ds n1 vs J ⟨i, e, q1, q2⟩ A1 x1 r1 => by
    subst e
    refine ⟨i, by rw [List.append_nil]; exact r1, trivial, fun r v L ⟨hb, hr⟩ x2 r2 => ?_, fun x z d L ⟨hb, hx⟩ x2 hd hxd hz => ?_⟩
    · subst hr
      exact k _ n1 v L (q1 hb) (A1.growN x2) (x1.trans x2.none_to) (r2.back x1)
    · subst hx
      exact q2 hb z d L (A1.fr.trans x2.none_to) (A1.fr.back hd) hxd hz
theorem cl_moved_walk {Q : Rt → Nat → Prop} {t : TA} (h : EvA g t Γ n fun ds n1 => ∃ (W : Web) (w : Wk) (ms : List PD), ds = [webD W, wkD w, .tuple ms] ∧ (W.Ok ∧ w.In W ∧ w.fits = true ∧ Dk 9 (.tuple ms) ∧ ∀ m ∈ ms, Few m) ∧ ∃ x, led W w ms = some x ∧ Q (.d (wkD x)) n1) :
    Ev g (tCall (sp_moved_walk g.K C) [] E t) Γ n Q := ev_callX (h.imp fun ds m ⟨W, w, ms, e, p, x, hx, q⟩ => ⟨(W, w, ms), e, p, fun r ⟨y, hy, hr⟩ => by
      have e2 : some x = some y := hx.symm.trans hy
      cases e2
      rw [hr]
      exact q, fun y ⟨hn, _⟩ => by
      have e2 : some x = none := hx.symm.trans hn
      cases e2⟩)
theorem cl_plain_moves {Q : Rt → Nat → Prop} {t : TA} (h : EvA g t Γ n fun ds n1 => ∃ (W : Web) (w : Wk), ds = [webD W, wkD w] ∧ (W.Ok ∧ w.In W ∧ w.fits = true) ∧ (∀ ms, pm W w = some ms → Q (.d (.tuple (mvs ms))) n1) ∧
      (pm W w = none → ∀ z d J, Ex g.m g.H0 J → g.H0 d = none → J d = some (.xd [("what", z)]) → Dp g.K J z (.str "turns") → E (.ref C) (some d) J)) : Ev g (tCall (sp_plain_moves g.K C) [] E t) Γ n Q :=
  ev_callX (h.imp fun ds m ⟨W, w, e, p, q1, q2⟩ => ⟨(W, w), e, p, fun r ⟨ms, h1, h2⟩ => by rw [h2]; exact q1 ms h1, fun x ⟨h1, h2⟩ => by rw [h2]; exact q2 h1⟩)
end
/-! ### values as moves -/
theorem eqv_isStr {a : PD} {z : Str} : PyData.eqv a (.str z) = true ↔ a = .str z := by
  cases a <;> simp [PyData.eqv]
theorem toMv2 (a : PD) (i : Int) : toMv (.tuple [a, .int i]) = if PyData.eqv a (.str "strike") = true then some (.strike i) else none := by
  cases a <;> simp [toMv, PyData.eqv]
theorem toMv3 (a : PD) (i m : Int) : toMv (.tuple [a, .int i, .int m]) = if PyData.eqv a (.str "carry") = true then some (.carry i m) else none := by
  cases a <;> simp [toMv, PyData.eqv]
theorem toMv5 (a : PD) (i t s k : Int) : toMv (.tuple [a, .int i, .int t, .int s, .int k]) = if PyData.eqv a (.str "put") = true then some (.put i t s k) else none := by
  cases a <;> simp [toMv, PyData.eqv]
theorem toMv_len {ds : List PD} (h : ds.length ≠ 2 ∧ ds.length ≠ 3 ∧ ds.length ≠ 5) : toMv (.tuple ds) = none := by
  obtain ⟨h2, h3, h5⟩ := h
  unfold toMv
  split <;> simp_all
theorem toMv_whole {ds : List PD} (h : ((ds.drop 1).map wholeB).all id = false) : toMv (.tuple ds) = none := by
  unfold toMv
  split <;> simp_all [wholeB]
theorem whole_int {d : PD} (h : wholeB d = true) : ∃ i, d = .int i := by
  cases d <;> first | exact ⟨_, rfl⟩ | cases h
theorem shape_cases {ds : List PD} (h : ((ds.drop 1).map wholeB).all id = true) :
    (∃ a i, ds = [a, .int i]) ∨ (∃ a i m, ds = [a, .int i, .int m]) ∨ (∃ a i t s k, ds = [a, .int i, .int t, .int s, .int k]) ∨ (ds.length ≠ 2 ∧ ds.length ≠ 3 ∧ ds.length ≠ 5) := by
  match ds, h with
  | [], _ => exact .inr (.inr (.inr ⟨by simp, by simp, by simp⟩))
  | [_], _ => exact .inr (.inr (.inr ⟨by simp, by simp, by simp⟩))
  | [a, b], h =>
    simp at h
    obtain ⟨i, rfl⟩ := whole_int h
    exact .inl ⟨_, _, rfl⟩
  | [a, b, c], h =>
    simp at h
    obtain ⟨h1, h2⟩ := h
    obtain ⟨i, rfl⟩ := whole_int h1
    obtain ⟨j, rfl⟩ := whole_int h2
    exact .inr (.inl ⟨_, _, _, rfl⟩)
  | [_, _, _, _], _ => exact .inr (.inr (.inr ⟨by simp, by simp, by simp⟩))
  | [a, b, c, d, e], h =>
    simp at h
    obtain ⟨h1, h2, h3, h4⟩ := h
    obtain ⟨i, rfl⟩ := whole_int h1
    obtain ⟨j, rfl⟩ := whole_int h2
    obtain ⟨k, rfl⟩ := whole_int h3
    obtain ⟨l, rfl⟩ := whole_int h4
    exact .inr (.inr (.inl ⟨_, _, _, _, _, rfl⟩))
  | _ :: _ :: _ :: _ :: _ :: _ :: _, _ => exact .inr (.inr (.inr ⟨by simp, by simp, by simp⟩))
section
variable {g : En} {Γ : List Bnd} {n : Nat} {Q : Rt → Nat → Prop} {ta : TE}
theorem ev_in1 {neg : Bool} (ha : Ev g ta Γ n fun x n1 => ∃ i, x.pd = .int i ∧ Q (.d (.bool (if neg then !decide (i = 1 ∨ i = -1) else decide (i = 1 ∨ i = -1)))) n1) :
    Ev g (tOp (rIn g.K neg) ta (tTup (tCons (tC (.int 1)) (tCons (tUn (rU fun i => .int (-i)) (tC (.int 1))) tNil)))) Γ n Q :=
  ev_inI (ha.imp fun x n1 ⟨i, e, q⟩ => ev_tup (ea_cons (ev_int (ea_cons (ev_neg (ev_int ⟨1, rfl, ea_nil ⟨by simp, i, [1, -1], e, rfl, by
    have e2 : decide (i ∈ ([1, -1] : List Int)) = decide (i = 1 ∨ i = -1) := by simp
    rw [e2]
    exact q⟩⟩))))))
theorem ev_in1T (ha : Ev g ta Γ n fun x n1 => ∃ i, x.pd = .int i ∧ Q (.d (.bool (decide (i = 1 ∨ i = -1)))) n1) :
    Ev g (tOp (rIn g.K false) ta (tTup (tCons (tC (.int 1)) (tCons (tUn (rU fun i => .int (-i)) (tC (.int 1))) tNil)))) Γ n Q := ev_in1 (ha.imp fun x n1 ⟨i, e, q⟩ => ⟨i, e, q⟩)
theorem ev_in1F (ha : Ev g ta Γ n fun x n1 => ∃ i, x.pd = .int i ∧ Q (.d (.bool (!decide (i = 1 ∨ i = -1)))) n1) :
    Ev g (tOp (rIn g.K true) ta (tTup (tCons (tC (.int 1)) (tCons (tUn (rU fun i => .int (-i)) (tC (.int 1))) tNil)))) Γ n Q := ev_in1 (ha.imp fun x n1 ⟨i, e, q⟩ => ⟨i, e, q⟩)
end
theorem led_take {W : Web} {w : Wk} {ds : List PD} {i : Nat} {d : PD} (h : ds[i]? = some d) : led W w (ds.take (i + 1)) = (led W w (ds.take i)).bind fun x => mv W x d := by
  rw [take_snoc h, led_app]
  congr 1
  funext x
  show (mv W x d).bind (fun y => some y) = mv W x d
  cases mv W x d <;> rfl
theorem led_head {W : Web} {w x : Wk} {ds : List PD} {i : Nat} (h : led W w ds = some x) : ∃ y, led W w (ds.take i) = some y := by
  rw [← List.take_append_drop i ds, led_app] at h
  cases e : led W w (ds.take i) with
  | none => rw [e] at h; cases h
  | some y => exact ⟨y, rfl⟩
theorem all_inB (ts : List Int) : ((ts.map inB).all id) = ts.all inB := by
  rw [List.all_map]
  rfl
theorem due_snoc (W : Web) : ∀ (xs : List (Cr × Int)) (G : Go) (a : Cr × Int), dueM W G (xs ++ [a]) = dueM W G xs ++ movesG W (goAll W G xs) a
  | [], G, a => by
    show movesG W G a ++ [] = [] ++ _
    simp [goAll]
  | x :: xs, G, a => by
    show movesG W G x ++ dueM W (turnG W G x) (xs ++ [a]) = (movesG W G x ++ dueM W (turnG W G x) xs) ++ _
    rw [due_snoc W xs, List.append_assoc]
    rfl
theorem chk_snoc (W : Web) : ∀ (xs : List (Cr × Int)) (G : Go) (a : Cr × Int), chkAll W G (xs ++ [a]) = (chkAll W G xs && chkG W (goAll W G xs) a)
  | [], G, a => by
    show (chkG W G a && true) = (true && _)
    simp [goAll]
  | x :: xs, G, a => by
    show (chkG W G x && chkAll W (turnG W G x) (xs ++ [a])) = ((chkG W G x && chkAll W (turnG W G x) xs) && _)
    rw [chk_snoc W xs, Bool.and_assoc]
    rfl
theorem chk_app (W : Web) : ∀ (xs ys : List (Cr × Int)) (G : Go), chkAll W G (xs ++ ys) = (chkAll W G xs && chkAll W (goAll W G xs) ys)
  | [], ys, G => by
    show _ = (true && _)
    simp [goAll]
  | x :: xs, ys, G => by
    show (chkG W G x && chkAll W (turnG W G x) (xs ++ ys)) = ((chkG W G x && chkAll W (turnG W G x) xs) && _)
    rw [chk_app W xs, Bool.and_assoc]
    rfl
theorem chk_bad {W : Web} {G : Go} {xs : List (Cr × Int)} {i : Nat} {a : Cr × Int} (h : xs[i]? = some a) (hb : chkG W (goAll W G (xs.take i)) a = false) : chkAll W G xs = false := by
  rw [← List.take_append_drop (i + 1) xs, chk_app, take_snoc h, chk_snoc, hb]
  simp
theorem mvOnce_len {W : Web} {x y : Wk} {d : PD} (h : mvOnce W x d = some y) : y.cs.length ≤ x.cs.length + 2 := by
  unfold mvOnce at h
  cases e : toMv d with
  | none => rw [e] at h; cases h
  | some m =>
    rw [e] at h
    cases m with
    | carry i k =>
      simp only [Option.bind_some, mvOnceM] at h
      split at h
      · cases h
        show x.cs.length ≤ _
        omega
      · cases h
    | strike i =>
      simp only [Option.bind_some, mvOnceM, strike, strikeN] at h
      split at h
      · split at h
        · cases h
          simp only [List.length_append, List.length_take, List.length_drop]
          omega
        · cases h
      · cases h
    | put i t s a =>
      simp only [Option.bind_some, mvOnceM, putIn, putN] at h
      split at h
      · split at h
        · cases h
          simp only [List.length_append, List.length_take, List.length_drop, List.length_cons, List.length_nil]
          omega
        · cases h
      · cases h
theorem mvOnce_in {W : Web} {x y : Wk} {d : PD} (h : x.In W) (e : mvOnce W x d = some y) : y.In W := by
  unfold mvOnce at e
  cases q : toMv d with
  | none => rw [q] at e; cases e
  | some m =>
    rw [q] at e
    exact mvOnceM_in h e
theorem ledD_in {W : Web} {w x : Wk} {d : PD} (h : w.In W) (hf : w.fits = true) (e : ledD W w d = some x) : x.In W ∧ x.fits = true := by
  cases d <;> simp only [ledD] at e <;> first | cases e | skip
  split at e
  · exact led_in h hf e
  · cases e
theorem eqv_opt {o : Option Wk} {b : Wk} (ho : ∀ x, o = some x → x.Ok) (hb : b.Ok) : PyData.eqv (optD o) (wkD b) = decide (o = some b) := by
  cases o with
  | none => simp [optD, wkD, PyData.eqv]
  | some x =>
    show PyData.eqv (wkD x) (wkD b) = _
    rw [eqv_wk (ho x rfl) hb]
    simp
theorem eqv_str2 {z : PD} (h : PyData.eqv z (.str "equal") = true) : PyData.eqv z (.str "unlike") = false := by
  rw [eqv_isStr.mp h, eqv_str]
  decide +kernel
theorem at_cons0 {a : PD} {r : List PD} : atI (a :: r) 0 = some a := atI_nat (j := 0) rfl
theorem at_cons1 {a b : PD} {r : List PD} : atI (a :: b :: r) 1 = some b := atI_nat (j := 1) rfl
theorem at_cons2 {a b c : PD} {r : List PD} : atI (a :: b :: c :: r) 2 = some c := atI_nat (j := 2) rfl
theorem abs_inB (i : Int) : decide ((if i < 0 then -i else i) < TB) = inB i := by
  unfold inB
  rw [← Bool.decide_and]
  congr 1
  apply propext
  have hp : (0 : Int) < TB := by
    unfold TB
    decide
  split <;> omega
theorem abs_inB2 (i : Int) : decide (TB ≤ (if i < 0 then -i else i)) = !inB i := by
  rw [← abs_inB, ← decide_not]
  congr 1
  apply propext
  omega
theorem fits_split {w : Wk} (h : w.Ok) : w.fits = (decide (w.cs.length ≤ 60) && (inB (w.ts.getD 0 0) && (w.sts.map fun p => inB p.2).all id)) := by
  obtain ⟨k, r, e, hl⟩ := h.parts
  unfold Wk.fits Wk.sts
  rw [e, List.tail_cons]
  have q : (w.cs.zip r).map (fun p => inB p.2) = r.map inB := by
    conv => rhs; rw [← zip_snd (as := w.cs) (bs := r) hl.symm, List.map_map]
    rfl
  rw [q, all_inB]
  rfl
theorem stD_fst (w : Wk) (h : w.Ok) : w.sts.map (fun p => crD p.1) = crsD w.cs := by
  have q := sts_cs h
  unfold crsD
  rw [← q, List.map_map]
  rfl
theorem stD_snd (w : Wk) (h : w.Ok) : [PyData.int (w.ts.getD 0 0)] ++ w.sts.map (fun p => .int p.2) = intsD w.ts := by
  obtain ⟨k, r, e, hl⟩ := h.parts
  unfold Wk.sts
  rw [e, List.tail_cons]
  have q := zip_snd (as := w.cs) (bs := r) hl.symm
  have q2 : (w.cs.zip r).map (fun p => PyData.int p.2) = r.map PyData.int := by
    conv => rhs; rw [← q, List.map_map]
    rfl
  rw [q2]
  rfl
theorem range_steps (cs : List Cr) (ts : List Int) (h : ts.length = cs.length + 1) : (List.range cs.length).map (fun i => stD (cs.getD i (0, 0), ts.getD (i + 1) 0)) = (cs.zip ts.tail).map stD := by
  apply List.ext_getElem
  · simp [h]
  · intro i h1 h2
    have hi : i < cs.length := by simpa using h1
    rw [List.getElem_map, List.getElem_map, List.getElem_range, List.getElem_zip]
    congr 2
    · rw [List.getD_eq_getElem?_getD, List.getElem?_eq_getElem hi]
      rfl
    · rw [List.getElem_tail, List.getD_eq_getElem?_getD, List.getElem?_eq_getElem (by omega)]
      rfl
theorem toMv_nostr {a : PD} {r : List PD} (h : ∀ z, a ≠ .str z) : toMv (.tuple (a :: r)) = none := by
  unfold toMv
  split <;> simp_all
theorem mv_none {W : Web} {w : Wk} {d : PD} (h : toMv d = none) : mv W w d = none := by
  unfold mv mvOnce
  rw [h]
  rfl
section
variable {g : En} {Γ : List Bnd} {n : Nat} {Q : Rt → Nat → Prop} {ta tb : TE}
theorem dpa_cat {K : PySem.W.Frag} {H : Hp} {xs : List V} {ds : List PD} (h : DpAll K H xs ds) : ∀ m : Nat, DpAll K H (List.replicate m xs).flatten (List.replicate m ds).flatten
  | 0 => .nil
  | m + 1 => by
    rw [List.replicate_succ, List.replicate_succ, List.flatten_cons, List.flatten_cons]
    exact dpa_app h (dpa_cat h m)
theorem ev_many (ha : Ev g ta Γ n fun x n1 => Ev g tb Γ n1 fun y n2 => ∃ ds m, x.pd = .tuple ds ∧ y.pd = .int m ∧ (ds ≠ [] ∧ 2 ≤ m ∧ m ≤ 4000 ∧ ds.length ≤ 8) ∧ Q (.d (.tuple (List.replicate m.toNat ds).flatten)) n2) : Ev g (tOp (rMany g.K) ta tb) Γ n Q :=
  ev_bin ha fun x y n2 σ G H v u ⟨ds, m, e1, e2, ⟨c1, c2, c3, c4⟩, q⟩ A _ r1 r2 R k => by
    obtain ⟨a, xs, rfl, h1, h2⟩ := dp_tup (e1 ▸ r1.dp)
    have hl := dpa_len h2
    refine ⟨a, m, xs, rfl, dp_int (e2 ▸ r2.dp), h1, fun z => c1 ?_, c2, c3, by omega, fun p hp => ?_⟩
    · rw [z] at hl
      exact List.eq_nil_of_length_eq_zero hl.symm
    · exact k _ _ _ q (A.new hp) (Ex.new hp) (.tup (SqT.of upd_same) (dpa_mono (m := none) (Ex.new hp) (dpa_cat h2 _)))
end
section
variable {g : En} {Γ : List Bnd} {n : Nat} {Rr : Rt → Nat → Prop} {N : List Bnd → Nat → Prop}
theorem sg_retOwn {i : Nat} {ds : List PD} (e : Γ[i]? = some (.own ds)) (q : Rr (.l ds) n) : Sg g (tRet (tVar i)) Γ n N Rr := fun D σ H A kn kr => by
  obtain ⟨p, h1, h2, h3, _⟩ := A.own e
  exact ⟨.ref p, h1, kr _ n _ H q A.fr A.st ⟨p, rfl, h2, h3⟩⟩
end
theorem at_any {ds : List PD} {i : Int} (h0 : 0 ≤ i) (h1 : i < ds.length) : atI ds i = some (ds.getD i.toNat .none) := by
  have e : ixN ds.length i = some i.toNat := by
    unfold ixN
    rw [if_pos h0, if_pos h1]
  unfold atI
  rw [e, List.getD_eq_getElem?_getD]
  show ds[i.toNat]? = _
  rw [List.getElem?_eq_getElem (by omega)]
  rfl
theorem getD_mem {ds : List PD} {i : Int} (h0 : 0 ≤ i) (h1 : i < ds.length) : ds.getD i.toNat .none ∈ ds := by
  rw [List.getD_eq_getElem?_getD, List.getElem?_eq_getElem (by omega)]
  exact List.getElem_mem _
theorem shp_map {α : Type} {k : Nat} {f : α → PD} {l : List α} (h : ∀ a, Dk k (f a)) (hk : k + 1 ≤ 64) : SeqAt.shaped (.list (l.map f)) = true := by
  unfold SeqAt.shaped
  rw [Bool.and_eq_true]
  refine ⟨?_, ?_⟩
  · rw [PyData.canLay0]
    refine layAll_iff.mpr fun d hd => ?_
    obtain ⟨a, _, e⟩ := List.mem_map.mp hd
    rw [← e]
    exact (h a).lay
  · rw [decide_eq_true_eq, PyData.depth]
    refine Nat.le_trans (Nat.succ_le_succ (depAll_le (k := k) fun d hd => ?_)) hk
    obtain ⟨a, _, e⟩ := List.mem_map.mp hd
    rw [← e]
    exact (h a).dep
theorem shp_crs (l : List Cr) : SeqAt.shaped (.list (crsD l)) = true := shp_map dk_cr (by decide)
theorem eqv_nil {α : Type} {f : α → PD} (l : List α) : PyData.eqv (.list (l.map f)) (.list []) = decide (l = []) := by
  cases l <;> simp [PyData.eqv, PyData.eqvAll]
theorem crs_nil (l : List Cr) : PyData.eqv (.list (crsD l)) (.list []) = decide (l = []) := eqv_nil l
theorem mem_map {α : Type} {f : α → PD} {l : List α} {d : PD} (h : d ∈ l.map f) : ∃ a, a ∈ l ∧ d = f a := by
  obtain ⟨a, ha, e⟩ := List.mem_map.mp h
  exact ⟨a, ha, e.symm⟩
theorem zip_parts {α β : Type} : ∀ l : List (α × β), (l.map (·.1)).zip (l.map (·.2)) = l
  | [] => rfl
  | p :: l => by
    rw [List.map_cons, List.map_cons, List.zip_cons_cons, zip_parts l]
theorem Sm.up {W : Web} {w : Wk} {L M : Nat} {B C : Int} (h : Sm W w L B) (h1 : L ≤ M) (h2 : B ≤ C) : Sm W w M C :=
  ⟨h.inn, Nat.le_trans h.few h1, fun x hx => by
    have q := h.sm x hx
    omega⟩
theorem Sm.fits {W : Web} {w : Wk} {L : Nat} {B : Int} (h : Sm W w L B) (h1 : L ≤ 60) (h2 : B ≤ 1000000000000000000) : w.fits = true := by
  have hb : (1000000000000000000 : Int) < TB := by
    unfold TB
    decide
  refine fits_iff.mpr ⟨Nat.le_trans h.few h1, fun x hx => ?_⟩
  have q := h.sm x hx
  unfold inB
  rw [Bool.and_eq_true, decide_eq_true_eq, decide_eq_true_eq]
  omega
section
variable {g : En} {Γ : List Bnd} {n : Nat} {te : TE} {Rr : Rt → Nat → Prop} {N : List Bnd → Nat → Prop}
/-- targets = a list of data -/
theorem sg_unpL {u : TGs} {m : Nat} (h : Ev g te Γ n fun r n1 => ∃ ds, r.pd = .list ds ∧ nlAll ds = true ∧ ds.length = m ∧ Gts g u ds Γ n1 (fun _ => True) fun Γ' => N Γ' n1) : Sg g (tAsg te (gLst g.K m u)) Γ n N Rr := fun D σ H A kn kr =>
  h σ H A _ fun r n1 v J ⟨ds, e, hn, hl, q⟩ A1 x1 r1 => by
    obtain ⟨a, xs, rfl, h1, h2⟩ := dp_lst (e ▸ r1.dp)
    exact ⟨a, xs, rfl, h1, (dpa_len h2).trans hl, q σ J xs A1 h2 hn _ fun Γ' σ' z A' _ _ => kn _ _ _ _ z A'⟩
end
theorem ediv_small {a c : Int} (ha : 0 ≤ a) (hc : 2 ≤ c) : 0 ≤ a / c ∧ 2 * (a / c) ≤ a := by
  have h1 : 0 ≤ a / c := Int.ediv_nonneg ha (by omega)
  have h2 := Int.ediv_mul_le a (show c ≠ 0 by omega)
  refine ⟨h1, ?_⟩
  have h3 : 2 * (a / c) ≤ c * (a / c) := Int.mul_le_mul_of_nonneg_right hc h1
  rw [Int.mul_comm c] at h3
  omega
theorem cut_init (xs : List PD) : cutD xs none (some (-1)) = xs.dropLast := by
  have e : HT.sIx xs.length xs.length (some (-1)) = xs.length - 1 := by
    show (if (-1 : Int) < 0 then ((-1 : Int) + (xs.length : Int)).toNat else min (-1 : Int).toNat xs.length) = _
    rw [if_pos (by decide)]
    omega
  unfold cutD
  rw [e, HT.sIx_none, List.drop_zero, Nat.sub_zero, List.dropLast_eq_take]
theorem cut_len (xs : List PD) (lo hi : Option Int) : (cutD xs lo hi).length ≤ xs.length := by
  unfold cutD
  rw [List.length_take, List.length_drop]
  omega
section
variable {g : En} {Γ : List Bnd} {n : Nat} {Q : Rt → Nat → Prop} {te : TE}
theorem ev_initT (h : Ev g te Γ n fun x n1 => ∃ ds, x.pd = .tuple ds ∧ Q (.d (.tuple ds.dropLast)) n1) : Ev g (tSl (rSlA g.K) te tNoPart (tPart (tUn (rU fun i => .int (-i)) (tC (.int 1))))) Γ n Q :=
  ev_slT (h.imp fun x n1 ⟨ds, e, q⟩ => eo_none (eo_some (ev_neg (ev_int ⟨1, rfl, -1, rfl, ds, e, by rw [cut_init]; exact q⟩))))
end
theorem all_app {P : PD → Prop} {a b : List PD} (h : ∀ x ∈ a, P x) (k : ∀ x ∈ b, P x) : ∀ x ∈ a ++ b, P x := fun x hx => (List.mem_append.mp hx).elim (h x) (k x)
theorem all_take {P : PD → Prop} {a : List PD} {n : Nat} (h : ∀ x ∈ a, P x) : ∀ x ∈ a.take n, P x := fun x hx => h x (List.mem_of_mem_take hx)
theorem all_drop {P : PD → Prop} {a : List PD} {n : Nat} (h : ∀ x ∈ a, P x) : ∀ x ∈ a.drop n, P x := fun x hx => h x (List.mem_of_mem_drop hx)
theorem all_cut {P : PD → Prop} {a : List PD} {lo hi : Option Int} (h : ∀ x ∈ a, P x) : ∀ x ∈ cutD a lo hi, P x := all_take (all_drop h)
theorem all_one {P : PD → Prop} {a : PD} (h : P a) : ∀ x ∈ [a], P x := fun x hx => by
  rw [List.mem_singleton.mp hx]
  exact h
theorem all_two {P : PD → Prop} {a b : PD} (h : P a) (k : P b) : ∀ x ∈ [a, b], P x := fun x hx => by
  rcases (by simpa using hx : x = a ∨ x = b) with e | e <;> rw [e]
  · exact h
  · exact k
theorem all_cons {P : PD → Prop} {a : PD} {l : List PD} (h : P a) (k : ∀ x ∈ l, P x) : ∀ x ∈ a :: l, P x := fun x hx => by
  rcases List.mem_cons.mp hx with e | e
  · rw [e]
    exact h
  · exact k x e
theorem all_nil {P : PD → Prop} : ∀ x ∈ ([] : List PD), P x := by simp
section
variable {g : En} {Γ : List Bnd} {n : Nat} {Q : Rt → Nat → Prop} {ta tb te tv : TE} {N : List Bnd → Nat → Prop} {Rr : Rt → Nat → Prop} {t : TA} {us : TS} {ι : Type} {args : ι → List PD} {pre : ι → Prop} {res : ι → Rt → Prop} {err : ι → PD → Prop}
/-! ### loops whose body is one assignment -/
theorem sg_forG {wi : TI} {j k : Nat} (h : Src g wi Γ n fun ds n1 => nlAll ds = true ∧ ∃ Iv : Nat → List Bnd → Nat → Prop, Iv 0 Γ n1 ∧
      (∀ i d Γ' n', ds[i]? = some d → Iv i Γ' n' → Ev g te (Γ'.set k (.dat d)) n' fun r n2 => nl r.pd = true ∧ Iv (i + 1) ((Γ'.set k (.dat d)).set j (.dat r.pd)) n2) ∧ ∀ Γ' n', Iv ds.length Γ' n' → N Γ' n') :
    Sg g (tFor wi (gName k) (tAsg te (gName j))) Γ n N Rr := fun D σ H A kn kr =>
  h σ H A _ fun ds n1 J it ⟨hn, Iv, h0, hs, hd⟩ A1 x1 W => by
    refine ⟨fun i m τ L => m = ds.length - i ∧ i ≤ ds.length ∧ ∃ Γ' n', Iv i Γ' n' ∧ At g Γ' n' τ L ∧ Ex g.m J L, ⟨ds.length, by simp, Nat.zero_le _, Γ, n1, h0, A1, Ex.refl J⟩, ?_⟩
    rintro i m τ L ⟨rfl, hi, Γ', n', hI, B, x2⟩
    by_cases hlt : i < ds.length
    · refine .inr ⟨W.go i L hlt x2, fun τ' L' => ∃ Γ2 n2, Iv (i + 1) Γ2 n2 ∧ At g Γ2 n2 τ' L' ∧ Ex g.m J L', fun τ' L' ⟨Γ2, n2, q2, B2⟩ => ⟨ds.length - (i + 1), by omega, rfl, hlt, Γ2, n2, q2, B2⟩, fun x L' hy => ?_⟩
      obtain ⟨x3, d, h1, h2⟩ := W.yld i L x L' hlt x2 hy
      have B1 := B.growN x3
      have B2 := B1.setD (i := k) h2 (.inl (nlAll_get hn h1))
      show te (τ.set k (some x)) L' fun v H1 => _
      refine hs i d Γ' n' h1 hI (τ.set k (some x)) L' B2 _ fun r n4 v U ⟨hr, q4⟩ B4 x5 r4 => ?_
      exact ⟨_, n4, q4, B4.setD r4.dp (.inl hr), (x2.trans x3.none_to).trans x5⟩
    · have e : i = ds.length := by omega
      subst e
      exact .inl ⟨W.stop L x2, kn Γ' n' τ L (hd Γ' n' hI) B⟩
/-! ### try -/
theorem sg_tryRet {C : Addr} {fld : Str} (te : PySem.W.exmOne g.K (.ref C) (.ref C) = some true)
    (h : EvA g t Γ n fun ds n1 => ∃ i, ds = args i ∧ pre i ∧ (∀ r, res i r → Rr r n1) ∧ ((∃ x, err i x) → Sg g us Γ n1 N Rr)) :
    Sg g (tTryO g.K C (fun W => tRet (tCallS (spX g.K C fld args pre res err) (WE W) t)) us) Γ n N Rr := fun D σ H A kn kr =>
  h σ H A _ fun ds n1 vs J ⟨i, e, hp, hq, he⟩ A1 x1 r1 => by
    subst e
    refine ⟨i, r1, hp, fun r v L po x2 r2 => ?_, fun x z d L er x2 hd hx hz => ⟨true, te, fun _ a ha => ?_, fun z => nomatch z⟩⟩
    · exact kr r n1 v L (hq r po) ((A.fr.trans x1).trans x2.none_to) (A1.growN x2).st ((r2.back x1).back A.fr)
    · exact he ⟨x, er⟩ D σ L (A1.growN x2) kn kr
theorem set_len {σ : L2.St} {i : Nat} {o : Option V} (h : i < σ.length) : (σ.set i o)[i]? = some o := List.getElem?_set_self h
theorem sg_tryAs {C : Addr} {f : Str} {i j : Nat} (hi : i < Γ.length) (te : PySem.W.exmOne g.K (.ref C) (.ref C) = some true)
    (h : EvA g t Γ n fun ds n1 => ∃ k, ds = args k ∧ pre k ∧ (∀ r, res k r → nl r.pd = true ∧ N (Γ.set j (.dat r.pd)) n1) ∧ (∀ x, err k x → nl x = true ∧ N (((Γ.set i .no).set j (.dat x)).set i .no) n1)) :
    Sg g (tTryA g.K C i (fun W => tAsg (tCallS (spX g.K C f args pre res err) (WE W) t) (gName j)) (fun a cls d => tAsg (tXf a cls d C f (tVar i)) (gName j))) Γ n N Rr := fun D σ H A kn kr =>
  h σ H A _ fun ds n1 vs J ⟨k, e, hp, hq, he⟩ A1 x1 r1 => by
    subst e
    refine ⟨k, r1, hp, fun r v L po x2 r2 => ?_, fun x z d L er x2 hd hx hz => ⟨true, te, fun _ a ha => ?_, fun z => nomatch z⟩⟩
    · exact kn _ _ _ _ (hq r po).2 ((A1.growN x2).setD r2.dp (.inl (hq r po).1))
    · have hl : i < σ.length := by
        rw [A.len]
        exact hi
      refine ⟨.ref a, set_len hl, rfl, rfl, d, [(f, z)], z, rfl, hx, by simp [List.lookup], ?_⟩
      obtain ⟨hn, q⟩ := he x er
      exact kn _ _ _ _ q ((((A1.growN x2).forget (i := i) (o := some (.ref a))).setD (i := j) hz (.inl hn)).forget (i := i) (o := none))
/-! ### the state of the draws -/
theorem At.mr {σ : L2.St} {H : Hp} {i : Nat} (A : At g Γ n σ H) (e : Γ[i]? = some .mr) : ∃ a, g.m = some a ∧ σ[i]? = some (some (.ref a)) := by
  obtain ⟨o, h1, a, h2, h3⟩ := A.sl i _ e
  exact ⟨a, h2, by rw [h1, h3]⟩
theorem kV_s (z : Str) : kV (.inr z) = .str z := rfl
theorem mst_left (l s p : Int) (c : Addr) : valV (mst l s c p) (.inr "left") = some (.int l) := rfl
theorem mst_seed (l s p : Int) (c : Addr) : valV (mst l s c p) (.inr "seed") = some (.int s) := rfl
theorem mst_cells (l s p : Int) (c : Addr) : valV (mst l s c p) (.inr "cells") = some (.ref c) := rfl
theorem mst_spot (l s p : Int) (c : Addr) : valV (mst l s c p) (.inr "spot") = some (.int p) := rfl
theorem ev_dleft {i : Nat} (e : Γ[i]? = some .mr) (q : ∀ l, 0 ≤ l → Q (.d (.int l)) n) : Ev g (tDGet (tVar i) (tC (.str "left"))) Γ n Q := fun σ H A R k => by
  obtain ⟨a, h1, h2⟩ := A.mr e
  obtain ⟨l, s, p, h3, h4, h5, h6⟩ := A.st a h1
  exact ⟨_, h2, a, .int l, rfl, mst_left l s p g.c ▸ DGet.k (k := .inr "left") h3, k _ _ _ _ (q l h4) A (Ex.refl H) (.int l)⟩
theorem ev_dseed {i : Nat} (e : Γ[i]? = some .mr) (q : ∀ l, Q (.d (.int l)) n) : Ev g (tDGet (tVar i) (tC (.str "seed"))) Γ n Q := fun σ H A R k => by
  obtain ⟨a, h1, h2⟩ := A.mr e
  obtain ⟨l, s, p, h3, h4, h5, h6⟩ := A.st a h1
  exact ⟨_, h2, a, .int s, rfl, mst_seed l s p g.c ▸ DGet.k (k := .inr "seed") h3, k _ _ _ _ (q s) A (Ex.refl H) (.int s)⟩
theorem ev_dspot {i : Nat} (e : Γ[i]? = some .mr) (q : ∀ p : Int, 0 ≤ p → p ≤ n → Q (.d (.int p)) n) : Ev g (tDGet (tVar i) (tC (.str "spot"))) Γ n Q := fun σ H A R k => by
  obtain ⟨a, h1, h2⟩ := A.mr e
  obtain ⟨l, s, p, h3, h4, h5, h6⟩ := A.st a h1
  exact ⟨_, h2, a, .int p, rfl, mst_spot l s p g.c ▸ DGet.k (k := .inr "spot") h3, k _ _ _ _ (q p h5 h6) A (Ex.refl H) (.int p)⟩
/-- the state's record is written -/
theorem At.putM {n' : Nat} {σ : L2.St} {H : Hp} {a : Addr} {l s p : Int} (A : At g Γ n σ H) (h1 : g.m = some a) {l0 s0 p0 : Int} (h3 : H a = some (.dK (mst l0 s0 g.c p0))) (h4 : 0 ≤ l) (h5 : 0 ≤ p) (h6 : p ≤ n') : At g Γ n' σ (upd H a (.dK (mst l s g.c p))) := by
  refine A.grow (fun b o q => ?_) fun b e => ?_
  · by_cases hb : b = a
    · subst hb
      rw [h3] at q
      cases q
      exact .inr ⟨h1, ⟨_, rfl⟩, _, upd_same⟩
    · exact .inl (by rw [upd_ne hb]; exact q)
  · rw [h1] at e
    cases e
    exact ⟨l, s, p, upd_same, h4, h5, h6⟩
theorem put_left (l l' s p : Int) (c : Addr) : putK (mst l s c p) (.inr "left") (.int l') = mst l' s c p := rfl
theorem put_spot (l s p p' : Int) (c : Addr) : putK (mst l s c p) (.inr "spot") (.int p') = mst l s c p' := rfl
theorem sg_dleft {i : Nat} (e : Γ[i]? = some .mr) (h : Ev g tv Γ n fun r n1 => ∃ l, r.pd = .int l ∧ 0 ≤ l ∧ N Γ n1) : Sg g (sDPut (tVar i) (tC (.str "left")) tv) Γ n N Rr := fun D σ H A kn kr =>
  h σ H A _ fun r n1 v J ⟨l, e1, h0, q⟩ A1 x1 r1 => by
    obtain ⟨a, h1, h2⟩ := A1.mr e
    obtain ⟨l0, s0, p0, h3, h4, h5, h6⟩ := A1.st a h1
    refine ⟨_, h2, a, _, rfl, DPut.k (k := .inr "left") h3 (by show 4 < sizeLine; decide), ?_⟩
    rw [show v = .int l from dp_int (e1 ▸ r1.dp), put_left]
    exact kn _ _ _ _ q (A1.putM h1 h3 h0 h5 h6)
theorem sg_dspot {i : Nat} (e : Γ[i]? = some .mr) (h : Ev g tv Γ n fun r n1 => ∃ p, r.pd = .int p ∧ (0 ≤ p ∧ p ≤ n1 + 1) ∧ N Γ (n1 + 1)) : Sg g (sDPut (tVar i) (tC (.str "spot")) tv) Γ n N Rr := fun D σ H A kn kr =>
  h σ H A _ fun r n1 v J ⟨l, e1, ⟨h0, h7⟩, q⟩ A1 x1 r1 => by
    obtain ⟨a, h1, h2⟩ := A1.mr e
    obtain ⟨l0, s0, p0, h3, h4, h5, h6⟩ := A1.st a h1
    refine ⟨_, h2, a, _, rfl, DPut.k (k := .inr "spot") h3 (by show 4 < sizeLine; decide), ?_⟩
    rw [show v = .int l from dp_int (e1 ▸ r1.dp), put_spot]
    exact kn _ _ _ _ q (A1.putM h1 h3 h4 h0 (by omega))
/-- a, b = m["cells"], e -/
theorem sg_cells {i j k : Nat} (e : Γ[i]? = some .mr) (h : Ev g tb Γ n fun r n1 => nl r.pd = true ∧ ∀ ns : List Int, ns ≠ [] → ns.length ≤ 1000 → N ((Γ.set j (.dat (.list (intsD ns)))).set k (.dat r.pd)) n1) :
    Sg g (tPar j k (tCons (tDGet (tVar i) (tC (.str "cells"))) (tCons tb tNil))) Γ n N Rr := fun D σ H A kn kr => by
  obtain ⟨a, h1, h2⟩ := A.mr e
  obtain ⟨l, s, p, h3, h4, h5, h6⟩ := A.st a h1
  obtain ⟨ns, n1, n2, n3⟩ := A.ce a h1
  refine ⟨_, h2, a, .ref g.c, rfl, mst_cells l s p g.c ▸ DGet.k (k := .inr "cells") h3, ?_⟩
  refine h σ H A _ fun r n4 v J ⟨hn, q⟩ A1 x1 r1 => ?_
  refine ⟨_, _, rfl, ?_⟩
  have hd0 : Dp g.K g.H0 (.ref g.c) (.list (intsD ns)) := .lst n3 dpa_of_ints
  exact kn _ _ _ _ (q ns n1 n2) ((A1.setD (dp_mono A1.fr hd0) (.inr hd0)).setD r1.dp (.inl hn))
end
/-! ### the plain law: what the paper of two walks is -/
structure Pap (W : Web) (a b : Wk) (d : PD) : Prop where
  right : rightM W a b d = true
  pap : PapOk d
  dk : Dk 10 d
  few : FewP d
  word : ∃ ds, d = .tuple (.str (if plainM W a = plainM W b then "equal" else "unlike") :: ds) ∧ nlAll ds = true
theorem plainM_ok (W : Web) (w : Wk) : (plainM W w).Ok := ⟨by simp [plainM, walkOf]⟩
theorem pl_few {W : Web} {w : Wk} (h : w.In W) (hf : w.fits = true) : (due W w).length ≤ 120 := by
  have q := due_len (W := W) (xs := w.sts) (g := begin w)
  have q2 := sts_len h.ok
  have q3 := fits_cs hf
  unfold due
  omega
theorem ledD_due {W : Web} (hW : W.Ok) {w : Wk} (h : w.In W) (hf : w.fits = true) : ledD W w (.tuple (mvs (due W w))) = if chkAll W (begin w) w.sts = true then some (plainM W w) else none := by
  have hl := pl_few h hf
  simp only [ledD]
  rw [mvs_len, if_pos (by omega), led_pm hW h hf]
theorem ledD_pm {W : Web} (hW : W.Ok) {w : Wk} (h : w.In W) (hf : w.fits = true) : ledD W w (.tuple (mvs (due W w))) = (pm W w).map fun _ => plainM W w := by
  rw [ledD_due hW h hf]
  unfold pm
  split <;> rfl
theorem ep_none {W : Web} {a b : Wk} (h : ep W a b = none) : pm W a = none ∨ pm W b = none := by
  unfold ep at h
  cases e : pm W a with
  | none => exact .inl rfl
  | some m =>
    cases e2 : pm W b with
    | none => exact .inr rfl
    | some o =>
      rw [e, e2] at h
      cases h
theorem ep_pap {W : Web} {a b : Wk} {d : PD} (hW : W.Ok) (ha : a.In W) (hfa : a.fits = true) (hb : b.In W) (hfb : b.fits = true) (h : ep W a b = some d) : (∃ m o, pm W a = some m ∧ pm W b = some o) ∧ Pap W a b d := by
  unfold ep at h
  cases e : pm W a with
  | none => rw [e] at h; cases h
  | some m =>
    cases e2 : pm W b with
    | none => rw [e, e2] at h; cases h
    | some o =>
      rw [e, e2] at h
      refine ⟨⟨m, o, rfl, rfl⟩, ?_⟩
      obtain ⟨rfl, c1⟩ := pm_some e
      obtain ⟨rfl, c2⟩ := pm_some e2
      have l1 := pl_few ha hfa
      have l2 := pl_few hb hfb
      have led1 := led_pm hW ha hfa
      rw [if_pos c1] at led1
      have led2 := led_pm hW hb hfb
      rw [if_pos c2] at led2
      have bl := back_len (W := W) (ms := due W b) (w := b)
      have h : some (if plainM W a = plainM W b then PyData.tuple [.str "equal", .tuple (mvs (due W a ++ backM W b (due W b)))] else .tuple [.str "unlike", .tuple (mvs (due W a)), .tuple (mvs (due W b))]) = some d := h
      have h2 := Option.some.inj h
      subst h2
      by_cases hp : plainM W a = plainM W b
      · rw [if_pos hp]
        refine ⟨?_, .inl ⟨_, rfl, by rw [List.length_append]; omega⟩, .tup (all_cons (.str _) (all_cons ((dk_mvs _).up (by decide)) all_nil)), fun ds e => ?_, ⟨_, by rw [if_pos hp], by simp only [nlAll, (dk_mvs _).nl, Bool.and_true]⟩⟩
        · have hl : ledD W a (.tuple (mvs (due W a ++ backM W b (due W b)))) = some b := by
            simp only [ledD]
            rw [mvs_len, List.length_append, if_pos (by omega), ← mvs_app, led_app, led1]
            show led W (plainM W a) _ = _
            rw [hp]
            exact led_back hb hfb due_notPut led2
          simp only [rightM]
          rw [hl, eqv_str, decide_eq_true rfl, Bool.true_and]
          simp
        · cases e
          exact all_cons (fun ds e => by cases e) (all_cons (fewM_mvs _) all_nil)
      · rw [if_neg hp]
        refine ⟨?_, .inr ⟨_, _, rfl, by omega, by omega⟩, .tup (all_cons (.str _) (all_cons ((dk_mvs _).up (by decide)) (all_cons ((dk_mvs _).up (by decide)) all_nil))), fun ds e => ?_, ⟨_, by rw [if_neg hp], by simp only [nlAll, (dk_mvs _).nl, Bool.and_true]⟩⟩
        · have hl1 : ledD W a (.tuple (mvs (due W a))) = some (plainM W a) := by rw [ledD_due hW ha hfa, if_pos c1]
          have hl2 : ledD W b (.tuple (mvs (due W b))) = some (plainM W b) := by rw [ledD_due hW hb hfb, if_pos c2]
          simp only [rightM]
          rw [hl1, hl2, eqv_str, decide_eq_true rfl, Bool.true_and]
          simp only [plain_isPlain hW ha, plain_isPlain hW hb, decide_eq_false hp]
          rfl
        · cases e
          exact all_cons (fun ds e => by cases e) (all_cons (fewM_mvs _) (all_cons (fewM_mvs _) all_nil))
theorem told_cases {W : Web} {a b : Wk} (hW : W.Ok) (ha : a.In W) (hfa : a.fits = true) (hb : b.In W) (hfb : b.fits = true) :
    (toldD (ep W a b) = .str "turns" ∧ (ledD W a (.tuple (mvs (due W a))) = none ∨ ledD W b (.tuple (mvs (due W b))) = none)) ∨
    ∃ d x y, toldD (ep W a b) = d ∧ Pap W a b d ∧ ledD W a (.tuple (mvs (due W a))) = some x ∧ ledD W b (.tuple (mvs (due W b))) = some y := by
  rw [ledD_pm hW ha hfa, ledD_pm hW hb hfb]
  cases e : ep W a b with
  | none =>
    refine .inl ⟨rfl, ?_⟩
    rcases ep_none e with q | q
    · exact .inl (by rw [q]; rfl)
    · exact .inr (by rw [q]; rfl)
  | some d =>
    obtain ⟨⟨m, o, e1, e2⟩, hP⟩ := ep_pap hW ha hfa hb hfb e
    exact .inr ⟨d, _, _, rfl, hP, by rw [e1]; rfl, by rw [e2]; rfl⟩
theorem told_nl {W : Web} {a b : Wk} (hW : W.Ok) (ha : a.In W) (hfa : a.fits = true) (hb : b.In W) (hfb : b.fits = true) : nl (toldD (ep W a b)) = true := by
  rcases told_cases hW ha hfa hb hfb with ⟨e, _⟩ | ⟨d, _, _, e, hP, _⟩
  · rw [e] <;> rfl
  · rw [e]
    exact hP.dk.nl
local macro_rules | `(tactic| wtm_at "nl") => `(tactic| first | rfl | assumption | exact nla_ints _ | exact nla_crs _ | exact nla_mvs _ | exact nla_kps _ | exact nla_sts _ | exact nla_ties _ | exact (dk_wk _).nl | exact (dk_opt _).nl | exact (dk_mv _).nl | exact (dk_web _).nl | exact (dk_mvs _).nl | exact (dk_tie _).nl | exact (dk_cr _).nl | (simp only [Rt.fit, Rt.pd, nl, nlAll, nla_kps, nla_sts, nla_mvs, nla_ties, nla_ints, nla_crs, (dk_wk _).nl, (dk_web _).nl, (dk_mv _).nl, (dk_opt _).nl, Bool.and_true, Bool.and_self]; done) | ((with_reducible refine fit_app ?_ ?_) <;> wtm_at "nl") | ((with_reducible refine fit_take ?_) <;> wtm_at "nl") | ((with_reducible refine fit_drop ?_) <;> wtm_at "nl") | fail)
local macro_rules | `(tactic| wtm_at "om") => `(tactic| first | assumption | omega | (simp only [ints_len, crs_len, mvs_len, List.length_map, List.length_set, List.length_append, List.length_cons, List.length_nil] <;> omega) | fail)
local macro_rules | `(tactic| wtm_at "at") => `(tactic| first | assumption | with_reducible exact at_cons0 | with_reducible exact at_cons1 | with_reducible exact at_cons2 | ((with_reducible refine at_ints ?_ ?_) <;> wtm_at "om") | ((with_reducible refine at_crs ?_ ?_) <;> wtm_at "om") | ((with_reducible refine at_ties ?_ ?_) <;> wtm_at "om") | rfl | fail)
local macro_rules | `(tactic| wtm_at "sh") => `(tactic| first | rfl | decide +kernel | exact (dk_wk _).shp (by decide) | exact (dk_opt _).shp (by decide) | exact (dk_cr _).shp (by decide) | exact shp_kps _ | exact shp_crs _ | assumption | fail)
local macro_rules | `(tactic| wtm_at "ln") => `(tactic| first | (simp only [ints_len, crs_len, mvs_len, List.length_map, List.length_set, List.length_append, List.length_take, List.length_drop, List.length_cons, List.length_nil] <;> omega) | (simp; done) | decide | omega | fail)
local macro_rules | `(tactic| wtm_at "nm") => `(tactic| (with_reducible show Sg _ _ (List.set _ _ _) _ _ _); (simp only [List.set_cons_zero, List.set_cons_succ, Rt.bnd, Rt.pd]))
local macro_rules | `(tactic| wtm_at "pr") => `(tactic| first
  | omega
  | (simp only [List.length_append, List.length_take, List.length_drop, List.length_cons, List.length_nil, List.length_set, List.length_map] <;> omega)
  | assumption
  | (with_reducible trivial)
  | (unfold LIM at *; omega)
  | exact cro_get (by assumption) (by omega)
  | exact cmul_l (by omega)
  | exact cdivn (by omega) (by omega)
  | exact cmul_r (by omega)
  | (with_reducible show And _ _); exact ⟨by wtm_at "pr", by wtm_at "pr"⟩
  | fail)
local macro_rules | `(tactic| wtm_at "le") => `(tactic| (repeat' (first | exact le_i_nil | exact le_c_nil | with_reducible rfl | apply le_i_cons | apply le_c_cons | apply le_i_app | apply le_i_take | apply le_i_drop | apply le_c_app | apply le_c_take | apply le_c_drop | rfl | fail)))
local macro_rules | `(tactic| wtm_at "cd") => `(tactic| first | rfl | assumption | (simp only [Rt.pd, eqv_int, List.length_cons, List.length_nil, List.length_map, mvs_len, ints_len, crs_len, decide_eq_true_eq, decide_eq_false_iff_not, Bool.not_eq_true', Bool.not_eq_false', Bool.not_not, Bool.not_true, Bool.not_false, Int.not_le, Int.not_lt] <;> omega) | fail)
local macro_rules | `(tactic| wtm_at "if") => `(tactic| first | refine ite_t (by wtm_at "cd") ?_ | refine ite_f (by wtm_at "cd") ?_ | fail)
local macro_rules | `(tactic| wtm_at "tg") => `(tactic| first
  | (with_reducible show Gt _ _ _ _ _ _ _); first | refine gt_tup rfl rfl ?_ | refine gt_name ?_ (by first | trivial | decide | simp)
  | (with_reducible show Gts _ _ _ _ _ _ _); first | refine gts_cons ?_ | refine gts_nil ?_
  | fail)
local macro_rules | `(tactic| wtm_at "eo") => `(tactic| first
  | with_reducible refine ev_in1T ?_
  | with_reducible refine ev_in1F ?_
  | with_reducible refine ev_ii ?_
  | with_reducible refine ev_ixT ?_
  | with_reducible refine ev_ixL ?_
  | with_reducible refine ev_ic ?_
  | with_reducible refine ev_ib ?_
  | with_reducible refine ev_eqD ?_
  | with_reducible refine ev_neD ?_
  | with_reducible refine ev_isN ?_
  | with_reducible refine ev_notN ?_
  | with_reducible refine ev_isB ?_
  | with_reducible refine ev_cat ?_
  | with_reducible refine ev_catT ?_
  | with_reducible refine ev_inI ?_
  | fail)
local macro_rules | `(tactic| wtm_at "eb") => `(tactic| first
  | with_reducible refine ev_len ?_
  | with_reducible refine ev_abs ?_
  | with_reducible refine ev_toInt ?_
  | with_reducible refine ev_tupOf ?_
  | with_reducible refine ev_all ?_
  | with_reducible refine ev_isTup ?_
  | with_reducible refine ev_isStr ?_
  | with_reducible refine ev_isInt ?_
  | with_reducible refine ev_isBool ?_
  | fail)
local macro_rules | `(tactic| wtm_at "ec") => `(tactic| first
  | with_reducible refine ev_int ?_
  | with_reducible refine ev_str ?_
  | with_reducible refine ev_bl ?_
  | with_reducible refine ev_non ?_
  | fail)
local macro_rules | `(tactic| wtm_at "ex") => `(tactic| first
  | with_reducible refine ev_takeL ?_
  | with_reducible refine ev_dropL ?_
  | with_reducible refine ev_initT ?_
  | with_reducible refine ev_takeT ?_
  | with_reducible refine ev_dropT ?_
  | with_reducible refine ev_slL ?_
  | with_reducible refine ev_slT ?_
  | fail)
local macro_rules | `(tactic| wtm_at "cl") => `(tactic| first
  | with_reducible refine cl_is_whole ?_
  | with_reducible refine cl_ends_of ?_
  | with_reducible refine cl_is_turns ?_
  | with_reducible refine cl_split_walk ?_
  | with_reducible refine cl_glued_walk ?_
  | with_reducible refine cl__carried ?_
  | with_reducible refine cl__struck ?_
  | with_reducible refine cl__put_in ?_
  | with_reducible refine cl__moved_once ?_
  | with_reducible refine cl_rest_of ?_
  | with_reducible refine cl_are_opposite ?_
  | with_reducible refine cl_reduced ?_
  | with_reducible refine cl_walk_of ?_
  | with_reducible refine cl_plain_freely ?_
  | with_reducible refine cl_is_plain ?_
  | with_reducible refine cl__taken_back ?_
  | with_reducible refine cl_back_moves ?_
  | with_reducible refine cl__led ?_
  | with_reducible refine cl_is_equality_paper ?_
  | with_reducible refine cl__law_flag ?_
  | with_reducible refine cl__law_fits ?_
  | with_reducible refine cl__law_put_move ?_
  | with_reducible refine cl__law_carry_move ?_
  | with_reducible refine cl__law_moved ?_
  | with_reducible refine cl__law_told ?_
  | with_reducible refine cl__law_due_moves ?_
  | with_reducible refine cl__law_many_right ?_
  | with_reducible refine cl__law_out ?_
  | with_reducible refine cl__law_bound ?_
  | with_reducible refine cl__checked ?_
  | with_reducible refine cl_moved_walk ?_
  | with_reducible refine cl_plain_moves ?_
  | refine cl__law_draw rfl ?_
  | refine cl__law_of rfl ?_
  | refine cl__law_web rfl ?_
  | refine cl__law_turns rfl ?_
  | refine cl__law_walk rfl ?_
  | refine cl__law_some_walk rfl ?_
  | refine cl__law_far rfl ?_
  | refine cl__law_pair rfl ?_
  | refine cl__law_bent_moves rfl ?_
  | refine cl__law_bent rfl ?_
  | fail)
local macro_rules | `(tactic| wtm_at "er") => `(tactic| first
  | with_reducible refine ev_tup ?_
  | with_reducible refine ev_lst ?_
  | with_reducible refine ev_neg ?_
  | with_reducible refine ev_andV ?_
  | with_reducible refine ev_orV ?_
  | with_reducible refine ev_notV ?_
  | with_reducible refine ev_if ?_
  | with_reducible refine ev_chain (B := fun _ _ _ => True) ?_
  | with_reducible refine ev_tupRev ?_
  | (with_reducible show Ev _ (tDGet _ _) _ _ _); first | refine ev_dleft rfl ?_ | refine ev_dseed rfl ?_ | refine ev_dspot rfl ?_
  | fail)
local macro_rules | `(tactic| wtm_at "ee") => `(tactic| first
  | (with_reducible show Ev _ (tVar _) _ _ _); first | refine ev_var rfl ?_ | refine ev_own rfl ?_
  | (with_reducible show Ev _ (tOp _ _ _) _ _ _); wtm_at "eo"
  | (with_reducible show Ev _ (tC _) _ _ _); wtm_at "ec"
  | (with_reducible show Ev _ (tCall _ _ _ _) _ _ _); wtm_at "cl"
  | (with_reducible show Ev _ (tCB _ _) _ _ _); wtm_at "eb"
  | (with_reducible show Ev _ (tSl _ _ _ _) _ _ _); wtm_at "ex"
  | wtm_at "er"
  | fail)
local macro_rules | `(tactic| wtm_at "et") => `(tactic| first
  | with_reducible refine et_yes ?_
  | with_reducible refine et_test ?_
  | with_reducible refine et_B ?_
  | with_reducible refine et_and ?_
  | with_reducible refine et_or ?_
  | with_reducible refine et_not ?_
  | fail)
local macro_rules | `(tactic| wtm_at "es") => `(tactic| first
  | with_reducible refine sg_ret ?_
  | with_reducible refine sg_if ?_
  | with_reducible refine sg_next ?_
  | with_reducible refine sg_ll (te := tCall (sp_split_walk _) _ _ _) (by decide) ?_
  | with_reducible refine sg_ll (te := tCall (sp__law_split _) _ _ _) (by decide) ?_
  | (with_reducible show Sg _ (tAugS _ _ _ _ _ _) _ _ _ _); refine sg_augI rfl ?_
  | (with_reducible show Sg _ (tAsg _ (gSub _ _ _)) _ _ _ _); refine sg_setI rfl ?_
  | with_reducible refine sg_datP (te := tOp _ (tOp _ (tOp _ (tBM0 _ _ _ _) _) _) _) ?_
  | with_reducible refine sg_chkP (te := tOp _ (tOp _ (tBM0 _ _ _ _) _) _) ?_
  | with_reducible refine sg_set ?_
  | with_reducible refine sg_raise ?_
  | (with_reducible show Sg _ (sDPut _ _ _) _ _ _ _); first | refine sg_dleft rfl ?_ | refine sg_dspot rfl ?_
  | with_reducible refine sg_par (by decide) ?_
  | with_reducible refine sg_par3 (by decide) (by decide) (by decide) ?_
  | ((with_reducible show Sg _ (tDrop (tBM _ _ rAppend _ _)) _ _ _ _); refine sg_append rfl (by wtm_at "ln") ?_)
  | with_reducible refine sg_unp ?_
  | fail)
local macro_rules | `(tactic| wtm_at "sr") => `(tactic| first
  | with_reducible refine src_tup ?_
  | with_reducible refine src_list ?_
  | with_reducible refine src_range ?_
  | with_reducible refine src_zip ?_
  | with_reducible refine src_enum ?_
  | fail)
local macro_rules | `(tactic| wtm_at "ev") => `(tactic| first
  | (with_reducible show Ev _ _ _ _ _); wtm_at "ee"
  | (with_reducible show EvA _ _ _ _ _); first | with_reducible refine ea_cons ?_ | with_reducible refine ea_nil ?_
  | (with_reducible show EvT _ _ _ _ _); wtm_at "et"
  | (with_reducible show Sg _ _ _ _ _ _); wtm_at "es"
  | wtm_at "tg"
  | (with_reducible show EvO _ _ _ _ _); first | with_reducible refine eo_none ?_ | with_reducible refine eo_some ?_
  | (with_reducible show Src _ _ _ _ _); wtm_at "sr"
  | (with_reducible show EvP _ _ _ _ _); first | with_reducible refine evp_add ?_ | refine evp_pop rfl ?_
  | fail)
local macro_rules | `(tactic| wtm_at "lx") => `(tactic| first
  | refine ⟨_, rfl, ?_⟩
  | refine ⟨_, _, rfl, rfl, ?_⟩
  | refine ⟨_, _, _, rfl, rfl, by wtm_at "at", ?_⟩
  | refine ⟨_, _, rfl, rfl, by wtm_at "ln", ?_⟩
  | refine ⟨_, _, _, rfl, rfl, rfl, ?_⟩
  | refine ⟨_, _, rfl, rfl, _, _, rfl, rfl, ?_⟩
  | refine ⟨_, _, rfl, rfl, by wtm_at "om", ?_⟩
  | refine ⟨_, _, rfl, ?_⟩
  | refine ⟨_, _, _, rfl, ?_⟩
  | refine ⟨_, _, _, _, rfl, ?_⟩
  | refine ⟨_, _, _, _, _, _, rfl, ?_⟩
  | fail)
local macro_rules | `(tactic| wtm_at "la") => `(tactic| first
  | (with_reducible show And (SeqAt.shaped _ = true) _); refine ⟨by wtm_at "sh", ?_⟩
  | refine ⟨by wtm_at "nl", ?_⟩
  | refine ⟨by wtm_at "pr", ?_⟩
  | refine ⟨by wtm_at "ln", ?_⟩
  | refine ⟨fun a ha => ?_, ?_⟩
  | fail)
local macro_rules | `(tactic| wtm_at "lf") => `(tactic| first
  | ((with_reducible show Glue _ _); refine' glue_leaf rfl ?e1 ?e2 ?e3 ?_; (case e1 => wtm_at "le"); (case e2 => wtm_at "le"); (case e3 => wtm_at "pr"))
  | (with_reducible show Exists _); wtm_at "lx"
  | (with_reducible show And _ _); wtm_at "la"
  | fail)
local macro_rules | `(tactic| wtm_at "g1") => `(tactic| repeat' (first | wtm_at "nm" | wtm_at "ev" | wtm_at "lf" | wtm_at "if" | with_reducible rfl | fail))
local macro_rules | `(tactic| wtm_at "go") => `(tactic| repeat' (first | wtm_at "nm" | with_reducible refine sg_seq ?_ | wtm_at "ev" | wtm_at "lf" | wtm_at "if" | with_reducible rfl | fail))
local macro_rules | `(tactic| wtm_at "in") => `(tactic| ((with_reducible show ∀ (_ : _), _); intro _))
local macro_rules | `(tactic| wtm_at "m1") => `(tactic| repeat' (first | wtm_at "in" | wtm_at "nm" | wtm_at "ev" | wtm_at "lf" | wtm_at "if" | with_reducible rfl | fail))
local macro_rules | `(tactic| wtm_at "mo") => `(tactic| repeat' (first | wtm_at "in" | wtm_at "nm" | with_reducible refine sg_seq ?_ | wtm_at "ev" | wtm_at "lf" | wtm_at "if" | with_reducible rfl | fail))
theorem b_is_whole (g : En) (d : PD) : Sg g (t_is_whole g.K) [.dat d] 0 (fun _ _ => False) fun r _ => r = .d (.bool (wholeB d)) := by
  unfold t_is_whole
  wtm_at "go"
  cases d <;> wtm_at "go" <;> rfl
theorem b_ends_of (g : En) (W : Web) (t s : Int) (h : Cro W (t, s)) : Sg g (t_ends_of g.K) [.dat (webD W), .dat (.int t), .dat (.int s), .no, .no, .no, .no] 0 (fun _ _ => False) fun r _ => r = .d (tieD (ends W t s)) := by
  obtain ⟨h1, h2, h3⟩ := h
  simp only at h1 h2 h3
  unfold t_ends_of
  wtm_at "go"
  rcases h3 with rfl | rfl <;> wtm_at "go" <;> rfl
theorem b_is_turns (g : En) (i : Int) : Sg g (t_is_turns g.K (sp_is_whole g.K)) [.dat (.int i)] 0 (fun _ _ => False) fun r _ => r = .d (.bool (inB i)) := by
  unfold t_is_turns
  wtm_at "go"
  refine ite_c (fun h => ?_) fun h => ?_
  · wtm_at "go"
    unfold inB TB
    rw [h, Bool.true_and]
  · unfold inB TB
    rw [h, Bool.false_and]
theorem b_split_walk (g : En) (w : Wk) (h : w.Ok) (h2 : w.cs.length ≤ 100) : Sg g (t_split_walk g.K) [.dat (wkD w), .no] 0 (fun _ _ => False) fun r _ => r = .ll (intsD w.ts) (crsD w.cs) := by
  unfold t_split_walk
  have hl := sts_len h
  refine sg_ret (ev_ll ?_)
  wtm_at "go"
  refine ev_mapS stD (fun p => .int p.2) ?_
  wtm_at "go"
  · rfl
  refine ev_mapS stD (fun p => crD p.1) ?_
  wtm_at "go"
  · rfl
  rw [stD_fst w h]
  exact congrArg (fun z => Rt.ll z (crsD w.cs)) (stD_snd w h)
theorem glue_steps (cs : List Cr) (ts : List Int) : (pairs (crsD cs) ((intsD ts).drop (Int.toNat 1))) = (cs.zip ts.tail).map fun p => .tuple [crD p.1, .int p.2] := by
  rw [ints_drop]
  unfold pairs crsD intsD
  rw [List.zip_map, List.map_map]
  rw [show (1 : Int).toNat = 1 from rfl, List.drop_one]
  rfl
theorem b_glued_walk (g : En) (room : Int) (ts : List Int) (cs : List Cr) (h : ts.length = cs.length + 1) (h2 : cs.length ≤ 100) :
    Sg g (t_glued_walk g.K) [.dat (.int room), .dat (.list (intsD ts)), .dat (.list (crsD cs)), .no, .no, .no, .no] 0 (fun _ _ => False) fun r _ => r = .d (wkD ⟨room, ts, cs⟩) := by
  have hz : (cs.zip ts.tail).length ≤ 100000 := by
    rw [List.length_zip]
    omega
  unfold t_glued_walk
  refine sg_seq (sg_set ?_)
  refine ev_mapS (fun p : Cr × Int => .tuple [crD p.1, .int p.2]) (fun p => stD p) ?_
  wtm_at "go"
  rw [glue_steps]
  refine ⟨_, rfl, nla_map fun _ => rfl, hz, fun a _ => ?_, nla_sts _, ?_⟩
  · wtm_at "go"
    rfl
  wtm_at "go"
  rfl
theorem b__carried (g : En) (W : Web) (w : Wk) (i m : Int) (hW : W.Ok) (h : w.In W) (h2 : w.cs.length ≤ 60) (h3 : 1 ≤ i) (h4 : i ≤ w.cs.length) :
    Sg g (t__carried g.K (sp_split_walk g.K) (sp_ends_of g.K) (sp_glued_walk g.K)) [.dat (webD W), .dat (wkD w), .dat (.int i), .dat (.int m), .no, .no, .no] 0 (fun _ _ => False) fun r _ => r = .d (wkD (carry W w i m)) := by
  have ho := h.ok
  have hl := ho.len
  have hc : Cro W ((w.cs.getD (i - 1).toNat (0, 0)).1, (w.cs.getD (i - 1).toNat (0, 0)).2) := cro_get h (by omega)
  have he := hW.ends hc
  unfold t__carried
  wtm_at "go"
  have e : (i - 1).toNat = i.toNat - 1 := by omega
  rw [e]
  rfl
set_option pp.maxSteps 500 in
theorem b__struck (g : En) (w : Wk) (i : Int) (ho : w.Ok) (h2 : w.cs.length ≤ 60) (h3 : 1 ≤ i) (h4 : i < w.cs.length) :
    Sg g (t__struck g.K (sp_split_walk g.K) (sp_glued_walk g.K)) [.dat (wkD w), .dat (.int i), .no, .no, .no, .no] 0 (fun _ _ => False) fun r _ => r = .d (optD (strike w i)) := by
  have hl := ho.len
  have a1 : (i - 1).toNat = i.toNat - 1 := by omega
  have a2 : (i + 1).toNat = i.toNat + 1 := by omega
  have a3 : (i + 2).toNat = i.toNat + 2 := by omega
  unfold t__struck
  wtm_at "go"
  refine ite_c (fun h => ?_) fun h => ?_ <;> simp only [Rt.pd, eqv_int, Bool.not_eq_true', Bool.not_eq_false', decide_eq_true_eq, decide_eq_false_iff_not] at h
  · wtm_at "go"
    unfold strike strikeN
    rw [if_neg (fun z => h z.1)]
    rfl
  wtm_at "go"
  refine ite_c (fun h6 => ?_) fun h6 => ?_ <;> have h7 := (eqv_cr (w.cs.getD (i - 1).toNat (0, 0)) ((w.cs.getD i.toNat (0, 0)).1, -(w.cs.getD i.toNat (0, 0)).2)).symm.trans (Bool.not_not _ ▸ congrArg not h6) <;> rw [a1] at h7
  · wtm_at "go"
    unfold strike strikeN
    rw [if_neg (fun z => of_decide_eq_false h7 z.2)]
    rfl
  wtm_at "go"
  · unfold strike strikeN
    rw [if_pos ⟨h, of_decide_eq_true h7⟩, a1, a2, a3]
    rfl
set_option pp.maxSteps 500 in
theorem b__put_in (g : En) (W : Web) (w : Wk) (i t s a : Int) (h : w.In W) (h2 : w.cs.length ≤ 60) (h3 : 0 ≤ i) (h4 : i ≤ w.cs.length) (hc : Cro W (t, s)) :
    Sg g (t__put_in g.K (sp_split_walk g.K) (sp_ends_of g.K) (sp_glued_walk g.K)) [.dat (webD W), .dat (wkD w), .dat (.int i), .dat (.tuple [.int t, .int s]), .dat (.int a), .no, .no, .no, .no, .no, .no] 0 (fun _ _ => False) fun r _ => r = .d (optD (putIn W w i t s a)) := by
  have ho := h.ok
  have hl := ho.len
  have a1 : (i - 1).toNat = i.toNat - 1 := by omega
  have a2 : (i + 1).toNat = i.toNat + 1 := by omega
  unfold t__put_in
  refine sg_seq ?_
  wtm_at "g1"
  refine sg_seq ?_
  wtm_at "g1"
  refine sg_seq ?_
  refine sg_imp2 (Q := fun Γ' n' => n' = 0 ∧ Γ' = [.dat (webD W), .dat (wkD w), .dat (.int i), .dat (.tuple [.int t, .int s]), .dat (.int a), .dat (.int t), .dat (.int s), .own (intsD w.ts), .own (crsD w.cs), .dat (.int (roomAt W w i.toNat)), .no]) (sg_set ?_) ?_
  · wtm_at "go"
    refine ite_c (fun h => ?_) fun h => ?_ <;> simp only [Rt.pd, eqv_int, decide_eq_true_eq, decide_eq_false_iff_not] at h
    · wtm_at "go"
      unfold roomAt
      rw [if_pos (by omega)]
      rfl
    · have hcg : Cro W ((w.cs.getD (i - 1).toNat (0, 0)).1, (w.cs.getD (i - 1).toNat (0, 0)).2) := cro_get (by assumption) (by omega)
      wtm_at "go"
      unfold roomAt
      rw [if_neg (by omega), ← a1]
      rfl
  rintro _ _ ⟨rfl, rfl⟩
  wtm_at "go"
  refine ite_c (fun h => ?_) fun h => ?_ <;> simp only [Rt.pd, eqv_int, Bool.not_eq_true', Bool.not_eq_false', decide_eq_true_eq, decide_eq_false_iff_not] at h
  · wtm_at "go"
    unfold putIn putN
    rw [if_neg h]
    rfl
  wtm_at "go"
  unfold putIn putN
  rw [if_pos h, a2]
  rfl
theorem b_rest_of (g : En) (x P : Int) (h1 : P ≠ 0) (h2 : P.natAbs ≤ 1000) : Sg g (t_rest_of g.K) [.dat (.int x), .dat (.int P), .no] 0 (fun _ _ => False) fun r _ => r = .d (.tuple [.int (restI P x), .int (manyI P x)]) := by
  have hp := abs_pos h1
  unfold t_rest_of
  wtm_at "go"
  rfl
theorem b_are_opposite (g : En) (a b c d : Int) : Sg g (t_are_opposite g.K) [.dat (.tuple [.int a, .int b]), .dat (.tuple [.int c, .int d])] 0 (fun _ _ => False) fun r _ => r = .d (.bool (decide (a = c) && decide (b = -d))) := by
  unfold t_are_opposite
  wtm_at "go"
  refine ite_c (fun h => ?_) fun h => ?_ <;> simp only [Rt.pd, eqv_int] at h
  · wtm_at "go"
    rw [h, Bool.true_and]
    exact congrArg (fun z => Rt.d (.bool z)) (eqv_int _ _)
  · rw [h, Bool.false_and]
theorem b_walk_of (g : En) (r : Int) (l : List Kp) (x : Int) (hl : l.length ≤ 100) : Sg g (t_walk_of g.K (sp_glued_walk g.K)) [.dat (.int r), .dat (.tuple (l.map kpD)), .dat (.int x), .no, .no, .no, .no, .no] 0 (fun _ _ => False) fun r' _ => r' = .d (wkD (walkOf r (l, x))) := by
  unfold t_walk_of
  refine sg_seq ?_
  refine sg_set (ev_cat (ev_mapS kpD (fun k => .int k.1) ?_))
  wtm_at "g1"
  · rfl
  have e1 : List.map (fun k : Kp => PyData.int k.1) l ++ [PyData.int x] = intsD (l.map (·.1) ++ [x]) := by
    unfold intsD
    rw [List.map_append, List.map_map]
    rfl
  refine ⟨?_, ?_⟩
  · show nlAll (List.map (fun k : Kp => PyData.int k.1) l ++ [PyData.int x]) = true
    rw [e1]
    exact nla_ints _
  show Sg g _ [.dat (.int r), .dat (.tuple (l.map kpD)), .dat (.int x), .own (List.map (fun k : Kp => PyData.int k.1) l ++ [PyData.int x]), .no, .no, .no, .no] _ _ _
  rw [e1]
  wtm_at "go"
  refine ev_mapS kpD (fun k => crD k.2) ?_
  wtm_at "go"
  · rfl
  have e2 : List.map (fun k : Kp => crD k.2) l = crsD (l.map (·.2)) := by
    unfold crsD
    rw [List.map_map]
    rfl
  rw [e2]
  wtm_at "go"
  rfl
theorem b_plain_freely (g : En) (W : Web) (w : Wk) (hW : W.Ok) (h : w.In W) (h2 : w.cs.length ≤ 60) : Sg g (t_plain_freely g.K (sp_reduced g.K) (sp_walk_of g.K)) [.dat (webD W), .dat (wkD w), .no, .no] 0 (fun _ _ => False) fun r _ => r = .d (wkD (plainM W w)) := by
  have hl : (reducedM W w).1.length ≤ 100 := by
    have q := goAll_len W w.sts (begin w)
    have q2 := sts_len h.ok
    have q3 : (begin w).1.length = 0 := rfl
    unfold reducedM
    omega
  unfold t_plain_freely
  wtm_at "go"
  rfl
theorem walkOf_ok (r : Int) (G : Go) : (walkOf r G).Ok := ⟨by simp [walkOf]⟩
theorem isPlain_dec {W : Web} {w : Wk} (hW : W.Ok) (h : w.In W) : decide (plainM W w = w) = isPlainB W w := by
  cases e : isPlainB W w with
  | true => rw [plain_fix hW h e, decide_eq_true rfl]
  | false =>
    rw [decide_eq_false]
    intro z
    have q := plain_isPlain hW h
    rw [z, e] at q
    cases q
theorem b_is_plain (g : En) (W : Web) (w : Wk) (hW : W.Ok) (h : w.In W) (h2 : w.cs.length ≤ 60) : Sg g (t_is_plain g.K (sp_plain_freely g.K)) [.dat (webD W), .dat (wkD w)] 0 (fun _ _ => False) fun r _ => r = .d (.bool (isPlainB W w)) := by
  unfold t_is_plain
  wtm_at "go"
  rw [← isPlain_dec hW h]
  exact congrArg (fun z => Rt.d (.bool z)) (eqv_wk (walkOf_ok _ _) h.ok)
theorem b__taken_back (g : En) (w : Wk) (m : Mv) (ho : w.Ok) (h2 : w.cs.length ≤ 60) (hm : notPut m = true) (hs : ∀ j, m = .strike j → 1 ≤ j ∧ j < w.cs.length) :
    Sg g (t__taken_back g.K (sp_split_walk g.K)) [.dat (wkD w), .dat (mvD m), .no, .no, .no, .no] 0 (fun _ _ => False) fun r _ => r = .d (mvD (takeBack w m)) := by
  have hl := ho.len
  unfold t__taken_back
  cases m with
  | carry i k =>
    wtm_at "go"
    rfl
  | strike i =>
    obtain ⟨h3, h4⟩ := hs i rfl
    wtm_at "go"
    rfl
  | put i t s a => cases hm
set_option pp.maxSteps 500 in
theorem b__moved_once (g : En) (W : Web) (w : Wk) (d : PD) (hW : W.Ok) (h : w.In W) (h2 : w.cs.length ≤ 60) (hd : Dk 8 d) (hw : Few d) :
    Sg g (t__moved_once g.K (sp_is_whole g.K) (sp__carried g.K) (sp__struck g.K) (sp__put_in g.K)) [.dat (webD W), .dat (wkD w), .dat d, .no, .no] 0 (fun _ _ => False) fun r _ => r = .d (optD (mvOnce W w d)) := by
  have ho := h.ok
  have hsl := sts_len ho
  unfold t__moved_once
  cases d with
  | tuple ds =>
    have hdl := hw ds rfl
    have hnl : nlAll ds = true := by
      have q := hd.nl
      rw [nl] at q
      exact q
    refine sg_seq (sg_imp2 (Q := fun Γ' n' => (((ds.drop 1).map wholeB).all id = true) ∧ n' = 0 ∧ Γ' = [.dat (webD W), .dat (wkD w), .dat (.tuple ds), .no, .no]) (sg_if (et_or (et_not (et_B ?_)))) ?_)
    · wtm_at "g1"
      refine ev_map (fun d => .bool (wholeB d)) ?_
      wtm_at "g1"
      refine ⟨nlAll_drop hnl, by rw [List.length_drop]; omega, fun a ha => ?_, fun _ => ?_⟩
      · wtm_at "g1"
        rfl
      · refine ⟨(ds.drop 1).map wholeB, by rw [List.map_map]; rfl, ?_⟩
        refine ⟨_, rfl, ?_⟩
        refine ite_c (fun h => ?_) fun h => ?_ <;> simp only [Bool.not_eq_true', Bool.not_eq_false'] at h
        · wtm_at "g1"
          unfold mvOnce
          rw [toMv_whole h]
          rfl
        · exact sg_next ⟨h, rfl, rfl⟩
    rintro _ _ ⟨hall, rfl, rfl⟩
    have hit := hd.item
    unfold mvOnce
    rcases shape_cases hall with ⟨a, i, rfl⟩ | ⟨a, i, m, rfl⟩ | ⟨a, i, t, s, k, rfl⟩ | ⟨n2, n3, n5⟩
    · have hsa := (hit a (by simp)).shp (by decide)
      rw [toMv2]
      wtm_at "go"
      refine ite_c (fun h => ?_) fun h => ?_
      · rw [if_pos (show PyData.eqv a (.str "strike") = true from h)]
        by_cases c1 : 1 ≤ i
        · by_cases c2 : i < w.cs.length
          · wtm_at "go"
            simp only [Option.bind_some, mvOnceM]
            rw [if_pos ⟨c1, c2⟩]
          · wtm_at "go"
            simp only [Option.bind_some, mvOnceM]
            rw [if_neg (fun z => c2 z.2)]
            rfl
        · wtm_at "go"
          simp only [Option.bind_some, mvOnceM]
          rw [if_neg (fun z => c1 z.1)]
          rfl
      · have hn : ¬ PyData.eqv a (.str "strike") = true := by
          rw [show PyData.eqv a (.str "strike") = false from h]
          exact Bool.false_ne_true
        rw [if_neg hn]
        wtm_at "go"
        rfl
    · have hsa := (hit a (by simp)).shp (by decide)
      rw [toMv3]
      wtm_at "go"
      refine ite_c (fun h => ?_) fun h => ?_
      · rw [if_pos (show PyData.eqv a (.str "carry") = true from h)]
        by_cases c1 : 1 ≤ i
        · by_cases c2 : i ≤ w.cs.length
          · wtm_at "go"
            simp only [Option.bind_some, mvOnceM]
            rw [if_pos ⟨c1, c2⟩]
            rfl
          · wtm_at "go"
            simp only [Option.bind_some, mvOnceM]
            rw [if_neg (fun z => c2 z.2)]
            rfl
        · wtm_at "go"
          simp only [Option.bind_some, mvOnceM]
          rw [if_neg (fun z => c1 z.1)]
          rfl
      · have hn : ¬ PyData.eqv a (.str "carry") = true := by
          rw [show PyData.eqv a (.str "carry") = false from h]
          exact Bool.false_ne_true
        rw [if_neg hn]
        wtm_at "go"
        rfl
    · have hsa := (hit a (by simp)).shp (by decide)
      rw [toMv5]
      wtm_at "go"
      refine ite_c (fun h => ?_) fun h => ?_
      · rw [if_pos (show PyData.eqv a (.str "put") = true from h)]
        simp only [Option.bind_some, mvOnceM]
        by_cases c : 0 ≤ i ∧ i ≤ w.cs.length ∧ 0 ≤ t ∧ t < W.ties.length ∧ (s = 1 ∨ s = -1)
        · rw [if_pos c]
          obtain ⟨c1, c2, c3, c4, c5⟩ := c
          have hcc : Cro W (t, s) := ⟨c3, c4, c5⟩
          wtm_at "go"
        · rw [if_neg c]
          by_cases c1 : 0 ≤ i
          · by_cases c2 : i ≤ w.cs.length
            · by_cases c3 : 0 ≤ t
              · by_cases c4 : t < W.ties.length
                · have c5 : ¬ (s = 1 ∨ s = -1) := fun z => c ⟨c1, c2, c3, c4, z⟩
                  wtm_at "go"
                  rfl
                · wtm_at "go"
                  rfl
              · wtm_at "go"
                rfl
            · wtm_at "go"
              rfl
          · wtm_at "go"
            rfl
      · have hn : ¬ PyData.eqv a (.str "put") = true := by
          rw [show PyData.eqv a (.str "put") = false from h]
          exact Bool.false_ne_true
        rw [if_neg hn]
        wtm_at "go"
        rfl
    · rw [toMv_len ⟨n2, n3, n5⟩]
      wtm_at "go"
      rfl
  | _ =>
    wtm_at "go"
    rfl
set_option pp.maxSteps 500 in
theorem b_reduced (g : En) (W : Web) (w : Wk) (hW : W.Ok) (h : w.In W) (h2 : w.cs.length ≤ 60) : Sg g (t_reduced g.K (sp_ends_of g.K) (sp_rest_of g.K) (sp_are_opposite g.K)) [.dat (webD W), .dat (wkD w), .no, .no, .no, .no, .no, .no, .no, .no] 0 (fun _ _ => False)
    fun r _ => r = .d (.tuple [.tuple ((reducedM W w).1.map kpD), .int (reducedM W w).2]) := by
  have hsl := sts_len h.ok
  unfold t_reduced
  refine sg_seq ?_
  wtm_at "g1"
  refine sg_seq (sg_forS stD ?_)
  wtm_at "g1"
  refine ⟨fun i Γ' n' => n' = 0 ∧ ∃ G b4 b5 b6 b7 b8 b9, G = goAll W (begin w) (w.sts.take i) ∧ Γ' = [.dat (webD W), .dat (wkD w), .own (G.1.map kpD), .dat (.int G.2), b4, b5, b6, b7, b8, b9], ⟨rfl, _, _, _, _, _, _, _, rfl, rfl⟩, ?_, ?_⟩
  · rintro v i a Γ' n' ha ⟨rfl, G, b4, b5, b6, b7, b8, b9, hG, rfl⟩
    have hc : Cro W (a.1.1, a.1.2) := cros_of h a (List.mem_of_getElem? ha)
    have he := hW.ends hc
    have hlen := goAll_len W (w.sts.take i) (begin w)
    rw [List.length_take] at hlen
    have hb0 : (begin w).1.length = 0 := rfl
    have hn : turnG W G a = goAll W (begin w) (w.sts.take (i + 1)) := by rw [take_snoc ha, goAll_snoc, hG]
    have hGl : G.1.length < 100000 := by rw [hG]; omega
    wtm_at "tg"
    wtm_at "g1"
    refine sg_seq ?_
    wtm_at "g1"
    refine sg_seq ?_
    wtm_at "g1"
    rcases turn_cases W G a with ⟨hp, k, hk, hr, hne, hk1, hk2⟩ | ⟨hp, hr | ⟨hr, hne⟩ | ⟨hr, hne, k, hk, hd⟩⟩
    · have hq := turn_pop hp hk
      have hne' : (!PyData.eqv (.list (G.1.map kpD)) (.list [])) = true := by
        rw [kps_nil, decide_eq_false hne] <;> rfl
      have hat := at_last_kp hk
      have hopp : (decide (k.2.1 = a.1.1) && decide (k.2.2 = -a.1.2)) = true := by
        rw [decide_eq_true hk1, decide_eq_true hk2] <;> rfl
      wtm_at "go"
      refine ⟨_, _, last_kp hk, ?_⟩
      wtm_at "go"
      refine' ⟨_, _, _, _, _, _, _, hn, ?fin⟩
      case fin =>
        rw [hq, map_dropLast, Int.add_assoc]
        rfl
    · have hq := turn_add hp
      wtm_at "go"
      refine' ⟨_, _, _, _, _, _, _, hn, ?fin⟩
      case fin =>
        rw [hq, List.map_append]
        rfl
    · have hq := turn_add hp
      have hne' : (!PyData.eqv (.list (G.1.map kpD)) (.list [])) = false := by
        rw [kps_nil, decide_eq_true hne] <;> rfl
      wtm_at "go"
      refine' ⟨_, _, _, _, _, _, _, hn, ?fin⟩
      case fin =>
        rw [hq, List.map_append]
        rfl
    · have hq := turn_add hp
      have hne' : (!PyData.eqv (.list (G.1.map kpD)) (.list [])) = true := by
        rw [kps_nil, decide_eq_false hne] <;> rfl
      have hat := at_last_kp hk
      wtm_at "go"
      refine' ⟨_, _, _, _, _, _, _, hn, ?fin⟩
      case fin =>
        rw [hq, List.map_append]
        rfl
  · rintro _ _ ⟨rfl, G, b4, b5, b6, b7, b8, b9, hG, rfl⟩
    rw [List.take_length] at hG
    wtm_at "go"
    rw [hG]
    rfl
theorem b__checked (g : En) (C : Addr) (E : XK) (i : Int) (he : inB i = false → ∀ z d J, Ex g.m g.H0 J → g.H0 d = none → J d = some (.xd [("what", z)]) → Dp g.K J z (.str "turns") → E (.ref C) (some d) J) :
    Sg g (t__checked g.K (sp_is_turns g.K) C E) [.dat (.int i)] 0 (fun _ _ => False) fun r _ => inB i = true ∧ r = .d (.int i) := by
  unfold t__checked
  wtm_at "go"
  refine ite_c (fun h => ?_) fun h => ?_ <;> simp only [Bool.not_eq_true', Bool.not_eq_false'] at h
  · wtm_at "go"
    exact he h
  · wtm_at "go"
set_option pp.maxSteps 500 in
theorem b_back_moves (g : En) (C : Addr) (W : Web) (w : Wk) (ms : List Mv) (hW : W.Ok) (h : w.In W) (hf : w.fits = true) (hl : ms.length ≤ 200) (hn : ∀ m ∈ ms, notPut m = true) (hs : (led W w (mvs ms)).isSome = true) :
    Sg g (t_back_moves g.K (sp__taken_back g.K) (sp_moved_walk g.K C)) [.dat (webD W), .dat (wkD w), .dat (.tuple (mvs ms)), .no, .no, .no] 0 (fun _ _ => False) fun r _ => r = .d (.tuple (mvs (backM W w ms))) := by
  obtain ⟨xe, hxe⟩ := Option.isSome_iff_exists.mp hs
  unfold t_back_moves
  refine sg_seq ?_
  wtm_at "g1"
  refine sg_seq (sg_forS mvD ?_)
  wtm_at "g1"
  refine ⟨fun i Γ' n' => n' = 0 ∧ ∃ x bs b5, led W w ((mvs ms).take i) = some x ∧ backM W w ms = backM W x (ms.drop i) ++ bs.reverse ∧ bs.length ≤ i ∧ Γ' = [.dat (webD W), .dat (wkD w), .dat (.tuple (mvs ms)), .own (mvs bs), .dat (wkD x), b5], ⟨rfl, w, [], _, rfl, by simp, by simp, rfl⟩, ?_, ?_⟩
  · rintro v i a Γ' n' ha ⟨rfl, x, bs, b5, hx, hb, hbl, rfl⟩
    have hil : i < ms.length := by
      rcases Nat.lt_or_ge i ms.length with z | z
      · exact z
      · rw [List.getElem?_eq_none z] at ha; cases ha
    obtain ⟨hxi, hxf⟩ := led_in h hf hx
    have hxo := hxi.ok
    have hxc := fits_cs hxf
    have hna := hn a (List.mem_of_getElem? ha)
    obtain ⟨y, hy⟩ := led_head (i := i + 1) hxe
    have ha2 : (mvs ms)[i]? = some (mvD a) := by
      unfold mvs
      rw [List.getElem?_map, ha]
      rfl
    have hy2 := hy
    rw [led_take ha2, hx, Option.bind_some] at hy2
    have hst : ∀ j, a = .strike j → 1 ≤ j ∧ j < x.cs.length := fun j e => by
      subst e
      rw [mv_mvD] at hy2
      simp only [mvOnceM] at hy2
      split at hy2
      · assumption
      · cases hy2
    have hbsl : bs.length < 100000 := by omega
    have hled : led W x [mvD a] = some y := by
      show (mv W x (mvD a)).bind _ = _
      rw [hy2]
      rfl
    have hk9 : Dk 9 (.tuple [mvD a]) := (Dk.tup (k := 8) fun d hd => by
      rw [List.mem_singleton.mp hd]
      exact (dk_mv a).up (by decide))
    have hfew : ∀ m ∈ [mvD a], Few m := fun m hm => by
      rw [List.mem_singleton.mp hm]
      exact few_mv a
    wtm_at "go"
    refine ⟨y, hled, (dk_wk y).nl, rfl, y, bs ++ [takeBack x a], .dat (mvD a), hy, ?_, ?_, ?_⟩
    · have hdr : ms.drop i = a :: ms.drop (i + 1) := by
        rw [List.drop_eq_getElem_cons hil]
        congr 1
        rw [List.getElem?_eq_getElem hil] at ha
        exact Option.some.inj ha
      rw [hb, hdr, backM, hy2]
      simp
    · simp
      omega
    · rw [show mvs bs ++ [mvD (takeBack x a)] = mvs (bs ++ [takeBack x a]) from mvs_app bs [takeBack x a]]
      rfl
  · rintro _ _ ⟨rfl, x, bs, b5, hx, hb, hbl, rfl⟩
    wtm_at "go"
    rw [hb, List.drop_length]
    unfold mvs
    rw [← List.map_reverse]
    rfl
theorem walkOf_okF (r : Int) (G : Go) : (walkOf r G).Ok := ⟨by simp [walkOf]⟩
theorem due_few {W : Web} {w : Wk} (h : w.In W) (hf : w.fits = true) : (due W w).length ≤ 120 := by
  have q := due_len (W := W) (xs := w.sts) (g := begin w)
  have q2 := sts_len h.ok
  have q3 := fits_cs hf
  unfold due
  omega
set_option pp.maxSteps 500 in
theorem b_equality_paper (g : En) (C C2 : Addr) (E : XK) (W : Web) (a b : Wk) (hW : W.Ok) (h1 : a.In W) (hf1 : a.fits = true) (h2 : b.In W) (hf2 : b.fits = true)
    (he : ep W a b = none → ∀ z d J, Ex g.m g.H0 J → g.H0 d = none → J d = some (.xd [("what", z)]) → Dp g.K J z (.str "turns") → E (.ref C) (some d) J) :
    Sg g (t_equality_paper g.K (sp_plain_moves g.K C) (sp_plain_freely g.K) (sp_back_moves g.K) E) [.dat (webD W), .dat (wkD a), .dat (wkD b), .no, .no] 0 (fun _ _ => False)
    fun r _ => ∃ d, ep W a b = some d ∧ r = .d d := by
  have l1 := due_few h1 hf1
  have l2 := due_few h2 hf2
  have c1 := fits_cs hf1
  have c2 := fits_cs hf2
  unfold t_equality_paper
  refine sg_seq ?_
  wtm_at "g1"
  · rename_i m hm o ho
    have hep : ep W a b = some (if plainM W a = plainM W b then .tuple [.str "equal", .tuple (mvs (m ++ backM W b o))] else .tuple [.str "unlike", .tuple (mvs m), .tuple (mvs o)]) := by
      unfold ep
      rw [hm, ho] <;> rfl
    obtain ⟨hm1, _⟩ := pm_some hm
    obtain ⟨ho1, hck⟩ := pm_some ho
    have hled : (led W b (mvs o)).isSome = true := by
      rw [ho1, led_pm hW h2 hf2, if_pos hck] <;> rfl
    have hol : o.length ≤ 200 := by
      rw [ho1]
      omega
    have hml : m.length ≤ 200 := by
      rw [hm1]
      omega
    have hnp : ∀ x ∈ o, notPut x = true := by
      rw [ho1]
      exact due_notPut
    have hbl := back_len (W := W) (ms := o) (w := b)
    have hq := eqv_wk (walkOf_okF a.room (reducedM W a)) (walkOf_okF b.room (reducedM W b))
    by_cases heq : plainM W a = plainM W b
    · have hq' : PyData.eqv (wkD (plainM W a)) (wkD (plainM W b)) = true := hq.trans (decide_eq_true heq)
      wtm_at "go"
      refine ⟨_, hep, ?_⟩
      rw [if_pos heq, ← mvs_app]
      rfl
    · have hq' : PyData.eqv (wkD (plainM W a)) (wkD (plainM W b)) = false := hq.trans (decide_eq_false heq)
      wtm_at "go"
      refine ⟨_, hep, ?_⟩
      rw [if_neg heq]
      rfl
  · intro hb
    refine he ?_
    unfold ep
    rw [hb]
    cases pm W a <;> rfl
  · intro hb
    refine he ?_
    unfold ep
    rw [hb]
    rfl
set_option pp.maxSteps 500 in
theorem b_plain_moves (g : En) (C : Addr) (E : XK) (W : Web) (w : Wk) (hW : W.Ok) (h : w.In W) (hf : w.fits = true)
    (he : pm W w = none → ∀ z d J, Ex g.m g.H0 J → g.H0 d = none → J d = some (.xd [("what", z)]) → Dp g.K J z (.str "turns") → E (.ref C) (some d) J) :
    Sg g (t_plain_moves g.K (sp_ends_of g.K) (sp_rest_of g.K) (sp__checked g.K C) (sp_are_opposite g.K) E) [.dat (webD W), .dat (wkD w), .no, .no, .no, .no, .no, .no, .no, .no, .no] 0 (fun _ _ => False)
    fun r _ => ∃ ms, pm W w = some ms ∧ r = .d (.tuple (mvs ms)) := by
  have hsl := sts_len h.ok
  have h2 := fits_cs hf
  unfold t_plain_moves
  refine sg_seq ?_
  wtm_at "g1"
  refine sg_seq (sg_forS stD ?_)
  wtm_at "g1"
  refine ⟨fun i Γ' n' => n' = 0 ∧ ∃ G ms b5 b6 b7 b8 b9 b10, G = goAll W (begin w) (w.sts.take i) ∧ ms = dueM W (begin w) (w.sts.take i) ∧ chkAll W (begin w) (w.sts.take i) = true ∧ Γ' = [.dat (webD W), .dat (wkD w), .own (G.1.map kpD), .dat (.int G.2), .own (mvs ms), b5, b6, b7, b8, b9, b10], ⟨rfl, _, _, _, _, _, _, _, _, rfl, rfl, rfl, rfl⟩, ?_, ?_⟩
  · rintro v i a Γ' n' ha ⟨rfl, G, ms, b5, b6, b7, b8, b9, b10, hG, hms, hck, rfl⟩
    have hc : Cro W (a.1.1, a.1.2) := cros_of h a (List.mem_of_getElem? ha)
    have hea := hW.ends hc
    have hlen := goAll_len W (w.sts.take i) (begin w)
    rw [List.length_take] at hlen
    have hb0 : (begin w).1.length = 0 := rfl
    have hn : turnG W G a = goAll W (begin w) (w.sts.take (i + 1)) := by rw [take_snoc ha, goAll_snoc, hG]
    have hmn : ms ++ movesG W G a = dueM W (begin w) (w.sts.take (i + 1)) := by rw [take_snoc ha, due_snoc, ← hG, ← hms]
    have hcn : chkG W G a = true → chkAll W (begin w) (w.sts.take (i + 1)) = true := fun z => by
      rw [take_snoc ha, chk_snoc, ← hG, z, hck] <;> rfl
    have hbad : chkG W G a = false → pm W w = none := fun z => by
      unfold pm
      rw [if_neg]
      rw [chk_bad ha (by rw [← hG]; exact z)]
      exact Bool.false_ne_true
    have hGl : G.1.length < 100000 := by rw [hG]; omega
    have hml : ms.length < 90000 := by
      have q := due_len (W := W) (xs := w.sts.take i) (g := begin w)
      rw [← hms, List.length_take] at q
      omega
    wtm_at "tg"
    wtm_at "g1"
    refine sg_seq ?_
    wtm_at "g1"
    refine sg_seq ?_
    wtm_at "g1"
    refine sg_seq (sg_imp2 (Q := fun Γ' n' => n' = 0 ∧ Γ' = [.dat (webD W), .dat (wkD w), .own (G.1.map kpD), .dat (.int G.2), .own (mvs (ms ++ if gM W G a = 0 then [] else [.carry (G.1.length + 1) (gM W G a)])), .dat (.int a.1.1), .dat (.int a.1.2), .dat (.int a.2), .dat (tieD (ends W a.1.1 a.1.2)), .dat (.int (gR W G a)), .dat (.int (gM W G a))]) ?_ ?_)
    · wtm_at "g1"
      refine ite_c (fun h => ?_) fun h => ?_ <;> simp only [Rt.pd, eqv_int, Bool.not_eq_true', Bool.not_eq_false', decide_eq_true_eq, decide_eq_false_iff_not] at h
      · wtm_at "g1"
        rw [if_neg (show ¬ gM W G a = 0 from h), ← mvs_app]
        simp only [List.length_map]
        rfl
      · wtm_at "g1"
        rw [if_pos (show gM W G a = 0 from h), List.append_nil]
        rfl
    rintro _ _ ⟨rfl, rfl⟩
    have hm2l : (ms ++ if gM W G a = 0 then [] else [Mv.carry (G.1.length + 1) (gM W G a)]).length < 95000 := by
      rw [List.length_append]
      split <;> simp <;> omega
    have hmg : movesG W G a = (if gM W G a = 0 then [] else [Mv.carry (G.1.length + 1) (gM W G a)]) ++ (if gP W G a = true then [Mv.strike G.1.length] else []) := rfl
    rw [hmg, ← List.append_assoc] at hmn
    generalize (ms ++ if gM W G a = 0 then [] else [Mv.carry (G.1.length + 1) (gM W G a)]) = m2 at hm2l hmn
    refine sg_seq ?_
    wtm_at "g1"
    refine ⟨fun hin => ?_, fun hin => he (hbad (by
      unfold chkG
      rw [show inB (gN W G a) = false from hin] <;> rfl))⟩
    wtm_at "g1"
    rcases turn_cases W G a with ⟨hp, k, hk, hr, hne, hk1, hk2⟩ | ⟨hp, hr | ⟨hr, hne⟩ | ⟨hr, hne, k, hk, hd⟩⟩
    · have hq := turn_pop hp hk
      rw [if_pos hp] at hmn
      have hne' : (!PyData.eqv (.list (G.1.map kpD)) (.list [])) = true := by
        rw [kps_nil, decide_eq_false hne] <;> rfl
      have hat := at_last_kp hk
      have hopp : (decide (k.2.1 = a.1.1) && decide (k.2.2 = -a.1.2)) = true := by
        rw [decide_eq_true hk1, decide_eq_true hk2] <;> rfl
      have hr' : gR W G a = 0 := hr
      wtm_at "go"
      refine ⟨_, _, last_kp hk, ?_⟩
      wtm_at "go"
      have hchk : chkG W G a = inB (k.1 + gN W G a) := by
        unfold chkG lastR
        rw [hp, hk, show inB (gN W G a) = true from hin]
        simp
      refine ⟨fun hin2 => ?_, fun hin2 => he (hbad (by rw [hchk]; exact hin2))⟩
      refine ⟨rfl, ?_⟩
      have hcn2 := hcn (by rw [hchk]; exact hin2)
      refine' ⟨_, _, _, _, _, _, _, _, hn, hmn, hcn2, ?fin⟩
      case fin =>
        rw [hq, map_dropLast, ← mvs_app]
        simp only [List.length_map]
        rfl
    · have hq := turn_add hp
      rw [if_neg (by rw [hp]; exact Bool.false_ne_true), List.append_nil] at hmn
      have hr' : gR W G a ≠ 0 := hr
      have hcn2 := hcn (by
        unfold chkG
        rw [hp, show inB (gN W G a) = true from hin] <;> rfl)
      wtm_at "go"
      refine' ⟨_, _, _, _, _, _, _, _, hn, hmn, hcn2, ?fin⟩
      case fin =>
        rw [hq, List.map_append]
        rfl
    · have hq := turn_add hp
      rw [if_neg (by rw [hp]; exact Bool.false_ne_true), List.append_nil] at hmn
      have hr' : gR W G a = 0 := hr
      have hne' : (!PyData.eqv (.list (G.1.map kpD)) (.list [])) = false := by
        rw [kps_nil, decide_eq_true hne] <;> rfl
      have hcn2 := hcn (by
        unfold chkG
        rw [hp, show inB (gN W G a) = true from hin] <;> rfl)
      wtm_at "go"
      refine' ⟨_, _, _, _, _, _, _, _, hn, hmn, hcn2, ?fin⟩
      case fin =>
        rw [hq, List.map_append]
        rfl
    · have hq := turn_add hp
      rw [if_neg (by rw [hp]; exact Bool.false_ne_true), List.append_nil] at hmn
      have hr' : gR W G a = 0 := hr
      have hne' : (!PyData.eqv (.list (G.1.map kpD)) (.list [])) = true := by
        rw [kps_nil, decide_eq_false hne] <;> rfl
      have hat := at_last_kp hk
      have hcn2 := hcn (by
        unfold chkG
        rw [hp, show inB (gN W G a) = true from hin] <;> rfl)
      wtm_at "go"
      refine' ⟨_, _, _, _, _, _, _, _, hn, hmn, hcn2, ?fin⟩
      case fin =>
        rw [hq, List.map_append]
        rfl
  · rintro _ _ ⟨rfl, G, ms, b5, b6, b7, b8, b9, b10, hG, hms, hck, rfl⟩
    rw [List.take_length] at hG hms hck
    wtm_at "go"
    refine ⟨_, ?_, rfl⟩
    unfold pm
    rw [if_pos hck, hms]
    rfl
set_option pp.maxSteps 500 in
theorem b_is_equality_paper (g : En) (W : Web) (a b : Wk) (d : PD) (hW : W.Ok) (h1 : a.In W) (hf1 : a.fits = true) (h2 : b.In W) (hf2 : b.fits = true) (hd : Dk 10 d) (hw : FewP d) :
    Sg g (t_is_equality_paper g.K (sp__led g.K) (sp_is_plain g.K)) [.dat (webD W), .dat (wkD a), .dat (wkD b), .dat d, .no, .no] 0 (fun _ _ => False) fun r _ => r = .d (.bool (rightM W a b d)) := by
  have hbo := h2.ok
  unfold t_is_equality_paper
  cases d with
  | tuple ds =>
    have hit := hd.item
    have hfw := hw ds rfl
    match ds, hit, hfw with
    | [], _, _ =>
      wtm_at "go"
      rfl
    | [z], _, _ =>
      wtm_at "go"
      rfl
    | z :: m :: r, hit, hfw =>
      have hzs := (hit z (by simp)).shp (by decide)
      have hmk := hit m (by simp)
      have hmf := hfw m (by simp)
      refine sg_seq ?_
      wtm_at "g1"
      refine sg_seq ?_
      wtm_at "g1"
      cases hx : ledD W a m with
      | none =>
        wtm_at "go"
        match r with
        | [] =>
          simp only [rightM]
          rw [hx]
          simp
        | [o] =>
          simp only [rightM]
          rw [hx]
          simp
        | _ :: _ :: _ => rfl
      | some x =>
        obtain ⟨hxi, hxf⟩ := ledD_in h1 hf1 hx
        have hxo := hxi.ok
        have hxc := fits_cs hxf
        have hxb := eqv_wk hxo hbo
        refine sg_seq ?_
        wtm_at "g1"
        refine sg_seq (sg_imp2 (Q := fun Γ' n' => PyData.eqv z (.str "equal") = false ∧ n' = 0 ∧ Γ' = [.dat (webD W), .dat (wkD a), .dat (wkD b), .dat (.tuple (z :: m :: r)), .dat (wkD x), .no]) ?_ ?_)
        · wtm_at "g1"
          refine ite_c (fun h => ?_) fun h => ?_
          · have h' : PyData.eqv z (.str "equal") = true := h
            match r with
            | [] =>
              wtm_at "g1"
              simp only [rightM]
              rw [hx, h', Bool.true_and]
              show Rt.d (.bool (PyData.eqv (wkD x) (wkD b))) = _
              rw [hxb]
              simp
            | [o] =>
              wtm_at "g1"
              simp only [rightM]
              rw [eqv_str2 h']
              rfl
            | o :: p :: q =>
              wtm_at "g1"
              rfl
          · wtm_at "g1"
            rfl
        rintro _ _ ⟨hz, rfl, rfl⟩
        match r, hit, hfw with
        | [], _, _ =>
          cases hu : PyData.eqv z (.str "unlike") with
          | true =>
            wtm_at "go"
            simp only [rightM]
            rw [hz] <;> rfl
          | false =>
            wtm_at "go"
            simp only [rightM]
            rw [hz] <;> rfl
        | [o], hit, hfw =>
          have hok := hit o (by simp)
          have hof := hfw o (by simp)
          cases hu : PyData.eqv z (.str "unlike") with
          | false =>
            wtm_at "go"
            simp only [rightM]
            rw [hu] <;> rfl
          | true =>
            refine sg_seq ?_
            wtm_at "g1"
            refine sg_seq ?_
            wtm_at "g1"
            cases hy : ledD W b o with
            | none =>
              wtm_at "go"
              simp only [rightM]
              rw [hu, hx, hy] <;> rfl
            | some y =>
              obtain ⟨hyi, hyf⟩ := ledD_in h2 hf2 hy
              have hyo := hyi.ok
              have hyc := fits_cs hyf
              have hxy := eqv_wk hxo hyo
              have hr : rightM W a b (.tuple [z, m, o]) = (!decide (x = y) && (isPlainB W x && isPlainB W y)) := by
                simp only [rightM]
                rw [hu, hx, hy] <;> rfl
              rw [hr]
              by_cases he : x = y
              · have hxy' : PyData.eqv (wkD x) (wkD y) = true := hxy.trans (decide_eq_true he)
                wtm_at "go"
                rw [decide_eq_true he] <;> rfl
              · have hxy' : PyData.eqv (wkD x) (wkD y) = false := hxy.trans (decide_eq_false he)
                rw [decide_eq_false he]
                wtm_at "go"
                refine ite_c (fun h => ?_) fun h => ?_
                · wtm_at "go"
                  rw [h] <;> rfl
                · rw [h] <;> rfl
        | o :: p :: q, hit, hfw =>
          cases hu : PyData.eqv z (.str "unlike") with
          | true =>
            wtm_at "go"
            rfl
          | false =>
            wtm_at "go"
            rfl
  | _ =>
    wtm_at "go"
    rfl
set_option pp.maxSteps 500 in
theorem b__law_ends (g : En) (W : Web) (t s : Int) (h : Cro W (t, s)) : Sg g (t__law_ends g.K) [.dat (webD W), .dat (.int t), .dat (.int s), .no, .no, .no, .no] 0 (fun _ _ => False) fun r _ => r = .d (tieD (ends W t s)) := by
  obtain ⟨h1, h2, h3⟩ := h
  simp only at h1 h2 h3
  unfold t__law_ends
  wtm_at "go"
  rcases h3 with rfl | rfl <;> wtm_at "go" <;> rfl
theorem b__law_flag (g : En) (a b : Bool) : Sg g (t__law_flag g.K) [.dat (.bool a), .dat (.bool b)] 0 (fun _ _ => False) fun r _ => r = .d (.bool (decide (a = b))) := by
  unfold t__law_flag
  wtm_at "go"
  refine ite_c (fun h => ?_) fun h => ?_
  · wtm_at "go"
    rw [h]
  · wtm_at "go"
    rw [h]
theorem b__law_whole (g : En) (d : PD) : Sg g (t__law_whole g.K) [.dat d] 0 (fun _ _ => False) fun r _ => r = .d (.bool (wholeB d)) := by
  unfold t__law_whole
  wtm_at "go"
  cases d <;> wtm_at "go" <;> rfl
theorem b__law_bound (g : En) : Sg g (t__law_bound g.K) [] 0 (fun _ _ => False) fun r _ => r = .d (.int TB) := by
  unfold t__law_bound
  wtm_at "go"
  have e : ((10 : Int) ^ Int.toNat 60) ^ Int.toNat 5 = TB := by
    unfold TB
    decide +kernel
  refine ⟨⟨by decide, by decide +kernel⟩, ev_int ⟨_, _, rfl, rfl, ⟨by decide, by decide +kernel⟩, ?_⟩⟩
  rw [e]
theorem b__law_fits (g : En) (w : Wk) (h : w.Ok) (h2 : w.cs.length ≤ 100) : Sg g (t__law_fits g.K (sp__law_bound g.K)) [.dat (wkD w), .no] 0 (fun _ _ => False) fun r _ => r = .d (.bool w.fits) := by
  have hsl := sts_len h
  have habs := abs_inB2 (w.ts.getD 0 0)
  unfold t__law_fits
  rw [fits_split h]
  by_cases c1 : w.cs.length ≤ 60
  · rw [decide_eq_true c1]
    cases hi : inB (w.ts.getD 0 0) with
    | false =>
      rw [hi] at habs
      have habs' : decide (TB ≤ (if w.ts.getD 0 0 < 0 then -w.ts.getD 0 0 else w.ts.getD 0 0)) = true := habs
      wtm_at "go"
      rfl
    | true =>
      rw [hi] at habs
      have habs' : decide (TB ≤ (if w.ts.getD 0 0 < 0 then -w.ts.getD 0 0 else w.ts.getD 0 0)) = false := habs
      wtm_at "go"
      refine ev_mapS stD (fun p => .bool (inB p.2)) ?_
      wtm_at "go"
      · exact congrArg PyData.bool (abs_inB _)
      refine ⟨w.sts.map fun p => inB p.2, by rw [List.map_map] <;> rfl, ?_⟩
      rfl
  · rw [decide_eq_false c1]
    wtm_at "go"
    rfl
set_option pp.maxSteps 500 in
theorem b__law_split (g : En) (w : Wk) (h : w.Ok) (h2 : w.cs.length ≤ 100) : Sg g (t__law_split g.K) [.dat (wkD w), .no] 0 (fun _ _ => False) fun r _ => r = .ll (intsD w.ts) (crsD w.cs) := by
  unfold t__law_split
  have hl := sts_len h
  refine sg_ret (ev_ll ?_)
  wtm_at "go"
  refine ev_mapS stD (fun p => .int p.2) ?_
  wtm_at "go"
  · rfl
  refine ev_mapS stD (fun p => crD p.1) ?_
  wtm_at "go"
  · rfl
  rw [stD_fst w h]
  exact congrArg (fun z => Rt.ll z (crsD w.cs)) (stD_snd w h)
set_option pp.maxSteps 500 in
theorem b__law_glued (g : En) (room : Int) (ts : List Int) (cs : List Cr) (h : ts.length = cs.length + 1) (h2 : cs.length ≤ 100) :
    Sg g (t__law_glued g.K) [.dat (.int room), .dat (.list (intsD ts)), .dat (.list (crsD cs)), .no] 0 (fun _ _ => False) fun r _ => r = .d (wkD ⟨room, ts, cs⟩) := by
  unfold t__law_glued
  wtm_at "go"
  refine ev_mapS (fun i : Nat => .int (i : Nat)) (fun i => stD (cs.getD i (0, 0), ts.getD (i + 1) 0)) ?_
  refine src_range ?_
  wtm_at "go"
  rw [crs_len]
  refine ⟨nla_map fun _ => rfl, by rw [List.length_range]; omega, fun i hi => ?_, ?_⟩
  · have hi2 := List.mem_range.mp hi
    wtm_at "go"
    rw [show ((i : Int) + 1).toNat = i + 1 by omega, Int.toNat_natCast]
    rfl
  wtm_at "go"
  rw [range_steps cs ts h]
  rfl
set_option pp.maxSteps 500 in
theorem b__law_strike_move (g : En) (w : Wk) (i : Int) (ho : w.Ok) (h2 : w.cs.length ≤ 60) :
    Sg g (t__law_strike_move g.K (sp__law_split g.K) (sp__law_glued g.K)) [.dat (wkD w), .dat (.int i), .no, .no, .no] 0 (fun _ _ => False) fun r _ => r = .d (optD (if 1 ≤ i ∧ i < w.cs.length then strike w i else none)) := by
  have hl := ho.len
  unfold t__law_strike_move
  by_cases c1 : 1 ≤ i
  · by_cases c2 : i < w.cs.length
    · rw [if_pos ⟨c1, c2⟩]
      have a1 : (i - 1).toNat = i.toNat - 1 := by omega
      have a2 : (i + 1).toNat = i.toNat + 1 := by omega
      have a3 : (i + 2).toNat = i.toNat + 2 := by omega
      by_cases e0 : w.ts.getD i.toNat 0 = 0
      · by_cases e1 : (w.cs.getD (i - 1).toNat (0, 0)).1 = (w.cs.getD i.toNat (0, 0)).1
        · by_cases e2 : (w.cs.getD (i - 1).toNat (0, 0)).2 = -(w.cs.getD i.toNat (0, 0)).2
          · wtm_at "go"
            have ec : w.cs.getD (i.toNat - 1) (0, 0) = ((w.cs.getD i.toNat (0, 0)).1, -(w.cs.getD i.toNat (0, 0)).2) := by
              rw [a1] at e1 e2
              rw [← e1, ← e2]
            unfold strike strikeN
            rw [if_pos ⟨e0, ec⟩, a1, a2, a3]
            rfl
          · wtm_at "go"
            unfold strike strikeN
            rw [if_neg]
            · rfl
            · intro z
              apply e2
              rw [a1, z.2]
        · wtm_at "go"
          unfold strike strikeN
          rw [if_neg]
          · rfl
          · intro z
            apply e1
            rw [a1, z.2]
      · wtm_at "go"
        unfold strike strikeN
        rw [if_neg (fun z => e0 z.1)]
        rfl
    · rw [if_neg (fun z => c2 z.2)]
      wtm_at "go"
      rfl
  · rw [if_neg (fun z => c1 z.1)]
    wtm_at "go"
    rfl
set_option pp.maxSteps 500 in
theorem b__law_put_move (g : En) (W : Web) (w : Wk) (i t s a : Int) (h : w.In W) (h2 : w.cs.length ≤ 60) :
    Sg g (t__law_put_move g.K (sp__law_split g.K) (sp__law_ends g.K) (sp__law_glued g.K)) [.dat (webD W), .dat (wkD w), .dat (mvD (.put i t s a)), .no, .no, .no, .no, .no, .no, .no] 0 (fun _ _ => False) fun r _ => r = .d (optD (mvOnceM W w (.put i t s a))) := by
  have ho := h.ok
  have hl := ho.len
  have a1 : (i - 1).toNat = i.toNat - 1 := by omega
  simp only [mvOnceM]
  unfold t__law_put_move
  refine sg_seq ?_
  wtm_at "g1"
  refine sg_seq ?_
  wtm_at "g1"
  refine sg_seq ?_
  by_cases c : 0 ≤ i ∧ i ≤ w.cs.length ∧ 0 ≤ t ∧ t < W.ties.length ∧ (s = 1 ∨ s = -1)
  · rw [if_pos c]
    obtain ⟨c1, c2, c3, c4, c5⟩ := c
    have hc : Cro W (t, s) := ⟨c3, c4, c5⟩
    have a2 : (i + 1).toNat = i.toNat + 1 := by omega
    have c5' : (!decide (s = 1 ∨ s = -1)) = false := by
      rw [decide_eq_true c5] <;> rfl
    wtm_at "g1"
    · refine sg_seq ?_
      wtm_at "g1"
      refine sg_seq ?_
      refine sg_imp2 (Q := fun Γ' n' => n' = 0 ∧ Γ' = [.dat (webD W), .dat (wkD w), .dat (mvD (.put i t s a)), .own (intsD w.ts), .own (crsD w.cs), .dat (.int i), .dat (.int t), .dat (.int s), .dat (.int a), .dat (.int (roomAt W w i.toNat))]) ?_ ?_
      · by_cases hi : 0 < i
        · have hcg : Cro W ((w.cs.getD (i - 1).toNat (0, 0)).1, (w.cs.getD (i - 1).toNat (0, 0)).2) := cro_get (by assumption) (by omega)
          wtm_at "g1"
          unfold roomAt
          rw [if_neg (by omega), ← a1]
          rfl
        · wtm_at "g1"
          unfold roomAt
          rw [if_pos (by omega)]
      rintro _ _ ⟨rfl, rfl⟩
      wtm_at "go"
      refine ite_c (fun h => ?_) fun h => ?_ <;> simp only [Rt.pd, eqv_int, Bool.not_eq_true', Bool.not_eq_false', decide_eq_true_eq, decide_eq_false_iff_not] at h
      · wtm_at "go"
        unfold putIn putN
        rw [if_neg h]
        rfl
      wtm_at "go"
      unfold putIn putN
      rw [if_pos h, a2]
      rfl
  · rw [if_neg c]
    by_cases c1 : 0 ≤ i
    · by_cases c2 : i ≤ w.cs.length
      · by_cases c3 : 0 ≤ t
        · by_cases c4 : t < W.ties.length
          · have c5 : ¬ (s = 1 ∨ s = -1) := fun z => c ⟨c1, c2, c3, c4, z⟩
            have c5' : (!decide (s = 1 ∨ s = -1)) = true := by
              rw [decide_eq_false c5] <;> rfl
            wtm_at "g1"
            rfl
          · wtm_at "g1"
            rfl
        · wtm_at "g1"
          rfl
      · wtm_at "g1"
        rfl
    · wtm_at "g1"
      rfl
set_option pp.maxSteps 500 in
theorem b__law_carry_move (g : En) (W : Web) (w : Wk) (i m : Int) (hW : W.Ok) (h : w.In W) (h2 : w.cs.length ≤ 60) :
    Sg g (t__law_carry_move g.K (sp__law_split g.K) (sp__law_ends g.K) (sp__law_glued g.K)) [.dat (webD W), .dat (wkD w), .dat (.int i), .dat (.int m), .no, .no, .no] 0 (fun _ _ => False) fun r _ => r = .d (optD (mvOnceM W w (.carry i m))) := by
  have ho := h.ok
  have hl := ho.len
  simp only [mvOnceM]
  unfold t__law_carry_move
  by_cases c1 : 1 ≤ i
  · by_cases c2 : i ≤ w.cs.length
    · have hc : Cro W ((w.cs.getD (i - 1).toNat (0, 0)).1, (w.cs.getD (i - 1).toNat (0, 0)).2) := cro_get h (by omega)
      have he := hW.ends hc
      have e : (i - 1).toNat = i.toNat - 1 := by omega
      rw [if_pos ⟨c1, c2⟩]
      wtm_at "go"
      rw [e]
      rfl
    · rw [if_neg (fun z => c2 z.2)]
      wtm_at "go"
      rfl
  · rw [if_neg (fun z => c1 z.1)]
    wtm_at "go"
    rfl
set_option pp.maxSteps 500 in
theorem b__law_led (g : En) (W : Web) (w : Wk) (d : PD) (hW : W.Ok) (h : w.In W) (hf : w.fits = true) (hd : Dk 9 d) (hw : FewM d) :
    Sg g (t__law_led g.K (sp__law_moved g.K)) [.dat (webD W), .dat (wkD w), .dat d, .no] 0 (fun _ _ => False) fun r _ => r = .d (optD (ledD W w d)) := by
  unfold t__law_led
  cases d with
  | tuple ds =>
    have hit := hd.item
    have hfw := hw ds rfl
    have hnl : nlAll ds = true := by
      have q := hd.nl
      rw [nl] at q
      exact q
    by_cases c1 : ds.length ≤ 2000
    · refine sg_seq ?_
      wtm_at "g1"
      refine sg_seq (sg_forT ?_)
      wtm_at "g1"
      refine ⟨fun i Γ' n' => n' = 0 ∧ ∃ o b3, o = led W w (ds.take i) ∧ Γ' = [.dat (webD W), .dat (optD o), .dat (.tuple ds), b3], ⟨rfl, some w, _, rfl, rfl⟩, ?_, ?_⟩
      · rintro v i a Γ' n' ha ⟨rfl, o, b3, ho, rfl⟩
        have hmem := List.mem_of_getElem? ha
        have hak := hit a hmem
        have haf := hfw a hmem
        have hanl : nl a = true := hak.nl
        have hst : led W w (ds.take (i + 1)) = (led W w (ds.take i)).bind fun x => mv W x a := led_take ha
        rw [← ho] at hst
        wtm_at "tg"
        cases o with
        | none =>
          wtm_at "g1"
          exact ⟨none, _, hst.symm, rfl⟩
        | some x =>
          obtain ⟨hxi, hxf⟩ := led_in h hf ho.symm
          have hxc := fits_cs hxf
          wtm_at "g1"
          exact ⟨mv W x a, _, hst.symm, rfl⟩
      · rintro _ _ ⟨rfl, o, b3, ho, rfl⟩
        rw [List.take_length] at ho
        have e : ledD W w (.tuple ds) = led W w ds := by
          simp only [ledD]
          rw [if_pos c1]
        rw [e, ← ho]
        wtm_at "go"
    · have e : ledD W w (.tuple ds) = none := by
        simp only [ledD]
        rw [if_neg c1]
      rw [e]
      wtm_at "go"
      rfl
  | _ =>
    wtm_at "go"
    rfl
set_option pp.maxSteps 500 in
theorem b__law_is_plain (g : En) (W : Web) (w : Wk) (hW : W.Ok) (h : w.In W) (h2 : w.cs.length ≤ 60) :
    Sg g (t__law_is_plain g.K (sp__law_split g.K) (sp__law_ends g.K)) [.dat (webD W), .dat (wkD w), .no, .no, .no, .no] 0 (fun _ _ => False) fun r _ => r = .d (.bool (isPlainB W w)) := by
  have ho := h.ok
  have hl := ho.len
  unfold t__law_is_plain
  refine sg_seq ?_
  wtm_at "g1"
  refine sg_seq (sg_forR ?_)
  wtm_at "g1"
  refine ⟨fun i Γ' n' => n' = 0 ∧ (∀ j, j < i → plainAt W w j = true) ∧ ∃ b4 b5, Γ' = [.dat (webD W), .dat (wkD w), .own (intsD w.ts), .own (crsD w.cs), b4, b5], ⟨rfl, fun j hj => absurd hj (Nat.not_lt_zero j), _, _, rfl⟩, ?_, ?_⟩
  · rintro i Γ' n' hi ⟨rfl, hp, b4, b5, rfl⟩
    rw [crs_len] at hi
    have hc : Cro W ((w.cs.getD i (0, 0)).1, (w.cs.getD i (0, 0)).2) := cro_get h hi
    wtm_at "tg"
    refine sg_seq ?_
    wtm_at "g1"
    refine sg_seq ?_
    have hq := eqv_cr (w.cs.getD i (0, 0)) ((w.cs.getD ((i : Int) - 1).toNat (0, 0)).1, -(w.cs.getD ((i : Int) - 1).toNat (0, 0)).2)
    have hcn : plainAt W w i = true → (∀ j, j < i + 1 → plainAt W w j = true) := fun hpi j hj => by
      rcases Nat.lt_or_ge j i with z | z
      · exact hp j z
      · rw [show j = i by omega]
        exact hpi
    have hbad : plainAt W w i = false → isPlainB W w = false := fun hpi => by
      cases e : isPlainB W w with
      | false => rfl
      | true =>
        have q := isPlainB_iff.mp e i hi
        rw [hpi] at q
        cases q
    have hpa : plainAt W w i = (decide (0 ≤ w.ts.getD i 0) && decide (w.ts.getD i 0 < (if (ends W (w.cs.getD i (0, 0)).1 (w.cs.getD i (0, 0)).2).2.2.1 < 0 then -(ends W (w.cs.getD i (0, 0)).1 (w.cs.getD i (0, 0)).2).2.2.1 else (ends W (w.cs.getD i (0, 0)).1 (w.cs.getD i (0, 0)).2).2.2.1)) &&
      !(decide (0 < i) && decide (w.ts.getD i 0 = 0) && decide (w.cs.getD i (0, 0) = ((w.cs.getD ((i : Int) - 1).toNat (0, 0)).1, -(w.cs.getD ((i : Int) - 1).toNat (0, 0)).2)))) := by
      unfold plainAt
      rw [show ((i : Int) - 1).toNat = i - 1 by omega]
      rfl
    have e0 : ((i : Int)).toNat = i := Int.toNat_natCast i
    by_cases p1 : 0 ≤ w.ts.getD i 0
    · have p1d : decide (0 ≤ w.ts.getD i 0) = true := decide_eq_true p1
      cases p2 : decide (w.ts.getD i 0 < (if (ends W (w.cs.getD i (0, 0)).1 (w.cs.getD i (0, 0)).2).2.2.1 < 0 then -(ends W (w.cs.getD i (0, 0)).1 (w.cs.getD i (0, 0)).2).2.2.1 else (ends W (w.cs.getD i (0, 0)).1 (w.cs.getD i (0, 0)).2).2.2.1)) with
      | true =>
        rw [p1d, p2, Bool.true_and, Bool.true_and] at hpa
        have p2n : (!decide (w.ts.getD i 0 < (if (ends W (w.cs.getD i (0, 0)).1 (w.cs.getD i (0, 0)).2).2.2.1 < 0 then -(ends W (w.cs.getD i (0, 0)).1 (w.cs.getD i (0, 0)).2).2.2.1 else (ends W (w.cs.getD i (0, 0)).1 (w.cs.getD i (0, 0)).2).2.2.1))) = false := by
          rw [p2] <;> rfl
        by_cases q1 : 0 < i
        · by_cases q2 : w.ts.getD i 0 = 0
          · have q2d : w.ts.getD ((i : Int)).toNat 0 = 0 := by
              rw [e0]
              exact q2
            cases q3 : decide (w.cs.getD i (0, 0) = ((w.cs.getD ((i : Int) - 1).toNat (0, 0)).1, -(w.cs.getD ((i : Int) - 1).toNat (0, 0)).2)) with
            | true =>
              rw [q3] at hq hpa
              have hf := hbad (by rw [hpa, decide_eq_true q1, decide_eq_true q2] <;> rfl)
              rw [hf]
              wtm_at "g1"
            | false =>
              rw [q3] at hq hpa
              have ht := hcn (by rw [hpa, Bool.and_false] <;> rfl)
              wtm_at "g1"
              exact ⟨_, _, rfl⟩
          · have q2d : ¬ w.ts.getD ((i : Int)).toNat 0 = 0 := by
              rw [e0]
              exact q2
            have ht := hcn (by rw [hpa, decide_eq_false q2, Bool.and_false, Bool.false_and] <;> rfl)
            wtm_at "g1"
            exact ⟨_, _, rfl⟩
        · have ht := hcn (by rw [hpa, decide_eq_false q1, Bool.false_and, Bool.false_and] <;> rfl)
          wtm_at "g1"
          exact ⟨_, _, rfl⟩
      | false =>
        have p2n : (!decide (w.ts.getD i 0 < (if (ends W (w.cs.getD i (0, 0)).1 (w.cs.getD i (0, 0)).2).2.2.1 < 0 then -(ends W (w.cs.getD i (0, 0)).1 (w.cs.getD i (0, 0)).2).2.2.1 else (ends W (w.cs.getD i (0, 0)).1 (w.cs.getD i (0, 0)).2).2.2.1))) = true := by
          rw [p2] <;> rfl
        have hf := hbad (by rw [hpa, p2, Bool.and_false, Bool.false_and])
        rw [hf]
        wtm_at "g1"
    · have p1d : decide (0 ≤ w.ts.getD i 0) = false := decide_eq_false p1
      have hf := hbad (by rw [hpa, p1d, Bool.false_and, Bool.false_and])
      rw [hf]
      wtm_at "g1"
  · rintro _ _ ⟨rfl, hp, b4, b5, rfl⟩
    rw [crs_len] at hp
    have e : isPlainB W w = true := isPlainB_iff.mpr hp
    rw [e]
    wtm_at "go"
set_option pp.maxSteps 500 in
theorem b_moved_walk (g : En) (C : Addr) (E : XK) (W : Web) (w : Wk) (ds : List PD) (hW : W.Ok) (h : w.In W) (hf : w.fits = true) (hd : Dk 9 (.tuple ds)) (hw : ∀ m ∈ ds, Few m)
    (he : led W w ds = none → ∀ j : Int, ∀ z d J, Ex g.m g.H0 J → g.H0 d = none → J d = some (.xd [("number", z)]) → Dp g.K J z (.int j) → E (.ref C) (some d) J) :
    Sg g (t_moved_walk g.K (sp__moved_once g.K) (sp_split_walk g.K) (sp_is_turns g.K) C E) [.dat (webD W), .dat (wkD w), .dat (.tuple ds), .no, .no, .no, .no, .no] 0 (fun _ _ => False) fun r _ => ∃ x, led W w ds = some x ∧ r = .d (wkD x) := by
  have hnl : nlAll ds = true := by
    have q := hd.nl
    rw [nl] at q
    exact q
  unfold t_moved_walk
  refine sg_seq ?_
  wtm_at "g1"
  refine sg_seq (sg_forE ?_)
  wtm_at "g1"
  refine ⟨fun i Γ' n' => n' = 0 ∧ ∃ x b4 b5 b6 b7, led W w (ds.take i) = some x ∧ Γ' = [.dat (webD W), .dat (wkD w), .dat (.tuple ds), .dat (wkD x), b4, b5, b6, b7], ⟨rfl, w, _, _, _, _, rfl, rfl⟩, ?_, ?_⟩
  · rintro v i a Γ' n' ha ⟨rfl, x, b4, b5, b6, b7, hx, rfl⟩
    obtain ⟨hxi, hxf⟩ := led_in h hf hx
    have hxc := fits_cs hxf
    have hmem := List.mem_of_getElem? ha
    have hak := hd.item a hmem
    have haf := hw a hmem
    have hanl : nl a = true := hak.nl
    have hbad : mv W x a = none → led W w ds = none := fun hm => by
      cases e : led W w ds with
      | none => rfl
      | some y =>
        obtain ⟨z, hz⟩ := led_head (i := i + 1) e
        rw [led_take ha, hx, Option.bind_some, hm] at hz
        cases hz
    have hnlp : nl (.tuple [.int (i : Nat), a]) = true := by
      rw [nl, nlAll, nlAll, nlAll, hanl] <;> rfl
    wtm_at "tg"
    wtm_at "g1"
    refine sg_seq ?_
    wtm_at "g1"
    refine sg_seq ?_
    cases hm : mvOnce W x a with
    | none =>
      have hb := hbad (by unfold mv okW; rw [hm] <;> rfl)
      wtm_at "g1"
      exact he hb _
    | some y =>
      have hyi := mvOnce_in hxi hm
      have hyo := hyi.ok
      have hyl := mvOnce_len hm
      have hysl := sts_len hyo
      have hmv : mv W x a = if y.fits = true then some y else none := by
        unfold mv
        rw [hm, okW_of]
      by_cases c1 : y.cs.length ≤ 60
      · wtm_at "g1"
        refine ev_mapS PyData.int (fun i => .bool (inB i)) ?_
        wtm_at "g1"
        have hyt := hyo.len
        refine ⟨by omega, fun b hb => ?_, ?_⟩
        · wtm_at "g1"
          rfl
        refine ⟨y.ts.map inB, by rw [List.map_map] <;> rfl, ?_⟩
        refine ⟨_, rfl, ?_⟩
        rw [all_inB]
        refine ite_c (fun hb => ?_) fun hb => ?_ <;> simp only [Bool.not_eq_true', Bool.not_eq_false'] at hb
        · have hbd := hbad (by
            rw [hmv, if_neg]
            intro z
            unfold Wk.fits at z
            rw [hb, Bool.and_false] at z
            cases z)
          wtm_at "g1"
          exact he hbd _
        · have hyf : y.fits = true := by
            unfold Wk.fits
            rw [hb, decide_eq_true c1] <;> rfl
          have hst : led W w (ds.take (i + 1)) = some y := by
            rw [led_take ha, hx, Option.bind_some, hmv, if_pos hyf]
          wtm_at "g1"
          exact ⟨y, _, _, _, _, hst, rfl⟩
      · have hb := hbad (by
          rw [hmv, if_neg]
          intro z
          exact c1 (fits_cs z))
        wtm_at "g1"
        exact he hb _
  · rintro _ _ ⟨rfl, x, b4, b5, b6, b7, hx, rfl⟩
    rw [List.take_length] at hx
    wtm_at "go"
    exact ⟨x, hx, rfl⟩
set_option pp.maxSteps 500 in
theorem b__law_moved (g : En) (W : Web) (w : Wk) (d : PD) (hW : W.Ok) (h : w.In W) (h2 : w.cs.length ≤ 60) (hd : Dk 8 d) (hw : Few d) :
    Sg g (t__law_moved g.K (sp__law_whole g.K) (sp__law_carry_move g.K) (sp__law_strike_move g.K) (sp__law_put_move g.K) (sp__law_fits g.K)) [.dat (webD W), .dat (wkD w), .dat d, .no, .no] 0 (fun _ _ => False) fun r _ => r = .d (optD (mv W w d)) := by
  have ho := h.ok
  have hmv : mv W w d = okW (mvOnce W w d) := rfl
  unfold t__law_moved
  cases d with
  | tuple ds =>
    have hdl := hw ds rfl
    have hit := hd.item
    have hnl : nlAll ds = true := by
      have q := hd.nl
      rw [nl] at q
      exact q
    refine sg_seq (sg_imp2 (Q := fun Γ' n' => (∃ z r, ds = .str z :: r ∧ r ≠ []) ∧ n' = 0 ∧ Γ' = [.dat (webD W), .dat (wkD w), .dat (.tuple ds), .no, .no]) ?_ ?_)
    · match ds with
      | [] =>
        wtm_at "g1"
        rfl
      | [a] =>
        wtm_at "g1"
        rw [mv_none (toMv_len ⟨by simp, by simp, by simp⟩)]
        rfl
      | a :: b :: r =>
        cases a with
        | str z =>
          wtm_at "g1"
          exact ⟨⟨z, b :: r, rfl, by simp⟩, rfl, rfl⟩
        | _ =>
          wtm_at "g1"
          rw [mv_none (toMv_nostr (by simp))]
          rfl
    rintro _ _ ⟨⟨z, r, rfl, hr⟩, rfl, rfl⟩
    refine sg_seq (sg_imp2 (Q := fun Γ' n' => ((r.map wholeB).all id = true) ∧ n' = 0 ∧ Γ' = [.dat (webD W), .dat (wkD w), .dat (.tuple (.str z :: r)), .no, .no]) (sg_if (et_not (et_B ?_))) ?_)
    · wtm_at "g1"
      refine ev_map (fun d => .bool (wholeB d)) ?_
      wtm_at "g1"
      rw [show (PyData.str z :: r).drop (Int.toNat 1) = r from rfl]
      rw [nlAll, Bool.and_eq_true] at hnl
      rw [List.length_cons] at hdl
      refine ⟨by omega, fun a ha => ?_, fun _ => ?_⟩
      · wtm_at "g1"
        rfl
      · refine ⟨r.map wholeB, by rw [List.map_map] <;> rfl, ?_⟩
        refine ⟨_, rfl, ?_⟩
        refine ite_c (fun h => ?_) fun h => ?_ <;> simp only [Bool.not_eq_true', Bool.not_eq_false'] at h
        · wtm_at "g1"
          rw [mv_none (toMv_whole (ds := .str z :: r) h)]
          rfl
        · exact sg_next ⟨h, rfl, rfl⟩
    rintro _ _ ⟨hall, rfl, rfl⟩
    have hzs := (hit (.str z) (by simp)).shp (by decide)
    have hsh := shape_cases (ds := .str z :: r) hall
    have hoth : (r.length ≠ 1 ∧ r.length ≠ 2 ∧ r.length ≠ 4) → mvOnce W w (.tuple (.str z :: r)) = none := fun ⟨q1, q2, q3⟩ => by
      unfold mvOnce
      rw [toMv_len ⟨by rw [List.length_cons]; omega, by rw [List.length_cons]; omega, by rw [List.length_cons]; omega⟩]
      rfl
    refine sg_seq ?_
    wtm_at "g1"
    refine sg_seq (sg_imp2 (Q := fun Γ' n' => n' = 0 ∧ Γ' = [.dat (webD W), .dat (wkD w), .dat (.tuple (.str z :: r)), .dat (optD (if r.length = 2 then mvOnce W w (.tuple (.str z :: r)) else none)), .no]) ?_ ?_)
    · rcases hsh with ⟨a, i, e⟩ | ⟨a, i, m, e⟩ | ⟨a, i, t, s, k, e⟩ | ⟨n2, n3, n5⟩
      · cases e
        wtm_at "g1"
        refine ite_c (fun h => ?_) fun h => ?_ <;> wtm_at "g1" <;> rfl
      · cases e
        have hm : mvOnce W w (.tuple [.str z, .int i, .int m]) = (if PyData.eqv (.str z) (.str "carry") = true then some (Mv.carry i m) else none).bind (mvOnceM W w) := by
          unfold mvOnce
          rw [toMv3]
        rw [hm]
        wtm_at "g1"
        refine ite_c (fun h => ?_) fun h => ?_
        · obtain rfl : z = "carry" := PyData.str.inj (eqv_isStr.mp h)
          have h' : PyData.eqv (.str "carry") (.str "carry") = true := h
          rw [h']
          wtm_at "g1"
          all_goals (first | rfl | skip)
        · have h' : PyData.eqv (.str z) (.str "carry") = false := h
          rw [h']
          wtm_at "g1"
          all_goals (first | rfl | skip)
      · cases e
        wtm_at "g1"
        refine ite_c (fun h => ?_) fun h => ?_ <;> wtm_at "g1" <;> rfl
      · have n2' : r.length ≠ 1 := fun q => n2 (by rw [List.length_cons, q])
        have n3' : r.length ≠ 2 := fun q => n3 (by rw [List.length_cons, q])
        have n5' : r.length ≠ 4 := fun q => n5 (by rw [List.length_cons, q])
        rw [hoth ⟨n2', n3', n5'⟩]
        simp only [ite_self]
        wtm_at "g1"
        refine ite_c (fun h => ?_) fun h => ?_ <;> wtm_at "g1" <;> rfl
    rintro _ _ ⟨rfl, rfl⟩
    refine sg_seq (sg_imp2 (Q := fun Γ' n' => n' = 0 ∧ Γ' = [.dat (webD W), .dat (wkD w), .dat (.tuple (.str z :: r)), .dat (optD (if r.length = 2 ∨ r.length = 1 then mvOnce W w (.tuple (.str z :: r)) else none)), .no]) ?_ ?_)
    · rcases hsh with ⟨a, i, e⟩ | ⟨a, i, m, e⟩ | ⟨a, i, t, s, k, e⟩ | ⟨n2, n3, n5⟩
      · cases e
        have hm : mvOnce W w (.tuple [.str z, .int i]) = (if PyData.eqv (.str z) (.str "strike") = true then some (Mv.strike i) else none).bind (mvOnceM W w) := by
          unfold mvOnce
          rw [toMv2]
        rw [hm]
        wtm_at "g1"
        refine ite_c (fun h => ?_) fun h => ?_
        · obtain rfl : z = "strike" := PyData.str.inj (eqv_isStr.mp h)
          have h' : PyData.eqv (.str "strike") (.str "strike") = true := h
          rw [h']
          wtm_at "g1"
          refine cl__law_strike_move W ?_
          wtm_at "g1"
          all_goals (first | rfl | skip)
        · have h' : PyData.eqv (.str z) (.str "strike") = false := h
          rw [h']
          wtm_at "g1"
          all_goals (first | rfl | skip)
      · cases e
        wtm_at "g1"
        refine ite_c (fun h => ?_) fun h => ?_ <;> wtm_at "g1" <;> rfl
      · cases e
        wtm_at "g1"
        refine ite_c (fun h => ?_) fun h => ?_ <;> wtm_at "g1" <;> rfl
      · have n2' : r.length ≠ 1 := fun q => n2 (by rw [List.length_cons, q])
        have n3' : r.length ≠ 2 := fun q => n3 (by rw [List.length_cons, q])
        have n5' : r.length ≠ 4 := fun q => n5 (by rw [List.length_cons, q])
        rw [hoth ⟨n2', n3', n5'⟩]
        simp only [ite_self]
        wtm_at "g1"
        refine ite_c (fun h => ?_) fun h => ?_ <;> wtm_at "g1" <;> rfl
    rintro _ _ ⟨rfl, rfl⟩
    refine sg_seq (sg_imp2 (Q := fun Γ' n' => n' = 0 ∧ Γ' = [.dat (webD W), .dat (wkD w), .dat (.tuple (.str z :: r)), .dat (optD (mvOnce W w (.tuple (.str z :: r)))), .no]) ?_ ?_)
    · rcases hsh with ⟨a, i, e⟩ | ⟨a, i, m, e⟩ | ⟨a, i, t, s, k, e⟩ | ⟨n2, n3, n5⟩
      · cases e
        wtm_at "g1"
        refine ite_c (fun h => ?_) fun h => ?_ <;> wtm_at "g1" <;> rfl
      · cases e
        wtm_at "g1"
        refine ite_c (fun h => ?_) fun h => ?_ <;> wtm_at "g1" <;> rfl
      · cases e
        have hm : mvOnce W w (.tuple [.str z, .int i, .int t, .int s, .int k]) = (if PyData.eqv (.str z) (.str "put") = true then some (Mv.put i t s k) else none).bind (mvOnceM W w) := by
          unfold mvOnce
          rw [toMv5]
        rw [hm]
        wtm_at "g1"
        refine ite_c (fun h => ?_) fun h => ?_
        · obtain rfl : z = "put" := PyData.str.inj (eqv_isStr.mp h)
          have h' : PyData.eqv (.str "put") (.str "put") = true := h
          rw [h']
          wtm_at "g1"
          all_goals (first | rfl | skip)
        · have h' : PyData.eqv (.str z) (.str "put") = false := h
          rw [h']
          wtm_at "g1"
          all_goals (first | rfl | skip)
      · have n2' : r.length ≠ 1 := fun q => n2 (by rw [List.length_cons, q])
        have n3' : r.length ≠ 2 := fun q => n3 (by rw [List.length_cons, q])
        have n5' : r.length ≠ 4 := fun q => n5 (by rw [List.length_cons, q])
        rw [hoth ⟨n2', n3', n5'⟩]
        simp only [ite_self]
        wtm_at "g1"
        refine ite_c (fun h => ?_) fun h => ?_ <;> wtm_at "g1" <;> rfl
    rintro _ _ ⟨rfl, rfl⟩
    rw [hmv]
    cases hx : mvOnce W w (.tuple (.str z :: r)) with
    | none =>
      wtm_at "go"
      rfl
    | some x =>
      have hxo := (mvOnce_in h hx).ok
      have hxl := mvOnce_len hx
      rw [okW_of]
      wtm_at "go"
      cases hf : x.fits with
      | true =>
        wtm_at "go"
        rfl
      | false =>
        wtm_at "go"
        rfl
  | _ =>
    wtm_at "go"
    rfl
theorem flat_rep {α β : Type} (f : α → β) (n : Nat) (l : List α) : (List.replicate n (l.map f)).flatten = ((List.replicate n l).flatten).map f := by
  rw [List.map_flatten, List.map_replicate]
set_option pp.maxSteps 500 in
theorem b__law_right (g : En) (W : Web) (a b : Wk) (d : PD) (hW : W.Ok) (h1 : a.In W) (hf1 : a.fits = true) (h2 : b.In W) (hf2 : b.fits = true) (hd : Dk 10 d) (hw : FewP d) :
    Sg g (t__law_right g.K (sp__law_led g.K) (sp__law_is_plain g.K)) [.dat (webD W), .dat (wkD a), .dat (wkD b), .dat d, .no, .no] 0 (fun _ _ => False) fun r _ => r = .d (.bool (rightM W a b d)) := by
  have hbo := h2.ok
  unfold t__law_right
  cases d with
  | tuple ds =>
    have hit := hd.item
    have hfw := hw ds rfl
    match ds, hit, hfw with
    | [], _, _ =>
      wtm_at "go"
      rfl
    | [z], hit, _ =>
      have hzs := (hit z (by simp)).shp (by decide)
      refine sg_seq ?_
      wtm_at "g1"
      refine sg_seq (sg_imp2 (Q := fun Γ' n' => n' = 0 ∧ Γ' = [.dat (webD W), .dat (wkD a), .dat (wkD b), .dat (.tuple [z]), .no, .no]) ?_ ?_)
      · wtm_at "g1"
        refine ite_c (fun h => ?_) fun h => ?_ <;> wtm_at "g1"
      rintro _ _ ⟨rfl, rfl⟩
      cases hu : PyData.eqv z (.str "unlike") with
      | true =>
        wtm_at "go"
        rfl
      | false =>
        wtm_at "go"
        rfl
    | [z, m], hit, hfw =>
      have hzs := (hit z (by simp)).shp (by decide)
      have hmk := hit m (by simp)
      have hmf := hfw m (by simp)
      have hco : ∀ x, ledD W a m = some x → x.Ok := fun x hx => (ledD_in h1 hf1 hx).1.ok
      refine sg_seq ?_
      wtm_at "g1"
      refine sg_seq ?_
      wtm_at "g1"
      refine ite_c (fun h => ?_) fun h => ?_
      · wtm_at "g1"
        simp only [rightM]
        rw [show PyData.eqv z (.str "equal") = true from h, Bool.true_and]
        exact congrArg (fun q => Rt.d (.bool q)) (eqv_opt hco hbo)
      · simp only [rightM]
        rw [show PyData.eqv z (.str "equal") = false from h, Bool.false_and]
        cases hu : PyData.eqv z (.str "unlike") with
        | true => wtm_at "go"
        | false => wtm_at "go"
    | [z, m, o], hit, hfw =>
      have hzs := (hit z (by simp)).shp (by decide)
      have hmk := hit m (by simp)
      have hmf := hfw m (by simp)
      have hok := hit o (by simp)
      have hof := hfw o (by simp)
      refine sg_seq ?_
      wtm_at "g1"
      refine sg_seq (sg_imp2 (Q := fun Γ' n' => n' = 0 ∧ Γ' = [.dat (webD W), .dat (wkD a), .dat (wkD b), .dat (.tuple [z, m, o]), .no, .no]) ?_ ?_)
      · wtm_at "g1"
        refine ite_c (fun h => ?_) fun h => ?_ <;> wtm_at "g1"
      rintro _ _ ⟨rfl, rfl⟩
      cases hu : PyData.eqv z (.str "unlike") with
      | false =>
        wtm_at "go"
        simp only [rightM]
        rw [hu] <;> rfl
      | true =>
        refine sg_seq ?_
        wtm_at "g1"
        refine sg_seq ?_
        wtm_at "g1"
        have hr : rightM W a b (.tuple [z, m, o]) = (match ledD W a m, ledD W b o with
          | some x, some y => !decide (x = y) && (isPlainB W x && isPlainB W y)
          | _, _ => false) := by
          simp only [rightM]
          rw [hu, Bool.true_and]
          try (cases ledD W a m <;> cases ledD W b o <;> rfl)
        rw [hr]
        cases hx : ledD W a m with
        | none => wtm_at "go"
        | some x =>
          obtain ⟨hxi, hxf⟩ := ledD_in h1 hf1 hx
          have hxo := hxi.ok
          have hxc := fits_cs hxf
          cases hy : ledD W b o with
          | none => wtm_at "go"
          | some y =>
            obtain ⟨hyi, hyf⟩ := ledD_in h2 hf2 hy
            have hyo := hyi.ok
            have hyc := fits_cs hyf
            have hxy := eqv_wk hxo hyo
            by_cases he : x = y
            · have hxy' : PyData.eqv (wkD x) (wkD y) = true := hxy.trans (decide_eq_true he)
              wtm_at "go"
              simp only [he, decide_true]
              rfl
            · have hxy' : PyData.eqv (wkD x) (wkD y) = false := hxy.trans (decide_eq_false he)
              wtm_at "go"
              refine ite_c (fun h => ?_) fun h => ?_
              · wtm_at "go"
                simp only [he, h, decide_false]
                rfl
              · simp only [he, h, decide_false]
                rfl
    | z :: m :: o :: p :: q, hit, hfw =>
      have hzs := (hit z (by simp)).shp (by decide)
      refine sg_seq ?_
      wtm_at "g1"
      refine sg_seq (sg_imp2 (Q := fun Γ' n' => n' = 0 ∧ Γ' = [.dat (webD W), .dat (wkD a), .dat (wkD b), .dat (.tuple (z :: m :: o :: p :: q)), .no, .no]) ?_ ?_)
      · wtm_at "g1"
        refine ite_c (fun h => ?_) fun h => ?_ <;> wtm_at "g1"
      rintro _ _ ⟨rfl, rfl⟩
      cases hu : PyData.eqv z (.str "unlike") with
      | true =>
        wtm_at "go"
        rfl
      | false =>
        wtm_at "go"
        rfl
  | _ =>
    wtm_at "go"
    rfl
set_option pp.maxSteps 500 in
theorem b__law_due_moves (g : En) (W : Web) (w : Wk) (hW : W.Ok) (h : w.In W) (h2 : w.cs.length ≤ 60) :
    Sg g (t__law_due_moves g.K (sp__law_ends g.K)) [.dat (webD W), .dat (wkD w), .no, .no, .no, .no, .no, .no, .no, .no, .no] 0 (fun _ _ => False)
    fun r _ => r = .d (.tuple (mvs (due W w))) := by
  have hsl := sts_len h.ok
  unfold t__law_due_moves
  refine sg_seq ?_
  wtm_at "g1"
  refine sg_seq (sg_forS stD ?_)
  wtm_at "g1"
  refine ⟨fun i Γ' n' => n' = 0 ∧ ∃ G ms b5 b6 b7 b8 b9 b10, G = goAll W (begin w) (w.sts.take i) ∧ ms = dueM W (begin w) (w.sts.take i) ∧ Γ' = [.dat (webD W), .dat (wkD w), .own (G.1.map kpD), .dat (.int G.2), .own (mvs ms), b5, b6, b7, b8, b9, b10], ⟨rfl, _, _, _, _, _, _, _, _, rfl, rfl, rfl⟩, ?_, ?_⟩
  · rintro v i a Γ' n' ha ⟨rfl, G, ms, b5, b6, b7, b8, b9, b10, hG, hms, rfl⟩
    have hc : Cro W (a.1.1, a.1.2) := cros_of h a (List.mem_of_getElem? ha)
    have hea := hW.ends hc
    have hpos := abs_pos hea.1
    have hlen := goAll_len W (w.sts.take i) (begin w)
    rw [List.length_take] at hlen
    have hb0 : (begin w).1.length = 0 := rfl
    have hn : turnG W G a = goAll W (begin w) (w.sts.take (i + 1)) := by rw [take_snoc ha, goAll_snoc, hG]
    have hmn : ms ++ movesG W G a = dueM W (begin w) (w.sts.take (i + 1)) := by rw [take_snoc ha, due_snoc, ← hG, ← hms]
    have hGl : G.1.length < 100000 := by rw [hG]; omega
    have hml : ms.length < 90000 := by
      have q := due_len (W := W) (xs := w.sts.take i) (g := begin w)
      rw [← hms, List.length_take] at q
      omega
    wtm_at "tg"
    wtm_at "g1"
    refine sg_seq ?_
    wtm_at "g1"
    refine sg_seq ?_
    wtm_at "g1"
    refine sg_seq ?_
    wtm_at "g1"
    refine sg_seq (sg_imp2 (Q := fun Γ' n' => n' = 0 ∧ Γ' = [.dat (webD W), .dat (wkD w), .own (G.1.map kpD), .dat (.int G.2), .own (mvs (ms ++ if gM W G a = 0 then [] else [.carry (G.1.length + 1) (gM W G a)])), .dat (.int a.1.1), .dat (.int a.1.2), .dat (.int a.2), .dat (tieD (ends W a.1.1 a.1.2)), .dat (.int (gR W G a)), .dat (.int (gM W G a))]) ?_ ?_)
    · wtm_at "g1"
      refine ite_c (fun h => ?_) fun h => ?_ <;> simp only [Rt.pd, eqv_int, Bool.not_eq_true', Bool.not_eq_false', decide_eq_true_eq, decide_eq_false_iff_not] at h
      · wtm_at "g1"
        rw [if_neg (show ¬ gM W G a = 0 from h), ← mvs_app]
        simp only [List.length_map]
        rfl
      · wtm_at "g1"
        rw [if_pos (show gM W G a = 0 from h), List.append_nil]
        rfl
    rintro _ _ ⟨rfl, rfl⟩
    have hm2l : (ms ++ if gM W G a = 0 then [] else [Mv.carry (G.1.length + 1) (gM W G a)]).length < 95000 := by
      rw [List.length_append]
      split <;> simp <;> omega
    have hmg : movesG W G a = (if gM W G a = 0 then [] else [Mv.carry (G.1.length + 1) (gM W G a)]) ++ (if gP W G a = true then [Mv.strike G.1.length] else []) := rfl
    rw [hmg, ← List.append_assoc] at hmn
    generalize (ms ++ if gM W G a = 0 then [] else [Mv.carry (G.1.length + 1) (gM W G a)]) = m2 at hm2l hmn
    rcases turn_cases W G a with ⟨hp, k, hk, hr, hne, hk1, hk2⟩ | ⟨hp, hr | ⟨hr, hne⟩ | ⟨hr, hne, k, hk, hd⟩⟩
    · have hq := turn_pop hp hk
      rw [if_pos hp] at hmn
      have hne' : (!PyData.eqv (.list (G.1.map kpD)) (.list [])) = true := by
        rw [kps_nil, decide_eq_false hne] <;> rfl
      have hat := at_last_kp hk
      have hopp : PyData.eqv (crD (k.2.1, k.2.2)) (crD (a.1.1, -a.1.2)) = true := by
        rw [eqv_cr, hk1, hk2, decide_eq_true rfl]
      have hr' : gR W G a = 0 := hr
      wtm_at "go"
      refine ⟨_, _, last_kp hk, ?_⟩
      wtm_at "go"
      refine' ⟨_, _, _, _, _, _, _, _, hn, hmn, ?fin⟩
      case fin =>
        rw [hq, map_dropLast, ← mvs_app, Int.add_assoc]
        simp only [List.length_map]
        rfl
    · have hq := turn_add hp
      rw [if_neg (by rw [hp]; exact Bool.false_ne_true), List.append_nil] at hmn
      have hr' : gR W G a ≠ 0 := hr
      wtm_at "go"
      refine' ⟨_, _, _, _, _, _, _, _, hn, hmn, ?fin⟩
      case fin =>
        rw [hq, List.map_append]
        rfl
    · have hq := turn_add hp
      rw [if_neg (by rw [hp]; exact Bool.false_ne_true), List.append_nil] at hmn
      have hr' : gR W G a = 0 := hr
      have hne' : (!PyData.eqv (.list (G.1.map kpD)) (.list [])) = false := by
        rw [kps_nil, decide_eq_true hne] <;> rfl
      wtm_at "go"
      refine' ⟨_, _, _, _, _, _, _, _, hn, hmn, ?fin⟩
      case fin =>
        rw [hq, List.map_append]
        rfl
    · have hq := turn_add hp
      rw [if_neg (by rw [hp]; exact Bool.false_ne_true), List.append_nil] at hmn
      have hr' : gR W G a = 0 := hr
      have hne' : (!PyData.eqv (.list (G.1.map kpD)) (.list [])) = true := by
        rw [kps_nil, decide_eq_false hne] <;> rfl
      have hat := at_last_kp hk
      have hopp : PyData.eqv (crD (k.2.1, k.2.2)) (crD (a.1.1, -a.1.2)) = false := by
        rw [eqv_cr, decide_eq_false]
        intro z
        have z1 : k.2.1 = a.1.1 := congrArg (·.1) z
        have z2 : k.2.2 = -a.1.2 := congrArg (·.2) z
        rw [decide_eq_true z1, decide_eq_true z2] at hd
        cases hd
      wtm_at "go"
      refine' ⟨_, _, _, _, _, _, _, _, hn, hmn, ?fin⟩
      case fin =>
        rw [hq, List.map_append]
        rfl
  · rintro _ _ ⟨rfl, G, ms, b5, b6, b7, b8, b9, b10, hG, hms, rfl⟩
    rw [List.take_length] at hG hms
    wtm_at "go"
    rw [hms]
    rfl
theorem enum_steps (l : List Kp) (x : Int) : (numbered (l.map kpD)) = (List.range l.length).map fun i => .tuple [.int (i : Nat), kpD (l.getD i (0, 0, 0))] := by
  unfold numbered
  rw [List.length_map]
  apply List.map_congr_left
  intro i hi
  have h := List.mem_range.mp hi
  congr 3
  rw [List.getD_eq_getElem?_getD, List.getD_eq_getElem?_getD, List.getElem?_map, List.getElem?_eq_getElem h]
  rfl
theorem walk_steps (l : List Kp) (x : Int) : (List.range l.length).map (fun i => stD ((l.getD i (0, 0, 0)).2, (l.map (·.1) ++ [x]).getD (i + 1) 0)) = (walkOf 0 (l, x)).sts.map stD := by
  have q := range_steps (l.map (·.2)) (l.map (·.1) ++ [x]) (by simp)
  rw [List.length_map] at q
  show _ = (List.zip (l.map (·.2)) (l.map (·.1) ++ [x]).tail).map stD
  rw [← q]
  apply List.map_congr_left
  intro i hi
  have h := List.mem_range.mp hi
  congr 2
  rw [List.getD_eq_getElem?_getD, List.getD_eq_getElem?_getD, List.getElem?_map, List.getElem?_eq_getElem h]
  rfl
theorem kps_ints (l : List Kp) (x : Int) : List.map (fun k : Kp => PyData.int k.1) l ++ [PyData.int x] = intsD (l.map (·.1) ++ [x]) := by
  unfold intsD
  rw [List.map_append, List.map_map]
  rfl
set_option pp.maxSteps 500 in
theorem b__law_plain (g : En) (W : Web) (w : Wk) (hW : W.Ok) (h : w.In W) (h2 : w.cs.length ≤ 60) : Sg g (t__law_plain g.K (sp__law_ends g.K)) [.dat (webD W), .dat (wkD w), .no, .no, .no, .no, .no, .no, .no, .no, .no, .no, .no, .no] 0 (fun _ _ => False)
    fun r _ => r = .d (wkD (plainM W w)) := by
  have hsl := sts_len h.ok
  unfold t__law_plain
  refine sg_seq ?_
  wtm_at "g1"
  refine sg_seq (sg_forS stD ?_)
  wtm_at "g1"
  refine ⟨fun i Γ' n' => n' = 0 ∧ ∃ G b4 b5 b6 b7 b8 b9, G = goAll W (begin w) (w.sts.take i) ∧ Γ' = [.dat (webD W), .dat (wkD w), .own (G.1.map kpD), .dat (.int G.2), b4, b5, b6, b7, b8, b9, .no, .no, .no, .no], ⟨rfl, _, _, _, _, _, _, _, rfl, rfl⟩, ?_, ?_⟩
  · rintro v i a Γ' n' ha ⟨rfl, G, b4, b5, b6, b7, b8, b9, hG, rfl⟩
    have hc : Cro W (a.1.1, a.1.2) := cros_of h a (List.mem_of_getElem? ha)
    have he := hW.ends hc
    have hpos := abs_pos he.1
    have hlen := goAll_len W (w.sts.take i) (begin w)
    rw [List.length_take] at hlen
    have hb0 : (begin w).1.length = 0 := rfl
    have hn : turnG W G a = goAll W (begin w) (w.sts.take (i + 1)) := by rw [take_snoc ha, goAll_snoc, hG]
    have hGl : G.1.length < 100000 := by rw [hG]; omega
    wtm_at "tg"
    wtm_at "g1"
    refine sg_seq ?_
    wtm_at "g1"
    refine sg_seq ?_
    wtm_at "g1"
    refine sg_seq (sg_imp2 (Q := fun Γ' n' => n' = 0 ∧ Γ' = [.dat (webD W), .dat (wkD w), .own (G.1.map kpD), .dat (.int G.2), .dat (.int a.1.1), .dat (.int a.1.2), .dat (.int a.2), .dat (tieD (ends W a.1.1 a.1.2)), .dat (.int (gR W G a)), .dat (.int (gM W G a)), .no, .no, .no, .no]) ?_ ?_)
    · wtm_at "g1"
      rfl
    rintro _ _ ⟨rfl, rfl⟩
    rcases turn_cases W G a with ⟨hp, k, hk, hr, hne, hk1, hk2⟩ | ⟨hp, hr | ⟨hr, hne⟩ | ⟨hr, hne, k, hk, hd⟩⟩
    · have hq := turn_pop hp hk
      have hne' : (!PyData.eqv (.list (G.1.map kpD)) (.list [])) = true := by
        rw [kps_nil, decide_eq_false hne] <;> rfl
      have hat := at_last_kp hk
      have hopp : PyData.eqv (crD (k.2.1, k.2.2)) (crD (a.1.1, -a.1.2)) = true := by
        rw [eqv_cr, hk1, hk2, decide_eq_true rfl]
      have hr' : gR W G a = 0 := hr
      wtm_at "go"
      refine ⟨_, _, last_kp hk, ?_⟩
      wtm_at "go"
      refine' ⟨_, _, _, _, _, _, _, hn, ?fin⟩
      case fin =>
        rw [hq, map_dropLast, Int.add_assoc]
        rfl
    · have hq := turn_add hp
      have hr' : gR W G a ≠ 0 := hr
      wtm_at "go"
      refine' ⟨_, _, _, _, _, _, _, hn, ?fin⟩
      case fin =>
        rw [hq, List.map_append]
        rfl
    · have hq := turn_add hp
      have hr' : gR W G a = 0 := hr
      have hne' : (!PyData.eqv (.list (G.1.map kpD)) (.list [])) = false := by
        rw [kps_nil, decide_eq_true hne] <;> rfl
      wtm_at "go"
      refine' ⟨_, _, _, _, _, _, _, hn, ?fin⟩
      case fin =>
        rw [hq, List.map_append]
        rfl
    · have hq := turn_add hp
      have hr' : gR W G a = 0 := hr
      have hne' : (!PyData.eqv (.list (G.1.map kpD)) (.list [])) = true := by
        rw [kps_nil, decide_eq_false hne] <;> rfl
      have hat := at_last_kp hk
      have hopp : PyData.eqv (crD (k.2.1, k.2.2)) (crD (a.1.1, -a.1.2)) = false := by
        rw [eqv_cr, decide_eq_false]
        intro z
        have z1 : k.2.1 = a.1.1 := congrArg (·.1) z
        have z2 : k.2.2 = -a.1.2 := congrArg (·.2) z
        rw [decide_eq_true z1, decide_eq_true z2] at hd
        cases hd
      wtm_at "go"
      refine' ⟨_, _, _, _, _, _, _, hn, ?fin⟩
      case fin =>
        rw [hq, List.map_append]
        rfl
  · rintro _ _ ⟨rfl, G, b4, b5, b6, b7, b8, b9, hG, rfl⟩
    rw [List.take_length] at hG
    have hlen := goAll_len W w.sts (begin w)
    have hb0 : (begin w).1.length = 0 := rfl
    have hGl : G.1.length ≤ 60 := by rw [hG]; omega
    have hpl : plainM W w = walkOf w.room G := by
      unfold plainM reducedM
      rw [hG]
    rw [hpl]
    obtain ⟨l, x⟩ := G
    have hll : l.length ≤ 60 := hGl
    refine sg_seq ?_
    refine sg_set (ev_cat (ev_mapS kpD (fun k => .int k.1) ?_))
    wtm_at "g1"
    · rfl
    have e1 := kps_ints l x
    refine ⟨(show nlAll (List.map (fun k : Kp => PyData.int k.1) l ++ [PyData.int x]) = true by
      rw [e1]
      exact nla_ints _), ?_⟩
    change Sg g _ [.dat (webD W), .dat (wkD w), .own (l.map kpD), .dat (.int x), b4, b5, b6, b7, b8, b9, .own (List.map (fun k : Kp => PyData.int k.1) l ++ [PyData.int x]), .no, .no, .no] _ _ _
    rw [e1]
    refine sg_seq (sg_set ?_)
    refine ev_mapS (fun i : Nat => .tuple [.int (i : Nat), kpD (l.getD i (0, 0, 0))]) (fun i => stD ((l.getD i (0, 0, 0)).2, (l.map (·.1) ++ [x]).getD (i + 1) 0)) ?_
    refine src_enum ?_
    wtm_at "g1"
    rw [enum_steps l x]
    refine ⟨List.range l.length, rfl, nla_map fun _ => rfl, by rw [List.length_range]; omega, fun a ha => ?_, nla_map fun _ => rfl, ?_⟩
    · have ha2 := List.mem_range.mp ha
      wtm_at "go"
      rw [show ((a : Int) + 1).toNat = a + 1 by omega]
      rfl
    · change Sg g _ [.dat (webD W), .dat (wkD w), .own (l.map kpD), .dat (.int x), b4, b5, b6, b7, b8, b9, .own (intsD (l.map (·.1) ++ [x])), .own (List.map (fun i => stD ((l.getD i (0, 0, 0)).snd, (List.map (fun x => x.fst) l ++ [x]).getD (i + 1) 0)) (List.range l.length)), .no, .no] _ _ _
      wtm_at "go"
      rw [walk_steps l x]
      rfl
def sp__law_begun (K : PySem.W.Frag) : Sp := fun vs H Q _ => ∃ (p : Addr) (ns : List Int) (k : Int), vs = [.ref p, .int k] ∧ SqL K H p (ns.map V.int) ∧ ns.length ≤ 100 ∧ 0 ≤ k ∧ k ≤ 5 ∧
  ∀ (a c : Addr) (l s : Int) J, Ex none H J → H a = none → J a = some (.dK (mst l s c 0)) → 0 ≤ l → CellsOk K J c → Q (.ref a) J
theorem tDisp_ev {g : En} {Γ : List Bnd} {t1 t2 t3 : TE} (h1 : Ev g t1 Γ 0 fun r n => n = 0 ∧ ∃ l, r = .d (.int l) ∧ 0 ≤ l) (h2 : Ev g t2 Γ 0 fun r n => n = 0 ∧ ∃ s, r = .d (.int s)) (h3 : Ev g t3 Γ 0 fun r n => n = 0 ∧ ∃ ms, r = .l (intsD ms) ∧ ms ≠ [] ∧ ms.length ≤ 1000)
    (hm : g.m = none) {σ : L2.St} {H : Hp} (A : At g Γ 0 σ H) {R : VK} (k : ∀ (a c : Addr) (l s : Int) J, Ex none H J → H a = none → J a = some (.dK (mst l s c 0)) → 0 ≤ l → CellsOk g.K J c → R (.ref a) J) :
    tDisp [(tC (.str "left"), t1), (tC (.str "seed"), t2), (tC (.str "cells"), t3), (tC (.str "spot"), tC (.int 0))] σ H R := fun p hp => by
  show t1 σ (upd H p (.dK [])) _
  refine h1 σ _ (A.new hp) _ fun r1 n1 v1 J1 ⟨e1, l, hr1, hl⟩ A1 x1 k1 => ?_
  subst e1
  subst hr1
  show t2 σ J1 _
  refine h2 σ _ A1 _ fun r2 n2 v2 J2 ⟨e2, s, hr2⟩ A2 x2 k2 => ?_
  subst e2
  subst hr2
  show t3 σ J2 _
  refine h3 σ _ A2 _ fun r3 n3 v3 J3 ⟨e3, ms, hr3, hm1, hm2⟩ A3 x3 k3 => ?_
  subst e3
  subst hr3
  rw [hm] at x1 x2 x3
  have X := (x1.trans x2).trans x3
  have hd : J3 p = some (.dK []) := X.same _ _ upd_same
  obtain ⟨c, rfl, hc, vs, hv1, hv2⟩ := k3
  have ev1 := dp_int k1
  have ev2 := dp_int k2
  subst ev1
  subst ev2
  have hcp : c ≠ p := ne_of hv1 hd (by intro z; cases z)
  refine ⟨hd, mst l s c 0, rfl, by show 4 ≤ 15; decide, ?_⟩
  have em : mergeK [] (mst l s c 0) = mst l s c 0 := rfl
  rw [em]
  refine k p c l s _ (fun b o q => .inl ?_) hp upd_same hl ⟨ms, hm1, hm2, SqL.of ?_⟩
  · have hb : b ≠ p := ne_of_none q hp
    rw [upd_ne hb]
    exact X.same _ _ (by rw [upd_ne hb]; exact q)
  · rw [upd_ne hcp, ← dpa_ints hv2]
    exact hv1
theorem seq_run {g : En} {Γ : List Bnd} {n : Nat} {N : List Bnd → Nat → Prop} {ts us : TS} {D : Ends} {σ : L2.St} {H : Hp} (h : Sg g ts Γ n N fun _ _ => False) (A : At g Γ n σ H) (k : ∀ Γ' n' σ' J, N Γ' n' → At g Γ' n' σ' J → us D σ' J) : tSeq ts us D σ H :=
  h _ σ H A k fun _ _ _ _ z => z.elim
set_option pp.maxSteps 400 in
theorem b__law_begun {K : PySem.W.Frag} {vs : List V} {H : Hp} {Q : VK} {E : XK} (h : sp__law_begun K vs H Q E) : t__law_begun K { nx := fun _ J => Q .non J, rt := Q } (L2.start n__law_begun vs) H := by
  obtain ⟨p, ns, k, rfl, hs, hl, hk0, hk5, hq⟩ := h
  have A0 := at_start (K := K) (c := 0) (H := H) (vs := [.ref p, .int k]) (ds := [.list (intsD ns), .int k]) (names := n__law_begun) (.cons (.lst hs dpa_of_ints) (.cons (.int k) .nil)) (by show 2 ≤ 6; decide)
  have A1 : At ⟨K, none, 0, H, []⟩ [.dat (.list (intsD ns)), .dat (.int k), .no, .no, .no, .no] 0 (L2.start n__law_begun [.ref p, .int k]) H := A0
  generalize L2.start n__law_begun [.ref p, .int k] = σ at A1
  clear A0
  unfold t__law_begun
  generalize hg : (⟨K, none, 0, H, []⟩ : En) = g at A1
  have eK : g.K = K := by rw [← hg]
  have em : g.m = none := by rw [← hg]
  have eH : g.H0 = H := by rw [← hg]
  clear hg
  subst eK
  refine seq_run (N := fun Γ' n' => n' = 0 ∧ ∃ cs : List Int, cs.length ≤ 200 ∧ Γ' = [.dat (.list (intsD ns)), .dat (.int k), .own (intsD cs), .no, .no, .no]) ?_ A1 ?_
  · wtm_at "m1"
    refine ⟨ns.drop k.toNat ++ ns.take k.toNat, by rw [List.length_append, List.length_drop, List.length_take]; omega, ?_⟩
    rw [ints_drop, ints_take, ints_app]
    rfl
  rintro _ _ σ1 J1 ⟨rfl, cs, hcs, rfl⟩ A2
  refine seq_run (N := fun Γ' n' => n' = 0 ∧ ∃ gs : List Int, (gs.length ≤ 100 ∧ ∀ x ∈ gs, 0 ≤ x) ∧ Γ' = [.dat (.list (intsD ns)), .dat (.int k), .own (intsD cs), .own (intsD gs), .no, .no]) ?_ A2 ?_
  · refine sg_set (ev_lc ?_)
    refine src_list ?_
    wtm_at "m1"
    refine ⟨fun i acc m => m = 0 ∧ ∃ gs : List Int, acc = intsD gs ∧ gs.length ≤ i ∧ ∀ x ∈ gs, 0 ≤ x, ⟨rfl, [], rfl, by simp, by simp⟩, ?_, ?_⟩
    · rintro i d acc m hi ⟨rfl, gs, rfl, hgl, hgs⟩
      have hi2 : i < 100 := by
        rcases Nat.lt_or_ge i (intsD ns).length with q | q
        · rw [ints_len] at q
          omega
        · rw [List.getElem?_eq_none q] at hi
          cases hi
      obtain ⟨x, hx, rfl⟩ := mem_map (List.mem_of_getElem? hi)
      wtm_at "m1"
      refine ⟨⟨by decide, by decide +kernel⟩, ?_⟩
      wtm_at "m1"
      refine ite_c (fun h => ?_) fun h => ?_
      · have h : (10 : Int) ^ Int.toNat 18 ≤ x := of_decide_eq_true h
        have h18 : (10 : Int) ^ Int.toNat 18 = 1000000000000000000 := by decide
        rw [h18] at h
        wtm_at "m1"
        refine ⟨gs ++ [x], by rw [← ints_app]; rfl, by simp; omega, fun y hy => ?_⟩
        rcases List.mem_append.mp hy with q | q
        · exact hgs y q
        · rw [List.mem_singleton.mp q]
          omega
      · exact ⟨rfl, gs, rfl, by omega, hgs⟩
    · rintro acc m ⟨rfl, gs, rfl, hgl, hgs⟩ hna
      rw [ints_len] at hgl
      exact ⟨nla_ints _, rfl, gs, ⟨by omega, hgs⟩, rfl⟩
  rintro _ _ σ2 J2 ⟨rfl, gs, ⟨hgl, hgs⟩, rfl⟩ A3
  refine seq_run (N := fun Γ' n' => n' = 0 ∧ ∃ b : Int, Γ' = [.dat (.list (intsD ns)), .dat (.int k), .own (intsD cs), .own (intsD gs), .dat (.int b), .no]) ?_ A3 ?_
  · wtm_at "m1"
    exact ⟨_, rfl⟩
  rintro _ _ σ3 J3 ⟨rfl, b, rfl⟩ A4
  refine seq_run (N := fun Γ' n' => n' = 0 ∧ ∃ (b : Int) (b5 : Bnd), Γ' = [.dat (.list (intsD ns)), .dat (.int k), .own (intsD cs), .own (intsD gs), .dat (.int b), b5]) ?_ A4 ?_
  · refine sg_forG (src_list (ev_own rfl ⟨_, rfl, nla_ints _, fun _ Γ' n' => n' = 0 ∧ ∃ (b : Int) (b5 : Bnd), Γ' = [.dat (.list (intsD ns)), .dat (.int k), .own (intsD cs), .own (intsD gs), .dat (.int b), b5], ⟨rfl, b, _, rfl⟩, ?_, fun _ _ z => z⟩))
    rintro i d _ _ hi ⟨rfl, b, b5, rfl⟩
    obtain ⟨x, hx, rfl⟩ := mem_map (List.mem_of_getElem? hi)
    simp only [List.set_cons_zero, List.set_cons_succ]
    wtm_at "m1"
    exact ⟨_, _, rfl⟩
  rintro _ _ σ4 J4 ⟨rfl, b, b5, rfl⟩ A5
  have X : Ex none H J4 := by
    have q := A5.fr
    rw [em, eH] at q
    exact q
  refine tDisp_ev ?_ ?_ ?_ em A5 fun a c l s J x hn ha h0 hc => ?_
  · by_cases hkg : k < gs.length
    · wtm_at "m1"
      refine hgs _ ?_
      rw [List.getD_eq_getElem?_getD, List.getElem?_eq_getElem (by omega)]
      exact List.getElem_mem _
    · wtm_at "m1"
      decide
  · exact ev_var rfl ⟨rfl, _, rfl⟩
  · wtm_at "m1"
    refine ⟨cs ++ [43 * k + 17], by rw [← ints_app]; rfl, by simp, by simp; omega⟩
  · exact hq a c l s J (X.trans x) (X.back hn) ha h0 hc
set_option pp.maxSteps 500 in
theorem b__law_of (g : En) (n : Nat) (ds : List PD) (hn : n + 1 ≤ LIM) (h1 : ds ≠ []) (h2 : ds.length ≤ 1000) : Sg g (t__law_of g.K (sp__law_draw g.K)) [.mr, .dat (.list ds)] n (fun _ _ => False) fun r n' => (∃ d, d ∈ ds ∧ r = .d d) ∧ n' ≤ n + 1 := by
  have hl : 1 ≤ ds.length := List.length_pos_iff.mpr h1
  unfold t__law_of
  wtm_at "mo"
  rename_i x hx1 hx2
  exact ⟨ds, x, _, rfl, rfl, at_any hx1 hx2, ⟨_, getD_mem hx1 hx2, rfl⟩, Nat.le_refl _⟩
theorem mem_two {d a b : PD} (h : d ∈ [a, b]) : d = a ∨ d = b := by simpa using h
set_option pp.maxSteps 500 in
theorem b__law_turns (g : En) (n : Nat) (i : Int) (hn : n + 3 ≤ LIM) (h1 : 1 ≤ i) (h2 : i ≤ 1000000000000) : Sg g (t__law_turns g.K (sp__law_draw g.K) (sp__law_of g.K)) [.mr, .dat (.int i)] n (fun _ _ => False)
    fun r n' => (∃ x : Int, r = .d (.int x) ∧ -1000000000000 ≤ x ∧ x ≤ 1000000000000) ∧ n' ≤ n + 3 := by
  unfold t__law_turns
  wtm_at "mo"
  refine ite_c (fun h => ?_) fun h => ?_
  · wtm_at "mo"
    rename_i x hx1 hx2 y hy
    rcases mem_two hy with e | e
    · subst e
      exact ⟨_, _, rfl, rfl, cmul_l (by omega), ⟨_, rfl, by omega, by omega⟩, by omega⟩
    · subst e
      exact ⟨_, _, rfl, rfl, cmul_l (by omega), ⟨_, rfl, by omega, by omega⟩, by omega⟩
  · wtm_at "mo"
    exact ⟨⟨_, rfl, by omega, by omega⟩, by omega⟩
set_option pp.maxSteps 500 in
theorem b__law_out (g : En) (W : Web) (v : Int) (hW : W.Ok) : Sg g (t__law_out g.K (sp__law_ends g.K)) [.dat (webD W), .dat (.int v), .no, .no, .no] 0 (fun _ _ => False) fun r _ => ∃ cs : List Cr, r = .l (crsD cs) ∧ cs.length ≤ 40 ∧ (∀ c ∈ cs, Cro W c ∧ (ends W c.1 c.2).1 = v) ∧ ∀ c, Cro W c → (ends W c.1 c.2).1 = v → c ∈ cs := by
  have hf := hW.few
  unfold t__law_out
  refine sg_seq ?_
  wtm_at "m1"
  refine sg_seq (sg_forR ?_)
  wtm_at "m1"
  refine ⟨fun i Γ' n' => n' = 0 ∧ ∃ cs b3, cs.length ≤ 2 * i ∧ (∀ c ∈ cs, Cro W c ∧ (ends W c.1 c.2).1 = v) ∧ (∀ c, Cro W c → c.1 < (i : Int) → (ends W c.1 c.2).1 = v → c ∈ cs) ∧ Γ' = [.dat (webD W), .dat (.int v), .own (crsD cs), b3, .no], ⟨rfl, [], _, by simp, by simp, fun c hc h0 => by have := hc.1; omega, rfl⟩, ?_, ?_⟩
  · rintro i Γ' n' hi ⟨rfl, cs, b3, hl, hcs, hce, rfl⟩
    rw [List.length_map] at hi
    wtm_at "tg"
    refine sg_set (ev_cat (ev_own rfl (ev_lc ?_)))
    refine src_tup ?_
    wtm_at "m1"
    refine ⟨fun j acc m => m = 0 ∧ ∃ ds : List Cr, acc = crsD ds ∧ ds.length ≤ j ∧ (∀ c ∈ ds, Cro W c ∧ (ends W c.1 c.2).1 = v) ∧ ∀ s, (s = 1 ∧ 1 ≤ j ∨ s = -1 ∧ 2 ≤ j) → (ends W i s).1 = v → ((i : Int), s) ∈ ds, ⟨rfl, [], rfl, by simp, by simp, fun s h => by omega⟩, ?_, ?_⟩
    · rintro j d acc m hj ⟨rfl, ds, rfl, hdl, hds, hde⟩
      have hj2 : j ≤ 1 := by
        rcases Nat.lt_or_ge j 2 with q | q
        · omega
        · rw [List.getElem?_eq_none (by simpa using q)] at hj
          cases hj
      have hd : ∃ s : Int, d = .int s ∧ (s = 1 ∧ j = 0 ∨ s = -1 ∧ j = 1) := by
        have hj3 : j = 0 ∨ j = 1 := by omega
        rcases hj3 with rfl | rfl
        · exact ⟨1, (Option.some.inj hj).symm, .inl ⟨rfl, rfl⟩⟩
        · exact ⟨-1, (Option.some.inj hj).symm, .inr ⟨rfl, rfl⟩⟩
      obtain ⟨s, rfl, hsj⟩ := hd
      have hs : s = 1 ∨ s = -1 := by omega
      have hc : Cro W ((i : Int), s) := ⟨by show (0 : Int) ≤ i; omega, by show (i : Int) < _; omega, hs⟩
      wtm_at "m1"
      refine ite_c (fun h => ?_) fun h => ?_ <;> simp only [Rt.pd, eqv_int, decide_eq_true_eq, decide_eq_false_iff_not] at h
      · wtm_at "m1"
        refine ⟨ds ++ [((i : Int), s)], ?_, by simp; omega, ?_, fun s' hs' he => ?_⟩
        · rw [← crs_app]
          rfl
        · intro c hcm
          rcases List.mem_append.mp hcm with z | z
          · exact hds c z
          · rw [List.mem_singleton.mp z]
            exact ⟨hc, h⟩
        · by_cases e : s' = s
          · rw [e]
            exact List.mem_append_right _ (List.mem_singleton.mpr rfl)
          · exact List.mem_append_left _ (hde s' (by omega) he)
      · refine ⟨rfl, ds, rfl, by omega, hds, fun s' hs' he => ?_⟩
        by_cases e : s' = s
        · rw [e] at he
          exact absurd he h
        · exact hde s' (by omega) he
    · rintro acc m ⟨rfl, ds, rfl, hdl, hds, hde⟩ hna
      have hdl2 : ds.length ≤ 2 := hdl
      refine ⟨_, _, rfl, rfl, by rw [crs_len, crs_len]; omega, ?_, rfl, cs ++ ds, .dat (.int i), by simp; omega, ?_, ?_, ?_⟩
      · rw [crs_app]
        exact nla_crs _
      · intro c hcm
        rcases List.mem_append.mp hcm with z | z
        · exact hcs c z
        · exact hds c z
      · intro c hc h0 he
        by_cases e : c.1 < (i : Int)
        · exact List.mem_append_left _ (hce c hc e he)
        · have e2 : c.1 = (i : Int) := by omega
          obtain ⟨c1, c2⟩ := c
          have e2 : c1 = (i : Int) := e2
          subst e2
          refine List.mem_append_right _ (hde c2 ?_ he)
          have h2 : ([PyData.int 1, .int (-1)] : List PD).length = 2 := rfl
          have := hc.2.2
          simp only at this
          simp only [Rt.pd]
          omega
      · rw [← crs_app]
        rfl
  · rintro _ _ ⟨rfl, cs, b3, hl, hcs, hce, rfl⟩
    rw [List.length_map] at hl
    exact sg_retOwn rfl ⟨cs, rfl, by omega, hcs, fun c hc => hce c hc (by have := hc.2.1; rw [List.length_map]; exact this)⟩
set_option pp.maxSteps 500 in
theorem b__law_walk (g : En) (n : Nat) (W : Web) (v st gr : Int) (hn : n + 100 ≤ LIM) (hW : W.Ok) (h1 : 0 ≤ st) (h2 : st ≤ 10) (h3 : 1 ≤ gr) (h4 : gr ≤ 1000000000000) :
    Sg g (t__law_walk g.K (sp__law_turns g.K) (sp__law_out g.K) (sp__law_of g.K) (sp__law_ends g.K)) [.mr, .dat (webD W), .dat (.int v), .dat (.int st), .dat (.int gr), .no, .no, .no, .no, .no, .no, .no] n (fun _ _ => False)
    fun r n' => (∃ w : Wk, r = .d (wkD w) ∧ Sm W w 10 1000000000000) ∧ n' ≤ n + 100 := by
  unfold t__law_walk
  refine sg_seq ?_
  wtm_at "m1"
  rename_i x0 hx0 hx1
  refine sg_seq (sg_forR ?_)
  wtm_at "m1"
  refine ⟨st.toNat, congrArg PyData.int (Int.toNat_of_nonneg h1).symm, by omega, fun i Γ' n' => n' ≤ n + 3 + 8 * i ∧ ∃ (sts : List (Cr × Int)) (u : Int) (b8 b9 b10 b11 : Bnd), sts.length ≤ i ∧ Path W v (sts.map (·.1)) u ∧ (∀ s ∈ sts, -1000000000000 ≤ s.2 ∧ s.2 ≤ 1000000000000) ∧ Γ' = [.mr, .dat (webD W), .dat (.int v), .dat (.int st), .dat (.int gr), .dat (.int x0), .own (sts.map stD), .dat (.int u), b8, b9, b10, b11], ⟨by omega, [], v, _, _, _, _, by simp, rfl, by simp, rfl⟩, ?_, ?_⟩
  · rintro i Γ' n' hi ⟨hn', sts, u, b8, b9, b10, b11, hl, hp, hs, rfl⟩
    have hi10 : i ≤ 9 := by omega
    wtm_at "tg"
    refine sg_seq ?_
    wtm_at "m1"
    rename_i cs hcl hcs hce
    refine ite_c (fun h => ?_) fun h => ?_
    · have hne : cs ≠ [] := fun z => by
        rw [z] at h
        cases h
      have hne2 : crsD cs ≠ [] := fun z => hne (List.map_eq_nil_iff.mp z)
      have hcl2 : (crsD cs).length ≤ 1000 := by
        rw [crs_len]
        omega
      refine sg_seq ?_
      wtm_at "m1"
      rename_i d hd
      obtain ⟨c, hc, rfl⟩ := mem_map hd
      obtain ⟨hc1, hc2⟩ := hcs c hc
      have hc1' : Cro W (c.1, c.2) := hc1
      wtm_at "mo"
      rename_i y hy1 hy2
      refine ⟨sts ++ [((c.1, c.2), y)], (ends W c.1 c.2).2.1, .dat (.int i), .own (crsD cs), .dat (.int c.1), .dat (.int c.2), by simp; omega, ?_, ?_, ?_⟩
      · rw [List.map_append]
        exact Path.app.mpr ⟨u, hp, hc1', hc2, rfl⟩
      · intro s hsm
        rcases List.mem_append.mp hsm with z | z
        · exact hs s z
        · rw [List.mem_singleton.mp z]
          exact ⟨hy1, hy2⟩
      · rw [List.map_append]
        rfl
    · wtm_at "m1"
      exact ⟨sts, u, _, _, _, _, by omega, hp, hs, rfl⟩
  · rintro _ n' ⟨hn', sts, u, b8, b9, b10, b11, hl, hp, hs, rfl⟩
    wtm_at "mo"
    have hm2 : (sts.map (·.2)).length = (sts.map (·.1)).length := by simp
    have hw : wkD ⟨v, x0 :: sts.map (·.2), sts.map (·.1)⟩ = .tuple [.int v, .int x0, .tuple (sts.map stD)] := by
      unfold wkD Wk.sts
      show PyData.tuple [.int v, .int x0, .tuple (((sts.map (·.1)).zip (sts.map (·.2))).map stD)] = _
      rw [zip_parts]
    refine ⟨⟨_, congrArg Rt.d hw.symm, ⟨⟨by simp⟩, u, hp⟩, ?_, ?_⟩, by omega⟩
    · show (sts.map (·.1)).length ≤ 10
      rw [List.length_map]
      omega
    · intro x hx
      rcases List.mem_cons.mp hx with e | e
      · rw [e]
        exact ⟨hx0, hx1⟩
      · obtain ⟨s, hs1, hs2⟩ := List.mem_map.mp e
        rw [← hs2]
        exact hs s hs1
set_option pp.maxSteps 500 in
theorem b__law_great_web (g : En) (n : Nat) (hn : n + 110 ≤ LIM) : Sg g (t__law_great_web g.K (sp__law_draw g.K) (sp__law_web g.K) (sp__law_of g.K)) [.mr, .no] n (fun _ _ => False)
    fun r n' => (∃ W : Web, r = .d (webD W) ∧ W.Ok ∧ 1 ≤ W.rooms ∧ W.rooms ≤ 10) ∧ n' ≤ n + 110 := by
  unfold t__law_great_web
  wtm_at "mo"
  rename_i x hx1 hx2 y hy1 hy2 d hd
  obtain ⟨c, rfl, hc1, hc2⟩ : ∃ c : Int, d = .int c ∧ 1 ≤ c ∧ c ≤ 1000 := by
    simp only [Rt.pd, List.mem_cons, List.not_mem_nil, or_false] at hd
    rcases hd with e | e | e | e | e <;> exact ⟨_, e, by decide, by decide⟩
  wtm_at "mo"
  rename_i W hW hr
  exact ⟨⟨W, rfl, hW, by omega, by omega⟩, by omega⟩
set_option pp.maxSteps 500 in
theorem b__law_some_walk (g : En) (n : Nat) (W : Web) (st : Int) (hn : n + 210 ≤ LIM) (hW : W.Ok) (hr1 : 1 ≤ W.rooms) (hr2 : W.rooms ≤ 10) (h1 : 0 ≤ st) (h2 : st ≤ 10) : Sg g (t__law_some_walk g.K (sp__law_walk g.K) (sp__law_of g.K) (sp__law_draw g.K) (sp__law_spelled g.K)) [.mr, .dat (webD W), .dat (.int st), .no] n (fun _ _ => False)
    fun r n' => (∃ w : Wk, r = .d (wkD w) ∧ Sm W w 22 2000000000000) ∧ n' ≤ n + 210 := by
  unfold t__law_some_walk
  wtm_at "mo"
  refine ⟨⟨by decide, by decide +kernel⟩, ?_⟩
  wtm_at "mo"
  rename_i x hx1 hx2 y hy1 hy2 d hd
  obtain ⟨c, rfl, hc1, hc2⟩ : ∃ c : Int, d = .int c ∧ 1 ≤ c ∧ c ≤ 1000000000000 := by
    simp only [Rt.pd, List.mem_cons, List.not_mem_nil, or_false] at hd
    rcases hd with e | e | e <;> exact ⟨_, e, by decide, by decide⟩
  wtm_at "mo"
  rename_i w hw
  refine cl__law_spelled 10 1000000000000 rfl ?_
  wtm_at "mo"
  rename_i z hz1 hz2 w2 hw2
  exact ⟨⟨_, rfl, hw2.up (by decide) (by decide)⟩, by omega⟩
set_option pp.maxSteps 500 in
theorem b__law_web (g : En) (n : Nat) (rooms ties gr : Int) (hn : n + 100 ≤ LIM) (h1 : 1 ≤ rooms) (h2 : rooms ≤ 10) (h3 : 0 ≤ ties) (h4 : ties ≤ 10) (h5 : 1 ≤ gr) (h6 : gr ≤ 1000) :
    Sg g (t__law_web g.K (sp__law_draw g.K) (sp__law_of g.K)) [.mr, .dat (.int rooms), .dat (.int ties), .dat (.int gr), .no, .no, .no, .no, .no, .no, .no] n (fun _ _ => False)
    fun r n' => (∃ W : Web, r = .d (webD W) ∧ W.Ok ∧ W.rooms = rooms) ∧ n' ≤ n + 100 := by
  unfold t__law_web
  refine sg_seq ?_
  wtm_at "m1"
  refine sg_seq (sg_forR ?_)
  wtm_at "m1"
  refine ⟨ties.toNat, congrArg PyData.int (Int.toNat_of_nonneg h3).symm, by omega, fun i Γ' n' => n' ≤ n + 7 * i ∧ ∃ (ts : List Tie) (b5 b6 b7 b8 b9 b10 : Bnd), ts.length ≤ i ∧ (∀ t ∈ ts, (t.2.2.1 ≠ 0 ∧ t.2.2.2 ≠ 0) ∧ t.2.2.1.natAbs ≤ 1000 ∧ t.2.2.2.natAbs ≤ 1000) ∧ Γ' = [.mr, .dat (.int rooms), .dat (.int ties), .dat (.int gr), .own (ts.map tieD), b5, b6, b7, b8, b9, b10], ⟨by omega, [], _, _, _, _, _, _, by simp, by simp, rfl⟩, ?_, ?_⟩
  · rintro i Γ' n' hi ⟨hn', ts, b5, b6, b7, b8, b9, b10, hl, ht, rfl⟩
    have hi10 : i ≤ 9 := by omega
    wtm_at "tg"
    refine sg_seq (sg_imp2 (Q := fun Γ' n2 => n2 ≤ n' + 1 ∧ ∃ a : Int, Γ' = [.mr, .dat (.int rooms), .dat (.int ties), .dat (.int gr), .own (ts.map tieD), .dat (.int i), .dat (.int a), b7, b8, b9, b10]) ?_ ?_)
    · have hk1 : 1 ≤ (i : Int) + 1 ∧ (i : Int) + 1 ≤ 10000000000000 := by omega
      clear hi hl
      by_cases c1 : (i : Int) + 1 < rooms
      · refine sg_set (ev_if (et_test (ev_ib ?_)))
        wtm_at "ev"
        wtm_at "ev"
        wtm_at "ev"
        wtm_at "lf"
        wtm_at "ev"
        wtm_at "lf"
        wtm_at "lf"
        refine ite_t (decide_eq_true c1) ?_
        refine cl__law_draw rfl ?_
        refine ea_cons (ev_ii (ev_var rfl (ev_int ⟨_, _, rfl, rfl, ea_nil ?_⟩)))
        refine ⟨_, rfl, by omega, hk1, fun x h1 h2 => ?_⟩
        exact ⟨rfl, by omega, x, rfl⟩
      · wtm_at "m1"
        rename_i x hx1 hx2
        exact ⟨x, rfl⟩
    rintro _ n2 ⟨hn2, a, rfl⟩
    refine sg_seq (sg_imp2 (Q := fun Γ' n3 => n3 ≤ n2 + 1 ∧ ∃ b : Int, Γ' = [.mr, .dat (.int rooms), .dat (.int ties), .dat (.int gr), .own (ts.map tieD), .dat (.int i), .dat (.int a), .dat (.int b), b8, b9, b10]) ?_ ?_)
    · by_cases c1 : (i : Int) + 1 < rooms
      · wtm_at "m1"
        exact ⟨_, rfl⟩
      · wtm_at "m1"
        rename_i x hx1 hx2
        exact ⟨x, rfl⟩
    rintro _ n3 ⟨hn3, b, rfl⟩
    refine sg_seq (sg_imp2 (Q := fun Γ' n4 => n4 ≤ n3 + 4 ∧ ∃ p q : Int, (p ≠ 0 ∧ q ≠ 0 ∧ p.natAbs ≤ 1000 ∧ q.natAbs ≤ 1000) ∧ Γ' = [.mr, .dat (.int rooms), .dat (.int ties), .dat (.int gr), .own (ts.map tieD), .dat (.int i), .dat (.int a), .dat (.int b), .dat (.int p), .dat (.int q), b10]) ?_ ?_)
    · refine sg_unpL (ev_lc ?_)
      refine src_range ?_
      wtm_at "m1"
      refine ⟨fun j acc m => m ≤ n3 + 2 * j ∧ ∃ qs : List Int, acc = intsD qs ∧ qs.length = j ∧ ∀ q ∈ qs, q ≠ 0 ∧ q.natAbs ≤ 1000, ⟨by omega, [], rfl, rfl, by simp⟩, ?_, ?_⟩
      · rintro j d acc m hj ⟨hm, qs, rfl, hql, hqs⟩
        have hj2 : j < 2 := by
          rcases Nat.lt_or_ge j 2 with z | z
          · exact z
          · rw [List.getElem?_eq_none (by simpa using z)] at hj
            cases hj
        obtain ⟨j', hj', rfl⟩ := mem_map (List.mem_of_getElem? hj)
        wtm_at "m1"
        rename_i x hx1 hx2 e he
        obtain ⟨c, rfl, hc⟩ : ∃ c : Int, e = .int c ∧ (c = 1 ∨ c = -1) := by
          simp only [Rt.pd, List.mem_cons, List.not_mem_nil, or_false] at he
          rcases he with e | e | e | e
          · exact ⟨_, e, .inl rfl⟩
          · exact ⟨_, e, .inl rfl⟩
          · exact ⟨_, e, .inl rfl⟩
          · exact ⟨_, e, .inr rfl⟩
        have hv : (1 + x) * c ≠ 0 ∧ ((1 + x) * c).natAbs ≤ 1000 := by
          rcases hc with rfl | rfl
          · omega
          · omega
        refine ⟨_, _, rfl, rfl, cmul_l (by omega), rfl, by rw [ints_len]; omega, by omega, qs ++ [(1 + x) * c], ?_, by simp [hql], ?_⟩
        · rw [← ints_app]
          rfl
        · intro q hq
          rcases List.mem_append.mp hq with z | z
          · exact hqs q z
          · rw [List.mem_singleton.mp z]
            exact hv
      · rintro acc m ⟨hm, qs, rfl, hql, hqs⟩ hna
        have hql2 : qs.length = 2 := by simpa using hql
        match qs, hql2 with
        | [p, q], _ =>
          obtain ⟨p1, p2⟩ := hqs p (by simp)
          obtain ⟨q1, q2⟩ := hqs q (by simp)
          refine ⟨_, rfl, hna, rfl, ?_⟩
          wtm_at "m1"
          exact ⟨p, q, ⟨p1, q1, p2, q2⟩, rfl⟩
    rintro _ n4 ⟨hn4, p, q, ⟨hp1, hq1, hp2, hq2⟩, rfl⟩
    wtm_at "m1"
    rename_i x hx1 hx2
    refine ite_c (fun h => ?_) fun h => ?_
    · wtm_at "m1"
      refine ⟨ts ++ [(a, b, p, q)], _, _, _, _, _, _, by simp; omega, ?_, by rw [List.map_append]; rfl⟩
      intro t hts
      rcases List.mem_append.mp hts with z | z
      · exact ht t z
      · rw [List.mem_singleton.mp z]
        exact ⟨⟨hp1, hq1⟩, hp2, hq2⟩
    · wtm_at "m1"
      refine ⟨ts ++ [(b, a, q, p)], _, _, _, _, _, _, by simp; omega, ?_, by rw [List.map_append]; rfl⟩
      intro t hts
      rcases List.mem_append.mp hts with z | z
      · exact ht t z
      · rw [List.mem_singleton.mp z]
        exact ⟨⟨hq1, hp1⟩, hq2, hp2⟩
  · rintro _ n' ⟨hn', ts, b5, b6, b7, b8, b9, b10, hl, ht, rfl⟩
    wtm_at "mo"
    exact ⟨⟨⟨rooms, ts⟩, rfl, ⟨by show ts.length ≤ 20; omega, fun t h => (ht t h).1, fun t h => (ht t h).2⟩, rfl⟩, by omega⟩
set_option pp.maxSteps 500 in
theorem b__law_pair (g : En) (n : Nat) (W : Web) (hn : n + 1000 ≤ LIM) (hW : W.Ok) (hr1 : 1 ≤ W.rooms) (hr2 : W.rooms ≤ 10) : Sg g (t__law_pair g.K (sp__law_some_walk g.K) (sp__law_draw g.K) (sp__law_far g.K) (sp__law_spelled g.K) (sp__law_split g.K) (sp__law_of g.K) (sp__law_glued g.K)) [.mr, .dat (webD W), .no, .no, .no, .no, .no, .no] n (fun _ _ => False)
    fun r n' => (∃ a b : Wk, r = .d (.tuple [wkD a, wkD b]) ∧ a.In W ∧ a.fits = true ∧ b.In W ∧ b.fits = true) ∧ n' ≤ n + 1000 := by
  unfold t__law_pair
  refine sg_seq ?_
  wtm_at "m1"
  rename_i a ha
  have haf := ha.fits (by decide) (by decide)
  have hai := ha.inn
  refine sg_seq ?_
  wtm_at "m1"
  rename_i x hx1 hx2
  by_cases c0 : x = 0
  · wtm_at "mo"
    rename_i b hb
    exact ⟨⟨a, b, rfl, hai, haf, hb.inn, hb.fits (by decide) (by decide)⟩, by omega⟩
  · refine sg_seq (sg_imp2 (Q := fun Γ' n2 => n2 = n + 210 + 1 ∧ Γ' = [.mr, .dat (webD W), .dat (wkD a), .dat (.int x), .no, .no, .no, .no]) ?_ ?_)
    · wtm_at "m1"
    rintro _ _ ⟨rfl, rfl⟩
    by_cases c4 : x = 4
    · refine sg_seq ?_
      wtm_at "m1"
      rename_i y hy1 hy2
      refine ite_c (fun h => ?_) fun h => ?_
      · wtm_at "m1"
        rename_i b hb hbf
        exact ⟨⟨a, b, rfl, hai, haf, hb, hbf⟩, by omega⟩
      · wtm_at "m1"
        rename_i b hb hbf
        exact ⟨⟨b, a, rfl, hb, hbf, hai, haf⟩, by omega⟩
    · refine sg_seq (sg_imp2 (Q := fun Γ' n2 => n2 = n + 210 + 1 ∧ Γ' = [.mr, .dat (webD W), .dat (wkD a), .dat (.int x), .no, .no, .no, .no]) ?_ ?_)
      · wtm_at "m1"
      rintro _ _ ⟨rfl, rfl⟩
      refine sg_seq (sg_set ?_)
      refine cl__law_spelled 22 2000000000000 rfl ?_
      wtm_at "m1"
      rename_i y hy1 hy2 b hb
      have hbi := hb.inn
      have hbo := hbi.ok
      have hbl := hbo.len
      have hbc := hb.few
      by_cases c1 : x = 1
      · refine sg_seq ?_
        refine sg_if ?_
        wtm_at "m1"
        refine sg_seq ?_
        wtm_at "m1"
        refine sg_seq ?_
        wtm_at "m1"
        rename_i z hz1 hz2
        rw [ints_len] at hz2
        refine sg_seq ?_
        wtm_at "m1"
        rename_i e he
        obtain ⟨c, rfl, hc1, hc2⟩ : ∃ c : Int, e = .int c ∧ -2 ≤ c ∧ c ≤ 2 := by
          simp only [Rt.pd, List.mem_cons, List.not_mem_nil, or_false] at he
          rcases he with e | e | e <;> exact ⟨_, e, by decide, by decide⟩
        wtm_at "mo"
        have hb2 : Sm W ⟨b.room, b.ts.set z.toNat (b.ts.getD z.toNat 0 + c), b.cs⟩ 34 2000000060002 := by
          refine ⟨⟨⟨by rw [List.length_set]; exact hbl⟩, hbi.path⟩, hbc, fun t ht => ?_⟩
          have hgz : b.ts.getD z.toNat 0 ∈ b.ts := by
            rw [List.getD_eq_getElem?_getD, List.getElem?_eq_getElem (by omega)]
            exact List.getElem_mem _
          have q2 := hb.sm _ hgz
          rcases List.mem_or_eq_of_mem_set ht with q | q
          · have q1 := hb.sm t q
            omega
          · rw [q]
            omega
        exact ⟨⟨a, _, rfl, hai, haf, hb2.inn, hb2.fits (by decide) (by decide)⟩, by omega⟩
      · wtm_at "mo"
        exact ⟨⟨a, b, rfl, hai, haf, hb.inn, hb.fits (by decide) (by decide)⟩, by omega⟩
set_option pp.maxSteps 500 in
theorem b__law_far (g : En) (n : Nat) (W : Web) (hn : n + 120 ≤ LIM) (hW : W.Ok) (hr1 : 1 ≤ W.rooms) (hr2 : W.rooms ≤ 10) : Sg g (t__law_far g.K (sp__law_walk g.K) (sp__law_draw g.K) (sp__law_split g.K) (sp__law_bound g.K) (sp__law_of g.K) (sp__law_glued g.K)) [.mr, .dat (webD W), .no, .no, .no, .no] n (fun _ _ => False)
    fun r n' => (∃ w : Wk, r = .d (wkD w) ∧ w.In W ∧ w.fits = true) ∧ n' ≤ n + 120 := by
  unfold t__law_far
  refine sg_seq ?_
  wtm_at "m1"
  rename_i x hx1 hx2 y hy1 hy2 a ha
  have haf := ha.fits (by decide) (by decide)
  have hai := ha.inn
  have hao := hai.ok
  have hac := ha.few
  have hal := hao.len
  refine sg_seq ?_
  wtm_at "m1"
  refine sg_seq ?_
  wtm_at "m1"
  rename_i z hz1 hz2
  rw [ints_len] at hz2
  refine sg_seq ?_
  wtm_at "m1"
  rename_i e he
  obtain ⟨c, rfl, hc1, hc2⟩ : ∃ c : Int, e = .int c ∧ 2 ≤ c ∧ c ≤ 1000 := by
    simp only [Rt.pd, List.mem_cons, List.not_mem_nil, or_false] at he
    rcases he with e | e | e <;> exact ⟨_, e, by decide, by decide⟩
  wtm_at "m1"
  rename_i d hd1 hd2 e2 he2
  obtain ⟨s, rfl, hs⟩ : ∃ s : Int, e2 = .int s ∧ (s = 1 ∨ s = -1) := by
    simp only [Rt.pd, List.mem_cons, List.not_mem_nil, or_false] at he2
    rcases he2 with e | e
    · exact ⟨_, e, .inl rfl⟩
    · exact ⟨_, e, .inr rfl⟩
  have hTB : (1000000000000000000 : Int) < TB := by
    unfold TB
    decide
  have hdiv : TB.fdiv c = TB / c := Int.fdiv_eq_ediv_of_nonneg _ (by omega)
  obtain ⟨hv1, hv2⟩ := ediv_small (a := TB) (c := c) (by omega) hc1
  have hprod : -TB < (TB / c - d) * s ∧ (TB / c - d) * s < TB := by
    rcases hs with rfl | rfl
    · omega
    · omega
  refine ⟨_, _, rfl, rfl, cmul_r (by omega), ?_⟩
  rw [hdiv]
  wtm_at "mo"
  refine ⟨⟨_, rfl, ⟨⟨by rw [List.length_set]; exact hal⟩, hai.path⟩, fits_iff.mpr ⟨by show a.cs.length ≤ 60; omega, fun t ht => ?_⟩⟩, by omega⟩
  rcases List.mem_or_eq_of_mem_set ht with q | q
  · exact fits_ts haf t q
  · rw [q]
    unfold inB
    rw [Bool.and_eq_true, decide_eq_true_eq, decide_eq_true_eq]
    exact hprod
def Bm (d : PD) : Prop := Dk 3 d ∧ Few d
theorem bm_fin {L : List PD} (h : ∀ x ∈ L, Bm x) : ∃ d, Rt.d (.tuple L) = .d d ∧ Dk 4 d ∧ FewM d :=
  ⟨_, rfl, .tup fun d hd => (h d hd).1, fun ds e m hm => by
    cases e
    exact (h m hm).2⟩
theorem bm_mv (m : Mv) : Bm (mvD m) := ⟨(dk_mv m).up (by decide), few_mv m⟩
theorem all_mvs (ms : List Mv) : ∀ x ∈ mvs ms, Bm x := fun x hx => by
  obtain ⟨m, _, rfl⟩ := mem_map hx
  exact bm_mv m
theorem bm_tup {ds : List PD} (h : ∀ d ∈ ds, Dk 2 d) (hl : ds.length ≤ 5000) : Bm (.tuple ds) := ⟨.tup h, fun es e => by
  cases e
  exact hl⟩
theorem bm_more (m : Mv) : ∃ (ds : List PD) (z : Int), mvD m = .tuple ds ∧ (ds.length ≤ 5 ∧ ds.dropLast.length ≤ 5) ∧ atI ds (-1) = some (.int z) ∧ Bm (.tuple (ds ++ [.int 0])) ∧ Bm (.tuple ds.dropLast) ∧ ∀ p, Dk 2 p → Bm (.tuple (ds.dropLast ++ [p])) := by
  obtain ⟨ds, z, h, hz⟩ : ∃ (ds : List PD) (z : Int), mvD m = .tuple ds ∧ atI ds (-1) = some (.int z) := by
    cases m <;> exact ⟨_, _, rfl, rfl⟩
  have hk : ∀ d ∈ ds, Dk 2 d := fun d hd => by
    have q := dk_mv m
    rw [h] at q
    exact (Dk.item q d hd).up (by decide)
  have hl : ds.length ≤ 5 := by
    cases m <;> (cases h; simp)
  have hl2 : ds.dropLast.length ≤ 5 := by
    rw [List.length_dropLast]
    omega
  exact ⟨ds, z, h, ⟨hl, hl2⟩, hz, bm_tup (all_app hk (all_one (.int _ _))) (by simp; omega), bm_tup (fun d hd => hk d (List.dropLast_subset _ hd)) (by omega), fun p hp => bm_tup (all_app (fun d hd => hk d (List.dropLast_subset _ hd)) (all_one hp)) (by simp; omega)⟩
set_option pp.maxSteps 300 in
theorem b__law_bent_moves (g : En) (n : Nat) (ms : List Mv) (hn : n + 5 ≤ LIM) (hl : ms.length ≤ 1000) : Sg g (t__law_bent_moves g.K (sp__law_of g.K) (sp__law_draw g.K)) [.mr, .dat (.tuple (mvs ms)), .no, .no, .no, .no, .no, .no] n (fun _ _ => False)
    fun r n' => (∃ d, r = .d d ∧ Dk 4 d ∧ FewM d) ∧ n' ≤ n + 5 := by
  unfold t__law_bent_moves
  refine sg_seq ?_
  wtm_at "m1"
  rename_i x hx1 hx2 e he
  obtain ⟨me, rfl⟩ : ∃ me, e = mvD me := by
    simp only [Rt.pd, List.mem_cons, List.not_mem_nil, or_false] at he
    rcases he with e | e | e | e
    · exact ⟨.carry 1 2, e⟩
    · exact ⟨.strike 1, e⟩
    · exact ⟨.put 0 0 1 0, e⟩
    · exact ⟨.carry 1 0, e⟩
  wtm_at "m1"
  have hnil : PyData.eqv (.tuple (mvs ms)) (.tuple []) = decide (ms = []) := by
    cases ms <;> simp [PyData.eqv, PyData.eqvAll, mvs]
  have hshm : SeqAt.shaped (.tuple (mvs ms)) = true := (dk_mvs ms).shp (by decide)
  refine sg_seq (sg_imp2 (Q := fun Γ' n2 => (x ≠ 0 ∧ ms ≠ []) ∧ n2 = n + 1 + 1 ∧ Γ' = [.mr, .dat (.tuple (mvs ms)), .dat (.int x), .dat (mvD me), .no, .no, .no, .no]) ?_ ?_)
  · by_cases c0 : x = 0
    · wtm_at "m1"
      exact ⟨bm_fin (all_app (all_mvs ms) (all_one (bm_mv me))), by omega⟩
    · by_cases cm : ms = []
      · have hnil' : PyData.eqv (.tuple (mvs ms)) (.tuple []) = true := hnil.trans (decide_eq_true cm)
        wtm_at "m1"
        exact ⟨bm_fin (all_app (all_mvs ms) (all_one (bm_mv me))), by omega⟩
      · have hnil' : PyData.eqv (.tuple (mvs ms)) (.tuple []) = false := hnil.trans (decide_eq_false cm)
        wtm_at "m1"
  rintro _ _ ⟨⟨c0, cm⟩, rfl, rfl⟩
  have hml : 1 ≤ ms.length := List.length_pos_iff.mpr cm
  refine sg_seq ?_
  wtm_at "m1"
  rename_i z hz1 hz2
  rw [mvs_len] at hz2
  have hat : atI (mvs ms) z = some (mvD (ms.getD z.toNat (.strike 0))) := at_map _ hz1 hz2
  generalize ms.getD z.toNat (.strike 0) = m at hat
  have hz3 : z + 1 ≤ 1000 := by omega
  have ham := all_mvs ms
  have hbm := bm_mv m
  obtain ⟨dm, lz, hdm, ⟨hdl, hdl2⟩, hlast, g1, g2, g3⟩ := bm_more m
  rw [hdm] at hat hbm
  have hnm : nl (.tuple dm) = true := hbm.1.nl
  refine sg_seq ?_
  wtm_at "m1"
  by_cases x1 : x = 1
  · wtm_at "mo"
    exact ⟨bm_fin (all_app (all_take ham) (all_drop ham)), by omega⟩
  refine sg_seq (sg_imp2 (Q := fun Γ' n2 => n2 = n + 1 + 1 + 1 ∧ Γ' = [.mr, .dat (.tuple (mvs ms)), .dat (.int x), .dat (mvD me), .dat (.int z), .dat (.tuple dm), .no, .no]) (by wtm_at "m1") ?_)
  rintro _ _ ⟨rfl, rfl⟩
  by_cases x2 : x = 2
  · wtm_at "mo"
    exact ⟨bm_fin (all_app (all_app (all_take ham) (all_two hbm hbm)) (all_drop ham)), by omega⟩
  refine sg_seq (sg_imp2 (Q := fun Γ' n2 => n2 = n + 1 + 1 + 1 ∧ Γ' = [.mr, .dat (.tuple (mvs ms)), .dat (.int x), .dat (mvD me), .dat (.int z), .dat (.tuple dm), .no, .no]) (by wtm_at "m1") ?_)
  rintro _ _ ⟨rfl, rfl⟩
  have hcl := cut_len (mvs ms) (some (z + 1)) (some (z + 2))
  rw [mvs_len] at hcl
  by_cases x3 : x = 3
  · wtm_at "mo"
    exact ⟨bm_fin (all_app (all_app (all_app (all_take ham) (all_cut ham)) (all_one hbm)) (all_drop ham)), by omega⟩
  refine sg_seq (sg_imp2 (Q := fun Γ' n2 => n2 = n + 1 + 1 + 1 ∧ Γ' = [.mr, .dat (.tuple (mvs ms)), .dat (.int x), .dat (mvD me), .dat (.int z), .dat (.tuple dm), .no, .no]) (by wtm_at "m1") ?_)
  rintro _ _ ⟨rfl, rfl⟩
  by_cases x4 : x = 4
  · wtm_at "mo"
    all_goals
      rename_i o ho
      have hbo : Bm o := by
        simp only [Rt.pd, List.mem_cons, List.not_mem_nil, or_false] at ho
        rcases ho with e | e | e | e | e | e <;> rw [e]
        · exact ⟨.none _, fun ds e => by cases e⟩
        · exact ⟨.str _, fun ds e => by cases e⟩
        · exact bm_tup (by simp) (by simp)
        · exact bm_tup (all_one (.str _)) (by simp)
        · exact g1
        · exact g2
      have hnlo : nl o = true := hbo.1.nl
      wtm_at "mo"
      exact ⟨bm_fin (all_app (all_app (all_take ham) (all_one hbo)) (all_drop ham)), by omega⟩
  refine sg_seq (sg_imp2 (Q := fun Γ' n2 => n2 = n + 1 + 1 + 1 ∧ Γ' = [.mr, .dat (.tuple (mvs ms)), .dat (.int x), .dat (mvD me), .dat (.int z), .dat (.tuple dm), .no, .no]) (by wtm_at "m1") ?_)
  rintro _ _ ⟨rfl, rfl⟩
  wtm_at "mo"
  all_goals
    rename_i o ho
    have hbo : Dk 2 o := by
      simp only [Rt.pd, List.mem_cons, List.not_mem_nil, or_false] at ho
      rcases ho with e | e | e | e | e | e | e <;> rw [e]
      · exact .int _ _
      · exact .int _ _
      · exact .int _ _
      · exact .bool _ _
      · exact .none _
      · exact .str _
      · exact .tup (all_one (.int _ _))
    have hnlo : nl o = true := hbo.nl
    have g4 := g3 o hbo
    wtm_at "mo"
    exact ⟨bm_fin (all_app (all_app (all_take ham) (all_one g4)) (all_drop ham)), by omega⟩
def Bp (d : PD) : Prop := Dk 9 d ∧ FewM d
def Bq (d : PD) : Prop := Dk 10 d ∧ FewP d
theorem bp_str (z : Str) (h : PyData.canLay0 (.str z) = true) : Bp (.str z) := ⟨.str _ h, fun ds e => by cases e⟩
theorem bp_mvs (ms : List Mv) : Bp (.tuple (mvs ms)) := ⟨(dk_mvs ms).up (by decide), fewM_mvs ms⟩
theorem bp_nil : Bp (.tuple []) := ⟨.tup (by simp), fun ds e m hm => by
  cases e
  cases hm⟩
theorem bq_tup {L : List PD} (h : ∀ x ∈ L, Bp x) : Bq (.tuple L) := ⟨.tup fun d hd => (h d hd).1, fun ds e m hm => by
  cases e
  exact (h m hm).2⟩
theorem bq_fin {L : List PD} (h : ∀ x ∈ L, Bp x) : ∃ d, Rt.d (.tuple L) = .d d ∧ Dk 10 d ∧ FewP d := ⟨_, rfl, (bq_tup h).1, (bq_tup h).2⟩
theorem bq_none : Bq .none := ⟨.none _, fun ds e => by cases e⟩
theorem bq_str (z : Str) (h : PyData.canLay0 (.str z) = true) : Bq (.str z) := ⟨.str _ h, fun ds e => by cases e⟩
theorem nl_of {L : List PD} (h : ∀ x ∈ L, Bq x) : nlAll L = true := nlAll_iff.mpr fun d hd => (h d hd).1.nl
set_option pp.maxSteps 400 in
theorem b__law_bent (g : En) (n : Nat) (d : PD) (hn : n + 10 ≤ LIM) (hp : PapOk d) : Sg g (t__law_bent g.K (sp__law_draw g.K) (sp__law_of g.K) (sp__law_bent_moves g.K)) [.mr, .dat d, .no, .no, .no] n (fun _ _ => False)
    fun r n' => (∃ d, r = .d d ∧ Dk 10 d ∧ FewP d) ∧ n' ≤ n + 10 := by
  have s1 := bp_str "equal" (by decide +kernel)
  have s2 := bp_str "unlike" (by decide +kernel)
  have s3 := bp_str "like" (by decide +kernel)
  unfold t__law_bent
  rcases hp with ⟨ms, rfl, hl⟩ | ⟨ms, os, rfl, hl, hl2⟩
  · have b1 := bp_mvs ms
    have hodd : ∀ x ∈ [PyData.none, .tuple [], .str "equal", .tuple [.str "equal"], .tuple [.str "unlike", .tuple []], .tuple [.str "equal", .tuple [], .tuple []], .tuple [.str "like", .tuple (mvs ms)], .tuple [.str "equal", .tuple (mvs ms), .tuple []]], Bq x :=
      all_cons bq_none (all_cons (bq_tup all_nil) (all_cons (bq_str _ (by decide +kernel)) (all_cons (bq_tup (all_cons s1 all_nil)) (all_cons (bq_tup (all_cons s2 (all_cons bp_nil all_nil))) (all_cons (bq_tup (all_cons s1 (all_cons bp_nil (all_cons bp_nil all_nil)))) (all_cons (bq_tup (all_cons s3 (all_cons b1 all_nil))) (all_cons (bq_tup (all_cons s1 (all_cons b1 (all_cons bp_nil all_nil)))) all_nil)))))))
    refine sg_seq ?_
    wtm_at "m1"
    rename_i x hx1 hx2
    refine sg_seq ?_
    wtm_at "m1"
    refine ⟨nl_of hodd, ?_⟩
    change Sg g _ [.mr, .dat (.tuple [.str "equal", .tuple (mvs ms)]), .dat (.int x), .own [PyData.none, .tuple [], .str "equal", .tuple [.str "equal"], .tuple [.str "unlike", .tuple []], .tuple [.str "equal", .tuple [], .tuple []], .tuple [.str "like", .tuple (mvs ms)], .tuple [.str "equal", .tuple (mvs ms), .tuple []]], .no] _ _ _
    have hne : [PyData.none, .tuple [], .str "equal", .tuple [.str "equal"], .tuple [.str "unlike", .tuple []], .tuple [.str "equal", .tuple [], .tuple []], .tuple [.str "like", .tuple (mvs ms)], .tuple [.str "equal", .tuple (mvs ms), .tuple []]] ≠ [] := by simp
    have hle : ([PyData.none, .tuple [], .str "equal", .tuple [.str "equal"], .tuple [.str "unlike", .tuple []], .tuple [.str "equal", .tuple [], .tuple []], .tuple [.str "like", .tuple (mvs ms)], .tuple [.str "equal", .tuple (mvs ms), .tuple []]]).length ≤ 1000 := by simp
    generalize [PyData.none, .tuple [], .str "equal", .tuple [.str "equal"], .tuple [.str "unlike", .tuple []], .tuple [.str "equal", .tuple [], .tuple []], .tuple [.str "like", .tuple (mvs ms)], .tuple [.str "equal", .tuple (mvs ms), .tuple []]] = odd at hodd hne hle
    by_cases x0 : x = 0
    · wtm_at "mo"
      rename_i o ho
      exact ⟨⟨o, rfl, hodd o ho⟩, by omega⟩
    refine sg_seq (sg_imp2 (Q := fun Γ' n2 => n2 = n + 1 ∧ Γ' = [.mr, .dat (.tuple [.str "equal", .tuple (mvs ms)]), .dat (.int x), .own odd, .no]) (by wtm_at "m1") ?_)
    rintro _ _ ⟨rfl, rfl⟩
    by_cases x1 : x = 1
    · wtm_at "mo"
      exact ⟨bq_fin (all_cons s2 (all_cons b1 all_nil)), by omega⟩
    refine sg_seq (sg_imp2 (Q := fun Γ' n2 => n2 = n + 1 ∧ Γ' = [.mr, .dat (.tuple [.str "equal", .tuple (mvs ms)]), .dat (.int x), .own odd, .no]) (by wtm_at "m1") ?_)
    rintro _ _ ⟨rfl, rfl⟩
    refine sg_seq (sg_imp2 (Q := fun Γ' n2 => n2 = n + 1 ∧ Γ' = [.mr, .dat (.tuple [.str "equal", .tuple (mvs ms)]), .dat (.int x), .own odd, .no]) (by by_cases x2 : x = 2 <;> wtm_at "m1") ?_)
    rintro _ _ ⟨rfl, rfl⟩
    have hall : ∀ x ∈ [PyData.str "equal", .tuple (mvs ms)], Bp x := all_cons s1 (all_cons b1 all_nil)
    refine sg_seq ?_
    wtm_at "m1"
    rename_i y hy1 hy2
    obtain rfl : y = 0 := by
      simp only [List.length_cons, List.length_nil] at hy2
      omega
    wtm_at "m1"
    rename_i d hd1 hd2
    have hbd : Bp d := ⟨hd1.up (by decide), hd2⟩
    wtm_at "m1"
    exact ⟨bq_fin (all_app (all_app (all_take hall) (all_cons hbd all_nil)) (all_drop hall)), by omega⟩
  · have b1 := bp_mvs ms
    have b2 := bp_mvs os
    have hodd : ∀ x ∈ [PyData.none, .tuple [], .str "equal", .tuple [.str "equal"], .tuple [.str "unlike", .tuple []], .tuple [.str "equal", .tuple [], .tuple []], .tuple [.str "like", .tuple (mvs ms), .tuple (mvs os)], .tuple [.str "unlike", .tuple (mvs ms), .tuple (mvs os), .tuple []]], Bq x :=
      all_cons bq_none (all_cons (bq_tup all_nil) (all_cons (bq_str _ (by decide +kernel)) (all_cons (bq_tup (all_cons s1 all_nil)) (all_cons (bq_tup (all_cons s2 (all_cons bp_nil all_nil))) (all_cons (bq_tup (all_cons s1 (all_cons bp_nil (all_cons bp_nil all_nil)))) (all_cons (bq_tup (all_cons s3 (all_cons b1 (all_cons b2 all_nil)))) (all_cons (bq_tup (all_cons s2 (all_cons b1 (all_cons b2 (all_cons bp_nil all_nil))))) all_nil)))))))
    refine sg_seq ?_
    wtm_at "m1"
    rename_i x hx1 hx2
    refine sg_seq ?_
    wtm_at "m1"
    refine ⟨nl_of hodd, ?_⟩
    change Sg g _ [.mr, .dat (.tuple [.str "unlike", .tuple (mvs ms), .tuple (mvs os)]), .dat (.int x), .own [PyData.none, .tuple [], .str "equal", .tuple [.str "equal"], .tuple [.str "unlike", .tuple []], .tuple [.str "equal", .tuple [], .tuple []], .tuple [.str "like", .tuple (mvs ms), .tuple (mvs os)], .tuple [.str "unlike", .tuple (mvs ms), .tuple (mvs os), .tuple []]], .no] _ _ _
    have hne : [PyData.none, .tuple [], .str "equal", .tuple [.str "equal"], .tuple [.str "unlike", .tuple []], .tuple [.str "equal", .tuple [], .tuple []], .tuple [.str "like", .tuple (mvs ms), .tuple (mvs os)], .tuple [.str "unlike", .tuple (mvs ms), .tuple (mvs os), .tuple []]] ≠ [] := by simp
    have hle : ([PyData.none, .tuple [], .str "equal", .tuple [.str "equal"], .tuple [.str "unlike", .tuple []], .tuple [.str "equal", .tuple [], .tuple []], .tuple [.str "like", .tuple (mvs ms), .tuple (mvs os)], .tuple [.str "unlike", .tuple (mvs ms), .tuple (mvs os), .tuple []]]).length ≤ 1000 := by simp
    generalize [PyData.none, .tuple [], .str "equal", .tuple [.str "equal"], .tuple [.str "unlike", .tuple []], .tuple [.str "equal", .tuple [], .tuple []], .tuple [.str "like", .tuple (mvs ms), .tuple (mvs os)], .tuple [.str "unlike", .tuple (mvs ms), .tuple (mvs os), .tuple []]] = odd at hodd hne hle
    by_cases x0 : x = 0
    · wtm_at "mo"
      rename_i o ho
      exact ⟨⟨o, rfl, hodd o ho⟩, by omega⟩
    refine sg_seq (sg_imp2 (Q := fun Γ' n2 => n2 = n + 1 ∧ Γ' = [.mr, .dat (.tuple [.str "unlike", .tuple (mvs ms), .tuple (mvs os)]), .dat (.int x), .own odd, .no]) (by wtm_at "m1") ?_)
    rintro _ _ ⟨rfl, rfl⟩
    by_cases x1 : x = 1
    · wtm_at "mo"
      exact ⟨bq_fin (all_cons s1 (all_cons b1 (all_cons b2 all_nil))), by omega⟩
    refine sg_seq (sg_imp2 (Q := fun Γ' n2 => n2 = n + 1 ∧ Γ' = [.mr, .dat (.tuple [.str "unlike", .tuple (mvs ms), .tuple (mvs os)]), .dat (.int x), .own odd, .no]) (by wtm_at "m1") ?_)
    rintro _ _ ⟨rfl, rfl⟩
    by_cases x2 : x = 2
    · wtm_at "mo"
      exact ⟨bq_fin (all_cons s2 (all_cons b2 (all_cons b1 all_nil))), by omega⟩
    refine sg_seq (sg_imp2 (Q := fun Γ' n2 => n2 = n + 1 ∧ Γ' = [.mr, .dat (.tuple [.str "unlike", .tuple (mvs ms), .tuple (mvs os)]), .dat (.int x), .own odd, .no]) (by wtm_at "m1") ?_)
    rintro _ _ ⟨rfl, rfl⟩
    have hall : ∀ x ∈ [PyData.str "unlike", .tuple (mvs ms), .tuple (mvs os)], Bp x := all_cons s2 (all_cons b1 (all_cons b2 all_nil))
    refine sg_seq (sg_set (ev_ii (ev_int (cl__law_draw rfl (ea_cons (ev_ii (ev_len (ev_var rfl ⟨_, rfl, ev_int ⟨_, _, rfl, rfl, ea_nil ⟨2, rfl, by omega, ⟨by decide, by decide⟩, fun y hy1 hy2 => ?_⟩⟩⟩))))))))
    refine ⟨_, _, rfl, rfl, rfl, ?_⟩
    have hy : y = 0 ∨ y = 1 := by omega
    rcases hy with rfl | rfl
    · wtm_at "m1"
      rename_i d hd1 hd2
      have hbd : Bp d := ⟨hd1.up (by decide), hd2⟩
      wtm_at "m1"
      exact ⟨bq_fin (all_app (all_app (all_take hall) (all_cons hbd all_nil)) (all_drop hall)), by omega⟩
    · wtm_at "m1"
      rename_i d hd1 hd2
      have hbd : Bp d := ⟨hd1.up (by decide), hd2⟩
      wtm_at "m1"
      exact ⟨bq_fin (all_app (all_app (all_take hall) (all_cons hbd all_nil)) (all_drop hall)), by omega⟩
theorem bd_set {ts : List Int} {i : Nat} {y B C : Int} (h : ∀ x ∈ ts, -B ≤ x ∧ x ≤ B) (hy : -C ≤ y ∧ y ≤ C) (hBC : B ≤ C) : ∀ x ∈ ts.set i y, -C ≤ x ∧ x ≤ C := fun x hx => by
  rcases List.mem_or_eq_of_mem_set hx with q | q
  · have := h x q
    omega
  · rw [q]
    exact hy
theorem bd_get {ts : List Int} {i : Nat} {B : Int} (h : ∀ x ∈ ts, -B ≤ x ∧ x ≤ B) (hi : i < ts.length) : -B ≤ ts.getD i 0 ∧ ts.getD i 0 ≤ B := by
  rw [List.getD_eq_getElem?_getD, List.getElem?_eq_getElem hi]
  exact h _ (List.getElem_mem _)
theorem bd_mul {P m : Int} (hP : P.natAbs ≤ 1000) (hm : -3 ≤ m ∧ m ≤ 3) : -3000 ≤ P * m ∧ P * m ≤ 3000 := by
  have h : m = -3 ∨ m = -2 ∨ m = -1 ∨ m = 0 ∨ m = 1 ∨ m = 2 ∨ m = 3 := by omega
  rcases h with rfl | rfl | rfl | rfl | rfl | rfl | rfl <;> omega
theorem sm_carry {W : Web} {w : Wk} {L : Nat} {B i m : Int} (hW : W.Ok) (h : Sm W w L B) (h1 : 1 ≤ i) (h2 : i ≤ w.cs.length) (hm : -3 ≤ m ∧ m ≤ 3) : Sm W (carry W w i m) (L + 2) (B + 10000) := by
  have hl := h.inn.ok.len
  have hc : Cro W ((w.cs.getD (i.toNat - 1) (0, 0)).1, (w.cs.getD (i.toNat - 1) (0, 0)).2) := cro_get h.inn (by omega)
  obtain ⟨_, _, e1, e2⟩ := hW.ends hc
  have b1 := bd_mul e1 hm
  have b2 := bd_mul e2 hm
  refine ⟨carry_in h.inn, by show w.cs.length ≤ _; have := h.few; omega, ?_⟩
  have g1 := bd_get h.sm (i := i.toNat - 1) (by omega)
  have s1 := bd_set (i := i.toNat - 1) (C := B + 3000) h.sm (y := w.ts.getD (i.toNat - 1) 0 - (ends W (w.cs.getD (i.toNat - 1) (0, 0)).1 (w.cs.getD (i.toNat - 1) (0, 0)).2).2.2.1 * m) (by omega) (by omega)
  have g2 := bd_get s1 (i := i.toNat) (by rw [List.length_set]; omega)
  exact bd_set (C := B + 10000) s1 (by omega) (by omega)
theorem sm_put {W : Web} {w : Wk} {L : Nat} {B i t s a m : Int} (hW : W.Ok) (h : Sm W w L B) (h0 : 0 ≤ B) (h1 : 0 ≤ i) (h2 : i ≤ w.cs.length) (hc : Cro W (t, s)) (hr : (ends W t s).1 = roomAt W w i.toNat) (ha : -4 ≤ a ∧ a ≤ 4) (hm : -3 ≤ m ∧ m ≤ 3) :
    Sm W ⟨w.room, w.ts.take i.toNat ++ [a - (ends W t s).2.2.1 * m, (ends W t s).2.2.2 * m, w.ts.getD i.toNat 0 - a] ++ w.ts.drop (i + 1).toNat, w.cs.take i.toNat ++ [(t, s), (t, -s)] ++ w.cs.drop i.toNat⟩ (L + 2) (B + 10000) := by
  have hl := h.inn.ok.len
  have e : putIn W w i t s a = some ⟨w.room, w.ts.take i.toNat ++ [a, 0, w.ts.getD i.toNat 0 - a] ++ w.ts.drop (i.toNat + 1), w.cs.take i.toNat ++ [(t, s), (t, -s)] ++ w.cs.drop i.toNat⟩ := by
    unfold putIn putN
    rw [if_pos hr]
  have q := put_in h.inn h1 h2 hc e
  obtain ⟨_, _, e1, e2⟩ := hW.ends hc
  have b1 := bd_mul e1 hm
  have b2 := bd_mul e2 hm
  have g := bd_get h.sm (i := i.toNat) (by omega)
  refine ⟨⟨⟨?_⟩, q.path⟩, ?_, fun x hx => ?_⟩
  · simp only [List.length_append, List.length_take, List.length_drop, List.length_cons, List.length_nil]
    omega
  · have hf := h.few
    simp only [List.length_append, List.length_take, List.length_drop, List.length_cons, List.length_nil]
    omega
  · have hx' : x ∈ w.ts.take i.toNat ++ [a - (ends W t s).2.2.1 * m, (ends W t s).2.2.2 * m, w.ts.getD i.toNat 0 - a] ++ w.ts.drop (i + 1).toNat := hx
    rcases List.mem_append.mp hx' with hx' | hx'
    · rcases List.mem_append.mp hx' with hx' | hx'
      · have := h.sm x (List.mem_of_mem_take hx')
        omega
      · simp only [List.mem_cons, List.not_mem_nil, or_false] at hx'
        omega
    · have := h.sm x (List.mem_of_mem_drop hx')
      omega
theorem put_i (ts : List Int) (n m : Nat) (a b c : Int) : List.take n (intsD ts) ++ [PyData.int a, .int b, .int c] ++ List.drop m (intsD ts) = intsD (ts.take n ++ [a, b, c] ++ ts.drop m) := by
  rw [ints_take, ints_drop, show [PyData.int a, .int b, .int c] = intsD [a, b, c] from rfl, ints_app, ints_app]
theorem put_c (cs : List Cr) (n m : Nat) (u v : Int) : List.take n (crsD cs) ++ [PyData.tuple [.int u, .int v], .tuple [.int u, .int (-v)]] ++ List.drop m (crsD cs) = crsD (cs.take n ++ [(u, v), (u, -v)] ++ cs.drop m) := by
  rw [crs_take, crs_drop, show [PyData.tuple [.int u, .int v], .tuple [.int u, .int (-v)]] = crsD [(u, v), (u, -v)] from rfl, crs_app, crs_app]
set_option pp.maxSteps 400 in
theorem b__law_spelled (g : En) (n : Nat) (W : Web) (w : Wk) (m : Int) (L : Nat) (B : Int) (hn : n + 100 ≤ LIM) (hW : W.Ok) (h1 : 0 ≤ m) (h2 : m ≤ 6) (hw : Sm W w L B) (hL : L ≤ 40) (hB : 0 ≤ B) :
    Sg g (t__law_spelled g.K (sp__law_draw g.K) (sp__law_ends g.K) (sp__law_out g.K) (sp__law_of g.K)) [.mr, .dat (webD W), .dat (wkD w), .dat (.int m), .no, .no, .no, .no, .no, .no, .no, .no, .no, .no, .no, .no, .no] n (fun _ _ => False)
    fun r n' => (∃ w : Wk, r = .d (wkD w) ∧ Sm W w (L + 12) (B + 60000)) ∧ n' ≤ n + 100 := by
  unfold t__law_spelled
  refine sg_seq (sg_forR ?_)
  wtm_at "m1"
  refine ⟨m.toNat, congrArg PyData.int (Int.toNat_of_nonneg h1).symm, by omega, fun i Γ' n' => n' ≤ n + 8 * i ∧ ∃ (w' : Wk) (b4 b5 b6 b7 b8 b9 b10 b11 b12 b13 b14 b15 b16 : Bnd), Sm W w' (L + 2 * i) (B + 10000 * i) ∧ Γ' = [.mr, .dat (webD W), .dat (wkD w'), .dat (.int m), b4, b5, b6, b7, b8, b9, b10, b11, b12, b13, b14, b15, b16], ⟨by omega, w, _, _, _, _, _, _, _, _, _, _, _, _, _, hw.up (by omega) (by omega), rfl⟩, ?_, ?_⟩
  · rintro i Γ' n' hi ⟨hn', w', b4, b5, b6, b7, b8, b9, b10, b11, b12, b13, b14, b15, b16, hw', rfl⟩
    have hi10 : i ≤ 5 := by omega
    have ho := hw'.inn.ok
    have hl := ho.len
    have hf := hw'.few
    have hsl := sts_len ho
    have hB' : 0 ≤ B + 10000 * i := by omega
    clear hi hw
    wtm_at "tg"
    refine sg_seq (sg_imp2 (Q := fun Γ' n2 => n' = n2 ∧ Γ' = [.mr, .dat (webD W), .dat (wkD w'), .dat (.int m), .dat (.int i), .own (intsD w'.ts), b6, b7, b8, b9, b10, b11, b12, b13, b14, b15, b16]) (sg_set ?_) ?_)
    · refine ev_cat ?_
      wtm_at "m1"
      refine ev_mapS stD (fun p => .int p.2) ?_
      wtm_at "m1"
      · rfl
      have e5 : [(Rt.d (PyData.int (w'.ts.getD 0 0))).pd] ++ List.map (fun p => PyData.int p.snd) w'.sts = intsD w'.ts := stD_snd w' ho
      rw [e5]
      exact ⟨nla_ints _, rfl, rfl⟩
    rintro _ _ ⟨rfl, rfl⟩
    refine sg_seq (sg_imp2 (Q := fun Γ' n2 => n' = n2 ∧ Γ' = [.mr, .dat (webD W), .dat (wkD w'), .dat (.int m), .dat (.int i), .own (intsD w'.ts), .own (crsD w'.cs), b7, b8, b9, b10, b11, b12, b13, b14, b15, b16]) (sg_set ?_) ?_)
    · refine ev_mapS stD (fun p => crD p.1) ?_
      wtm_at "m1"
      · rfl
      rw [stD_fst w' ho]
      exact ⟨nla_crs _, rfl, rfl⟩
    rintro _ _ ⟨rfl, rfl⟩
    refine sg_seq (sg_imp2 (Q := fun Γ' n2 => n2 ≤ n' + 8 ∧ ∃ (ts : List Int) (cs : List Cr) (b7 b8 b9 b10 b11 b12 b13 b14 : Bnd), Sm W ⟨w'.room, ts, cs⟩ (L + 2 * i + 2) (B + 10000 * i + 10000) ∧ Γ' = [.mr, .dat (webD W), .dat (wkD w'), .dat (.int m), .dat (.int i), .own (intsD ts), .own (crsD cs), b7, b8, b9, b10, b11, b12, b13, b14, b15, b16]) ?_ ?_)
    · refine sg_if (EvT.imp (QT := fun b n1 => n1 ≤ n' + 1 ∧ (b = true → w'.cs ≠ [])) ?_ ?_)
      · refine et_and (et_test (ev_neD ?_))
        by_cases hc0 : w'.cs = []
        · have hnil' : (!PyData.eqv (.list (crsD w'.cs)) (.list [])) = false := by rw [crs_nil, decide_eq_true hc0]; rfl
          wtm_at "m1"
          rename_i z1 z2
          cases z1
        · have hnil' : (!PyData.eqv (.list (crsD w'.cs)) (.list [])) = true := by rw [crs_nil, decide_eq_false hc0]; rfl
          wtm_at "m1"
          rename_i z1 z2
          exact hc0 z2
      rintro b n1 ⟨hn1, hb⟩
      cases b with
      | true =>
        rw [if_pos rfl]
        have hcl : 1 ≤ w'.cs.length := List.length_pos_iff.mpr (hb rfl)
        refine sg_seq (sg_imp2 (Q := fun Γ' n2 => n2 = n1 + 2 ∧ ∃ j t : Int, (1 ≤ j ∧ j ≤ w'.cs.length ∧ -3 ≤ t ∧ t ≤ 3) ∧ Γ' = [.mr, .dat (webD W), .dat (wkD w'), .dat (.int m), .dat (.int i), .own (intsD w'.ts), .own (crsD w'.cs), .dat (.int j), .dat (.int t), b9, b10, b11, b12, b13, b14, b15, b16]) ?_ ?_)
        · wtm_at "m1"
          rename_i x hx1 hx2 y hy1 hy2
          rw [crs_len] at hx2
          exact ⟨_, _, ⟨by omega, by omega, by omega, by omega⟩, rfl⟩
        rintro _ n2 ⟨hn2, j, t, ⟨hj1, hj2, ht1, ht2⟩, rfl⟩
        have hcg : Cro W ((w'.cs.getD (j - 1).toNat (0, 0)).1, (w'.cs.getD (j - 1).toNat (0, 0)).2) := cro_get hw'.inn (by omega)
        obtain ⟨_, _, he1, he2⟩ := hW.ends hcg
        wtm_at "mo"
        have hsc := sm_carry hW hw' hj1 hj2 ⟨ht1, ht2⟩
        unfold carry at hsc
        simp only at hsc
        rw [← show (j - 1).toNat = j.toNat - 1 by omega] at hsc
        exact ⟨_, _, _, _, _, _, _, _, _, _, hsc, rfl⟩
      | false =>
        rw [if_neg Bool.false_ne_true]
        refine sg_seq (sg_imp2 (Q := fun Γ' n2 => n2 = n1 + 2 ∧ ∃ j t : Int, (0 ≤ j ∧ j ≤ w'.cs.length ∧ -3 ≤ t ∧ t ≤ 3) ∧ Γ' = [.mr, .dat (webD W), .dat (wkD w'), .dat (.int m), .dat (.int i), .own (intsD w'.ts), .own (crsD w'.cs), .dat (.int j), .dat (.int t), b9, b10, b11, b12, b13, b14, b15, b16]) ?_ ?_)
        · wtm_at "m1"
          rename_i x hx1 hx2 y hy1 hy2
          rw [ints_len] at hx2
          exact ⟨_, _, ⟨by omega, by omega, by omega, by omega⟩, rfl⟩
        rintro _ n2 ⟨hn2, j, t, ⟨hj1, hj2, ht1, ht2⟩, rfl⟩
        refine sg_seq ?_
        wtm_at "m1"
        refine sg_seq (sg_imp2 (Q := fun Γ' n3 => n2 = n3 ∧ Γ' = [.mr, .dat (webD W), .dat (wkD w'), .dat (.int m), .dat (.int i), .own (intsD w'.ts), .own (crsD w'.cs), .dat (.int j), .dat (.int t), b9, .dat (.int (roomAt W w' j.toNat)), b11, b12, b13, b14, b15, b16]) ?_ ?_)
        · by_cases hj0 : 0 < j
          · have hcg : Cro W ((w'.cs.getD (j - 1).toNat (0, 0)).1, (w'.cs.getD (j - 1).toNat (0, 0)).2) := cro_get hw'.inn (by omega)
            wtm_at "m1"
            unfold roomAt
            rw [if_neg (by omega), show (j - 1).toNat = j.toNat - 1 by omega]
            rfl
          · wtm_at "m1"
            unfold roomAt
            rw [if_pos (by omega)]
        rintro _ _ ⟨rfl, rfl⟩
        wtm_at "m1"
        rename_i cs1 hl1 hm1 he1
        refine ite_c (fun h => ?_) fun h => ?_
        · have hne1 : cs1 ≠ [] := fun z => by
            rw [z] at h
            cases h
          refine sg_seq (sg_imp2 (Q := fun Γ' n3 => n3 = n2 + 1 ∧ ∃ u v : Int, (Cro W (u, v) ∧ (ends W u v).1 = roomAt W w' j.toNat) ∧ Γ' = [.mr, .dat (webD W), .dat (wkD w'), .dat (.int m), .dat (.int i), .own (intsD w'.ts), .own (crsD w'.cs), .dat (.int j), .dat (.int t), b9, .dat (.int (roomAt W w' j.toNat)), .dat (.int u), .dat (.int v), b13, b14, b15, b16]) ?_ ?_)
          · wtm_at "m1"
            rename_i cs2 hl2 hm2 he2
            have hne2 : crsD cs2 ≠ [] := fun z => by
              have z2 : cs2 = [] := List.map_eq_nil_iff.mp z
              obtain ⟨c, hc⟩ := List.exists_mem_of_ne_nil _ hne1
              have q := he2 c (hm1 c hc).1 (hm1 c hc).2
              rw [z2] at q
              cases q
            refine ⟨⟨hne2, by rw [crs_len]; omega⟩, fun d hd => ?_⟩
            obtain ⟨c, hc, rfl⟩ := mem_map hd
            obtain ⟨c1, c2⟩ := c
            obtain ⟨hq1, hq2⟩ := hm2 _ hc
            wtm_at "m1"
            exact ⟨c1, c2, ⟨hq1, hq2⟩, rfl⟩
          rintro _ n3 ⟨hn3, u, v, ⟨hcu, hru⟩, rfl⟩
          obtain ⟨_, _, he3, he4⟩ := hW.ends hcu
          refine sg_seq ?_
          wtm_at "m1"
          rename_i x hx1 hx2
          wtm_at "mo"
          refine ⟨_, _, .dat (.int j), .dat (.int t), .dat (tieD (ends W u v)), .dat (.int (roomAt W w' j.toNat)), .dat (.int u), .dat (.int v), .dat (.int (x - 4)), .own [PyData.int (x - 4 - (ends W u v).2.2.1 * t), .int ((ends W u v).2.2.2 * t), .int (w'.ts.getD j.toNat 0 - (x - 4))], sm_put hW hw' hB' hj1 hj2 hcu hru (a := x - 4) (by omega) ⟨ht1, ht2⟩, ?_⟩
          rw [put_i]
          exact congrArg (fun z => List.set _ 6 (Bnd.own z)) (put_c _ _ _ _ _)
        · wtm_at "m1"
          exact ⟨w'.ts, w'.cs, _, _, _, _, _, _, _, _, (hw'.up (by omega) (by omega) : Sm W w' _ _), rfl⟩
    rintro _ n2 ⟨hn2, ts, cs, b7, b8, b9, b10, b11, b12, b13, b14, hs2, rfl⟩
    have hl2 := hs2.inn.ok.len
    have hf2 := hs2.few
    simp only at hl2 hf2
    refine sg_imp2 (Q := fun Γ' n3 => n3 = n2 ∧ Γ' = [.mr, .dat (webD W), .dat (wkD ⟨w'.room, ts, cs⟩), .dat (.int m), .dat (.int i), .own (intsD ts), .own (crsD cs), b7, b8, b9, b10, b11, b12, b13, b14, b15, b16]) ?_ ?_
    · wtm_at "m1"
      refine ev_mapS (fun i : Nat => .int (i : Nat)) (fun i => stD (cs.getD i (0, 0), ts.getD (i + 1) 0)) ?_
      refine src_range ?_
      wtm_at "m1"
      rw [crs_len]
      refine ⟨nla_map fun _ => rfl, by rw [List.length_range]; omega, fun i hi => ?_, ?_⟩
      · have hi2 := List.mem_range.mp hi
        wtm_at "m1"
        rw [show ((i : Int) + 1).toNat = i + 1 by omega, Int.toNat_natCast]
        rfl
      wtm_at "m1"
      rw [range_steps cs ts hl2]
      exact ⟨(dk_wk ⟨w'.room, ts, cs⟩).nl, rfl, rfl⟩
    rintro _ _ ⟨rfl, rfl⟩
    exact ⟨by omega, ⟨w'.room, ts, cs⟩, _, _, _, _, _, _, _, _, _, _, _, _, _, hs2.up (by omega) (by omega), rfl⟩
  · rintro _ n' ⟨hn', w', b4, b5, b6, b7, b8, b9, b10, b11, b12, b13, b14, b15, b16, hw', rfl⟩
    wtm_at "m1"
    exact ⟨⟨w', rfl, hw'.up (by omega) (by omega)⟩, by omega⟩
def w00 (v : Int) : Wk := ⟨v, [0, 0], [(0, 1)]⟩
theorem w00_in {W : Web} (h : 1 ≤ W.ties.length) : (w00 (W.ties.getD 0 (0, 0, 0, 0)).1).In W :=
  ⟨⟨rfl⟩, (ends W 0 1).2.1, ⟨by show (0 : Int) ≤ 0; omega, by show (0 : Int) < W.ties.length; omega, .inl rfl⟩, rfl, rfl⟩
theorem w00_fits (v : Int) : (w00 v).fits = true := by
  refine fits_iff.mpr ⟨by show 1 ≤ 60; decide, fun i hi => ?_⟩
  have e : i = 0 := by simpa [w00] using hi
  rw [e]
  exact inB_small (by decide) (by decide)
theorem carry00 (W : Web) (v : Int) : mv W (w00 v) (mvD (.carry 1 0)) = some (w00 v) := by
  rw [mv_mvD]
  have e : mvOnceM W (w00 v) (.carry 1 0) = some (w00 v) := by
    simp only [mvOnceM]
    rw [if_pos ⟨by decide, by show (1 : Int) ≤ 1; decide⟩]
    unfold carry w00
    simp
  rw [e, okW_of, if_pos (w00_fits v)]
theorem led00 (W : Web) (v : Int) : ∀ n : Nat, led W (w00 v) (mvs (List.replicate n (.carry 1 0))) = some (w00 v)
  | 0 => rfl
  | n + 1 => by
    rw [List.replicate_succ]
    show (mv W (w00 v) (mvD (.carry 1 0))).bind (fun x => led W x (mvs (List.replicate n (.carry 1 0)))) = _
    rw [carry00]
    exact led00 W v n
theorem many00 (n : Nat) : (List.replicate n [mvD (.carry 1 0)]).flatten = mvs (List.replicate n (.carry 1 0)) := by
  unfold mvs
  rw [List.map_replicate]
  simp
theorem right00 (W : Web) (v : Int) (n : Nat) : rightM W (w00 v) (w00 v) (.tuple [.str "equal", .tuple (mvs (List.replicate n (.carry 1 0)))]) = decide (n ≤ 2000) := by
  have hled : ledD W (w00 v) (.tuple (mvs (List.replicate n (.carry 1 0)))) = if n ≤ 2000 then some (w00 v) else none := by
    simp only [ledD]
    rw [mvs_len, List.length_replicate, led00]
  simp only [rightM]
  rw [hled, eqv_str, decide_eq_true rfl, Bool.true_and]
  by_cases h : n ≤ 2000
  · simp [h]
  · simp [h]
theorem dk00 (n : Nat) : Dk 10 (.tuple [.str "equal", .tuple (mvs (List.replicate n (.carry 1 0)))]) ∧ FewP (.tuple [.str "equal", .tuple (mvs (List.replicate n (.carry 1 0)))]) := by
  refine ⟨.tup (all_cons (.str _) (all_cons ((dk_mvs _).up (by decide)) all_nil)), fun ds e => ?_⟩
  cases e
  exact all_cons (fun ds e => by cases e) (all_cons (fewM_mvs _) all_nil)
set_option pp.maxSteps 400 in
theorem b__law_many_right (g : En) (W : Web) (hW : W.Ok) : Sg g (t__law_many_right g.K (sp_is_equality_paper g.K)) [.dat (webD W), .no, .no, .no, .no] 0 (fun _ _ => False) fun r _ => r = .d (.bool true) := by
  have hsh1 : SeqAt.shaped (.tuple (W.ties.map tieD)) = true := (dk_map (l := W.ties) dk_tie).shp (by decide)
  have hnil : PyData.eqv (.tuple (W.ties.map tieD)) (.tuple []) = decide (W.ties = []) := by
    cases W.ties <;> simp [PyData.eqv, PyData.eqvAll]
  unfold t__law_many_right
  refine sg_seq ?_
  by_cases h0 : W.ties = []
  · have hnil' := hnil.trans (decide_eq_true h0)
    wtm_at "go"
  · have hnil' := hnil.trans (decide_eq_false h0)
    have hl : 1 ≤ W.ties.length := List.length_pos_iff.mpr h0
    have hin := w00_in hl
    have hft := w00_fits (W.ties.getD 0 (0, 0, 0, 0)).1
    wtm_at "g1"
    refine sg_seq ?_
    wtm_at "g1"
    change Sg g _ [.dat (webD W), .dat (wkD (w00 (W.ties.getD 0 (0, 0, 0, 0)).1)), .dat (.tuple [mvD (.carry 1 0)]), .no, .no] _ _ _
    refine sg_seq (sg_set ?_)
    refine ev_mapS PyData.int (fun m => .bool (decide (m ≤ 2000))) ?_
    refine src_list ?_
    wtm_at "g1"
    refine ⟨[2000, 2001], rfl, rfl, by decide, fun m hm => ?_, rfl, ?_⟩
    · have hm2 : 2 ≤ m ∧ m ≤ 4000 := by
        simp only [List.mem_cons, List.not_mem_nil, or_false] at hm
        omega
      wtm_at "tg"
      refine cl_is_equality_paper ?_
      wtm_at "g1"
      refine ev_many ?_
      wtm_at "g1"
      have hv : ∀ m : Int, 2 ≤ m → PyData.tuple [.str "equal", .tuple (List.replicate m.toNat [mvD (Mv.carry 1 0)]).flatten] = .tuple [.str "equal", .tuple (mvs (List.replicate m.toNat (.carry 1 0)))] := fun m _ => by rw [many00]
      have hdk := dk00 m.toNat
      rw [← hv m hm2.1] at hdk
      refine ⟨⟨hW, hin, hft, hin, hft, hdk.1, hdk.2⟩, rfl, rfl, ?_⟩
      show PyData.bool (rightM W _ _ (.tuple [.str "equal", .tuple (List.replicate m.toNat [mvD (Mv.carry 1 0)]).flatten])) = _
      rw [hv m hm2.1, right00]
      congr 2
      apply propext
      omega
    · wtm_at "go"
      rfl
theorem b__led (g : En) (C : Addr) (W : Web) (w : Wk) (d : PD) (te : PySem.W.exmOne g.K (.ref C) (.ref C) = some true) (hW : W.Ok) (h : w.In W) (hf : w.fits = true) (hd : Dk 9 d) (hm : FewM d) : Sg g (t__led g.K (sp_moved_walk g.K C) C) [.dat (webD W), .dat (wkD w), .dat d] 0 (fun _ _ => False) fun r _ => r = .d (optD (ledD W w d)) := by
  unfold t__led
  cases d with
  | tuple ds =>
    have hnl := hd.nl
    by_cases hl : ds.length ≤ 2000
    · refine sg_seq (sg_imp2 (Q := fun Γ' n2 => n2 = 0 ∧ Γ' = [.dat (webD W), .dat (wkD w), .dat (.tuple ds)]) (by wtm_at "g1") ?_)
      rintro _ _ ⟨rfl, rfl⟩
      refine sg_tryRet te ?_
      wtm_at "g1"
      refine ⟨(W, w, ds), rfl, ⟨hW, h, hf, hd, hm ds rfl⟩, fun r ⟨x, hx, hr⟩ => ?_, fun ⟨x, hx, _⟩ => ?_⟩
      · rw [hr]
        simp only [ledD]
        rw [if_pos hl, hx]
        rfl
      · have hx : led W w ds = none := hx
        wtm_at "g1"
        simp only [ledD]
        rw [if_pos hl, hx]
        rfl
    · wtm_at "go"
      simp only [ledD]
      rw [if_neg hl]
      rfl
  | _ =>
    wtm_at "go"
    rfl
theorem b__law_told (g : En) (C : Addr) (W : Web) (a b : Wk) (te : PySem.W.exmOne g.K (.ref C) (.ref C) = some true) (hW : W.Ok) (ha : a.In W) (hfa : a.fits = true) (hb : b.In W) (hfb : b.fits = true) (hep : ∀ d, ep W a b = some d → nl d = true) :
    Sg g (t__law_told g.K (sp_equality_paper g.K C) C) [.dat (webD W), .dat (wkD a), .dat (wkD b), .no, .no] 0 (fun _ _ => False) fun r _ => r = .d (toldD (ep W a b)) := by
  unfold t__law_told
  refine sg_seq (sg_imp2 (Q := fun Γ' n2 => n2 = 0 ∧ Γ' = [.dat (webD W), .dat (wkD a), .dat (wkD b), .dat (toldD (ep W a b)), .no]) ?_ ?_)
  · refine sg_tryAs (by show 4 < 5; decide) te ?_
    wtm_at "g1"
    refine ⟨(W, a, b), rfl, ⟨hW, ha, hfa, hb, hfb⟩, fun r ⟨d, hd, hr⟩ => ?_, fun x ⟨hx, hr⟩ => ?_⟩
    · rw [hr]
      exact ⟨hep d hd, rfl, by rw [show ep W a b = some d from hd]; rfl⟩
    · rw [hr]
      exact ⟨rfl, rfl, by rw [show ep W a b = none from hx]; rfl⟩
  rintro _ _ ⟨rfl, rfl⟩
  wtm_at "g1"
theorem cdivw {a b : Int} (h1 : 0 < b) (h2 : b ≤ 10000000000000) : CDivW a b := by
  refine ⟨h1, ?_⟩
  have h : b.natAbs.log2 < 44 := (Nat.log2_lt (by omega)).mpr (by omega)
  omega
set_option pp.maxSteps 400 in
theorem b__law_draw (g : En) (n : Nat) (b : Int) (hn : n + 1 ≤ LIM) (h1 : 1 ≤ b) (h2 : b ≤ 10000000000000) : Sg g (t__law_draw g.K) [.mr, .dat (.int b), .no, .no, .no, .no, .no, .no] n (fun _ _ => False)
    fun r n' => (∃ x : Int, r = .d (.int x) ∧ 0 ≤ x ∧ x < b) ∧ n' ≤ n + 1 := by
  have hb0 : 0 < b := by omega
  have hnL : n ≤ 1000000 := by unfold LIM at hn; omega
  unfold t__law_draw
  refine sg_seq (sg_imp2 (Q := fun Γ' n2 => n = n2 ∧ Γ' = [.mr, .dat (.int b), .no, .no, .no, .no, .no, .no]) (sg_if ?_) ?_)
  · wtm_at "m1"
    rename_i l hl
    refine ite_c (fun h => ?_) fun h => ?_
    · wtm_at "mo"
      rename_i x hx y hy
      refine ⟨cdivw hb0 h2, _, rfl, Int.ediv_nonneg hy (by omega), ?_⟩
      wtm_at "mo"
      exact ⟨⟨_, rfl, Int.emod_nonneg _ (by omega), Int.emod_lt_of_pos _ hb0⟩, by omega⟩
    · wtm_at "m1"
  rintro _ n2 ⟨e, rfl⟩
  subst e
  refine sg_seq ?_
  wtm_at "m1"
  rename_i p hp1 hp2
  refine sg_seq ?_
  wtm_at "m1"
  refine sg_seq (sg_cells rfl ?_)
  wtm_at "m1"
  rename_i sd ns hne hnl
  generalize sd + 40503 * p * p = ad
  have hl1 : 1 ≤ ns.length := List.length_pos_iff.mpr hne
  have hl2 : (0 : Int) < (intsD ns).length := by
    rw [ints_len]
    omega
  have hi1 : 0 ≤ p % ((intsD ns).length : Int) := Int.emod_nonneg _ (by omega)
  have hi2 : p % ((intsD ns).length : Int) < ns.length := by
    have := Int.emod_lt_of_pos p hl2
    rw [ints_len] at this ⊢
    exact this
  refine sg_seq ?_
  wtm_at "m1"
  generalize ns.getD (p % ((intsD ns).length : Int)).toNat 0 = ce
  refine sg_seq (sg_imp2 (Q := fun Γ' n2 => n + 1 = n2 ∧ ∃ bl : Int, (0 ≤ bl ∧ bl < 2147483647) ∧ Γ' = [.mr, .dat (.int b), .no, .dat (.int p), .dat (.list (intsD ns)), .dat (.int ad), .dat (.int ce), .dat (.int bl)]) ?_ ?_)
  · wtm_at "m1"
    exact ⟨_, ⟨Int.emod_nonneg _ (by decide), Int.emod_lt_of_pos _ (by decide)⟩, rfl⟩
  rintro _ n2 ⟨e, bl, ⟨hbl1, hbl2⟩, rfl⟩
  subst e
  refine sg_seq (sg_imp2 (Q := fun Γ' n2 => n + 1 = n2 ∧ ∃ bl : Int, (0 ≤ bl ∧ bl < 2147483647) ∧ Γ' = [.mr, .dat (.int b), .no, .dat (.int p), .dat (.list (intsD ns)), .dat (.int ad), .dat (.int ce), .dat (.int bl)]) ?_ ?_)
  · wtm_at "m1"
    refine ⟨_, ⟨Int.emod_nonneg _ (by decide), Int.lt_trans (Int.emod_lt_of_pos _ (by decide)) (by decide)⟩, rfl⟩
  rintro _ n2 ⟨e, bl, ⟨hbl1, hbl2⟩, rfl⟩
  subst e
  wtm_at "m1"
  refine ⟨cdivw (by decide) (by decide), ?_⟩
  wtm_at "m1"
  exact ⟨⟨_, rfl, Int.emod_nonneg _ (by omega), Int.emod_lt_of_pos _ hb0⟩, by omega⟩
def sp_law (K : PySem.W.Frag) : Sp := fun vs H Q _ => ∃ (p : Addr) (ns : List Int), vs = [.ref p] ∧ SqL K H p (ns.map V.int) ∧ ns.length ≤ 100 ∧ ∀ J, Q (.bl true) J
theorem for_rng {k j : Nat} {ts : TS} {D : Ends} {σ : L2.St} {H : Hp} (hk : k ≤ 1000000) (W : Nat → L2.St → Hp → Prop) (h0 : W 0 σ H) (hs : ∀ i τ L, i < k → W i τ L → ∀ D' : Ends, D'.nx = W (i + 1) → D'.rt = D.rt → ts D' (τ.set j (some (.int i))) L)
    (hd : ∀ τ L, W k τ L → D.nx τ L) : tFor (iRng1 (tCons (tC (.int k)) tNil)) (gName j) ts D σ H := by
  refine ⟨(k : Int), rfl, by omega, by omega, ?_⟩
  rw [Int.toNat_natCast]
  refine ⟨fun i m τ L => m = k - i ∧ i ≤ k ∧ W i τ L, ⟨k, by simp, Nat.zero_le _, h0⟩, ?_⟩
  rintro i m τ L ⟨rfl, hi, hw⟩
  by_cases hlt : i < k
  · refine .inr ⟨hlt, W (i + 1), fun τ' L' q => ⟨k - (i + 1), by omega, rfl, hlt, q⟩, fun x L' hy => ?_⟩
    obtain ⟨rfl, rfl⟩ := hy
    rw [Int.zero_add]
    exact hs i τ _ hlt hw _ rfl rfl
  · have e : i = k := by omega
    subst e
    exact .inl ⟨Nat.le_refl _, hd _ _ hw⟩
theorem at_fresh {K : PySem.W.Frag} {m : Option Addr} {c : Addr} {n : Nat} {L : Hp} {τ : L2.St} {Γ : List Bnd} (hl : τ.length = Γ.length)
    (hs : ∀ (j : Nat) (b : Bnd), Γ[j]? = some b → b = .no ∨ (∃ x v, b = .dat x ∧ τ[j]? = some (some v) ∧ Dp K L v x) ∨ (b = .mr ∧ ∃ a, m = some a ∧ τ[j]? = some (some (.ref a))))
    (st : StM m c n L) (ce : ∀ a, m = some a → CellsOk K L c) (md : ∀ a, m = some a → ∃ k, L a = some (.dK k)) : At ⟨K, m, c, L, []⟩ Γ n τ L := by
  refine ⟨hl, Ex.refl L, fun j b e => ?_, fun i j as bs p hij e1 => ?_, st, ce, fun p hp => absurd hp (List.not_mem_nil), md⟩
  · rcases hs j b e with rfl | ⟨x, v, rfl, h1, h2⟩ | ⟨rfl, a, h1, h2⟩
    · have hj : j < τ.length := by
        rw [hl]
        rcases Nat.lt_or_ge j Γ.length with q | q
        · exact q
        · rw [List.getElem?_eq_none q] at e
          cases e
      exact ⟨_, List.getElem?_eq_getElem hj, trivial⟩
    · exact ⟨_, h1, v, rfl, h2, .inr h2⟩
    · exact ⟨_, h2, a, h1, rfl⟩
  · rcases hs i _ e1 with z | ⟨x, v, z, _⟩ | ⟨z, _⟩ <;> cases z
theorem not_same (b : Bool) : (!decide (b = b)) = false := by simp
theorem sg_run {g : En} {Γ : List Bnd} {n : Nat} {N : List Bnd → Nat → Prop} {Rr : Rt → Nat → Prop} {ts : TS} {D : Ends} {σ : L2.St} {H : Hp} (h : Sg g ts Γ n N Rr) (A : At g Γ n σ H) (k : ∀ Γ' n' σ' J, N Γ' n' → At g Γ' n' σ' J → D.nx σ' J)
    (r : ∀ r n' v J, Rr r n' → RtOk g.K g.H0 J v r → D.rt v J) : ts D σ H := h _ σ H A k fun r' n' v J q _ _ q2 => r r' n' v J q q2
set_option pp.maxSteps 600 in
theorem b_law {K : PySem.W.Frag} {vs : List V} {H : Hp} {Q : VK} {E : XK} (h : sp_law K vs H Q E) :
    t_law K (sp__law_begun K) (sp__law_great_web K) (sp__law_many_right K) (sp__law_pair K) (sp__law_told K) (sp__law_led K) (sp__law_due_moves K) (sp__law_plain K) (sp__law_right K) (sp__law_bent K) (sp__law_flag K) (sp_is_equality_paper K) { nx := fun _ J => Q .non J, rt := Q } (L2.start n_law vs) H := by
  obtain ⟨p, ns, rfl, hs, hl, hq⟩ := h
  unfold t_law
  show tFor _ _ _ _ _ _
  refine for_rng (k := 3) (by decide) (fun i τ L => τ.length = 13 ∧ ∃ v, τ[0]? = some (some v) ∧ Dp K L v (.list (intsD ns))) ⟨rfl, .ref p, rfl, .lst hs dpa_of_ints⟩ ?_ fun τ L _ => hq _
  rintro i τ L hi ⟨hlen, v, hv, hd⟩ D' hnx hrt
  obtain ⟨p', xs, rfl, hp', hx⟩ := dp_lst hd
  have ex := dpa_ints hx
  subst ex
  have h1 : (τ.set 1 (some (.int i)))[0]? = some (some (.ref p')) := by rw [List.getElem?_set_ne (by decide)]; exact hv
  have h2 : (τ.set 1 (some (.int i)))[1]? = some (some (V.int i)) := List.getElem?_set_self (by rw [hlen]; decide)
  refine ⟨_, h1, _, h2, p', ns, i, rfl, hp', hl, by omega, by omega, fun a c l s J x hn ha h0 hc => ?_⟩
  show tSeq (tAsg (tCall (sp__law_great_web K) [] E0 (tCons (tVar 2) tNil)) (gName 3)) _ D' ((τ.set 1 (some (.int i))).set 2 (some (.ref a))) J
  have hd2 : Dp K J (.ref p') (.list (intsD ns)) := dp_mono x hd
  have A := at_fresh (K := K) (m := some a) (c := c) (n := 0) (L := J) (τ := (τ.set 1 (some (.int i))).set 2 (some (.ref a))) (Γ := [.dat (.list (intsD ns)), .dat (.int i), .mr, .no, .no, .no, .no, .no, .no, .no, .no, .no, .no])
    (by rw [List.length_set, List.length_set, hlen]; rfl) (fun j b e => ?_) (fun b e => by cases e; exact ⟨l, s, 0, ha, h0, by decide, by decide⟩) (fun b e => hc) (fun b e => by cases e; exact ⟨_, ha⟩)
  rotate_left
  · match j, e with
    | 0, e =>
      cases e
      exact .inr (.inl ⟨_, _, rfl, by rw [List.getElem?_set_ne (by decide)]; exact h1, hd2⟩)
    | 1, e =>
      cases e
      exact .inr (.inl ⟨_, _, rfl, by rw [List.getElem?_set_ne (by decide)]; exact h2, .int _⟩)
    | 2, e =>
      cases e
      exact .inr (.inr ⟨rfl, a, rfl, List.getElem?_set_self (by rw [List.length_set, hlen]; decide)⟩)
    | 3, e | 4, e | 5, e | 6, e | 7, e | 8, e | 9, e | 10, e | 11, e | 12, e =>
      cases e
      exact .inl rfl
    | j + 13, e => cases e
  generalize (τ.set 1 (some (.int i))).set 2 (some (.ref a)) = σ at A
  generalize hg : (⟨K, some a, c, J, []⟩ : En) = g at A
  have eK : g.K = K := by rw [← hg]
  clear hg hd hd2 hp' hx hs hc ha h0 hn x
  subst eK
  refine sg_run (N := fun Γ' n' => Γ'.length = 13 ∧ Γ'[0]? = some (.dat (.list (intsD ns)))) (Rr := fun r _ => r = .d (.bool true)) ?_ A (fun Γ' n' σ' J' ⟨q1, q2⟩ B => ?_) (fun r n' v J' e q => ?_)
  rotate_left
  · rw [hnx]
    obtain ⟨v, h3, h4⟩ := B.dat q2
    exact ⟨B.len.trans q1, v, h3, h4⟩
  · subst e
    rw [hrt]
    cases q
    exact hq _
  -- the rest of a turn
  clear A hnx hrt hv h1 h2 hlen hq
  refine sg_seq (sg_set (cl__law_great_web rfl (by decide) fun W hW hr1 hr2 => ?_))
  refine ⟨(dk_web W).nl, ?_⟩
  refine sg_seq (sg_imp2 (Q := fun Γ' n' => n' = 110 ∧ Γ' = [.dat (.list (intsD ns)), .dat (.int i), .mr, .dat (webD W), .no, .no, .no, .no, .no, .no, .no, .no, .no]) ?_ ?_)
  · by_cases hi0 : (i : Int) = 0
    · wtm_at "m1"
    · wtm_at "m1"
  rintro _ _ ⟨rfl, rfl⟩
  refine sg_forR (ev_int ⟨2, rfl, by decide, fun j Γ' n' => n' ≤ 110 + 1200 * j ∧ ∃ b4 b5 b6 b7 b8 b9 b10 b11 b12, Γ' = [.dat (.list (intsD ns)), .dat (.int i), .mr, .dat (webD W), b4, b5, b6, b7, b8, b9, b10, b11, b12], ⟨by omega, _, _, _, _, _, _, _, _, _, rfl⟩, ?_, ?_⟩)
  rotate_left
  · rintro _ n' ⟨_, b4, b5, b6, b7, b8, b9, b10, b11, b12, rfl⟩
    exact ⟨rfl, rfl⟩
  rintro j _ n' hj ⟨hn, b4, b5, b6, b7, b8, b9, b10, b11, b12, rfl⟩
  wtm_at "tg"
  refine sg_seq ?_
  wtm_at "m1"
  rename_i one two h1 hf1 h2 hf2
  have hc1 := fits_cs hf1
  have hc2 := fits_cs hf2
  have hd1 : Dk 9 (.tuple (mvs (due W one))) := (dk_mvs _).up (by decide)
  have hd2 : Dk 9 (.tuple (mvs (due W two))) := (dk_mvs _).up (by decide)
  have hm1 : FewM (.tuple (mvs (due W one))) := fewM_mvs _
  have hm2 : FewM (.tuple (mvs (due W two))) := fewM_mvs _
  have htn := told_nl hW h1 hf1 h2 hf2
  have htc := told_cases hW h1 hf1 h2 hf2
  generalize hn1 : n' + 1000 = n1
  have hnL : n1 ≤ 3000 := by omega
  refine sg_seq ?_
  wtm_at "m1"
  refine sg_seq ?_
  wtm_at "m1"
  refine sg_seq ?_
  wtm_at "m1"
  generalize toldD (ep W one two) = told at htn htc
  generalize ledD W one (.tuple (mvs (due W one))) = o1 at htc
  generalize ledD W two (.tuple (mvs (due W two))) = o2 at htc
  rcases htc with ⟨rfl, hnone⟩ | ⟨d, x, y, rfl, hP, rfl, rfl⟩
  · have e0 : PyData.eqv (.str "turns") (.str "turns") = true := by rw [eqv_str]; exact decide_eq_true rfl
    cases o1 with
    | none =>
      wtm_at "mo"
      exact ⟨_, _, _, _, _, _, _, _, _, rfl⟩
    | some x =>
      have e2 : o2 = none := hnone.resolve_left (by intro z; cases z)
      subst e2
      wtm_at "mo"
      exact ⟨_, _, _, _, _, _, _, _, _, rfl⟩
  · obtain ⟨ds, hdw, hnld⟩ := hP.word
    have hshw : SeqAt.shaped (.str (if plainM W one = plainM W two then "equal" else "unlike")) = true := by split <;> decide +kernel
    generalize hwd : (if plainM W one = plainM W two then ("equal" : Str) else "unlike") = w at hdw hshw
    subst hdw
    obtain ⟨hr, hpap, hdk, hfew, -⟩ := hP
    have hsh : SeqAt.shaped (.tuple (.str w :: ds)) = true := hdk.shp (by decide)
    have hne : PyData.eqv (.tuple (.str w :: ds)) (.str "turns") = false := by simp [PyData.eqv]
    have hww : PyData.eqv (.str w) (.str w) = true := by rw [eqv_str]; exact decide_eq_true rfl
    refine sg_seq (sg_imp2 (Q := fun Γ' n2 => n1 = n2 ∧ Γ' = [.dat (.list (intsD ns)), .dat (.int i), .mr, .dat (webD W), .dat (.int j), .dat (wkD one), .dat (wkD two), .dat (.tuple (.str w :: ds)), .dat (optD (some x)), .dat (optD (some y)), b10, b11, b12]) (by wtm_at "m1") ?_)
    rintro _ n2 ⟨e, rfl⟩
    subst e
    refine sg_if ?_
    wtm_at "m1"
    refine sg_seq (sg_imp2 (Q := fun Γ' n2 => n1 = n2 ∧ Γ' = [.dat (.list (intsD ns)), .dat (.int i), .mr, .dat (webD W), .dat (.int j), .dat (wkD one), .dat (wkD two), .dat (.tuple (.str w :: ds)), .dat (optD (some x)), .dat (optD (some y)), .dat (.str w), b11, b12]) ?_ ?_)
    · have hq := eqv_wk (plainM_ok W one) (plainM_ok W two)
      by_cases hp : plainM W one = plainM W two
      · have hq' : PyData.eqv (wkD (plainM W one)) (wkD (plainM W two)) = true := hq.trans (decide_eq_true hp)
        rw [if_pos hp] at hwd
        subst hwd
        wtm_at "m1"
        rfl
      · have hq' : PyData.eqv (wkD (plainM W one)) (wkD (plainM W two)) = false := hq.trans (decide_eq_false hp)
        rw [if_neg hp] at hwd
        subst hwd
        wtm_at "m1"
        rfl
    rintro _ n2 ⟨e, rfl⟩
    subst e
    refine sg_seq (sg_imp2 (Q := fun Γ' n2 => n1 = n2 ∧ Γ' = [.dat (.list (intsD ns)), .dat (.int i), .mr, .dat (webD W), .dat (.int j), .dat (wkD one), .dat (wkD two), .dat (.tuple (.str w :: ds)), .dat (optD (some x)), .dat (optD (some y)), .dat (.str w), b11, b12]) ?_ ?_)
    · wtm_at "m1"
    rintro _ n2 ⟨e, rfl⟩
    subst e
    refine sg_seq (sg_imp2 (Q := fun Γ' n2 => n2 ≤ n1 + 50 ∧ ∃ b11 b12, Γ' = [.dat (.list (intsD ns)), .dat (.int i), .mr, .dat (webD W), .dat (.int j), .dat (wkD one), .dat (wkD two), .dat (.tuple (.str w :: ds)), .dat (optD (some x)), .dat (optD (some y)), .dat (.str w), b11, b12]) ?_ ?_)
    · refine sg_forR (ev_int ⟨5, rfl, by decide, fun k Γ' n' => n' ≤ n1 + 10 * k ∧ ∃ b11 b12, Γ' = [.dat (.list (intsD ns)), .dat (.int i), .mr, .dat (webD W), .dat (.int j), .dat (wkD one), .dat (wkD two), .dat (.tuple (.str w :: ds)), .dat (optD (some x)), .dat (optD (some y)), .dat (.str w), b11, b12], ⟨by omega, _, _, rfl⟩, ?_, fun _ _ z => z⟩)
      rintro k _ n2 hk ⟨hn3, b11, b12, rfl⟩
      have hnL2 : n2 ≤ 4000 := by omega
      wtm_at "tg"
      refine sg_seq (sg_imp2 (Q := fun Γ' n3 => n3 ≤ n2 + 10 ∧ ∃ d, (Dk 10 d ∧ FewP d) ∧ Γ' = [.dat (.list (intsD ns)), .dat (.int i), .mr, .dat (webD W), .dat (.int j), .dat (wkD one), .dat (wkD two), .dat (.tuple (.str w :: ds)), .dat (optD (some x)), .dat (optD (some y)), .dat (.str w), .dat (.int k), .dat d]) ?_ ?_)
      · have hnlt : nl (.tuple (.str w :: ds)) = true := hdk.nl
        by_cases hk0 : (k : Int) = 0
        · wtm_at "m1"
          exact ⟨_, ⟨hdk, hfew⟩, rfl⟩
        · wtm_at "m1"
          rename_i d hd hdf
          refine ⟨hd.nl, by omega, d, ⟨hd, hdf⟩, rfl⟩
      rintro _ n3 ⟨hn4, d, ⟨hd, hdf⟩, rfl⟩
      wtm_at "m1"
      exact ⟨_, _, rfl⟩
    rintro _ n2 ⟨hn5, b11, b12, rfl⟩
    wtm_at "m1"
    exact ⟨_, _, _, _, _, _, _, _, _, rfl⟩
theorem mem_defs (i : Nat) {p : Str × Nat} (h : defsK[i]? = some p) : p ∈ defsK := List.mem_of_getElem? h
structure Txt (P : Program) (w : World) (K : PySem.W.Frag) (mg : Str → Option Value) (base : Heap) (C1 C2 : Addr) : Prop where
  hz : Fre mg
  here : ∀ p ∈ defsK, Here K mg p.1 (topS p.2)
  x1 : Xc P w K mg base "NoMove" "number" C1
  x2 : Xc P w K mg base "TooGreat" "what" C2
  f2 : XfC K C2
section
variable {P : Program} {w : World} {K : PySem.W.Frag} {mg : Str → Option Value} {base : Heap} {C1 C2 : Addr}
theorem ok_is_whole (T : Txt P w K mg base C1 C2) : Cl P w K mg base CX0 1 "is_whole" p_is_whole (sp_is_whole K) := by
  obtain ⟨f, fd, F, hm⟩ := (T.here ("is_whole", 5) (mem_defs 0 rfl)).ex
  exact ⟨f, fd, F.ok sc_is_whole (len_P fun _ => rfl) (fun cdv A outer s H vs Q E hr h => ⟨_, (der_is_whole T.hz  hr).nox, run_P h fun d H h => ⟨Nat.le_of_ble_eq_true rfl, b_is_whole _ d⟩⟩), hm, F.kp, F.bindsN fun _ _ _ _ _ _ us hl => match us, hl with | [_], _ => rfl⟩
theorem ok_ends_of (T : Txt P w K mg base C1 C2) : Cl P w K mg base CX0 1 "ends_of" p_ends_of (sp_ends_of K) := by
  obtain ⟨f, fd, F, hm⟩ := (T.here ("ends_of", 6) (mem_defs 1 rfl)).ex
  exact ⟨f, fd, F.ok sc_ends_of (len_P fun _ => rfl) (fun cdv A outer s H vs Q E hr h => ⟨_, (der_ends_of T.hz  hr).nox, run_P h fun ⟨W, t, s⟩ H h => ⟨Nat.le_of_ble_eq_true rfl, match h with | h => b_ends_of _ W t s h⟩⟩), hm, F.kp, F.bindsN fun _ _ _ _ _ _ us hl => match us, hl with | [_, _, _], _ => rfl⟩
theorem ok_is_turns (T : Txt P w K mg base C1 C2) : Cl P w K mg base CX0 2 "is_turns" p_is_turns (sp_is_turns K) := by
  obtain ⟨f, fd, F, hm⟩ := (T.here ("is_turns", 11) (mem_defs 2 rfl)).ex
  exact ⟨f, fd, F.ok sc_is_turns (len_P fun _ => rfl) (fun cdv A outer s H vs Q E hr h => ⟨_, (der_is_turns T.hz (ok_is_whole T) hr).nox, run_P h fun i H h => ⟨Nat.le_of_ble_eq_true rfl, b_is_turns _ i⟩⟩), hm, F.kp, F.bindsN fun _ _ _ _ _ _ us hl => match us, hl with | [_], _ => rfl⟩
theorem ok_split_walk (T : Txt P w K mg base C1 C2) : Cl P w K mg base CX0 1 "split_walk" p_split_walk (sp_split_walk K) := by
  obtain ⟨f, fd, F, hm⟩ := (T.here ("split_walk", 12) (mem_defs 3 rfl)).ex
  exact ⟨f, fd, F.ok sc_split_walk (len_P fun _ => rfl) (fun cdv A outer s H vs Q E hr h => ⟨_, (der_split_walk T.hz  hr).nox, run_P h fun w H h => ⟨Nat.le_of_ble_eq_true rfl, match h with | ⟨h, h2⟩ => b_split_walk _ w h h2⟩⟩), hm, F.kp, F.bindsN fun _ _ _ _ _ _ us hl => match us, hl with | [_], _ => rfl⟩
theorem ok_glued_walk (T : Txt P w K mg base C1 C2) : Cl P w K mg base CX0 1 "glued_walk" p_glued_walk (sp_glued_walk K) := by
  obtain ⟨f, fd, F, hm⟩ := (T.here ("glued_walk", 13) (mem_defs 4 rfl)).ex
  exact ⟨f, fd, F.ok sc_glued_walk (len_P fun _ => rfl) (fun cdv A outer s H vs Q E hr h => ⟨_, (der_glued_walk T.hz  hr).nox, run_P h fun ⟨r, ts, cs⟩ H h => ⟨Nat.le_of_ble_eq_true rfl, match h with | ⟨h, h2⟩ => b_glued_walk _ r ts cs h h2⟩⟩), hm, F.kp, F.bindsN fun _ _ _ _ _ _ us hl => match us, hl with | [_, _, _], _ => rfl⟩
theorem ok__carried (T : Txt P w K mg base C1 C2) : Cl P w K mg base CX0 2 "_carried" p__carried (sp__carried K) := by
  obtain ⟨f, fd, F, hm⟩ := (T.here ("_carried", 14) (mem_defs 5 rfl)).ex
  exact ⟨f, fd, F.ok sc__carried (len_P fun _ => rfl) (fun cdv A outer s H vs Q E hr h => ⟨_, (der__carried T.hz (ok_split_walk T) (ok_ends_of T) (ok_glued_walk T) hr).nox, run_P h fun ⟨W, w, i, m⟩ H h => ⟨Nat.le_of_ble_eq_true rfl, match h with | ⟨a, b, c, d, e⟩ => b__carried _ W w i m a b c d e⟩⟩), hm, F.kp, F.bindsN fun _ _ _ _ _ _ us hl => match us, hl with | [_, _, _, _], _ => rfl⟩
theorem ok__struck (T : Txt P w K mg base C1 C2) : Cl P w K mg base CX0 2 "_struck" p__struck (sp__struck K) := by
  obtain ⟨f, fd, F, hm⟩ := (T.here ("_struck", 15) (mem_defs 6 rfl)).ex
  exact ⟨f, fd, F.ok sc__struck (len_P fun _ => rfl) (fun cdv A outer s H vs Q E hr h => ⟨_, (der__struck T.hz (ok_split_walk T) (ok_glued_walk T) hr).nox, run_P h fun ⟨w, i⟩ H h => ⟨Nat.le_of_ble_eq_true rfl, match h with | ⟨a, b, c, d⟩ => b__struck _ w i a b c d⟩⟩), hm, F.kp, F.bindsN fun _ _ _ _ _ _ us hl => match us, hl with | [_, _], _ => rfl⟩
theorem ok__put_in (T : Txt P w K mg base C1 C2) : Cl P w K mg base CX0 2 "_put_in" p__put_in (sp__put_in K) := by
  obtain ⟨f, fd, F, hm⟩ := (T.here ("_put_in", 16) (mem_defs 7 rfl)).ex
  exact ⟨f, fd, F.ok sc__put_in (len_P fun _ => rfl) (fun cdv A outer s H vs Q E hr h => ⟨_, (der__put_in T.hz (ok_split_walk T) (ok_ends_of T) (ok_glued_walk T) hr).nox, run_P h fun ⟨W, w, i, t, s, x⟩ H h => ⟨Nat.le_of_ble_eq_true rfl, match h with | ⟨a, b, c, d, e⟩ => b__put_in _ W w i t s x a b c d e⟩⟩), hm, F.kp, F.bindsN fun _ _ _ _ _ _ us hl => match us, hl with | [_, _, _, _, _], _ => rfl⟩
theorem ok__moved_once (T : Txt P w K mg base C1 C2) : Cl P w K mg base CX0 3 "_moved_once" p__moved_once (sp__moved_once K) := by
  obtain ⟨f, fd, F, hm⟩ := (T.here ("_moved_once", 17) (mem_defs 8 rfl)).ex
  exact ⟨f, fd, F.ok sc__moved_once (len_P fun _ => rfl) (fun cdv A outer s H vs Q E hr h => ⟨_, (der__moved_once T.hz (ok_is_whole T) (ok__carried T) (ok__struck T) (ok__put_in T) hr).nox, run_P h fun ⟨W, w, d⟩ H h => ⟨Nat.le_of_ble_eq_true rfl, match h with | ⟨a, b, c, e, f⟩ => b__moved_once _ W w d a b c e f⟩⟩), hm, F.kp, F.bindsN fun _ _ _ _ _ _ us hl => match us, hl with | [_, _, _], _ => rfl⟩
theorem ok_moved_walk (T : Txt P w K mg base C1 C2) : Cl P w K mg base (L2.CX P w) 5 "moved_walk" p_moved_walk (sp_moved_walk K C1) := by
  obtain ⟨f, fd, F, hm⟩ := (T.here ("moved_walk", 18) (mem_defs 9 rfl)).ex
  exact ⟨f, fd, F.ok sc_moved_walk (len_X fun _ => rfl) (fun cdv A outer s H vs Q E hr h => ⟨_, der_moved_walk (E := E) T.hz (ok__moved_once T) (ok_split_walk T) (ok_is_turns T) T.x1 hr, run_X h fun ⟨W, w, ds⟩ H h er => ⟨Nat.le_of_ble_eq_true rfl, match h with | ⟨a, b, c, e, f⟩ => b_moved_walk _ C1 E W w ds a b c e f fun hn j z d J x h0 hx hz => er (.int j) ⟨hn, j, rfl⟩ z d J x h0 hx hz⟩⟩), hm, F.kp, F.bindsN fun _ _ _ _ _ _ us hl => match us, hl with | [_, _, _], _ => rfl⟩
theorem ok_rest_of (T : Txt P w K mg base C1 C2) : Cl P w K mg base CX0 1 "rest_of" p_rest_of (sp_rest_of K) := by
  obtain ⟨f, fd, F, hm⟩ := (T.here ("rest_of", 20) (mem_defs 10 rfl)).ex
  exact ⟨f, fd, F.ok sc_rest_of (len_P fun _ => rfl) (fun cdv A outer s H vs Q E hr h => ⟨_, (der_rest_of T.hz  hr).nox, run_P h fun ⟨x, q⟩ H h => ⟨Nat.le_of_ble_eq_true rfl, match h with | ⟨a, b⟩ => b_rest_of _ x q a b⟩⟩), hm, F.kp, F.bindsN fun _ _ _ _ _ _ us hl => match us, hl with | [_, _], _ => rfl⟩
theorem ok_are_opposite (T : Txt P w K mg base C1 C2) : Cl P w K mg base CX0 1 "are_opposite" p_are_opposite (sp_are_opposite K) := by
  obtain ⟨f, fd, F, hm⟩ := (T.here ("are_opposite", 21) (mem_defs 11 rfl)).ex
  exact ⟨f, fd, F.ok sc_are_opposite (len_P fun _ => rfl) (fun cdv A outer s H vs Q E hr h => ⟨_, (der_are_opposite T.hz  hr).nox, run_P h fun ⟨⟨a, b⟩, ⟨c, d⟩⟩ H h => ⟨Nat.le_of_ble_eq_true rfl, b_are_opposite _ a b c d⟩⟩), hm, F.kp, F.bindsN fun _ _ _ _ _ _ us hl => match us, hl with | [_, _], _ => rfl⟩
theorem ok_reduced (T : Txt P w K mg base C1 C2) : Cl P w K mg base CX0 2 "reduced" p_reduced (sp_reduced K) := by
  obtain ⟨f, fd, F, hm⟩ := (T.here ("reduced", 22) (mem_defs 12 rfl)).ex
  exact ⟨f, fd, F.ok sc_reduced (len_P fun _ => rfl) (fun cdv A outer s H vs Q E hr h => ⟨_, (der_reduced T.hz (ok_ends_of T) (ok_rest_of T) (ok_are_opposite T) hr).nox, run_P h fun ⟨W, w⟩ H h => ⟨Nat.le_of_ble_eq_true rfl, match h with | ⟨a, b, c⟩ => b_reduced _ W w a b c⟩⟩), hm, F.kp, F.bindsN fun _ _ _ _ _ _ us hl => match us, hl with | [_, _], _ => rfl⟩
theorem ok_walk_of (T : Txt P w K mg base C1 C2) : Cl P w K mg base CX0 2 "walk_of" p_walk_of (sp_walk_of K) := by
  obtain ⟨f, fd, F, hm⟩ := (T.here ("walk_of", 23) (mem_defs 13 rfl)).ex
  exact ⟨f, fd, F.ok sc_walk_of (len_P fun _ => rfl) (fun cdv A outer s H vs Q E hr h => ⟨_, (der_walk_of T.hz (ok_glued_walk T) hr).nox, run_P h fun ⟨r, l, x⟩ H h => ⟨Nat.le_of_ble_eq_true rfl, match h with | h => b_walk_of _ r l x h⟩⟩), hm, F.kp, F.bindsN fun _ _ _ _ _ _ us hl => match us, hl with | [_, _, _], _ => rfl⟩
theorem ok_plain_freely (T : Txt P w K mg base C1 C2) : Cl P w K mg base CX0 3 "plain_freely" p_plain_freely (sp_plain_freely K) := by
  obtain ⟨f, fd, F, hm⟩ := (T.here ("plain_freely", 24) (mem_defs 14 rfl)).ex
  exact ⟨f, fd, F.ok sc_plain_freely (len_P fun _ => rfl) (fun cdv A outer s H vs Q E hr h => ⟨_, (der_plain_freely T.hz (ok_reduced T) (ok_walk_of T) hr).nox, run_P h fun ⟨W, w⟩ H h => ⟨Nat.le_of_ble_eq_true rfl, match h with | ⟨a, b, c⟩ => b_plain_freely _ W w a b c⟩⟩), hm, F.kp, F.bindsN fun _ _ _ _ _ _ us hl => match us, hl with | [_, _], _ => rfl⟩
theorem ok_is_plain (T : Txt P w K mg base C1 C2) : Cl P w K mg base CX0 4 "is_plain" p_is_plain (sp_is_plain K) := by
  obtain ⟨f, fd, F, hm⟩ := (T.here ("is_plain", 25) (mem_defs 15 rfl)).ex
  exact ⟨f, fd, F.ok sc_is_plain (len_P fun _ => rfl) (fun cdv A outer s H vs Q E hr h => ⟨_, (der_is_plain T.hz (ok_plain_freely T) hr).nox, run_P h fun ⟨W, w⟩ H h => ⟨Nat.le_of_ble_eq_true rfl, match h with | ⟨a, b, c⟩ => b_is_plain _ W w a b c⟩⟩), hm, F.kp, F.bindsN fun _ _ _ _ _ _ us hl => match us, hl with | [_, _], _ => rfl⟩
theorem ok__checked (T : Txt P w K mg base C1 C2) : Cl P w K mg base (L2.CX P w) 4 "_checked" p__checked (sp__checked K C2) := by
  obtain ⟨f, fd, F, hm⟩ := (T.here ("_checked", 26) (mem_defs 16 rfl)).ex
  exact ⟨f, fd, F.ok sc__checked (len_X fun _ => rfl) (fun cdv A outer s H vs Q E hr h => ⟨_, der__checked (E := E) T.hz (ok_is_turns T) T.x2 hr, run_X h fun i H h er => ⟨Nat.le_of_ble_eq_true rfl, match h with | _ => b__checked _ C2 E i fun hn z d J x h0 hx hz => er (.str "turns") ⟨hn, rfl⟩ z d J x h0 hx hz⟩⟩), hm, F.kp, F.bindsN fun _ _ _ _ _ _ us hl => match us, hl with | [_], _ => rfl⟩
theorem ok_plain_moves (T : Txt P w K mg base C1 C2) : Cl P w K mg base (L2.CX P w) 5 "plain_moves" p_plain_moves (sp_plain_moves K C2) := by
  obtain ⟨f, fd, F, hm⟩ := (T.here ("plain_moves", 27) (mem_defs 17 rfl)).ex
  exact ⟨f, fd, F.ok sc_plain_moves (len_X fun _ => rfl) (fun cdv A outer s H vs Q E hr h => ⟨_, der_plain_moves (E := E) T.hz (ok_ends_of T) (ok_rest_of T) (ok__checked T) (ok_are_opposite T) hr, run_X h fun ⟨W, w⟩ H h er => ⟨Nat.le_of_ble_eq_true rfl, match h with | ⟨a, b, c⟩ => b_plain_moves _ C2 E W w a b c fun hn z d J x h0 hx hz => er (.str "turns") ⟨hn, rfl⟩ z d J x h0 hx hz⟩⟩), hm, F.kp, F.bindsN fun _ _ _ _ _ _ us hl => match us, hl with | [_, _], _ => rfl⟩
theorem ok__taken_back (T : Txt P w K mg base C1 C2) : Cl P w K mg base CX0 2 "_taken_back" p__taken_back (sp__taken_back K) := by
  obtain ⟨f, fd, F, hm⟩ := (T.here ("_taken_back", 29) (mem_defs 18 rfl)).ex
  exact ⟨f, fd, F.ok sc__taken_back (len_P fun _ => rfl) (fun cdv A outer s H vs Q E hr h => ⟨_, (der__taken_back T.hz (ok_split_walk T) hr).nox, run_P h fun ⟨w, m⟩ H h => ⟨Nat.le_of_ble_eq_true rfl, match h with | ⟨a, b, c, d⟩ => b__taken_back _ w m a b c d⟩⟩), hm, F.kp, F.bindsN fun _ _ _ _ _ _ us hl => match us, hl with | [_, _], _ => rfl⟩
theorem ok_back_moves (T : Txt P w K mg base C1 C2) : Cl P w K mg base CX0 6 "back_moves" p_back_moves (sp_back_moves K) := by
  obtain ⟨f, fd, F, hm⟩ := (T.here ("back_moves", 30) (mem_defs 19 rfl)).ex
  exact ⟨f, fd, F.ok sc_back_moves (len_P fun _ => rfl) (fun cdv A outer s H vs Q E hr h => ⟨_, (der_back_moves T.hz (ok__taken_back T) (ok_moved_walk T) hr).nox, run_P h fun ⟨W, w, ms⟩ H h => ⟨Nat.le_of_ble_eq_true rfl, match h with | ⟨a, b, c, d, e, f⟩ => b_back_moves _ C1 W w ms a b c d e f⟩⟩), hm, F.kp, F.bindsN fun _ _ _ _ _ _ us hl => match us, hl with | [_, _, _], _ => rfl⟩
theorem ok_equality_paper (T : Txt P w K mg base C1 C2) : Cl P w K mg base (L2.CX P w) 7 "equality_paper" p_equality_paper (sp_equality_paper K C2) := by
  obtain ⟨f, fd, F, hm⟩ := (T.here ("equality_paper", 31) (mem_defs 20 rfl)).ex
  exact ⟨f, fd, F.ok sc_equality_paper (len_X fun _ => rfl) (fun cdv A outer s H vs Q E hr h => ⟨_, der_equality_paper (E := E) T.hz (ok_plain_moves T) (ok_plain_freely T) (ok_back_moves T) hr, run_X h fun ⟨W, u, v⟩ H h er => ⟨Nat.le_of_ble_eq_true rfl, match h with | ⟨a, b, c, e, f⟩ => b_equality_paper _ C2 C2 E W u v a b c e f fun hn z d J x h0 hx hz => er (.str "turns") ⟨hn, rfl⟩ z d J x h0 hx hz⟩⟩), hm, F.kp, F.bindsN fun _ _ _ _ _ _ us hl => match us, hl with | [_, _, _], _ => rfl⟩
theorem ok__led (T : Txt P w K mg base C1 C2) : Cl P w K mg base CX0 6 "_led" p__led (sp__led K) := by
  obtain ⟨f, fd, F, hm⟩ := (T.here ("_led", 32) (mem_defs 21 rfl)).ex
  exact ⟨f, fd, F.ok sc__led (len_P fun _ => rfl) (fun cdv A outer s H vs Q E hr h => ⟨_, (der__led T.hz (ok_moved_walk T) T.x1 hr).nox, run_P h fun ⟨W, w, d⟩ H h => ⟨Nat.le_of_ble_eq_true rfl, match h with | ⟨a, b, c, e, f⟩ => b__led _ C1 W w d T.x1.te a b c e f⟩⟩), hm, F.kp, F.bindsN fun _ _ _ _ _ _ us hl => match us, hl with | [_, _, _], _ => rfl⟩
theorem ok_is_equality_paper (T : Txt P w K mg base C1 C2) : Cl P w K mg base CX0 7 "is_equality_paper" p_is_equality_paper (sp_is_equality_paper K) := by
  obtain ⟨f, fd, F, hm⟩ := (T.here ("is_equality_paper", 33) (mem_defs 22 rfl)).ex
  exact ⟨f, fd, F.ok sc_is_equality_paper (len_P fun _ => rfl) (fun cdv A outer s H vs Q E hr h => ⟨_, (der_is_equality_paper T.hz (ok__led T) (ok_is_plain T) hr).nox, run_P h fun ⟨W, u, v, d⟩ H h => ⟨Nat.le_of_ble_eq_true rfl, match h with | ⟨a, b, c, e, f, i, j⟩ => b_is_equality_paper _ W u v d a b c e f i j⟩⟩), hm, F.kp, F.bindsN fun _ _ _ _ _ _ us hl => match us, hl with | [_, _, _, _], _ => rfl⟩
theorem ok__law_begun (T : Txt P w K mg base C1 C2) : Cl P w K mg base CX0 1 "_law_begun" p__law_begun (sp__law_begun K) := by
  obtain ⟨f, fd, F, hm⟩ := (T.here ("_law_begun", 35) (mem_defs 23 rfl)).ex
  exact ⟨f, fd, F.ok sc__law_begun (fun vs H Q E ⟨p, ns, k, e, _⟩ => by rw [e] <;> rfl) (fun cdv A outer s H vs Q E hr h => ⟨_, (der__law_begun T.hz  hr).nox, b__law_begun h⟩), hm, F.kp, F.bindsN fun _ _ _ _ _ _ us hl => match us, hl with | [_, _], _ => rfl⟩
theorem ok__law_draw (T : Txt P w K mg base C1 C2) : Cl P w K mg base CX0 1 "_law_draw" p__law_draw (sp__law_draw K) := by
  obtain ⟨f, fd, F, hm⟩ := (T.here ("_law_draw", 36) (mem_defs 24 rfl)).ex
  exact ⟨f, fd, F.ok sc__law_draw (len_M fun _ => rfl) (fun cdv A outer s H vs Q E hr h => ⟨_, (der__law_draw T.hz  hr).nox, run_M h fun x g n eK hp hn => by
    subst eK
    exact ⟨Nat.le_of_ble_eq_true rfl, match hp with | ⟨a, b⟩ => b__law_draw g n x hn a b⟩⟩), hm, F.kp, F.bindsN fun _ _ _ _ _ _ us hl => match us, hl with | [_, _], _ => rfl⟩
theorem ok__law_of (T : Txt P w K mg base C1 C2) : Cl P w K mg base CX0 2 "_law_of" p__law_of (sp__law_of K) := by
  obtain ⟨f, fd, F, hm⟩ := (T.here ("_law_of", 37) (mem_defs 25 rfl)).ex
  exact ⟨f, fd, F.ok sc__law_of (len_M fun _ => rfl) (fun cdv A outer s H vs Q E hr h => ⟨_, (der__law_of T.hz (ok__law_draw T) hr).nox, run_M h fun ds g n eK hp hn => by
    subst eK
    exact ⟨Nat.le_of_ble_eq_true rfl, match hp with | ⟨a, b⟩ => b__law_of g n ds hn a b⟩⟩), hm, F.kp, F.bindsN fun _ _ _ _ _ _ us hl => match us, hl with | [_, _], _ => rfl⟩
theorem ok__law_web (T : Txt P w K mg base C1 C2) : Cl P w K mg base CX0 3 "_law_web" p__law_web (sp__law_web K) := by
  obtain ⟨f, fd, F, hm⟩ := (T.here ("_law_web", 38) (mem_defs 26 rfl)).ex
  exact ⟨f, fd, F.ok sc__law_web (len_M fun _ => rfl) (fun cdv A outer s H vs Q E hr h => ⟨_, (der__law_web T.hz (ok__law_draw T) (ok__law_of T) hr).nox, run_M h fun ⟨x, y, z⟩ g n eK hp hn => by
    subst eK
    exact ⟨Nat.le_of_ble_eq_true rfl, match hp with | ⟨⟨a, b⟩, ⟨c, d⟩, e, f⟩ => b__law_web g n x y z hn a b c d e f⟩⟩), hm, F.kp, F.bindsN fun _ _ _ _ _ _ us hl => match us, hl with | [_, _, _, _], _ => rfl⟩
theorem ok__law_ends (T : Txt P w K mg base C1 C2) : Cl P w K mg base CX0 1 "_law_ends" p__law_ends (sp__law_ends K) := by
  obtain ⟨f, fd, F, hm⟩ := (T.here ("_law_ends", 39) (mem_defs 27 rfl)).ex
  exact ⟨f, fd, F.ok sc__law_ends (len_P fun _ => rfl) (fun cdv A outer s H vs Q E hr h => ⟨_, (der__law_ends T.hz  hr).nox, run_P h fun ⟨W, t, s⟩ H h => ⟨Nat.le_of_ble_eq_true rfl, match h with | h => b__law_ends _ W t s h⟩⟩), hm, F.kp, F.bindsN fun _ _ _ _ _ _ us hl => match us, hl with | [_, _, _], _ => rfl⟩
theorem ok__law_out (T : Txt P w K mg base C1 C2) : Cl P w K mg base CX0 2 "_law_out" p__law_out (sp__law_out K) := by
  obtain ⟨f, fd, F, hm⟩ := (T.here ("_law_out", 40) (mem_defs 28 rfl)).ex
  exact ⟨f, fd, F.ok sc__law_out (len_P fun _ => rfl) (fun cdv A outer s H vs Q E hr h => ⟨_, (der__law_out T.hz (ok__law_ends T) hr).nox, run_P h fun ⟨W, v⟩ H h => ⟨Nat.le_of_ble_eq_true rfl, match h with | h => b__law_out _ W v h⟩⟩), hm, F.kp, F.bindsN fun _ _ _ _ _ _ us hl => match us, hl with | [_, _], _ => rfl⟩
theorem ok__law_turns (T : Txt P w K mg base C1 C2) : Cl P w K mg base CX0 3 "_law_turns" p__law_turns (sp__law_turns K) := by
  obtain ⟨f, fd, F, hm⟩ := (T.here ("_law_turns", 41) (mem_defs 29 rfl)).ex
  exact ⟨f, fd, F.ok sc__law_turns (len_M fun _ => rfl) (fun cdv A outer s H vs Q E hr h => ⟨_, (der__law_turns T.hz (ok__law_draw T) (ok__law_of T) hr).nox, run_M h fun i g n eK hp hn => by
    subst eK
    exact ⟨Nat.le_of_ble_eq_true rfl, match hp with | ⟨a, b⟩ => b__law_turns g n i hn a b⟩⟩), hm, F.kp, F.bindsN fun _ _ _ _ _ _ us hl => match us, hl with | [_, _], _ => rfl⟩
theorem ok__law_walk (T : Txt P w K mg base C1 C2) : Cl P w K mg base CX0 4 "_law_walk" p__law_walk (sp__law_walk K) := by
  obtain ⟨f, fd, F, hm⟩ := (T.here ("_law_walk", 42) (mem_defs 30 rfl)).ex
  exact ⟨f, fd, F.ok sc__law_walk (len_M fun _ => rfl) (fun cdv A outer s H vs Q E hr h => ⟨_, (der__law_walk T.hz (ok__law_turns T) (ok__law_out T) (ok__law_of T) (ok__law_ends T) hr).nox, run_M h fun ⟨W, v, st, gr⟩ g n eK hp hn => by
    subst eK
    exact ⟨Nat.le_of_ble_eq_true rfl, match hp with | ⟨a, ⟨b, c⟩, d, e⟩ => b__law_walk g n W v st gr hn a b c d e⟩⟩), hm, F.kp, F.bindsN fun _ _ _ _ _ _ us hl => match us, hl with | [_, _, _, _, _], _ => rfl⟩
theorem ok__law_plain (T : Txt P w K mg base C1 C2) : Cl P w K mg base CX0 2 "_law_plain" p__law_plain (sp__law_plain K) := by
  obtain ⟨f, fd, F, hm⟩ := (T.here ("_law_plain", 43) (mem_defs 31 rfl)).ex
  exact ⟨f, fd, F.ok sc__law_plain (len_P fun _ => rfl) (fun cdv A outer s H vs Q E hr h => ⟨_, (der__law_plain T.hz (ok__law_ends T) hr).nox, run_P h fun ⟨W, w⟩ H h => ⟨Nat.le_of_ble_eq_true rfl, match h with | ⟨a, b, c⟩ => b__law_plain _ W w a b c⟩⟩), hm, F.kp, F.bindsN fun _ _ _ _ _ _ us hl => match us, hl with | [_, _], _ => rfl⟩
theorem ok__law_spelled (T : Txt P w K mg base C1 C2) : Cl P w K mg base CX0 3 "_law_spelled" p__law_spelled (sp__law_spelled K) := by
  obtain ⟨f, fd, F, hm⟩ := (T.here ("_law_spelled", 44) (mem_defs 32 rfl)).ex
  exact ⟨f, fd, F.ok sc__law_spelled (len_M fun _ => rfl) (fun cdv A outer s H vs Q E hr h => ⟨_, (der__law_spelled T.hz (ok__law_draw T) (ok__law_ends T) (ok__law_out T) (ok__law_of T) hr).nox, run_M h fun ⟨W, w, m, L, B⟩ g n eK hp hn => by
    subst eK
    exact ⟨Nat.le_of_ble_eq_true rfl, match hp with | ⟨a, ⟨b, c⟩, d, e, f⟩ => b__law_spelled g n W w m L B hn a b c d e f⟩⟩), hm, F.kp, F.bindsN fun _ _ _ _ _ _ us hl => match us, hl with | [_, _, _, _], _ => rfl⟩
theorem ok__law_flag (T : Txt P w K mg base C1 C2) : Cl P w K mg base CX0 1 "_law_flag" p__law_flag (sp__law_flag K) := by
  obtain ⟨f, fd, F, hm⟩ := (T.here ("_law_flag", 45) (mem_defs 33 rfl)).ex
  exact ⟨f, fd, F.ok sc__law_flag (len_P fun _ => rfl) (fun cdv A outer s H vs Q E hr h => ⟨_, (der__law_flag T.hz  hr).nox, run_P h fun ⟨a, b⟩ H h => ⟨Nat.le_of_ble_eq_true rfl, b__law_flag _ a b⟩⟩), hm, F.kp, F.bindsN fun _ _ _ _ _ _ us hl => match us, hl with | [_, _], _ => rfl⟩
theorem ok__law_whole (T : Txt P w K mg base C1 C2) : Cl P w K mg base CX0 1 "_law_whole" p__law_whole (sp__law_whole K) := by
  obtain ⟨f, fd, F, hm⟩ := (T.here ("_law_whole", 46) (mem_defs 34 rfl)).ex
  exact ⟨f, fd, F.ok sc__law_whole (len_P fun _ => rfl) (fun cdv A outer s H vs Q E hr h => ⟨_, (der__law_whole T.hz  hr).nox, run_P h fun d H h => ⟨Nat.le_of_ble_eq_true rfl, b__law_whole _ d⟩⟩), hm, F.kp, F.bindsN fun _ _ _ _ _ _ us hl => match us, hl with | [_], _ => rfl⟩
theorem ok__law_bound (T : Txt P w K mg base C1 C2) : Cl P w K mg base CX0 1 "_law_bound" p__law_bound (sp__law_bound K) := by
  obtain ⟨f, fd, F, hm⟩ := (T.here ("_law_bound", 47) (mem_defs 35 rfl)).ex
  exact ⟨f, fd, F.ok sc__law_bound (len_P fun _ => rfl) (fun cdv A outer s H vs Q E hr h => ⟨_, (der__law_bound T.hz  hr).nox, run_P h fun _ H h => ⟨Nat.le_of_ble_eq_true rfl, b__law_bound _ ⟩⟩), hm, F.kp, F.bindsN fun _ _ _ _ _ _ us hl => match us, hl with | [], _ => rfl⟩
theorem ok__law_fits (T : Txt P w K mg base C1 C2) : Cl P w K mg base CX0 2 "_law_fits" p__law_fits (sp__law_fits K) := by
  obtain ⟨f, fd, F, hm⟩ := (T.here ("_law_fits", 48) (mem_defs 36 rfl)).ex
  exact ⟨f, fd, F.ok sc__law_fits (len_P fun _ => rfl) (fun cdv A outer s H vs Q E hr h => ⟨_, (der__law_fits T.hz (ok__law_bound T) hr).nox, run_P h fun w H h => ⟨Nat.le_of_ble_eq_true rfl, match h with | ⟨h, h2⟩ => b__law_fits _ w h h2⟩⟩), hm, F.kp, F.bindsN fun _ _ _ _ _ _ us hl => match us, hl with | [_], _ => rfl⟩
theorem ok__law_split (T : Txt P w K mg base C1 C2) : Cl P w K mg base CX0 1 "_law_split" p__law_split (sp__law_split K) := by
  obtain ⟨f, fd, F, hm⟩ := (T.here ("_law_split", 49) (mem_defs 37 rfl)).ex
  exact ⟨f, fd, F.ok sc__law_split (len_P fun _ => rfl) (fun cdv A outer s H vs Q E hr h => ⟨_, (der__law_split T.hz  hr).nox, run_P h fun w H h => ⟨Nat.le_of_ble_eq_true rfl, match h with | ⟨h, h2⟩ => b__law_split _ w h h2⟩⟩), hm, F.kp, F.bindsN fun _ _ _ _ _ _ us hl => match us, hl with | [_], _ => rfl⟩
theorem ok__law_glued (T : Txt P w K mg base C1 C2) : Cl P w K mg base CX0 1 "_law_glued" p__law_glued (sp__law_glued K) := by
  obtain ⟨f, fd, F, hm⟩ := (T.here ("_law_glued", 50) (mem_defs 38 rfl)).ex
  exact ⟨f, fd, F.ok sc__law_glued (len_P fun _ => rfl) (fun cdv A outer s H vs Q E hr h => ⟨_, (der__law_glued T.hz  hr).nox, run_P h fun ⟨r, ts, cs⟩ H h => ⟨Nat.le_of_ble_eq_true rfl, match h with | ⟨h, h2⟩ => b__law_glued _ r ts cs h h2⟩⟩), hm, F.kp, F.bindsN fun _ _ _ _ _ _ us hl => match us, hl with | [_, _, _], _ => rfl⟩
theorem ok__law_put_move (T : Txt P w K mg base C1 C2) : Cl P w K mg base CX0 2 "_law_put_move" p__law_put_move (sp__law_put_move K) := by
  obtain ⟨f, fd, F, hm⟩ := (T.here ("_law_put_move", 51) (mem_defs 39 rfl)).ex
  exact ⟨f, fd, F.ok sc__law_put_move (len_P fun _ => rfl) (fun cdv A outer s H vs Q E hr h => ⟨_, (der__law_put_move T.hz (ok__law_split T) (ok__law_ends T) (ok__law_glued T) hr).nox, run_P h fun ⟨W, w, i, t, s, x⟩ H h => ⟨Nat.le_of_ble_eq_true rfl, match h with | ⟨a, b⟩ => b__law_put_move _ W w i t s x a b⟩⟩), hm, F.kp, F.bindsN fun _ _ _ _ _ _ us hl => match us, hl with | [_, _, _], _ => rfl⟩
theorem ok__law_strike_move (T : Txt P w K mg base C1 C2) : Cl P w K mg base CX0 2 "_law_strike_move" p__law_strike_move (sp__law_strike_move K) := by
  obtain ⟨f, fd, F, hm⟩ := (T.here ("_law_strike_move", 52) (mem_defs 40 rfl)).ex
  exact ⟨f, fd, F.ok sc__law_strike_move (len_P fun _ => rfl) (fun cdv A outer s H vs Q E hr h => ⟨_, (der__law_strike_move T.hz (ok__law_split T) (ok__law_glued T) hr).nox, run_P h fun ⟨w, i⟩ H h => ⟨Nat.le_of_ble_eq_true rfl, match h with | ⟨a, b⟩ => b__law_strike_move _ w i a b⟩⟩), hm, F.kp, F.bindsN fun _ _ _ _ _ _ us hl => match us, hl with | [_, _], _ => rfl⟩
theorem ok__law_carry_move (T : Txt P w K mg base C1 C2) : Cl P w K mg base CX0 2 "_law_carry_move" p__law_carry_move (sp__law_carry_move K) := by
  obtain ⟨f, fd, F, hm⟩ := (T.here ("_law_carry_move", 53) (mem_defs 41 rfl)).ex
  exact ⟨f, fd, F.ok sc__law_carry_move (len_P fun _ => rfl) (fun cdv A outer s H vs Q E hr h => ⟨_, (der__law_carry_move T.hz (ok__law_split T) (ok__law_ends T) (ok__law_glued T) hr).nox, run_P h fun ⟨W, w, i, m⟩ H h => ⟨Nat.le_of_ble_eq_true rfl, match h with | ⟨a, b, c⟩ => b__law_carry_move _ W w i m a b c⟩⟩), hm, F.kp, F.bindsN fun _ _ _ _ _ _ us hl => match us, hl with | [_, _, _, _], _ => rfl⟩
theorem ok__law_moved (T : Txt P w K mg base C1 C2) : Cl P w K mg base CX0 3 "_law_moved" p__law_moved (sp__law_moved K) := by
  obtain ⟨f, fd, F, hm⟩ := (T.here ("_law_moved", 54) (mem_defs 42 rfl)).ex
  exact ⟨f, fd, F.ok sc__law_moved (len_P fun _ => rfl) (fun cdv A outer s H vs Q E hr h => ⟨_, (der__law_moved T.hz (ok__law_whole T) (ok__law_carry_move T) (ok__law_strike_move T) (ok__law_put_move T) (ok__law_fits T) hr).nox, run_P h fun ⟨W, w, d⟩ H h => ⟨Nat.le_of_ble_eq_true rfl, match h with | ⟨a, b, c, e, f⟩ => b__law_moved _ W w d a b c e f⟩⟩), hm, F.kp, F.bindsN fun _ _ _ _ _ _ us hl => match us, hl with | [_, _, _], _ => rfl⟩
theorem ok__law_led (T : Txt P w K mg base C1 C2) : Cl P w K mg base CX0 4 "_law_led" p__law_led (sp__law_led K) := by
  obtain ⟨f, fd, F, hm⟩ := (T.here ("_law_led", 55) (mem_defs 43 rfl)).ex
  exact ⟨f, fd, F.ok sc__law_led (len_P fun _ => rfl) (fun cdv A outer s H vs Q E hr h => ⟨_, (der__law_led T.hz (ok__law_moved T) hr).nox, run_P h fun ⟨W, w, d⟩ H h => ⟨Nat.le_of_ble_eq_true rfl, match h with | ⟨a, b, c, e, f⟩ => b__law_led _ W w d a b c e f⟩⟩), hm, F.kp, F.bindsN fun _ _ _ _ _ _ us hl => match us, hl with | [_, _, _], _ => rfl⟩
theorem ok__law_great_web (T : Txt P w K mg base C1 C2) : Cl P w K mg base CX0 4 "_law_great_web" p__law_great_web (sp__law_great_web K) := by
  obtain ⟨f, fd, F, hm⟩ := (T.here ("_law_great_web", 56) (mem_defs 44 rfl)).ex
  exact ⟨f, fd, F.ok sc__law_great_web (len_M fun _ => rfl) (fun cdv A outer s H vs Q E hr h => ⟨_, (der__law_great_web T.hz (ok__law_draw T) (ok__law_web T) (ok__law_of T) hr).nox, run_M h fun _ g n eK hp hn => by
    subst eK
    exact ⟨Nat.le_of_ble_eq_true rfl, match hp with | _ => b__law_great_web g n hn⟩⟩), hm, F.kp, F.bindsN fun _ _ _ _ _ _ us hl => match us, hl with | [_], _ => rfl⟩
theorem ok__law_some_walk (T : Txt P w K mg base C1 C2) : Cl P w K mg base CX0 5 "_law_some_walk" p__law_some_walk (sp__law_some_walk K) := by
  obtain ⟨f, fd, F, hm⟩ := (T.here ("_law_some_walk", 57) (mem_defs 45 rfl)).ex
  exact ⟨f, fd, F.ok sc__law_some_walk (len_M fun _ => rfl) (fun cdv A outer s H vs Q E hr h => ⟨_, (der__law_some_walk T.hz (ok__law_walk T) (ok__law_of T) (ok__law_draw T) (ok__law_spelled T) hr).nox, run_M h fun ⟨W, st⟩ g n eK hp hn => by
    subst eK
    exact ⟨Nat.le_of_ble_eq_true rfl, match hp with | ⟨a, ⟨b, c⟩, d, e⟩ => b__law_some_walk g n W st hn a b c d e⟩⟩), hm, F.kp, F.bindsN fun _ _ _ _ _ _ us hl => match us, hl with | [_, _, _], _ => rfl⟩
theorem ok__law_is_plain (T : Txt P w K mg base C1 C2) : Cl P w K mg base CX0 2 "_law_is_plain" p__law_is_plain (sp__law_is_plain K) := by
  obtain ⟨f, fd, F, hm⟩ := (T.here ("_law_is_plain", 58) (mem_defs 46 rfl)).ex
  exact ⟨f, fd, F.ok sc__law_is_plain (len_P fun _ => rfl) (fun cdv A outer s H vs Q E hr h => ⟨_, (der__law_is_plain T.hz (ok__law_split T) (ok__law_ends T) hr).nox, run_P h fun ⟨W, w⟩ H h => ⟨Nat.le_of_ble_eq_true rfl, match h with | ⟨a, b, c⟩ => b__law_is_plain _ W w a b c⟩⟩), hm, F.kp, F.bindsN fun _ _ _ _ _ _ us hl => match us, hl with | [_, _], _ => rfl⟩
theorem ok__law_told (T : Txt P w K mg base C1 C2) : Cl P w K mg base CX0 8 "_law_told" p__law_told (sp__law_told K) := by
  obtain ⟨f, fd, F, hm⟩ := (T.here ("_law_told", 59) (mem_defs 47 rfl)).ex
  exact ⟨f, fd, F.ok sc__law_told (len_P fun _ => rfl) (fun cdv A outer s H vs Q E hr h => ⟨_, (der__law_told T.hz (ok_equality_paper T) T.x2 T.f2 hr).nox, run_P h fun ⟨W, u, v⟩ H h => ⟨Nat.le_of_ble_eq_true rfl, match h with | ⟨a, b, c, e, f⟩ => b__law_told _ C2 W u v T.x2.te a b c e f fun d hd => (ep_pap a b c e f hd).2.dk.nl⟩⟩), hm, F.kp, F.bindsN fun _ _ _ _ _ _ us hl => match us, hl with | [_, _, _], _ => rfl⟩
theorem ok__law_right (T : Txt P w K mg base C1 C2) : Cl P w K mg base CX0 5 "_law_right" p__law_right (sp__law_right K) := by
  obtain ⟨f, fd, F, hm⟩ := (T.here ("_law_right", 60) (mem_defs 48 rfl)).ex
  exact ⟨f, fd, F.ok sc__law_right (len_P fun _ => rfl) (fun cdv A outer s H vs Q E hr h => ⟨_, (der__law_right T.hz (ok__law_led T) (ok__law_is_plain T) hr).nox, run_P h fun ⟨W, u, v, d⟩ H h => ⟨Nat.le_of_ble_eq_true rfl, match h with | ⟨a, b, c, e, f, i, j⟩ => b__law_right _ W u v d a b c e f i j⟩⟩), hm, F.kp, F.bindsN fun _ _ _ _ _ _ us hl => match us, hl with | [_, _, _, _], _ => rfl⟩
theorem ok__law_due_moves (T : Txt P w K mg base C1 C2) : Cl P w K mg base CX0 2 "_law_due_moves" p__law_due_moves (sp__law_due_moves K) := by
  obtain ⟨f, fd, F, hm⟩ := (T.here ("_law_due_moves", 61) (mem_defs 49 rfl)).ex
  exact ⟨f, fd, F.ok sc__law_due_moves (len_P fun _ => rfl) (fun cdv A outer s H vs Q E hr h => ⟨_, (der__law_due_moves T.hz (ok__law_ends T) hr).nox, run_P h fun ⟨W, w⟩ H h => ⟨Nat.le_of_ble_eq_true rfl, match h with | ⟨a, b, c⟩ => b__law_due_moves _ W w a b c⟩⟩), hm, F.kp, F.bindsN fun _ _ _ _ _ _ us hl => match us, hl with | [_, _], _ => rfl⟩
theorem ok__law_bent_moves (T : Txt P w K mg base C1 C2) : Cl P w K mg base CX0 3 "_law_bent_moves" p__law_bent_moves (sp__law_bent_moves K) := by
  obtain ⟨f, fd, F, hm⟩ := (T.here ("_law_bent_moves", 62) (mem_defs 50 rfl)).ex
  exact ⟨f, fd, F.ok sc__law_bent_moves (len_M fun _ => rfl) (fun cdv A outer s H vs Q E hr h => ⟨_, (der__law_bent_moves T.hz (ok__law_of T) (ok__law_draw T) hr).nox, run_M h fun ms g n eK hp hn => by
    subst eK
    exact ⟨Nat.le_of_ble_eq_true rfl, match hp with | h => b__law_bent_moves g n ms hn h⟩⟩), hm, F.kp, F.bindsN fun _ _ _ _ _ _ us hl => match us, hl with | [_, _], _ => rfl⟩
theorem ok__law_bent (T : Txt P w K mg base C1 C2) : Cl P w K mg base CX0 4 "_law_bent" p__law_bent (sp__law_bent K) := by
  obtain ⟨f, fd, F, hm⟩ := (T.here ("_law_bent", 63) (mem_defs 51 rfl)).ex
  exact ⟨f, fd, F.ok sc__law_bent (len_M fun _ => rfl) (fun cdv A outer s H vs Q E hr h => ⟨_, (der__law_bent T.hz (ok__law_draw T) (ok__law_of T) (ok__law_bent_moves T) hr).nox, run_M h fun d g n eK hp hn => by
    subst eK
    exact ⟨Nat.le_of_ble_eq_true rfl, match hp with | h => b__law_bent g n d hn h⟩⟩), hm, F.kp, F.bindsN fun _ _ _ _ _ _ us hl => match us, hl with | [_, _], _ => rfl⟩
theorem ok__law_far (T : Txt P w K mg base C1 C2) : Cl P w K mg base CX0 5 "_law_far" p__law_far (sp__law_far K) := by
  obtain ⟨f, fd, F, hm⟩ := (T.here ("_law_far", 64) (mem_defs 52 rfl)).ex
  exact ⟨f, fd, F.ok sc__law_far (len_M fun _ => rfl) (fun cdv A outer s H vs Q E hr h => ⟨_, (der__law_far T.hz (ok__law_walk T) (ok__law_draw T) (ok__law_split T) (ok__law_bound T) (ok__law_of T) (ok__law_glued T) hr).nox, run_M h fun W g n eK hp hn => by
    subst eK
    exact ⟨Nat.le_of_ble_eq_true rfl, match hp with | ⟨a, b, c⟩ => b__law_far g n W hn a b c⟩⟩), hm, F.kp, F.bindsN fun _ _ _ _ _ _ us hl => match us, hl with | [_, _], _ => rfl⟩
theorem ok__law_pair (T : Txt P w K mg base C1 C2) : Cl P w K mg base CX0 6 "_law_pair" p__law_pair (sp__law_pair K) := by
  obtain ⟨f, fd, F, hm⟩ := (T.here ("_law_pair", 65) (mem_defs 53 rfl)).ex
  exact ⟨f, fd, F.ok sc__law_pair (len_M fun _ => rfl) (fun cdv A outer s H vs Q E hr h => ⟨_, (der__law_pair T.hz (ok__law_some_walk T) (ok__law_draw T) (ok__law_far T) (ok__law_spelled T) (ok__law_split T) (ok__law_of T) (ok__law_glued T) hr).nox, run_M h fun W g n eK hp hn => by
    subst eK
    exact ⟨Nat.le_of_ble_eq_true rfl, match hp with | ⟨a, b, c⟩ => b__law_pair g n W hn a b c⟩⟩), hm, F.kp, F.bindsN fun _ _ _ _ _ _ us hl => match us, hl with | [_, _], _ => rfl⟩
theorem ok__law_many_right (T : Txt P w K mg base C1 C2) : Cl P w K mg base CX0 8 "_law_many_right" p__law_many_right (sp__law_many_right K) := by
  obtain ⟨f, fd, F, hm⟩ := (T.here ("_law_many_right", 66) (mem_defs 54 rfl)).ex
  exact ⟨f, fd, F.ok sc__law_many_right (len_P fun _ => rfl) (fun cdv A outer s H vs Q E hr h => ⟨_, (der__law_many_right T.hz (ok_is_equality_paper T) hr).nox, run_P h fun W H h => ⟨Nat.le_of_ble_eq_true rfl, match h with | h => b__law_many_right _ W h⟩⟩), hm, F.kp, F.bindsN fun _ _ _ _ _ _ us hl => match us, hl with | [_], _ => rfl⟩
theorem ok_law (T : Txt P w K mg base C1 C2) {f : Addr} {fd : FuncData} (F : FunD K "law" "law" (defArgs s_law) (defBody s_law) (defScope s_law) [] [] f fd) : FnOk P w K mg base CX0 9 f fd p_law (sp_law K) :=
  F.ok sc_law (fun vs H Q E ⟨p, ns, e, _⟩ => by rw [e] <;> rfl) (fun cdv A outer s H vs Q E hr h => ⟨_, (der_law T.hz (ok__law_begun T) (ok__law_great_web T) (ok__law_many_right T) (ok__law_pair T) (ok__law_told T) (ok__law_led T) (ok__law_due_moves T) (ok__law_plain T) (ok__law_right T) (ok__law_bent T) (ok__law_flag T) (ok_is_equality_paper T) hr).nox, b_law h⟩)
end
/-! ### the classes' __init__ -/
abbrev sI1 : Stmt := inClass (topS 2) 0
abbrev sI2 : Stmt := inClass (topS 3) 0
theorem scI1 : FnScope ["self", "number"] ["self", "number"] (defScope sI1) := ⟨rfl, rfl, rfl, by decide +kernel, rfl, by decide +kernel, by decide +kernel⟩
theorem scI2 : FnScope ["self", "what"] ["self", "what"] (defScope sI2) := ⟨rfl, rfl, rfl, by decide +kernel, rfl, by decide +kernel, by decide +kernel⟩
def sp_init (C : Addr) (f : Str) : Sp := fun vs H Q _ => ∃ a v, vs = [.ref a, v] ∧ H a = some (exo a C none) ∧ ∀ dx, H dx = none → dx ≠ a → Q .non (upd (upd H dx (exd dx [(f, v)])) a (exo a C (some dx)))
section
variable {P : Program} {w : World} {K : PySem.W.Frag} {mg : Str → Option Value} {base : Heap} {C : Addr}
theorem run_init {f : Str} {vs : List V} {H : Hp} {Q : VK} {E : XK} {names : List Str} (T : OexC K C) (no : PySem.W.findIn K (.ref C) f = some none) (h : sp_init C f vs H Q E) : tOst K f (tVar 0) (tVar 1) { nx := fun _ J => Q .non J, rt := Q } (L2.start names vs) H := by
  obtain ⟨a, v, rfl, ha, hq⟩ := h
  exact ⟨v, rfl, .ref a, rfl, a, C, rfl, T, no, .inl ⟨ha, fun dx n1 n2 => hq dx n1 n2⟩⟩
theorem ok_init1 {fI : Addr} {fd : FuncData} (T : OexC K C) (no : PySem.W.findIn K (.ref C) "number" = some none) (F : FunD K "__init__" "NoMove.__init__" (defArgs sI1) (defBody sI1) (defScope sI1) [] [] fI fd) :
    FnOk P w K mg base CX0 1 fI fd ["self", "number"] (sp_init C "number") ∧ Binds K fd ["self", "number"] [] := by
  refine ⟨F.ok scI1 (fun vs H Q E ⟨a, v, e, _⟩ => by rw [e] <;> rfl) (fun cdv A outer s H vs Q E hr h => ⟨_, PSs.nox (pss_one (ps_ost (pv 0) (pv 1))), run_init T no h⟩), F.bindsN fun _ _ _ _ _ _ us hl => match us, hl with | [_, _], _ => rfl⟩
theorem ok_init2 {fI : Addr} {fd : FuncData} (T : OexC K C) (no : PySem.W.findIn K (.ref C) "what" = some none) (F : FunD K "__init__" "TooGreat.__init__" (defArgs sI2) (defBody sI2) (defScope sI2) [] [] fI fd) :
    FnOk P w K mg base CX0 1 fI fd ["self", "what"] (sp_init C "what") ∧ Binds K fd ["self", "what"] [] := by
  refine ⟨F.ok scI2 (fun vs H Q E ⟨a, v, e, _⟩ => by rw [e] <;> rfl) (fun cdv A outer s H vs Q E hr h => ⟨_, PSs.nox (pss_one (ps_ost (pv 0) (pv 1))), run_init T no h⟩), F.bindsN fun _ _ _ _ _ _ us hl => match us, hl with | [_, _], _ => rfl⟩
theorem iniB_ok {x : Str} (h : iniB K x = true) : PySem.W.findIn K (.ref (He.ga K x)) "__init__" = some (some (.ref (He.ma K (He.ga K x) "__init__"))) ∧ PySem.W.typeIn K (.ref (He.ma K (He.ga K x) "__init__")) = some (.type "function") ∧ OexC K (He.ga K x) ∧ XfC K (He.ga K x) := by
  obtain ⟨h1, h⟩ := He.ba h
  obtain ⟨h2, h⟩ := He.ba h
  obtain ⟨h3, h4⟩ := He.ba h
  exact ⟨He.eqO_ok h1, of_decide_eq_true h2, oexB_ok h3, xfB_ok h4⟩
theorem fact_at (c : He.SaysD fa fn K) (i : Nat) {f : He.Fa} (h : fa[i]? = some f) : f.ok K = true := c.fact i h
/-- what the head tells is what the defs lean on -/
theorem txt_of {h : Heap} (X : K.In h) (G : h.Ns mainGlobals mg) (c : He.SaysD fa fn K) (cx : xB K = true) : Txt P w K mg base (He.ga K "NoMove") (He.ga K "TooGreat") := by
  obtain ⟨c1, c2⟩ := He.ba cx
  obtain ⟨a1, a2, a3, a4⟩ := iniB_ok c1
  obtain ⟨b1, b2, b3, b4⟩ := iniB_ok c2
  obtain ⟨d1, F1⟩ := c.def_ 0 (d := dM "NoMove" 2) rfl
  obtain ⟨d2, F2⟩ := c.def_ 1 (d := dM "TooGreat" 3) rfl
  obtain ⟨i1, j1⟩ := ok_init1 (P := P) (w := w) (mg := mg) (base := base) a3 (He.noat_ok (c.fact 19 (f := .noat "NoMove" "number") rfl)) F1
  obtain ⟨i2, j2⟩ := ok_init2 (P := P) (w := w) (mg := mg) (base := base) b3 (He.noat_ok (c.fact 20 (f := .noat "TooGreat" "what") rfl)) F2
  refine ⟨⟨?_, ?_, ?_, ?_, ?_, ?_, ?_, ?_, ?_, ?_, ?_, ?_, ?_, ?_, ?_⟩, fun p hp => ?_, ⟨a3, He.noat_ok (c.fact 19 (f := .noat "NoMove" "number") rfl), He.glo_ok X G (c.fact 0 (f := .glo "NoMove") rfl), He.exm_ok (c.fact 17 (f := .exm "NoMove" "NoMove" true) rfl), _, d1, a1, a2, i1, j1⟩,
    ⟨b3, He.noat_ok (c.fact 20 (f := .noat "TooGreat" "what") rfl), He.glo_ok X G (c.fact 1 (f := .glo "TooGreat") rfl), He.exm_ok (c.fact 18 (f := .exm "TooGreat" "TooGreat" true) rfl), _, d2, b1, b2, i2, j2⟩, b4⟩
  · exact He.free_ok X G (c.fact 2 (f := .free "len") rfl)
  · exact He.free_ok X G (c.fact 3 (f := .free "abs") rfl)
  · exact He.free_ok X G (c.fact 4 (f := .free "int") rfl)
  · exact He.free_ok X G (c.fact 5 (f := .free "bool") rfl)
  · exact He.free_ok X G (c.fact 6 (f := .free "str") rfl)
  · exact He.free_ok X G (c.fact 7 (f := .free "tuple") rfl)
  · exact He.free_ok X G (c.fact 8 (f := .free "all") rfl)
  · exact He.free_ok X G (c.fact 9 (f := .free "isinstance") rfl)
  · exact He.free_ok X G (c.fact 10 (f := .free "range") rfl)
  · exact He.free_ok X G (c.fact 11 (f := .free "zip") rfl)
  · exact He.free_ok X G (c.fact 12 (f := .free "enumerate") rfl)
  · exact He.free_ok X G (c.fact 13 (f := .free "reversed") rfl)
  · exact He.int_ok X G (c.fact 14 (f := .int "MOST_STEPS" 60) rfl)
  · exact He.int_ok X G (c.fact 15 (f := .int "MOST_MOVES" 2000) rfl)
  · exact He.int_ok X G (c.fact 16 (f := .int "TURNS_BOUND" (10 ^ 300)) rfl)
  · obtain ⟨x, i⟩ := p
    have m1 : dD x i ∈ fn := List.mem_append_right _ (List.mem_map.mpr ⟨(x, i), hp, rfl⟩)
    have m2 : He.Fa.glo x ∈ fa := List.mem_append_right _ (List.mem_map.mpr ⟨(x, i), hp, rfl⟩)
    obtain ⟨j, hj⟩ := List.getElem?_of_mem m1
    obtain ⟨l, hl⟩ := List.getElem?_of_mem m2
    obtain ⟨fd, F⟩ := c.def_ j hj
    exact ⟨_, fd, F, He.glo_ok X G (c.fact l hl)⟩
end
end K8
open PySem PySem.W PySem.Calls PyProof.Rows
set_option maxHeartbeats 0
theorem PySem.Challenge.cw_tubewords_k08_whole_equality_papers_holds : PySem.Challenge.rw_tubewords_k08_whole_equality_papers.Holds := by
  refine K8.head_of ?_
  refine L2.walk_ofE (l := PySem.Challenge.rw_tubewords_k08_whole_equality_papers) (n := 63) (k := 9) (x := "_law_script") (CX := L2.CX0) rfl (by decide) K8.head_dfl ⟨rfl, by decide, by decide⟩ ?F (fun _ _ _ _ z => z)
  intro w mg fa h Y G hmg0
  obtain ⟨K, KX, c, cx⟩ := Y
  have hmg : mg ("law" : PySem.Str) = some (.ref fa) := by
    rw [← K8.head_name]
    exact hmg0
  obtain ⟨f, fd, F, hf⟩ := ((K8.txt_of (P := (PySem.Challenge.rw_tubewords_k08_whole_equality_papers).prog) (w := w) (base := h) KX G c cx).here ("law", 67) (K8.mem_defs 55 rfl)).ex
  have ef := hmg.symm.trans hf
  cases ef
  have b := L2.FunD.bindsA (ps := ["_law_script"]) F fun _ _ _ _ _ _ us hl => match us, hl with | [_], _ => rfl
  exact ⟨K, fd, K8.sp_law K, KX, fun s v => b s [v] rfl, fun H a ns hl _ hS => ⟨a, ns, rfl, hS, Nat.le_trans hl (by decide), fun _ => rfl⟩, fun base _ _ => K8.ok_law (K8.txt_of (P := (PySem.Challenge.rw_tubewords_k08_whole_equality_papers).prog) (w := w) (base := base) KX G c cx) F⟩
