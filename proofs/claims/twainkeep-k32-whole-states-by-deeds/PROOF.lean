import PyProof.Rows.All
import Wide.All
import OpenK.AllK
import Wide.FinOn
import HandS.ForMost
import HandS.Evl
import HandS.Defaults
import HandS.Head0
import HandS.Head1
import HandS.Head2
import HandS.HeadEnd
import HandS.HeadHook1
import HandS.HeadHook2
import HandS.HeadHook3
import HandS.TupAny
import HandS.Zip
import HandS.IsInst
import HandS.Strs
import HandS.SetFor
import HandS.Deep
import HandS.Conv
import HandS.More
import HandS.TryOnly
import HandS.Codes
import HandS.CallLocal
import HandS.SortKw
import KE.SortData
import KE.DataMinMax
import PyProof.ListStr
import KE.OsSortAny
import PySem.Challenge.RW_twainkeep_k32_whole_states_by_deeds
set_option Elab.async false
set_option linter.all false
set_option maxRecDepth 100000
set_option maxHeartbeats 0
namespace Tw
open PySem PySem.Spec PyProof.Rows L2
def top (i : Nat) : Stmt := PySem.Challenge.pw_twainkeep_k32_whole_states_by_deeds.main.body.getD i (.Pass ⟨0, 0, 0, 0⟩)
end Tw
namespace TwHd
open PySem PySem.Spec PyProof.Rows L2 Tw
def dd (x : Str) (i : Nat) : He.DefD := ⟨(x, none), x, x, defArgs (top i), defBody (top i), defScope (top i), [], []⟩

def fn0 : List He.DefD := [dd "names_in" 8, dd "has_part" 9, dd "side_of" 10, dd "part_named" 11, dd "moments_of" 12, dd "link_of" 13, dd "stale_since" 15, dd "state_of" 16, dd "states" 17, dd "lacking" 18, dd "stale" 19, dd "in_step" 20, dd "parts_with" 22, dd "parts_without" 23, dd "parts_changed" 24, dd "rising_with" 25, dd "word_spans" 26, dd "names_with" 28, dd "names_without" 29, dd "side_changed" 30]
def fn1 : List He.DefD := [dd "links_exchanged" 31, dd "links_more" 32, dd "links_fewer" 33, dd "links_lost" 34, dd "with_side" 36, dd "look_behind" 37, dd "is_alone" 38, dd "put_done" 39, dd "take_done" 40, dd "part_done" 41, dd "join_done" 42, dd "move_done" 43, dd "text_changed" 44, dd "change_done" 45, dd "word_done" 46, dd "link_done" 47, dd "own_link" 48, dd "loose_done" 49, dd "step_done" 50, dd "alone_done" 51]
def fn2 : List He.DefD := [dd "lack_done" 52, dd "done" 54, dd "_law_mixed" 56, dd "_law_numbers" 57, dd "_law_next" 58, dd "_law_pool" 59, dd "_law_moment" 60, dd "_law_text" 61, dd "_law_same" 62, dd "_law_standing" 63, dd "_law_standings" 64, dd "_law_lacking" 65, dd "_law_stale" 66, dd "_law_world" 67, dd "_law_book_of" 68, dd "_law_side" 69, dd "_law_link_at" 70, dd "_law_behind" 71, dd "_law_late" 72, dd "_law_gone" 73]
def fn3 : List He.DefD := [dd "_law_worded" 74, dd "_law_does_parts" 75, dd "_law_does" 76, dd "_law_one_of" 77, dd "_law_fresh" 78, dd "_law_lone" 79, dd "_law_alike" 80, dd "_law_put" 81, dd "_law_link_deed" 82, dd "_law_named_deed" 83, dd "_law_deed" 84, dd "_law_some_deeds" 85, dd "_law_right" 86, dd "law" 87]
def fn : List He.DefD := fn0 ++ fn1 ++ fn2 ++ fn3
def fa0 : List He.Fa := [.glo "names_in", .glo "has_part", .glo "side_of", .glo "part_named", .glo "moments_of", .glo "link_of", .glo "stale_since", .glo "state_of", .glo "states", .glo "lacking", .glo "stale", .glo "in_step", .glo "parts_with", .glo "parts_without", .glo "parts_changed", .glo "rising_with", .glo "word_spans", .glo "names_with", .glo "names_without", .glo "side_changed"]
def fa1 : List He.Fa := [.glo "links_exchanged", .glo "links_more", .glo "links_fewer", .glo "links_lost", .glo "with_side", .glo "look_behind", .glo "is_alone", .glo "put_done", .glo "take_done", .glo "part_done", .glo "join_done", .glo "move_done", .glo "text_changed", .glo "change_done", .glo "word_done", .glo "link_done", .glo "own_link", .glo "loose_done", .glo "step_done", .glo "alone_done"]
def fa2 : List He.Fa := [.glo "lack_done", .glo "done", .glo "_law_mixed", .glo "_law_numbers", .glo "_law_next", .glo "_law_pool", .glo "_law_moment", .glo "_law_text", .glo "_law_same", .glo "_law_standing", .glo "_law_standings", .glo "_law_lacking", .glo "_law_stale", .glo "_law_world", .glo "_law_book_of", .glo "_law_side", .glo "_law_link_at", .glo "_law_behind", .glo "_law_late", .glo "_law_gone"]
def fa3 : List He.Fa := [.glo "_law_worded", .glo "_law_does_parts", .glo "_law_does", .glo "_law_one_of", .glo "_law_fresh", .glo "_law_lone", .glo "_law_alike", .glo "_law_put", .glo "_law_link_deed", .glo "_law_named_deed", .glo "_law_deed", .glo "_law_some_deeds", .glo "_law_right", .glo "law", .glo "DEEDS", .free "len", .free "list", .free "tuple", .free "sorted", .free "set"]
def fa4 : List He.Fa := [.free "min", .free "enumerate", .free "range", .free "zip", .free "isinstance", .free "int", .free "str", .free "bool", .free "all", .free "any", .free "sum"]
def fa : List He.Fa := fa0 ++ fa1 ++ fa2 ++ fa3 ++ fa4
def tabs : List He.Tab := [((fun K => He.ga K "DEEDS"), ["put", "take", "part", "join", "move", "change", "word", "link", "loose", "step", "alone", "lack"])]
def ln0 : List PySem.Str := ["TwainError", "NoPart", "NoPlace", "Twice", "Linked", "Apart", "names_in", "has_part", "side_of", "part_named", "moments_of", "link_of", "stale_since", "state_of", "states", "lacking", "stale", "in_step", "parts_with", "parts_without", "parts_changed", "rising_with", "word_spans", "names_with", "names_without", "side_changed", "links_exchanged", "links_more", "links_fewer", "links_lost"]
def ln1 : List PySem.Str := ["with_side", "look_behind", "is_alone", "put_done", "take_done", "part_done", "join_done", "move_done", "text_changed", "change_done", "word_done", "link_done", "own_link", "loose_done", "step_done", "alone_done", "lack_done", "DEEDS", "done", "_law_mixed", "_law_numbers", "_law_next", "_law_pool", "_law_moment", "_law_text", "_law_same", "_law_standing", "_law_standings", "_law_lacking", "_law_stale"]
def ln2 : List PySem.Str := ["_law_world", "_law_book_of", "_law_side", "_law_link_at", "_law_behind", "_law_late", "_law_gone", "_law_worded", "_law_does_parts", "_law_does", "_law_one_of", "_law_fresh", "_law_lone", "_law_alike", "_law_put", "_law_link_deed", "_law_named_deed", "_law_deed", "_law_some_deeds", "_law_right"]
def names : List PySem.Str := ln0 ++ ln1 ++ ln2


def kvs : List (Str × He.Dv) := [("put", .glo "put_done"), ("take", .glo "take_done"), ("part", .glo "part_done"), ("join", .glo "join_done"), ("move", .glo "move_done"), ("change", .glo "change_done"), ("word", .glo "word_done"), ("link", .glo "link_done"), ("loose", .glo "loose_done"), ("step", .glo "step_done"), ("alone", .glo "alone_done"), ("lack", .glo "lack_done")]
/-- what is looked at: defs, names, the table's keys and values -/
abbrev AlY : Type := He.AlT × Bool
def obsY (g : Addr → Option Obj) : AlY := (He.obsT fa fn tabs (He.frG g (He.asD g 2)), He.valsB (He.frG g (He.asD g 2)) (He.ga (He.frG g (He.asD g 2)) "DEEDS") kvs)
structure SaysY (w : World) (K : PySem.W.Frag) : Prop where
  t : He.SaysT fa fn tabs w K
  v : He.valsB K (He.ga K "DEEDS") kvs = true
def hk : PySem.W.Hook where
  α := AlY
  obs := fun s => obsY s.heap.get?
  val := fun w => (He.valT fn tabs w, true)
  says := fun w h => ∃ K : PySem.W.Frag, K.In h ∧ SaysY w K
  of := fun _ _ e => ⟨_, He.frG_in, ⟨congrArg (fun z : AlY => z.1) e, congrArg (fun z : AlY => z.2) e⟩⟩
  keeps := fun _ _ _ ⟨K, hK, c⟩ k => ⟨K, PySem.W.Frag.In.keeps hK k, c⟩
abbrev R : PySem.W.OpenRow := PySem.W.OpenLaw.row PySem.Challenge.rw_twainkeep_k32_whole_states_by_deeds
abbrev qv : Program := PySem.W.view R.prog [87]
def ob (s : PySem.W.SharedT) : AlY := obsY (HandSHeadRun.getT s)
theorem ob_eq (s : PySem.W.SharedT) : ob s = hk.obs s.abs := by
  have e : HandSHeadRun.getT s = s.abs.heap.get? := funext (HandSHeadRun.getT_eq s)
  show obsY (HandSHeadRun.getT s) = obsY s.abs.heap.get?
  rw [e]
theorem run_f (w : World) : HandSHeadRun.RunEq R qv hk ob 20000 names (w.withFollow "special-get-raises" false) := by
  intro os
  kernel_rfl
theorem run_t (w : World) : HandSHeadRun.RunEq R qv hk ob 20000 names (w.withFollow "special-get-raises" true) := by
  intro os
  kernel_rfl
theorem run (w : World) : HandSHeadRun.RunEq R qv hk ob 20000 names w := PySem.W.byRow2 "special-get-raises" run_f run_t w
end TwHd
namespace Tw
open PySem PySem.Spec PyProof.Rows L2

mutual
inductive Dat (K : PySem.W.Frag) (H : Hp) : V → PyData → Prop
  | non : Dat K H .non .none
  | bl (b : Bool) : Dat K H (.bl b) (.bool b)
  | int (i : Int) : Dat K H (.int i) (.int i)
  | str (x : Str) : Dat K H (.str x) (.str x)
  | tup {a : Addr} {xs : List V} {ds : List PyData} : SqT K H a xs → Dats K H xs ds → Dat K H (.ref a) (.tuple ds)
inductive Dats (K : PySem.W.Frag) (H : Hp) : List V → List PyData → Prop
  | nil : Dats K H [] []
  | cons {v : V} {vs : List V} {d : PyData} {ds : List PyData} : Dat K H v d → Dats K H vs ds → Dats K H (v :: vs) (d :: ds)
end

/-- what never changes is kept -/
def Kp (H H' : Hp) : Prop := (∀ a xs, H a = some (.tup xs) → H' a = some (.tup xs)) ∧ ∀ a o u, H a = some (.frz o u) → H' a = some (.frz o u)
theorem Kp.refl (H : Hp) : Kp H H := ⟨fun _ _ h => h, fun _ _ _ h => h⟩
theorem Kp.trans {H H1 H2 : Hp} (a : Kp H H1) (b : Kp H1 H2) : Kp H H2 := ⟨fun c xs h => b.1 c xs (a.1 c xs h), fun c o u h => b.2 c o u (a.2 c o u h)⟩
theorem kp_ex0 {H H' : Hp} (e : Evl.Ex H H') : Kp H H' := ⟨fun a xs h => e a _ h, fun a o u h => e a _ h⟩
theorem kp_new {H : Hp} {p : Addr} {o : HO} (h : H p = none) : Kp H (upd H p o) := kp_ex0 (Evl.Ex.new h)
theorem kp_upd {H : Hp} {p : Addr} {o : HO} (h1 : ∀ xs, H p ≠ some (.tup xs)) (h2 : ∀ q u, H p ≠ some (.frz q u)) : Kp H (upd H p o) := by
  refine ⟨fun a xs h => ?_, fun a q u h => ?_⟩
  · rw [upd_ne (fun e => by rw [e] at h; exact h1 xs h)]; exact h
  · rw [upd_ne (fun e => by rw [e] at h; exact h2 q u h)]; exact h
theorem kp_lst {H : Hp} {p : Addr} {xs : List V} {o : HO} (h : H p = some (.lst xs)) : Kp H (upd H p o) := kp_upd (fun ys e => by rw [h] at e; cases e) fun q u e => by rw [h] at e; cases e
theorem kp_dict {H : Hp} {p : Addr} {kvs : List (Key × V)} {o : HO} (h : H p = some (.dK kvs)) : Kp H (upd H p o) := kp_upd (fun ys e => by rw [h] at e; cases e) fun q u e => by rw [h] at e; cases e
theorem Kp.sqt {K : PySem.W.Frag} {H H' : Hp} {a : Addr} {xs : List V} (k : Kp H H') (h : SqT K H a xs) : SqT K H' a xs := by
  rcases h with (h | ⟨o, h⟩) | h
  · exact .inl (.inl (k.1 _ _ h))
  · exact .inl (.inr ⟨o, k.2 _ _ _ h⟩)
  · exact .inr h
section
variable {K : PySem.W.Frag} {H H' H0 : Hp}
mutual
theorem Dat.kp (k : Kp H H') : ∀ {d : PyData} {v : V}, Dat K H v d → Dat K H' v d
  | .none, _, h => by cases h; exact .non
  | .bool _, _, h => by cases h; exact .bl _
  | .int _, _, h => by cases h; exact .int _
  | .str _, _, h => by cases h; exact .str _
  | .list _, _, h => by cases h
  | .dict _, _, h => by cases h
  | .tuple ds, _, h => by
    cases h with
    | tup hs ha => exact .tup (k.sqt hs) (Dats.kp k ha)
theorem Dats.kp (k : Kp H H') : ∀ {ds : List PyData} {vs : List V}, Dats K H vs ds → Dats K H' vs ds
  | [], _, h => by cases h; exact .nil
  | d :: ds, _, h => by
    cases h with
    | cons h1 h2 => exact .cons (Dat.kp k h1) (Dats.kp k h2)
end
mutual
theorem Dat.dp : ∀ {d : PyData} {v : V}, Dat K H v d → Dp K H v d
  | .none, _, h => by cases h; exact .non
  | .bool _, _, h => by cases h; exact .bl _
  | .int _, _, h => by cases h; exact .int _
  | .str _, _, h => by cases h; exact .str _
  | .list _, _, h => by cases h
  | .dict _, _, h => by cases h
  | .tuple ds, _, h => by
    cases h with
    | tup hs ha => exact .tup hs (Dats.dp ha)
theorem Dats.dp : ∀ {ds : List PyData} {vs : List V}, Dats K H vs ds → DpAll K H vs ds
  | [], _, h => by cases h; exact .nil
  | d :: ds, _, h => by
    cases h with
    | cons h1 h2 => exact .cons (Dat.dp h1) (Dats.dp h2)
end
theorem Dats.len {ds : List PyData} {vs : List V} (h : Dats K H vs ds) : vs.length = ds.length := by
  induction ds generalizing vs with
  | nil => cases h; rfl
  | cons d ds ih => cases h with | cons _ h2 => rw [List.length_cons, List.length_cons, ih h2]
theorem Dats.get {ds : List PyData} {vs : List V} (h : Dats K H vs ds) : ∀ {i : Nat} {d : PyData}, ds[i]? = some d → ∃ v, vs[i]? = some v ∧ Dat K H v d := by
  induction ds generalizing vs with
  | nil => intro i d e; simp at e
  | cons x xs ih =>
    cases h with
    | cons h1 h2 =>
      intro i d e
      cases i with
      | zero => simp at e; subst e; exact ⟨_, rfl, h1⟩
      | succ i =>
        obtain ⟨v, e1, e2⟩ := ih h2 (by simpa using e)
        exact ⟨v, by simpa using e1, e2⟩
theorem Dats.get' {ds : List PyData} {vs : List V} (h : Dats K H vs ds) : ∀ {i : Nat} {v : V}, vs[i]? = some v → ∃ d, ds[i]? = some d ∧ Dat K H v d := by
  induction ds generalizing vs with
  | nil => cases h; intro i d e; simp at e
  | cons x xs ih =>
    cases h with
    | cons h1 h2 =>
      intro i d e
      cases i with
      | zero => simp at e; subst e; exact ⟨_, rfl, h1⟩
      | succ i =>
        obtain ⟨v, e1, e2⟩ := ih h2 (by simpa using e)
        exact ⟨v, by simpa using e1, e2⟩
theorem Dats.app {ds es : List PyData} {vs ws : List V} (h : Dats K H vs ds) (g : Dats K H ws es) : Dats K H (vs ++ ws) (ds ++ es) := by
  induction ds generalizing vs with
  | nil => cases h; exact g
  | cons x xs ih => cases h with | cons h1 h2 => exact .cons h1 (ih h2)
theorem Dats.take {ds : List PyData} {vs : List V} (h : Dats K H vs ds) : ∀ n, Dats K H (vs.take n) (ds.take n) := by
  induction ds generalizing vs with
  | nil => cases h; intro n; simp; exact .nil
  | cons x xs ih =>
    cases h with
    | cons h1 h2 =>
      intro n
      cases n with
      | zero => exact .nil
      | succ n => exact .cons h1 (ih h2 n)
theorem Dats.drop {ds : List PyData} {vs : List V} (h : Dats K H vs ds) : ∀ n, Dats K H (vs.drop n) (ds.drop n) := by
  induction ds generalizing vs with
  | nil => cases h; intro n; simp; exact .nil
  | cons x xs ih =>
    cases h with
    | cons h1 h2 =>
      intro n
      cases n with
      | zero => exact .cons h1 h2
      | succ n => exact ih h2 n
theorem dats_str : ∀ {ns : List Str}, Dats K H (ns.map V.str) (ns.map PyData.str)
  | [] => .nil
  | n :: ns => .cons (.str n) dats_str
theorem dats_int : ∀ {ns : List Int}, Dats K H (ns.map V.int) (ns.map PyData.int)
  | [] => .nil
  | n :: ns => .cons (.int n) dats_int
theorem str_dats : ∀ {ns : List Str} {vs : List V}, Dats K H vs (ns.map PyData.str) → vs = ns.map V.str
  | [], _, h => by cases h; rfl
  | n :: ns, _, h => by
    cases h with
    | cons h1 h2 => cases h1; rw [str_dats h2]; rfl
theorem int_dats : ∀ {ns : List Int} {vs : List V}, Dats K H vs (ns.map PyData.int) → vs = ns.map V.int
  | [], _, h => by cases h; rfl
  | n :: ns, _, h => by
    cases h with
    | cons h1 h2 => cases h1; rw [int_dats h2]; rfl
theorem bl_dats : ∀ {ns : List Bool} {vs : List V}, Dats K H vs (ns.map PyData.bool) → vs = ns.map V.bl
  | [], _, h => by cases h; rfl
  | n :: ns, _, h => by
    cases h with
    | cons h1 h2 => cases h1; rw [bl_dats h2]; rfl
/-- flat data -/
def flatD : PyData → Bool
  | .none => true | .bool _ => true | .int _ => true | .str _ => true | _ => false
theorem flat_dat {d : PyData} {v : V} (h : Dat K H v d) : flatV v = flatD d := by cases h <;> rfl
theorem flat_dats {ds : List PyData} {vs : List V} (h : Dats K H vs ds) : vs.all flatV = ds.all flatD := by
  induction ds generalizing vs with
  | nil => cases h; rfl
  | cons x xs ih => cases h with | cons h1 h2 => rw [List.all_cons, List.all_cons, flat_dat h1, ih h2]
theorem eqv_dat {d e : PyData} {v u : V} (h : Dat K H v d) (g : Dat K H u e) (hd : flatD d = true) (he : flatD e = true) : eqV v u = PyData.eqv d e := by
  cases h <;> cases g <;> first | rfl | (simp [eqV, PyData.eqv]; done) | cases hd | cases he
def memD (d : PyData) (ds : List PyData) : Bool := ds.any fun z => PyData.eqv z d
theorem mem_dats {d : PyData} {ds : List PyData} {v : V} {vs : List V} (h : Dat K H v d) (g : Dats K H vs ds) (hd : flatD d = true) (hs : ds.all flatD = true) : inV v vs = memD d ds := by
  unfold inV memD
  induction ds generalizing vs with
  | nil => cases g; rfl
  | cons x xs ih =>
    cases g with
    | cons h1 h2 =>
      rw [List.all_cons, Bool.and_eq_true] at hs
      rw [List.any_cons, List.any_cons, ih h2 hs.2, eqv_dat h1 h hs.1 hd]
end


/-- the box: a list of numbers, a count, a number -/
def BoxAt (H : Hp) (b p : Addr) : Prop := ∃ (ns : List Int) (i x : Int), H b = some (.lst [.ref p, .int i, .int x]) ∧ H p = some (.lst (ns.map V.int)) ∧ ns.length = 1500 ∧ (∀ k ∈ ns, 0 ≤ k ∧ k < 2147483648) ∧ 0 ≤ i ∧ 0 ≤ x ∧ x < 2147483648
theorem BoxAt.of {H H' : Hp} {b p : Addr} (h : BoxAt H b p) (k : ∀ a o, (a = b ∨ a = p) → H a = some o → H' a = some o) : BoxAt H' b p := by
  obtain ⟨ns, i, x, h1, h2, r⟩ := h
  exact ⟨ns, i, x, k _ _ (.inl rfl) h1, k _ _ (.inr rfl) h2, r⟩
theorem BoxAt.b {H : Hp} {b p : Addr} (h : BoxAt H b p) : H b ≠ none := by obtain ⟨ns, i, x, h1, h2, r⟩ := h; rw [h1]; exact fun e => nomatch e
theorem BoxAt.p {H : Hp} {b p : Addr} (h : BoxAt H b p) : H p ≠ none := by obtain ⟨ns, i, x, h1, h2, r⟩ := h; rw [h2]; exact fun e => nomatch e
/-- all stays but the boxes of M, which stay boxes -/
structure Xm (M : Addr → Prop) (H H' : Hp) : Prop where
  k : ∀ a o, ¬ M a → H a = some o → H' a = some o
  t : Kp H H'
  b : ∀ b p, M b → ¬ M p → BoxAt H b p → BoxAt H' b p
structure Xs (M : Addr → Prop) (H0 H : Hp) : Prop where
  e : Xm M H0 H
  ok0 : ∀ b, M b → ∃ p, ¬ M p ∧ BoxAt H0 b p
section
variable {M : Addr → Prop} {H H' H0 H1 H2 : Hp}
theorem Xm.refl (H : Hp) : Xm M H H := ⟨fun _ _ _ h => h, Kp.refl H, fun _ _ _ _ h => h⟩
theorem Xm.trans (a : Xm M H H1) (b : Xm M H1 H2) : Xm M H H2 := ⟨fun x o n h => b.k x o n (a.k x o n h), a.t.trans b.t, fun x p m n h => b.b x p m n (a.b x p m n h)⟩
theorem Xm.of (e : Evl.Ex H H') : Xm M H H' := ⟨fun a o _ h => e a o h, kp_ex0 e, fun b p _ _ h => h.of fun a o _ q => e a o q⟩
theorem Xm.new {p : Addr} {o : HO} (h : H p = none) : Xm M H (upd H p o) := Xm.of (Evl.Ex.new h)
theorem Xm.mut {p : Addr} {o : HO} (e : Xm M H H') (h : H p = none) (hk : Kp H' (upd H' p o)) : Xm M H (upd H' p o) where
  k := fun a u n g => by rw [upd_ne (ne_of_none g h)]; exact e.k a u n g
  t := e.t.trans hk
  b := fun b q m n g => (e.b b q m n g).of fun a u r x => by
    have : a ≠ p := by
      rintro rfl
      rcases r with r | r
      · subst r; exact g.b h
      · subst r; exact g.p h
    rw [upd_ne this]; exact x
theorem kp_ex (e : Xm M H H') : Kp H H' := e.t
theorem Xs.trans (a : Xs M H0 H) (b : Xm M H H') : Xs M H0 H' := ⟨a.e.trans b, a.ok0⟩
theorem Xs.ok (a : Xs M H0 H) : ∀ b, M b → ∃ p, ¬ M p ∧ BoxAt H b p := fun b m => by
  obtain ⟨p, n, h⟩ := a.ok0 b m
  exact ⟨p, n, a.e.b b p m n h⟩
theorem Xs.self (a : Xs M H0 H) : Xs M H H := ⟨Xm.refl H, a.ok⟩
theorem Xs.notM {p : Addr} (a : Xs M H0 H) (h : H p = none) : ¬ M p := fun m => by
  obtain ⟨q, n, g⟩ := a.ok p m
  exact g.b h
theorem Xs.back {p : Addr} (a : Xs M H0 H) (h : H p = none) : H0 p = none := by
  cases e : H0 p with
  | none => rfl
  | some o => rw [a.e.k p o (a.notM h) e] at h; cases h
theorem Xs.ofM {b : Addr} (a : Xs M H0 H) (m : M b) : H0 b ≠ none := by
  obtain ⟨q, n, g⟩ := a.ok0 b m
  exact g.b
theorem Dat.ex {K : PySem.W.Frag} {d : PyData} {v : V} (e : Xm M H H') (h : Dat K H v d) : Dat K H' v d := h.kp e.t
theorem Dats.ex {K : PySem.W.Frag} {ds : List PyData} {vs : List V} (e : Xm M H H') (h : Dats K H vs ds) : Dats K H' vs ds := h.kp e.t
end
inductive MD where
  | d (x : PyData) | l (ts : List MD) | k (ks : List Str) (ts : List MD)
abbrev mL (ds : List PyData) : MD := .l (ds.map MD.d)
def kvz (ks : List Str) (xs : List V) : List (Key × V) := (ks.zip xs).map fun p => (Sum.inr p.1, p.2)
mutual
inductive Md (K : PySem.W.Frag) (C : Addr → Prop) (H : Hp) : V → MD → Prop
  | d {v : V} {x : PyData} : Dat K H v x → Md K C H v (.d x)
  | l {p : Addr} {xs : List V} {ts : List MD} : C p → H p = some (.lst xs) → Mds K C H xs ts → Md K C H (.ref p) (.l ts)
  | k {p : Addr} {ks : List Str} {xs : List V} {ts : List MD} : C p → H p = some (.dK (kvz ks xs)) → Mds K C H xs ts → Md K C H (.ref p) (.k ks ts)
inductive Mds (K : PySem.W.Frag) (C : Addr → Prop) (H : Hp) : List V → List MD → Prop
  | nil : Mds K C H [] []
  | cons {v : V} {vs : List V} {t : MD} {ts : List MD} : Md K C H v t → Mds K C H vs ts → Mds K C H (v :: vs) (t :: ts)
end
section
variable {K : PySem.W.Frag} {C C' : Addr → Prop} {H H' : Hp}
mutual
theorem Md.kp (k : Kp H H') (c : ∀ p o, C p → H p = some o → C' p ∧ H' p = some o) : ∀ {t : MD} {v : V}, Md K C H v t → Md K C' H' v t
  | .d _, _, h => by cases h with | d h => exact .d (h.kp k)
  | .l ts, _, h => by
    cases h with
    | l a b r => exact .l (c _ _ a b).1 (c _ _ a b).2 (Mds.kp k c r)
  | .k ks ts, _, h => by
    cases h with
    | k a b r => exact .k (c _ _ a b).1 (c _ _ a b).2 (Mds.kp k c r)
theorem Mds.kp (k : Kp H H') (c : ∀ p o, C p → H p = some o → C' p ∧ H' p = some o) : ∀ {ts : List MD} {vs : List V}, Mds K C H vs ts → Mds K C' H' vs ts
  | [], _, h => by cases h; exact .nil
  | t :: ts, _, h => by
    cases h with
    | cons a b => exact .cons (Md.kp k c a) (Mds.kp k c b)
end
theorem Mds.len {ts : List MD} {vs : List V} (h : Mds K C H vs ts) : vs.length = ts.length := by
  induction ts generalizing vs with
  | nil => cases h; rfl
  | cons d ds ih => cases h with | cons _ h2 => rw [List.length_cons, List.length_cons, ih h2]
theorem Mds.get {ts : List MD} {vs : List V} (h : Mds K C H vs ts) : ∀ {i : Nat} {t : MD}, ts[i]? = some t → ∃ v, vs[i]? = some v ∧ Md K C H v t := by
  induction ts generalizing vs with
  | nil => intro i d e; simp at e
  | cons x xs ih =>
    cases h with
    | cons h1 h2 =>
      intro i d e
      cases i with
      | zero => simp at e; subst e; exact ⟨_, rfl, h1⟩
      | succ i =>
        obtain ⟨v, e1, e2⟩ := ih h2 (by simpa using e)
        exact ⟨v, by simpa using e1, e2⟩
theorem Mds.get' {ts : List MD} {vs : List V} (h : Mds K C H vs ts) : ∀ {i : Nat} {v : V}, vs[i]? = some v → ∃ t, ts[i]? = some t ∧ Md K C H v t := by
  induction ts generalizing vs with
  | nil => cases h; intro i d e; simp at e
  | cons x xs ih =>
    cases h with
    | cons h1 h2 =>
      intro i d e
      cases i with
      | zero => simp at e; subst e; exact ⟨_, rfl, h1⟩
      | succ i =>
        obtain ⟨v, e1, e2⟩ := ih h2 (by simpa using e)
        exact ⟨v, by simpa using e1, e2⟩
theorem Mds.dats : ∀ {ds : List PyData} {vs : List V}, Mds K C H vs (ds.map MD.d) → Dats K H vs ds
  | [], _, h => by cases h; exact .nil
  | d :: ds, _, h => by
    cases h with
    | cons a b => cases a with | d a => exact .cons a (Mds.dats b)
theorem Mds.of_dats : ∀ {ds : List PyData} {vs : List V}, Dats K H vs ds → Mds K C H vs (ds.map MD.d)
  | [], _, h => by cases h; exact .nil
  | d :: ds, _, h => by
    cases h with
    | cons a b => exact .cons (.d a) (Mds.of_dats b)
end

/-- d: data; l: a list of data that was there at the entry; r: an address; o: a list of data that was not there at the entry; u: such a list, one's own, that may grow; m: a tree that was there; n: a tree; t: a built-in class; b: the box -/
inductive Sv where
  | d (x : PyData) | l (xs : List PyData) | r (a : Addr) | o (xs : List PyData) | u (xs : List PyData) | m (t : MD) | n (t : MD) | ty (n : String) | b | q (xs : List PyData)
/-- a list that never changes -/
def FzL (K : PySem.W.Frag) (H : Hp) (a : Addr) (xs : List V) : Prop := (∃ o, H a = some (.frz o (.lst xs))) ∨
    ∃ (o : Obj) (its : Array Value) (n : Nat), K.lookup a = some o ∧ o.cls = .type "list" ∧ o.dict = none ∧ o.data = .seq its n ∧ its.size ≤ sizeLine ∧ Vals xs its.toList
theorem FzL.kp {K : PySem.W.Frag} {H H' : Hp} {a : Addr} {xs : List V} (k : Kp H H') (h : FzL K H a xs) : FzL K H' a xs := by
  rcases h with ⟨o, h⟩ | h
  · exact .inl ⟨o, k.2 _ _ _ h⟩
  · exact .inr h
def Sv.weak : Sv → Sv
  | .o xs => .l xs
  | .u xs => .l xs
  | .n t => .m t
  | s => s
def Sv.lst? : Sv → Option (List PyData)
  | .l xs => some xs
  | .o xs => some xs
  | .u xs => some xs
  | _ => none
def Sv.isU : Sv → Bool
  | .u _ => true
  | _ => false
/-- may be handed back -/
def Sv.isR : Sv → Bool
  | .d _ => true
  | .o _ => true
  | .n _ => true
  | _ => false
def Hs (K : PySem.W.Frag) (M : Addr → Prop) (H0 H : Hp) (v : V) : Sv → Prop
  | .d x => Dat K H v x
  | .l ds => ∃ p xs, v = .ref p ∧ ¬ M p ∧ H0 p ≠ none ∧ H p = some (.lst xs) ∧ Dats K H xs ds
  | .r a => v = .ref a
  | .ty n => v = .ty n
  | .o ds => ∃ p xs, v = .ref p ∧ ¬ M p ∧ H0 p = none ∧ H p = some (.lst xs) ∧ Dats K H xs ds
  | .u ds => ∃ p xs, v = .ref p ∧ ¬ M p ∧ H0 p = none ∧ H p = some (.lst xs) ∧ Dats K H xs ds
  | .m t => Md K (fun p => ¬ M p ∧ H0 p ≠ none) H v t
  | .n t => Md K (fun p => ¬ M p) H v t
  | .b => ∃ b, v = .ref b ∧ M b
  | .q ds => ∃ a us, v = .ref a ∧ FzL K H a us ∧ Dats K H us ds
section
variable {K : PySem.W.Frag} {M : Addr → Prop} {H H' H0 H1 : Hp} {v : V} {s : Sv}
theorem Hs.ex (e : Xm M H H') (h : Hs K M H0 H v s) : Hs K M H0 H' v s := by
  cases s with
  | d x => exact Dat.ex e h
  | l ds => obtain ⟨p, xs, a, m, z, b, c⟩ := h; exact ⟨p, xs, a, m, z, e.k _ _ m b, c.ex e⟩
  | r a => exact h
  | ty n => exact h
  | o ds => obtain ⟨p, xs, a, m, z, b, c⟩ := h; exact ⟨p, xs, a, m, z, e.k _ _ m b, c.ex e⟩
  | u ds => obtain ⟨p, xs, a, m, z, b, c⟩ := h; exact ⟨p, xs, a, m, z, e.k _ _ m b, c.ex e⟩
  | m t => exact Md.kp e.t (fun p o c g => ⟨c, e.k _ _ c.1 g⟩) h
  | n t => exact Md.kp e.t (fun p o c g => ⟨c, e.k _ _ c g⟩) h
  | b => exact h
  | q ds =>
    obtain ⟨p, us, a, h, c⟩ := h
    exact ⟨p, us, a, h.kp e.t, c.ex e⟩
/-- seen from now on -/
theorem Hs.weak (h : Hs K M H0 H v s) : Hs K M H H v s.weak := by
  have nn : ∀ {p : Addr} {o : HO}, H p = some o → H p ≠ none := fun g e => by rw [g] at e; cases e
  cases s with
  | d x => exact h
  | l ds => obtain ⟨p, xs, a, m, z, b, c⟩ := h; exact ⟨p, xs, a, m, nn b, b, c⟩
  | r a => exact h
  | ty n => exact h
  | o ds => obtain ⟨p, xs, a, m, z, b, c⟩ := h; exact ⟨p, xs, a, m, nn b, b, c⟩
  | u ds => obtain ⟨p, xs, a, m, z, b, c⟩ := h; exact ⟨p, xs, a, m, nn b, b, c⟩
  | m t => exact Md.kp (Kp.refl H) (fun p o c g => ⟨⟨c.1, nn g⟩, g⟩) h
  | n t => exact Md.kp (Kp.refl H) (fun p o c g => ⟨⟨c, nn g⟩, g⟩) h
  | b => exact h
  | q ds => exact h
/-- seen from an earlier entry -/
theorem Hs.back (hr : s.isR = true) (e : Xs M H1 H0) (h : Hs K M H0 H v s) : Hs K M H1 H v s := by
  cases s with
  | d x => exact h
  | o ds => obtain ⟨p, xs, a, m, z, b, c⟩ := h; exact ⟨p, xs, a, m, e.back z, b, c⟩
  | n t => exact h
  | l ds => cases hr
  | r a => cases hr
  | ty n => cases hr
  | u ds => cases hr
  | m t => cases hr
  | b => cases hr
  | q _ => cases hr
theorem Hs.seq {ds : List PyData} (h : Hs K M H0 H v s) (e : s.lst? = some ds) : ∃ p xs, v = .ref p ∧ ¬ M p ∧ H p = some (.lst xs) ∧ Dats K H xs ds := by
  cases s with
  | d x => cases e
  | r a => cases e
  | ty n => cases e
  | m n => cases e
  | n n => cases e
  | b => cases e
  | q _ => cases e
  | l ds' => cases e; obtain ⟨p, xs, a, m, z, b, c⟩ := h; exact ⟨p, xs, a, m, b, c⟩
  | o ds' => cases e; obtain ⟨p, xs, a, m, z, b, c⟩ := h; exact ⟨p, xs, a, m, b, c⟩
  | u ds' => cases e; obtain ⟨p, xs, a, m, z, b, c⟩ := h; exact ⟨p, xs, a, m, b, c⟩
theorem Hs.ml {ds : List PyData} (h : Hs K M H0 H v (.m (mL ds))) : Hs K M H0 H v (.l ds) := by
  have h' : Md K (fun p => ¬ M p ∧ H0 p ≠ none) H v (.l (ds.map MD.d)) := h
  cases h' with
  | l a b c => exact ⟨_, _, rfl, a.1, a.2, b, c.dats⟩
theorem Hs.lm {ds : List PyData} (h : Hs K M H0 H v (.l ds)) : Hs K M H0 H v (.m (mL ds)) := by
  obtain ⟨p, xs, rfl, m, z, b, c⟩ := h
  exact Md.l ⟨m, z⟩ b (Mds.of_dats c)
theorem Hs.md {d : PyData} (h : Hs K M H0 H v (.m (.d d))) : Hs K M H0 H v (.d d) := by
  have h' : Md K (fun p => ¬ M p ∧ H0 p ≠ none) H v (.d d) := h
  cases h' with
  | d a => exact a
/-- any slot but an own list, an address, the box: as a tree -/
def Sv.md? : Sv → Option MD
  | .d x => some (.d x)
  | .l xs => some (mL xs)
  | .o xs => some (mL xs)
  | .m t => some t
  | .n t => some t
  | _ => none
theorem Hs.tree {t : MD} (h : Hs K M H0 H v s) (e : s.md? = some t) : Hs K M H0 H v (.n t) := by
  cases s with
  | d x => cases e; exact Md.d h
  | r a => cases e
  | ty n => cases e
  | b => cases e
  | q _ => cases e
  | u _ => cases e
  | l ds => cases e; obtain ⟨p, xs, rfl, m, z, b, c⟩ := h; exact Md.l m b (Mds.of_dats c)
  | o ds => cases e; obtain ⟨p, xs, rfl, m, z, b, c⟩ := h; exact Md.l m b (Mds.of_dats c)
  | m n => cases e; exact Md.kp (Kp.refl H) (fun p o c g => ⟨c.1, g⟩) h
  | n n => cases e; exact h
end
inductive HsA (K : PySem.W.Frag) (M : Addr → Prop) (H0 H : Hp) : List V → List Sv → Prop
  | nil : HsA K M H0 H [] []
  | cons {v : V} {vs : List V} {s : Sv} {ss : List Sv} : Hs K M H0 H v s → HsA K M H0 H vs ss → HsA K M H0 H (v :: vs) (s :: ss)
section
variable {K : PySem.W.Frag} {M : Addr → Prop} {H H' H0 H1 : Hp} {vs : List V} {ss : List Sv}
theorem HsA.ex (e : Xm M H H') (h : HsA K M H0 H vs ss) : HsA K M H0 H' vs ss := by
  induction h with
  | nil => exact .nil
  | cons a _ ih => exact .cons (a.ex e) ih
theorem HsA.weak (h : HsA K M H0 H vs ss) : HsA K M H H vs (ss.map Sv.weak) := by
  induction h with
  | nil => exact .nil
  | cons a _ ih => exact .cons a.weak ih
theorem HsA.len (h : HsA K M H0 H vs ss) : vs.length = ss.length := by
  induction h with
  | nil => rfl
  | cons _ _ ih => rw [List.length_cons, List.length_cons, ih]
theorem HsA.dats : ∀ {ds : List PyData} {vs : List V}, HsA K M H0 H vs (ds.map Sv.d) → Dats K H vs ds
  | [], _, h => by cases h; exact .nil
  | d :: ds, _, h => by
    cases h with
    | cons a b => exact .cons a (HsA.dats b)
theorem HsA.of_dats : ∀ {ds : List PyData} {vs : List V}, Dats K H vs ds → HsA K M H0 H vs (ds.map Sv.d)
  | [], _, h => by cases h; exact .nil
  | d :: ds, _, h => by
    cases h with
    | cons a b => exact .cons a (HsA.of_dats b)
end

abbrev G := List (Option Sv)
structure En (K : PySem.W.Frag) (M : Addr → Prop) (H0 H : Hp) (σ : L2.St) (γ : G) : Prop where
  len : σ.length = γ.length
  get : ∀ (i : Nat) (s : Sv), γ[i]? = some (some s) → ∃ v, σ[i]? = some (some v) ∧ Hs K M H0 H v s
  uni : ∀ (i j : Nat) (ds es : List PyData) (v : V), i ≠ j → γ[i]? = some (some (.u ds)) → γ[j]? = some (some (.u es)) → σ[i]? = some (some v) → σ[j]? ≠ some (some v)
/-- slots forgotten -/
def wipeG (γ : G) : List Nat → G
  | [] => γ
  | v :: vs => (wipeG γ vs).set v none
/-- lists forgotten -/
def noO : Option Sv → Option Sv
  | some (.o _) => none
  | some (.n _) => none
  | s => s
section
variable {K : PySem.W.Frag} {M : Addr → Prop} {H H' H0 H1 : Hp} {σ : L2.St} {γ : G}
theorem En.ex (e : Xm M H H') (h : En K M H0 H σ γ) : En K M H0 H' σ γ := ⟨h.len, fun i s g => let ⟨v, a, b⟩ := h.get i s g; ⟨v, a, b.ex e⟩, h.uni⟩
theorem get_set_ne {α : Type} {l : List α} {i j : Nat} {x y : α} (h : (l.set i x)[j]? = some y) (hj : i ≠ j) : l[j]? = some y := by rw [List.getElem?_set_ne hj] at h; exact h
theorem get_set_eq {α : Type} {l : List α} {i : Nat} {x y : α} (h : (l.set i x)[i]? = some y) : y = x ∧ i < l.length := by
  by_cases hi : i < l.length
  · rw [List.getElem?_set_self hi] at h; exact ⟨(Option.some.inj h).symm, hi⟩
  · rw [List.getElem?_eq_none (by rw [List.length_set]; omega)] at h; cases h
/-- a slot is set: of its own kind -/
theorem En.setU {i : Nat} {v : V} {s : Sv} (h : En K M H0 H σ γ) (hv : Hs K M H0 H v s) (hu : s.isU = true → ∀ (j : Nat) (es : List PyData), j ≠ i → γ[j]? = some (some (.u es)) → σ[j]? ≠ some (some v)) : En K M H0 H (σ.set i (some v)) (γ.set i (some s)) := by
  refine ⟨by rw [List.length_set, List.length_set, h.len], fun j t e => ?_, fun j k ds es w hjk e1 e2 f1 f2 => ?_⟩
  · by_cases hj : i = j
    · subst hj
      obtain ⟨e, hi⟩ := get_set_eq e
      cases e
      exact ⟨v, List.getElem?_set_self (by rw [h.len]; exact hi), hv⟩
    · obtain ⟨u, a, b⟩ := h.get j t (get_set_ne e hj)
      exact ⟨u, by rw [List.getElem?_set_ne hj]; exact a, b⟩
  · by_cases hj : i = j
    · subst hj
      obtain ⟨e, _⟩ := get_set_eq e1
      cases e
      obtain ⟨f, _⟩ := get_set_eq f1
      cases f
      exact hu rfl k es (Ne.symm hjk) (get_set_ne e2 hjk) (get_set_ne f2 hjk)
    · by_cases hk : i = k
      · subst hk
        obtain ⟨e, _⟩ := get_set_eq e2
        cases e
        obtain ⟨f, _⟩ := get_set_eq f2
        cases f
        exact hu rfl j ds hjk (get_set_ne e1 hj) (get_set_ne f1 hj)
      · exact h.uni j k ds es w hjk (get_set_ne e1 hj) (get_set_ne e2 hk) (get_set_ne f1 hj) (get_set_ne f2 hk)
theorem En.set {i : Nat} {v : V} {s : Sv} (h : En K M H0 H σ γ) (hv : Hs K M H0 H v s) (hs : s.isU = false) : En K M H0 H (σ.set i (some v)) (γ.set i (some s)) := h.setU hv fun e => by rw [hs] at e; cases e
theorem En.clear {i : Nat} {x : Option V} (h : En K M H0 H σ γ) : En K M H0 H (σ.set i x) (γ.set i none) := by
  refine ⟨by rw [List.length_set, List.length_set, h.len], fun j t e => ?_, fun j k ds es w hjk e1 e2 f1 f2 => ?_⟩
  · by_cases hj : i = j
    · subst hj
      obtain ⟨e, hi⟩ := get_set_eq e
      cases e
    · obtain ⟨u, a, b⟩ := h.get j t (get_set_ne e hj)
      exact ⟨u, by rw [List.getElem?_set_ne hj]; exact a, b⟩
  · by_cases hj : i = j
    · subst hj
      obtain ⟨e, _⟩ := get_set_eq e1
      cases e
    · by_cases hk : i = k
      · subst hk
        obtain ⟨e, _⟩ := get_set_eq e2
        cases e
      · exact h.uni j k ds es w hjk (get_set_ne e1 hj) (get_set_ne e2 hk) (get_set_ne f1 hj) (get_set_ne f2 hk)
theorem En.wipe (h : En K M H0 H σ γ) : ∀ vs : List Nat, En K M H0 H (wipe σ vs) (wipeG γ vs)
  | [] => h
  | v :: vs => (h.wipe vs).clear
theorem En.sub {γ' : G} (h : En K M H0 H σ γ) (hl : γ'.length = γ.length) (hg : ∀ (i : Nat) (s : Sv), γ'[i]? = some (some s) → γ[i]? = some (some s)) : En K M H0 H σ γ' :=
  ⟨h.len.trans hl.symm, fun i s e => h.get i s (hg i s e), fun i j ds es v n e1 e2 f1 => h.uni i j ds es v n (hg _ _ e1) (hg _ _ e2) f1⟩
theorem noO_get {j : Nat} {t : Sv} (e : (γ.map noO)[j]? = some (some t)) : γ[j]? = some (some t) ∧ (∀ xs, t ≠ .o xs) ∧ ∀ x, t ≠ .n x := by
  rw [List.getElem?_map] at e
  cases q : γ[j]? with
  | none => rw [q] at e; cases e
  | some o =>
    rw [q] at e
    cases o with
    | none => cases e
    | some t' =>
      cases t' with
      | o xs => cases e
      | n xs => cases e
      | _ => cases e; exact ⟨rfl, (fun _ z => nomatch z), (fun _ z => nomatch z)⟩
/-- an own list is changed -/
theorem En.grow {i : Nat} {p : Addr} {ds es : List PyData} {xs ys : List V} (e0 : Xs M H0 H) (h : En K M H0 H σ γ) (hi : γ[i]? = some (some (.u ds))) (hσ : σ[i]? = some (some (.ref p))) (hp : H p = some (.lst xs)) (hy : Dats K H ys es) :
    En K M H0 (upd H p (.lst ys)) σ ((γ.map noO).set i (some (.u es))) := by
  have kk := kp_lst (o := HO.lst ys) hp
  obtain ⟨v, hv, p', xs', rfl, hm, h0, hp', hx⟩ := h.get i _ hi
  rw [hσ] at hv
  cases hv
  have ne0 : ∀ q, H0 q ≠ none → q ≠ p := fun q g e => g (e ▸ h0)
  refine ⟨by rw [List.length_set, List.length_map, h.len], fun j t e => ?_, fun j k ds1 es1 w hjk e1 e2 f1 f2 => ?_⟩
  · by_cases hj : i = j
    · subst hj
      obtain ⟨e, _⟩ := get_set_eq e
      cases e
      exact ⟨_, hσ, p, ys, rfl, hm, h0, upd_same, hy.kp kk⟩
    · obtain ⟨e, no, nn⟩ := noO_get (get_set_ne e hj)
      obtain ⟨u, a, b⟩ := h.get j t e
      refine ⟨u, a, ?_⟩
      cases t with
      | d x => exact Dat.kp kk b
      | r a => exact b
      | ty n => exact b
      | b => exact b
      | o xs => exact absurd rfl (no xs)
      | n x => exact absurd rfl (nn x)
      | l ls =>
        obtain ⟨q, zs, a1, m, z, b1, c⟩ := b
        exact ⟨q, zs, a1, m, z, by rw [upd_ne (ne0 q z)]; exact b1, c.kp kk⟩
      | m t => exact Md.kp kk (fun q o c g => ⟨c, by rw [upd_ne (ne0 q c.2)]; exact g⟩) b
      | q ls =>
        obtain ⟨q, zs, a1, h1, c⟩ := b
        exact ⟨q, zs, a1, h1.kp kk, c.kp kk⟩
      | u ls =>
        obtain ⟨q, zs, rfl, m, z, b1, c⟩ := b
        have nq : q ≠ p := fun e2 => h.uni i j ds ls (.ref p) hj hi e hσ (by rw [← e2]; exact a)
        exact ⟨q, zs, rfl, m, z, by rw [upd_ne nq]; exact b1, c.kp kk⟩
  · have key : ∀ (j : Nat) (ds1 : List PyData), ((γ.map noO).set i (some (.u es)))[j]? = some (some (.u ds1)) → ∃ ds2, γ[j]? = some (some (.u ds2)) := fun j ds1 e => by
      by_cases hj : i = j
      · subst hj; exact ⟨_, hi⟩
      · exact ⟨_, (noO_get (get_set_ne e hj)).1⟩
    obtain ⟨d1, g1⟩ := key j ds1 e1
    obtain ⟨d2, g2⟩ := key k es1 e2
    exact h.uni j k d1 d2 w hjk g1 g2 f1 f2
theorem En.start0 : ∀ {vs : List V} {ss : List Sv}, HsA K M H0 H vs ss → ∀ n : Nat, (vs.map some ++ List.replicate n none : L2.St).length = (ss.map some ++ List.replicate n none : G).length ∧
    ∀ (i : Nat) (s : Sv), (ss.map some ++ List.replicate n none : G)[i]? = some (some s) → ∃ v, (vs.map some ++ List.replicate n none : L2.St)[i]? = some (some v) ∧ Hs K M H0 H v s
  | _, _, .nil, n => ⟨by simp, fun i s e => by
    rw [List.map_nil, List.nil_append] at e
    obtain ⟨_, e2⟩ := List.getElem?_eq_some_iff.mp e
    rw [List.getElem_replicate] at e2
    cases e2⟩
  | _, _, .cons (v := v) (s := s) a b, n => by
    have ih := En.start0 b n
    refine ⟨by
      have := ih.1
      simp only [List.map_cons, List.cons_append, List.length_cons]
      rw [this], fun i t e => ?_⟩
    cases i with
    | zero =>
      simp only [List.map_cons, List.cons_append, List.getElem?_cons_zero] at e
      cases e
      exact ⟨v, rfl, a⟩
    | succ i =>
      simp only [List.map_cons, List.cons_append, List.getElem?_cons_succ] at e
      obtain ⟨u, c, d⟩ := ih.2 i t e
      exact ⟨u, by simpa using c, d⟩
theorem En.start {vs : List V} {ss : List Sv} (h : HsA K M H H vs ss) (n : Nat) : En K M H H (vs.map some ++ List.replicate n none) (ss.map some ++ List.replicate n none) where
  len := (En.start0 h n).1
  get := (En.start0 h n).2
  uni := fun i j ds es v n1 e1 _ _ => by
    obtain ⟨_, _, p, xs, _, _, z, b, _⟩ := (En.start0 h n).2 i _ e1
    rw [b] at z
    cases z
/-- from now on: what was new is old -/
def oldS : Option Sv → Option Sv
  | some (.u xs) => some (.l xs)
  | some s => some s.weak
  | none => none
theorem En.old (h : En K M H0 H σ γ) : En K M H H σ (γ.map (Option.map Sv.weak)) := by
  refine ⟨by rw [List.length_map]; exact h.len, fun i s e => ?_, fun i j ds es v n e1 _ _ => ?_⟩
  · rw [List.getElem?_map] at e
    cases q : γ[i]? with
    | none => rw [q] at e; cases e
    | some o =>
      rw [q] at e
      cases o with
      | none => cases e
      | some t =>
        cases e
        obtain ⟨v, a, b⟩ := h.get i _ q
        exact ⟨v, a, b.weak⟩
  · rw [List.getElem?_map] at e1
    cases q : γ[i]? with
    | none => rw [q] at e1; cases e1
    | some o =>
      rw [q] at e1
      cases o with
      | none => cases e1
      | some t => cases t <;> cases e1
end
end Tw
namespace Tw
open PySem PySem.Spec PyProof.Rows L2
def Te (K : PySem.W.Frag) (M : Addr → Prop) (te : TE) (γ : G) (s : Sv) : Prop := ∀ (H0 : Hp) (σ : L2.St) (H : Hp), Xs M H0 H → En K M H0 H σ γ → ∀ Q : VK, (∀ v H', Xm M H H' → Hs K M H0 H' v s → Q v H') → te σ H Q
def Tt (K : PySem.W.Frag) (M : Addr → Prop) (tt : TT) (γ : G) (b : Bool) : Prop := ∀ (H0 : Hp) (σ : L2.St) (H : Hp), Xs M H0 H → En K M H0 H σ γ → ∀ Q : Bool → Hp → Prop, (∀ H', Xm M H H' → Q b H') → tt σ H Q
def Ta (K : PySem.W.Frag) (M : Addr → Prop) (ta : TA) (γ : G) (ss : List Sv) : Prop := ∀ (H0 : Hp) (σ : L2.St) (H : Hp), Xs M H0 H → En K M H0 H σ γ → ∀ Q : List V → Hp → Prop, (∀ vs H', Xm M H H' → HsA K M H0 H' vs ss → Q vs H') → ta σ H Q
def To (K : PySem.W.Frag) (M : Addr → Prop) (to : TO) (γ : G) (o : Option Int) : Prop := ∀ (H0 : Hp) (σ : L2.St) (H : Hp), Xs M H0 H → En K M H0 H σ γ → ∀ Q : Option Int → Hp → Prop, (∀ H', Xm M H H' → Q o H') → to σ H Q
/-- an operation on values -/
def Rv (K : PySem.W.Frag) (M : Addr → Prop) (r : R2) (s1 s2 s : Sv) : Prop := ∀ (H0 H : Hp) (x y : V), Xs M H0 H → Hs K M H0 H x s1 → Hs K M H0 H y s2 → ∀ Q : VK, (∀ v H', Xm M H H' → Hs K M H0 H' v s → Q v H') → r x y H Q
def Ru (K : PySem.W.Frag) (M : Addr → Prop) (r : V → Hp → VK → Prop) (s1 s : Sv) : Prop := ∀ (H0 H : Hp) (x : V), Xs M H0 H → Hs K M H0 H x s1 → ∀ Q : VK, (∀ v H', Xm M H H' → Hs K M H0 H' v s → Q v H') → r x H Q
def Rc (K : PySem.W.Frag) (M : Addr → Prop) (r : List V → Hp → VK → Prop) (ss : List Sv) (s : Sv) : Prop := ∀ (H0 H : Hp) (xs : List V), Xs M H0 H → HsA K M H0 H xs ss → ∀ Q : VK, (∀ v H', Xm M H H' → Hs K M H0 H' v s → Q v H') → r xs H Q
/-- a statement, a block: what follows it holds for slots of N, or it hands back one of R -/
def Ts (K : PySem.W.Frag) (M : Addr → Prop) (ts : TS) (γ : G) (N : G → Prop) (R : Sv → Prop) : Prop := ∀ (H0 : Hp) (σ : L2.St) (H : Hp) (D : Ends), Xs M H0 H → En K M H0 H σ γ → (∀ γ' σ' H', N γ' → Xs M H0 H' → Kp H H' → En K M H0 H' σ' γ' → D.nx σ' H') →
  (∀ s v H', R s → Xs M H0 H' → Hs K M H0 H' v s → D.rt v H') → ts D σ H

section
variable {K : PySem.W.Frag} {M : Addr → Prop} {γ : G} {ta tb te : TE} {t u : TT} {s s1 s2 : Sv}
theorem Hs.slotW {H0 H : Hp} {v : V} (h : Hs K M H0 H v s) : Hs K M H0 H v s := h
theorem te_var {i : Nat} (h : γ[i]? = some (some s)) : Te K M (tVar i) γ s := fun H0 σ H e0 E Q q => by
  obtain ⟨v, a, b⟩ := E.get i s h
  exact ⟨v, a, q v H (Xm.refl H) b⟩
theorem te_int {i : Int} : Te K M (tC (.int i)) γ (.d (.int i)) := fun H0 σ H e0 E Q q => q _ H (Xm.refl H) (Dat.int i)
theorem te_str {i : Str} : Te K M (tC (.str i)) γ (.d (.str i)) := fun H0 σ H e0 E Q q => q _ H (Xm.refl H) (Dat.str i)
theorem te_bl {i : Bool} : Te K M (tC (.bl i)) γ (.d (.bool i)) := fun H0 σ H e0 E Q q => q _ H (Xm.refl H) (Dat.bl i)
theorem te_non : Te K M (tC .non) γ (.d .none) := fun H0 σ H e0 E Q q => q _ H (Xm.refl H) Dat.non
theorem te_op {r : R2} (ha : Te K M ta γ s1) (hb : Te K M tb γ s2) (hr : Rv K M r s1 s2 s) : Te K M (tOp r ta tb) γ s := fun H0 σ H e0 E Q q =>
  ha H0 σ H e0 E _ fun x H1 e1 hx => hb H0 σ H1 (e0.trans e1) (E.ex e1) _ fun y H2 e2 hy => hr H0 H2 x y ((e0.trans e1).trans e2) (hx.ex e2) hy Q fun v H3 e3 hv => q v H3 ((e1.trans e2).trans e3) hv
theorem te_un {r : V → Hp → VK → Prop} (ha : Te K M ta γ s1) (hr : Ru K M r s1 s) : Te K M (tUn r ta) γ s := fun H0 σ H e0 E Q q =>
  ha H0 σ H e0 E _ fun x H1 e1 hx => hr H0 H1 x (e0.trans e1) hx Q fun v H3 e3 hv => q v H3 (e1.trans e3) hv
theorem ta_nil : Ta K M tNil γ [] := fun H0 σ H e0 E Q q => q [] H (Xm.refl H) .nil
theorem ta_cons {tr : TA} {ss : List Sv} (ha : Te K M ta γ s) (hr : Ta K M tr γ ss) : Ta K M (tCons ta tr) γ (s :: ss) := fun H0 σ H e0 E Q q =>
  ha H0 σ H e0 E _ fun x H1 e1 hx => hr H0 σ H1 (e0.trans e1) (E.ex e1) _ fun xs H2 e2 hxs => q _ H2 (e1.trans e2) (.cons (hx.ex e2) hxs)
theorem te_cb {r : List V → Hp → VK → Prop} {ta : TA} {ss : List Sv} (ha : Ta K M ta γ ss) (hr : Rc K M r ss s) : Te K M (tCB r ta) γ s := fun H0 σ H e0 E Q q =>
  ha H0 σ H e0 E _ fun xs H1 e1 hx => hr H0 H1 xs (e0.trans e1) hx Q fun v H3 e3 hv => q v H3 (e1.trans e3) hv
/-- a new tuple, a new list -/
theorem te_tup {ta : TA} {ds : List PyData} (ha : Ta K M ta γ (ds.map Sv.d)) (hz : ds.length ≤ 1000) : Te K M (tTup ta) γ (.d (.tuple ds)) := fun H0 σ H e0 E Q q =>
  ha H0 σ H e0 E _ fun xs H1 e1 hx => by
    have hd := hx.dats
    refine ⟨by rw [hd.len]; exact Evl.sz_of (by omega), fun p hp => q _ _ (e1.trans (Xm.new hp)) (Dat.tup (.inl (.inl upd_same)) (hd.kp (kp_new hp)))⟩
theorem te_lst {ta : TA} {ds : List PyData} (ha : Ta K M ta γ (ds.map Sv.d)) (hz : ds.length ≤ 1000) : Te K M (tLst ta) γ (.o ds) := fun H0 σ H e0 E Q q =>
  ha H0 σ H e0 E _ fun xs H1 e1 hx => by
    have hd := hx.dats
    refine ⟨by rw [hd.len]; exact Evl.sz_of (by omega), fun p hp => q _ _ (e1.trans (Xm.new hp)) ⟨p, xs, rfl, (e0.trans e1).notM hp, (e0.trans e1).back hp, upd_same, hd.kp (kp_new hp)⟩⟩
theorem te_if {b : Bool} (h : Tt K M t γ b) (h1 : b = true → Te K M ta γ s) (h2 : b = false → Te K M tb γ s) : Te K M (tIf t ta tb) γ s := fun H0 σ H e0 E Q q => h H0 σ H e0 E _ fun H1 e1 => by
  cases b with
  | true => exact h1 rfl H0 σ H1 (e0.trans e1) (E.ex e1) Q fun v H2 e2 hv => q v H2 (e1.trans e2) hv
  | false => exact h2 rfl H0 σ H1 (e0.trans e1) (E.ex e1) Q fun v H2 e2 hv => q v H2 (e1.trans e2) hv
theorem tt_B {b : Bool} (h : Te K M te γ (.d (.bool b))) : Tt K M (tB te) γ b := fun H0 σ H e0 E Q q => h H0 σ H e0 E _ fun v H1 e1 hv => by cases hv; exact ⟨b, rfl, q H1 e1⟩
theorem tt_test {b : Bool} (h : Te K M te γ (.d (.bool b))) : Tt K M (tTest te) γ b := fun H0 σ H e0 E Q q => h H0 σ H e0 E _ fun v H1 e1 hv => by cases hv; exact ⟨b, rfl, q H1 e1⟩
theorem tt_and {a b : Bool} (h1 : Tt K M t γ a) (h2 : a = true → Tt K M u γ b) : Tt K M (tAnd t u) γ (a && b) := fun H0 σ H e0 E Q q => h1 H0 σ H e0 E _ fun H1 e1 => by
  cases a with
  | true => exact h2 rfl H0 σ H1 (e0.trans e1) (E.ex e1) Q fun H2 e2 => q H2 (e1.trans e2)
  | false => exact q H1 e1
theorem tt_or {a b : Bool} (h1 : Tt K M t γ a) (h2 : a = false → Tt K M u γ b) : Tt K M (tOr t u) γ (a || b) := fun H0 σ H e0 E Q q => h1 H0 σ H e0 E _ fun H1 e1 => by
  cases a with
  | true => exact q H1 e1
  | false => exact h2 rfl H0 σ H1 (e0.trans e1) (E.ex e1) Q fun H2 e2 => q H2 (e1.trans e2)
theorem tt_not {a : Bool} (h1 : Tt K M t γ a) : Tt K M (tNot t) γ (!a) := fun H0 σ H e0 E Q q => h1 H0 σ H e0 E _ fun H1 e1 => q H1 e1
theorem tt_is {a b : Bool} (h : Tt K M t γ a) (e : a = b) : Tt K M t γ b := e ▸ h
theorem te_is {a s2 : Sv} (h : Te K M te γ a) (e : a = s2) : Te K M te γ s2 := e ▸ h
/-- and, or, not as values -/
theorem te_and {a b : Bool} (h1 : Te K M ta γ (.d (.bool a))) (h2 : a = true → Te K M tb γ (.d (.bool b))) : Te K M (tAndV ta tb) γ (.d (.bool (a && b))) := fun H0 σ H e0 E Q q => h1 H0 σ H e0 E _ fun v H1 e1 hv => by
  cases hv
  refine ⟨a, rfl, ?_⟩
  cases a with
  | true => exact h2 rfl H0 σ H1 (e0.trans e1) (E.ex e1) Q fun v H2 e2 hv => q v H2 (e1.trans e2) hv
  | false => exact q _ H1 e1 (Dat.bl false)
theorem te_or {a b : Bool} (h1 : Te K M ta γ (.d (.bool a))) (h2 : a = false → Te K M tb γ (.d (.bool b))) : Te K M (tOrV ta tb) γ (.d (.bool (a || b))) := fun H0 σ H e0 E Q q => h1 H0 σ H e0 E _ fun v H1 e1 hv => by
  cases hv
  refine ⟨a, rfl, ?_⟩
  cases a with
  | true => exact q _ H1 e1 (Dat.bl true)
  | false => exact h2 rfl H0 σ H1 (e0.trans e1) (E.ex e1) Q fun v H2 e2 hv => q v H2 (e1.trans e2) hv
theorem te_not {a : Bool} (h1 : Te K M ta γ (.d (.bool a))) : Te K M (tNotV ta) γ (.d (.bool (!a))) := fun H0 σ H e0 E Q q => h1 H0 σ H e0 E _ fun v H1 e1 hv => by
  cases hv
  exact ⟨a, rfl, q _ H1 e1 (Dat.bl _)⟩
/-- two comparisons in a row -/
theorem te_chain {r r' : R2} {tc : TE} {s3 : Sv} {a b : Bool} (ha : Te K M ta γ s1) (hb : Te K M tb γ s2) (hr : Rv K M r s1 s2 (.d (.bool a))) (hc : Te K M tc γ s3) (hr' : Rv K M r' s2 s3 (.d (.bool b))) :
    Te K M (tChain r r' ta tb tc) γ (.d (.bool (a && b))) := fun H0 σ H e0 E Q q =>
  ha H0 σ H e0 E _ fun x H1 e1 hx => hb H0 σ H1 (e0.trans e1) (E.ex e1) _ fun y H2 e2 hy => hr H0 H2 x y ((e0.trans e1).trans e2) (hx.ex e2) hy _ fun z H3 e3 hz => by
    cases hz
    refine ⟨a, rfl, ?_⟩
    have e4 := (e0.trans e1).trans (e2.trans e3)
    cases a with
    | true => exact hc H0 σ H3 e4 (E.ex (e1.trans (e2.trans e3))) _ fun w H4 e5 hw => hr' H0 H4 y w (e4.trans e5) (hy.ex (e3.trans e5)) hw _ fun z H5 e6 hz => q z H5 ((e1.trans (e2.trans e3)).trans (e5.trans e6)) hz
    | false => exact q _ H3 (e1.trans (e2.trans e3)) (Dat.bl _)
theorem to_none : To K M tNoPart γ none := fun H0 σ H e0 E Q q => q H (Xm.refl H)
theorem to_some {i : Int} (h : Te K M te γ (.d (.int i))) : To K M (tPart te) γ (some i) := fun H0 σ H e0 E Q q => h H0 σ H e0 E _ fun v H1 e1 hv => by cases hv; exact ⟨i, rfl, q H1 e1⟩
/-- a slice -/
def Rsl (K : PySem.W.Frag) (M : Addr → Prop) (r : V → Option Int → Option Int → Hp → VK → Prop) (s1 : Sv) (lo hi : Option Int) (s : Sv) : Prop := ∀ (H0 H : Hp) (x : V), Xs M H0 H → Hs K M H0 H x s1 → ∀ Q : VK, (∀ v H', Xm M H H' → Hs K M H0 H' v s → Q v H') → r x lo hi H Q
theorem te_sl {r : V → Option Int → Option Int → Hp → VK → Prop} {tl th : TO} {lo hi : Option Int} (h : Te K M te γ s1) (hl : To K M tl γ lo) (hh : To K M th γ hi) (hr : Rsl K M r s1 lo hi s) : Te K M (tSl r te tl th) γ s := fun H0 σ H e0 E Q q =>
  h H0 σ H e0 E _ fun x H1 e1 hx => hl H0 σ H1 (e0.trans e1) (E.ex e1) _ fun H2 e2 => hh H0 σ H2 (e0.trans (e1.trans e2)) (E.ex (e1.trans e2)) _ fun H3 e3 =>
    hr H0 H3 x (e0.trans ((e1.trans e2).trans e3)) (hx.ex (e2.trans e3)) Q fun v H4 e4 hv => q v H4 (((e1.trans e2).trans e3).trans e4) hv
end

def spP (K : PySem.W.Frag) (Rel : List Sv → Sv → Prop) : Sp := fun vs H Q _ => ∃ M ss s, Xs M H H ∧ HsA K M H H vs ss ∧ Rel ss s ∧ s.isR = true ∧ ∀ v H', Xm M H H' → Hs K M H H' v s → Q v H'
/-- of defs that may change the box, and hand back one of many -/
def spR (K : PySem.W.Frag) (Rel : List Sv → (Sv → Prop) → Prop) : Sp := fun vs H Q _ => ∃ M ss P, Xs M H H ∧ HsA K M H H vs ss ∧ Rel ss P ∧ (∀ s, P s → s.isR = true) ∧ ∀ v s H', P s → Xm M H H' → Hs K M H H' v s → Q v H'
section
variable {K : PySem.W.Frag} {M : Addr → Prop} {γ : G} {s : Sv}
theorem te_call {Rel : List Sv → Sv → Prop} {E : XK} {ta : TA} {ss : List Sv} (ha : Ta K M ta γ ss) (h : Rel (ss.map Sv.weak) s) (hr : s.isR = true) : Te K M (tCall (spP K Rel) [] E ta) γ s := fun H0 σ H e0 E Q q =>
  ha H0 σ H e0 E _ fun xs H1 e1 hx => ⟨M, ss.map Sv.weak, s, (e0.trans e1).self, by rw [List.append_nil]; exact hx.weak, h, hr, fun v H2 e2 hv => q v H2 (e1.trans e2) (hv.back hr (e0.trans e1))⟩
end

def Tp (K : PySem.W.Frag) (M : Addr → Prop) (te : TE) (γ : G) (P : Sv → Prop) : Prop := ∀ (H0 : Hp) (σ : L2.St) (H : Hp), Xs M H0 H → En K M H0 H σ γ → ∀ Q : VK, (∀ v s H', P s → Xm M H H' → Hs K M H0 H' v s → Q v H') → te σ H Q
def Tpa (K : PySem.W.Frag) (M : Addr → Prop) (ta : TA) (γ : G) (P : List Sv → Prop) : Prop := ∀ (H0 : Hp) (σ : L2.St) (H : Hp), Xs M H0 H → En K M H0 H σ γ → ∀ Q : List V → Hp → Prop, (∀ vs ss H', P ss → Xm M H H' → HsA K M H0 H' vs ss → Q vs H') → ta σ H Q
section
variable {K : PySem.W.Frag} {M : Addr → Prop} {γ : G} {ta tb te : TE} {s s1 s2 : Sv} {P P1 P2 : Sv → Prop}
theorem tp_of (h : Te K M te γ s) (hp : P s) : Tp K M te γ P := fun H0 σ H e0 E Q q => h H0 σ H e0 E Q fun v H' e hv => q v s H' hp e hv
theorem te_tp (h : Te K M te γ s) : Tp K M te γ (fun s' => s' = s) := tp_of h rfl
theorem tp_te (h : Tp K M te γ P) (e : ∀ s', P s' → s' = s) : Te K M te γ s := fun H0 σ H e0 E Q q => h H0 σ H e0 E Q fun v s' H' hp e1 hv => q v H' e1 (e s' hp ▸ hv)
theorem tp_mono (h : Tp K M te γ P) (e : ∀ s', P s' → P1 s') : Tp K M te γ P1 := fun H0 σ H e0 E Q q => h H0 σ H e0 E Q fun v s' H' hp e1 hv => q v s' H' (e s' hp) e1 hv
theorem tp_op {r : R2} (ha : Tp K M ta γ P1) (hb : ∀ s1, P1 s1 → Tp K M tb γ P2) (hr : ∀ s1 s2, P1 s1 → P2 s2 → ∃ s, P s ∧ Rv K M r s1 s2 s) : Tp K M (tOp r ta tb) γ P := fun H0 σ H e0 E Q q =>
  ha H0 σ H e0 E _ fun x s1 H1 p1 e1 hx => hb s1 p1 H0 σ H1 (e0.trans e1) (E.ex e1) _ fun y s2 H2 p2 e2 hy => by
    obtain ⟨s, hp, h⟩ := hr s1 s2 p1 p2
    exact h H0 H2 x y ((e0.trans e1).trans e2) (hx.ex e2) hy Q fun v H3 e3 hv => q v s H3 hp ((e1.trans e2).trans e3) hv
theorem tp_un {r : V → Hp → VK → Prop} (ha : Tp K M ta γ P1) (hr : ∀ s1, P1 s1 → ∃ s, P s ∧ Ru K M r s1 s) : Tp K M (tUn r ta) γ P := fun H0 σ H e0 E Q q =>
  ha H0 σ H e0 E _ fun x s1 H1 p1 e1 hx => by
    obtain ⟨s, hp, h⟩ := hr s1 p1
    exact h H0 H1 x (e0.trans e1) hx Q fun v H3 e3 hv => q v s H3 hp (e1.trans e3) hv
theorem tpa_nil : Tpa K M tNil γ (fun ss => ss = []) := fun H0 σ H e0 E Q q => q [] [] H rfl (Xm.refl H) .nil
theorem tpa_cons {tr : TA} {Ps Pt : List Sv → Prop} (ha : Tp K M ta γ P1) (hr : ∀ s, P1 s → Tpa K M tr γ Ps) (h : ∀ s ss, P1 s → Ps ss → Pt (s :: ss)) : Tpa K M (tCons ta tr) γ Pt := fun H0 σ H e0 E Q q =>
  ha H0 σ H e0 E _ fun x s H1 p1 e1 hx => hr s p1 H0 σ H1 (e0.trans e1) (E.ex e1) _ fun xs ss H2 p2 e2 hxs => q _ (s :: ss) H2 (h s ss p1 p2) (e1.trans e2) (.cons (hx.ex e2) hxs)
theorem tpa_of {ta : TA} {ss : List Sv} (h : Ta K M ta γ ss) : Tpa K M ta γ (fun ss' => ss' = ss) := fun H0 σ H e0 E Q q => h H0 σ H e0 E Q fun v H' e hv => q v ss H' rfl e hv
theorem tp_cb {r : List V → Hp → VK → Prop} {ta : TA} {Ps : List Sv → Prop} (ha : Tpa K M ta γ Ps) (hr : ∀ ss, Ps ss → ∃ s, P s ∧ Rc K M r ss s) : Tp K M (tCB r ta) γ P := fun H0 σ H e0 E Q q =>
  ha H0 σ H e0 E _ fun xs ss H1 ps e1 hx => by
    obtain ⟨s, hp, h⟩ := hr ss ps
    exact h H0 H1 xs (e0.trans e1) hx Q fun v H3 e3 hv => q v s H3 hp (e1.trans e3) hv
theorem tp_call {Rel : List Sv → (Sv → Prop) → Prop} {E : XK} {ta : TA} {Ps : List Sv → Prop} (ha : Tpa K M ta γ Ps) (h : ∀ ss, Ps ss → Rel (ss.map Sv.weak) P) (hr : ∀ s, P s → s.isR = true) : Tp K M (tCall (spR K Rel) [] E ta) γ P := fun H0 σ H e0 E Q q =>
  ha H0 σ H e0 E _ fun xs ss H1 ps e1 hx => ⟨M, ss.map Sv.weak, P, (e0.trans e1).self, by rw [List.append_nil]; exact hx.weak, h ss ps, hr, fun v s H2 hp e2 hv => q v s H2 hp (e1.trans e2) (hv.back (hr s hp) (e0.trans e1))⟩
theorem tp_callP {Rel : List Sv → Sv → Prop} {E : XK} {ta : TA} {Ps : List Sv → Prop} (ha : Tpa K M ta γ Ps) (h : ∀ ss, Ps ss → ∃ s, P s ∧ s.isR = true ∧ Rel (ss.map Sv.weak) s) : Tp K M (tCall (spP K Rel) [] E ta) γ P := fun H0 σ H e0 E Q q =>
  ha H0 σ H e0 E _ fun xs ss H1 ps e1 hx => by
    obtain ⟨s, hp, hr, hrel⟩ := h ss ps
    exact ⟨M, ss.map Sv.weak, s, (e0.trans e1).self, by rw [List.append_nil]; exact hx.weak, hrel, hr, fun v H2 e2 hv => q v s H2 hp (e1.trans e2) (hv.back hr (e0.trans e1))⟩
theorem tp_tup {ta : TA} {Ps : List Sv → Prop} (ha : Tpa K M ta γ Ps) (h : ∀ ss, Ps ss → ∃ ds, ss = ds.map Sv.d ∧ P (.d (.tuple ds)) ∧ ds.length ≤ 1000) : Tp K M (tTup ta) γ P := fun H0 σ H e0 E Q q =>
  ha H0 σ H e0 E _ fun xs ss H1 ps e1 hx => by
    obtain ⟨ds, rfl, hp, hz⟩ := h ss ps
    have hd := hx.dats
    refine ⟨by rw [hd.len]; exact Evl.sz_of (by omega), fun p hq => q _ _ _ hp (e1.trans (Xm.new hq)) (Dat.tup (.inl (.inl upd_same)) (hd.kp (kp_new hq)))⟩
theorem tp_lst {ta : TA} {Ps : List Sv → Prop} (ha : Tpa K M ta γ Ps) (h : ∀ ss, Ps ss → ∃ ds, ss = ds.map Sv.d ∧ P (.o ds) ∧ ds.length ≤ 1000) : Tp K M (tLst ta) γ P := fun H0 σ H e0 E Q q =>
  ha H0 σ H e0 E _ fun xs ss H1 ps e1 hx => by
    obtain ⟨ds, rfl, hp, hz⟩ := h ss ps
    have hd := hx.dats
    refine ⟨by rw [hd.len]; exact Evl.sz_of (by omega), fun p hq => q _ _ _ hp (e1.trans (Xm.new hq)) ⟨p, xs, rfl, (e0.trans e1).notM hq, (e0.trans e1).back hq, upd_same, hd.kp (kp_new hq)⟩⟩
end
section
variable {K : PySem.W.Frag} {M : Addr → Prop} {γ : G} {ta tb te : TE} {s s1 s2 : Sv}
theorem te_ml {ds : List PyData} (h : Te K M te γ (.m (mL ds))) : Te K M te γ (.l ds) := fun H0 σ H e0 E Q q => h H0 σ H e0 E Q fun v H1 e1 hv => q v H1 e1 hv.ml
theorem te_md {d : PyData} (h : Te K M te γ (.m (.d d))) : Te K M te γ (.d d) := fun H0 σ H e0 E Q q => h H0 σ H e0 E Q fun v H1 e1 hv => q v H1 e1 hv.md
theorem te_tree {t : MD} (h : Te K M te γ s) (e : s.md? = some t) : Te K M te γ (.n t) := fun H0 σ H e0 E Q q => h H0 σ H e0 E Q fun v H1 e1 hv => q v H1 e1 (hv.tree e)
/-- an own list, read or handed back -/
theorem te_varU {i : Nat} {ds : List PyData} (h : γ[i]? = some (some (.u ds))) : Te K M (tVar i) γ (.o ds) := fun H0 σ H e0 E Q q => by
  obtain ⟨v, a, b⟩ := E.get i _ h
  exact ⟨v, a, q v H (Xm.refl H) b⟩
theorem trees_of {H0 H : Hp} : ∀ {ts : List MD} {vs : List V}, HsA K M H0 H vs (ts.map Sv.n) → Mds K (fun p => ¬ M p) H vs ts
  | [], _, h => by cases h; exact .nil
  | t :: ts, _, h => by
    cases h with
    | cons a b => exact .cons a (trees_of b)
theorem te_lstT {ta : TA} {ts : List MD} (ha : Ta K M ta γ (ts.map Sv.n)) (hz : ts.length ≤ 1000) : Te K M (tLst ta) γ (.n (.l ts)) := fun H0 σ H e0 E Q q =>
  ha H0 σ H e0 E _ fun xs H1 e1 hx => by
    have hd := trees_of hx
    refine ⟨by rw [hd.len]; exact Evl.sz_of (by omega), fun p hp => q _ _ (e1.trans (Xm.new hp)) ?_⟩
    exact Md.l ((e0.trans e1).notM hp) upd_same (Mds.kp (Xm.new (M := M) hp).t (fun a o c g => ⟨c, (Xm.new (M := M) hp).k a o c g⟩) hd)
/-- the value of a key -/
theorem valV_kvz : ∀ {ks : List Str} {xs : List V} {i : Nat} {x : V} {k : Str}, ks[i]? = some k → xs[i]? = some x → ks.Nodup → valV (kvz ks xs) (Sum.inr k) = some x
  | [], _, _, _, _, e, _, _ => by simp at e
  | k0 :: ks, [], _, _, _, _, e, _ => by simp at e
  | k0 :: ks, x0 :: xs, 0, x, k, e, e2, hn => by
    simp at e e2
    subst e e2
    exact valV_pos rfl
  | k0 :: ks, x0 :: xs, i + 1, x, k, e, e2, hn => by
    have e' : ks[i]? = some k := by simpa using e
    rw [List.nodup_cons] at hn
    have ne : ¬ (Sum.inr k0 : Key) = Sum.inr k := fun z => hn.1 (by cases z; exact List.mem_of_getElem? e')
    exact (valV_neg ne).trans (valV_kvz e' (by simpa using e2) hn.2)
theorem valV_no : ∀ {ks : List Str} {xs : List V} {k : Str}, k ∉ ks → valV (kvz ks xs) (Sum.inr k) = none
  | [], _, _, _ => rfl
  | _ :: _, [], _, _ => rfl
  | k0 :: ks, x0 :: xs, k, h => by
    have ne : ¬ (Sum.inr k0 : Key) = Sum.inr k := fun z => h (by cases z; exact List.mem_cons_self)
    exact (valV_neg ne).trans (valV_no fun z => h (List.mem_cons_of_mem _ z))
theorem te_dget {ks : List Str} {ts : List MD} {i : Nat} {k : Str} {t : MD} (h : Te K M ta γ (.m (.k ks ts))) (hk : Te K M tb γ (.d (.str k))) (e : ks[i]? = some k) (et : ts[i]? = some t) (hn : ks.Nodup) : Te K M (tDGet ta tb) γ (.m t) := fun H0 σ H e0 E Q q =>
  h H0 σ H e0 E _ fun v H1 e1 hv => hk H0 σ H1 (e0.trans e1) (E.ex e1) _ fun y H2 e2 hy => by
    have hv' := hv.ex e2
    cases hy
    have hv2 : Md K (fun p => ¬ M p ∧ H0 p ≠ none) H2 v (.k ks ts) := hv'
    cases hv2 with
    | k a b c =>
      obtain ⟨x, ex, hx⟩ := c.get et
      exact ⟨_, x, rfl, .inl ⟨_, Sum.inr k, .inl b, rfl, (valV_kvz e ex hn).symm⟩, q x H2 (e1.trans e2) hx⟩
theorem valV_is {ks : List Str} {xs : List V} {k : Str} (h : xs.length = ks.length) (hn : ks.Nodup) : (valV (kvz ks xs) (Sum.inr k)).isSome = decide (k ∈ ks) := by
  by_cases e : k ∈ ks
  · obtain ⟨i, hi, rfl⟩ := List.mem_iff_getElem.mp e
    rw [valV_kvz (List.getElem?_eq_getElem hi) (List.getElem?_eq_getElem (by omega)) hn]
    simp
  · rw [valV_no e]; simp [e]
theorem te_dnin {ks : List Str} {ts : List MD} {k : Str} (hk : Te K M tb γ (.d (.str k))) (h : Te K M ta γ (.m (.k ks ts))) (hn : ks.Nodup) (hl : ks.length = ts.length) : Te K M (tDNotIn tb ta) γ (.d (.bool (!decide (k ∈ ks)))) := fun H0 σ H e0 E Q q =>
  hk H0 σ H e0 E _ fun y H1 e1 hy => h H0 σ H1 (e0.trans e1) (E.ex e1) _ fun v H2 e2 hv => by
    cases hy
    have hv2 : Md K (fun p => ¬ M p ∧ H0 p ≠ none) H2 v (.k ks ts) := hv
    cases hv2 with
    | k a b c =>
      refine ⟨_, _, rfl, .inl ⟨_, Sum.inr k, .inl b, rfl, rfl⟩, ?_⟩
      rw [valV_is (by rw [c.len, hl]) hn]
      exact q _ H2 (e1.trans e2) (Dat.bl _)
end

section
variable {K : PySem.W.Frag} {M : Addr → Prop} {γ : G} {te : TE} {t : TT} {s : Sv} {tu tw tz : TS} {N N' : G → Prop} {R : Sv → Prop}
theorem ts_seq (h1 : Ts K M tu γ N' R) (h2 : ∀ γ', N' γ' → Ts K M tw γ' N R) : Ts K M (tSeq tu tw) γ N R := fun H0 σ H D e0 E n r =>
  h1 H0 σ H { D with nx := tw D } e0 E (fun γ' σ' H' hn e1 k1 E1 => h2 γ' hn H0 σ' H' D e1 E1 (fun γ2 σ2 H2 a b c d => n γ2 σ2 H2 a b (k1.trans c) d) r) r
theorem ts_asg {i : Nat} (h : Te K M te γ s) (k : Ts K M tz (γ.set i (some s)) N R) (hu : s.isU = false := by rfl) : Ts K M (tSeq (tAsg te (gName i)) tz) γ N R := fun H0 σ H D e0 E n r =>
  h H0 σ H e0 E _ fun v H1 e1 hv => k H0 (σ.set i (some v)) H1 D (e0.trans e1) ((E.ex e1).set hv hu) (fun γ2 σ2 H2 a b c d => n γ2 σ2 H2 a b ((kp_ex e1).trans c) d) r
theorem ts_asg1 {i : Nat} (h : Te K M te γ s) (k : N (γ.set i (some s))) (hu : s.isU = false := by rfl) : Ts K M (tAsg te (gName i)) γ N R := fun H0 σ H D e0 E n r =>
  h H0 σ H e0 E _ fun v H1 e1 hv => n _ (σ.set i (some v)) H1 k (e0.trans e1) (kp_ex e1) ((E.ex e1).set hv hu)
theorem ts_ret (h : Te K M te γ s) (k : R s) : Ts K M (tRet te) γ N R := fun H0 σ H D e0 E n r =>
  h H0 σ H e0 E _ fun v H1 e1 hv => r s v H1 k (e0.trans e1) hv
theorem ts_retS (h : Te K M te γ s) (k : R s) : Ts K M (tSeq (tRet te) tz) γ N R := fun H0 σ H D e0 E n r =>
  h H0 σ H e0 E _ fun v H1 e1 hv => r s v H1 k (e0.trans e1) hv
theorem ts_next (k : N γ) : Ts K M tNext γ N R := fun H0 σ H D e0 E n r => n γ σ H k e0 (Kp.refl H) E
theorem ts_if {b : Bool} (h : Tt K M t γ b) (h1 : b = true → Ts K M tu γ N R) (h2 : b = false → Ts K M tw γ N R) : Ts K M (tIfS t tu tw) γ N R := fun H0 σ H D e0 E n r => h H0 σ H e0 E _ fun H1 e1 => by
  cases b with
  | true => exact h1 rfl H0 σ H1 D (e0.trans e1) (E.ex e1) (fun γ2 σ2 H2 a b c d => n γ2 σ2 H2 a b ((kp_ex e1).trans c) d) r
  | false => exact h2 rfl H0 σ H1 D (e0.trans e1) (E.ex e1) (fun γ2 σ2 H2 a b c d => n γ2 σ2 H2 a b ((kp_ex e1).trans c) d) r
theorem ts_ifS {b : Bool} (h : Tt K M t γ b) (h1 : b = true → Ts K M (tSeq tu tz) γ N R) (h2 : b = false → Ts K M (tSeq tw tz) γ N R) : Ts K M (tSeq (tIfS t tu tw) tz) γ N R := fun H0 σ H D e0 E n r => h H0 σ H e0 E _ fun H1 e1 => by
  cases b with
  | true => exact h1 rfl H0 σ H1 D (e0.trans e1) (E.ex e1) (fun γ2 σ2 H2 a b c d => n γ2 σ2 H2 a b ((kp_ex e1).trans c) d) r
  | false => exact h2 rfl H0 σ H1 D (e0.trans e1) (E.ex e1) (fun γ2 σ2 H2 a b c d => n γ2 σ2 H2 a b ((kp_ex e1).trans c) d) r
/-- an if without else whose branch leaves, its test false -/
theorem ts_skip (h : Tt K M t γ false) (k : Ts K M tz γ N R) : Ts K M (tSeq (tIfS t tu tNext) tz) γ N R := ts_ifS h (fun e => nomatch e) fun _ => k
theorem ts_skip1 (h : Tt K M t γ false) (k : N γ) : Ts K M (tIfS t tu tNext) γ N R := ts_if h (fun e => nomatch e) fun _ => ts_next k
theorem ts_mono {N2 : G → Prop} {R2 : Sv → Prop} (h : Ts K M tu γ N R) (hn : ∀ γ', N γ' → N2 γ') (hr : ∀ s, R s → R2 s) : Ts K M tu γ N2 R2 := fun H0 σ H D e0 E n r =>
  h H0 σ H D e0 E (fun γ' σ' H' a => n γ' σ' H' (hn γ' a)) fun s v H' a => r s v H' (hr s a)
theorem ts_weak {γ' : G} (h : Ts K M tu γ' N R) (hl : γ'.length = γ.length) (hg : ∀ (i : Nat) (s : Sv), γ'[i]? = some (some s) → γ[i]? = some (some s)) : Ts K M tu γ N R := fun H0 σ H D e0 E n r => h H0 σ H D e0 (E.sub hl hg) n r
end

section
variable {K : PySem.W.Frag} {M : Addr → Prop} {γ : G} {te : TE} {t : TT} {s : Sv} {P : Sv → Prop} {tu tw tz : TS} {N N' : G → Prop} {R : Sv → Prop}
theorem ts_asgP {i : Nat} (h : Tp K M te γ P) (k : ∀ s, P s → s.isU = false ∧ Ts K M tz (γ.set i (some s)) N R) : Ts K M (tSeq (tAsg te (gName i)) tz) γ N R := fun H0 σ H D e0 E n r =>
  h H0 σ H e0 E _ fun v s H1 hp e1 hv => (k s hp).2 H0 (σ.set i (some v)) H1 D (e0.trans e1) ((E.ex e1).set hv (k s hp).1) (fun γ2 σ2 H2 a b c d => n γ2 σ2 H2 a b ((kp_ex e1).trans c) d) r
theorem ts_asg1P {i : Nat} (h : Tp K M te γ P) (k : ∀ s, P s → s.isU = false ∧ N (γ.set i (some s))) : Ts K M (tAsg te (gName i)) γ N R := fun H0 σ H D e0 E n r =>
  h H0 σ H e0 E _ fun v s H1 hp e1 hv => n _ (σ.set i (some v)) H1 (k s hp).2 (e0.trans e1) (kp_ex e1) ((E.ex e1).set hv (k s hp).1)
theorem ts_retP (h : Tp K M te γ P) (k : ∀ s, P s → R s) : Ts K M (tRet te) γ N R := fun H0 σ H D e0 E n r =>
  h H0 σ H e0 E _ fun v s H1 hp e1 hv => r s v H1 (k s hp) (e0.trans e1) hv
theorem ts_retSP (h : Tp K M te γ P) (k : ∀ s, P s → R s) : Ts K M (tSeq (tRet te) tz) γ N R := fun H0 σ H D e0 E n r =>
  h H0 σ H e0 E _ fun v s H1 hp e1 hv => r s v H1 (k s hp) (e0.trans e1) hv
/-- made = [], to grow -/
theorem ts_new {i : Nat} (k : Ts K M tz (γ.set i (some (.u []))) N R) : Ts K M (tSeq (tAsg (tLst tNil) (gName i)) tz) γ N R := fun H0 σ H D e0 E n r => by
  refine ⟨Nat.zero_le _, fun p hp => ?_⟩
  have e1 : Xm M H (upd H p (.lst [])) := Xm.new hp
  refine k H0 (σ.set i (some (.ref p))) _ D (e0.trans e1) ((E.ex e1).setU (s := .u []) ⟨p, [], rfl, e0.notM hp, e0.back hp, upd_same, .nil⟩ fun _ j es hj hg hs => ?_) (fun γ2 σ2 H2 a b c d => n γ2 σ2 H2 a b ((kp_ex e1).trans c) d) r
  obtain ⟨v, hv, q, xs, rfl, _, _, hq, _⟩ := E.get j _ hg
  rw [hs] at hv
  cases hv
  rw [hp] at hq
  cases hq
/-- from here on what was new is old -/
theorem ts_old (h : ∀ s, R s → s.isR = true) (hN : ∀ γ', N γ' → ∀ (i : Nat) (s : Sv), γ'[i]? = some (some s) → ∃ d, s = Sv.d d) (k : Ts K M tz (γ.map (Option.map Sv.weak)) N R) : Ts K M tz γ N R := fun H0 σ H D e0 E n r =>
  k H σ H D e0.self E.old (fun γ' σ' H' a b c d => n γ' σ' H' a (e0.trans b.e) c ⟨d.len, fun i s g => by
    obtain ⟨x, rfl⟩ := hN γ' a i s g
    exact d.get i _ g, fun i j ds es v nn e1 _ _ => by
    obtain ⟨x, hx⟩ := hN γ' a i _ e1
    cases hx⟩) fun s v H' hr e hv => r s v H' hr (e0.trans e.e) (hv.back (h s hr) e0)
end
def gNames : List Nat → TGs
  | [] => gNil
  | i :: is => gCons (gName i) (gNames is)
def setAll (γ : G) : List Nat → List PyData → G
  | i :: is, d :: ds => setAll (γ.set i (some (.d d))) is ds
  | _, _ => γ
section
variable {K : PySem.W.Frag} {M : Addr → Prop} {γ : G} {te : TE} {s : Sv} {tu tz : TS} {N : G → Prop} {R : Sv → Prop}
theorem wipe_get (σ : L2.St) (i : Nat) : ∀ vs : List Nat, (wipe σ vs)[i]? = if i ∈ vs then (if i < σ.length then some none else none) else σ[i]?
  | [] => by simp [wipe]
  | v :: vs => by
    show ((wipe σ vs).set v none)[i]? = _
    by_cases h : v = i
    · subst h
      rw [if_pos List.mem_cons_self]
      by_cases hl : v < σ.length
      · rw [if_pos hl, List.getElem?_set_self (by rw [wipe_length]; exact hl)]
      · rw [if_neg hl, List.getElem?_eq_none (by rw [List.length_set, wipe_length]; omega)]
    · rw [List.getElem?_set_ne h, wipe_get σ i vs]
      have : (i ∈ v :: vs) ↔ i ∈ vs := by
        constructor
        · intro q
          rcases List.mem_cons.mp q with q | q
          · exact absurd q.symm h
          · exact q
        · exact List.mem_cons_of_mem _
      by_cases hm : i ∈ vs
      · rw [if_pos hm, if_pos (this.mpr hm)]
      · rw [if_neg hm, if_neg (fun q => hm (this.mp q))]
theorem wipe_set {σ : L2.St} {j : Nat} {x : Option V} {vs : List Nat} (h : j ∈ vs) : wipe (σ.set j x) vs = wipe σ vs := by
  apply List.ext_getElem?
  intro i
  rw [wipe_get, wipe_get, List.length_set]
  by_cases hm : i ∈ vs
  · rw [if_pos hm, if_pos hm]
  · rw [if_neg hm, if_neg hm, List.getElem?_set_ne (fun e => by rw [e] at h; exact hm h)]
theorem wipe_wipe (σ : L2.St) (vs : List Nat) : wipe (wipe σ vs) vs = wipe σ vs := by
  apply List.ext_getElem?
  intro i
  rw [wipe_get, wipe_get, wipe_length]
  by_cases hm : i ∈ vs
  · rw [if_pos hm, if_pos hm]
  · rw [if_neg hm]
def Tg (K : PySem.W.Frag) (M : Addr → Prop) (g : TG) (js : List Nat) (γ : G) (s : Sv) (γ' : G) : Prop := ∀ (H0 : Hp) (σ : L2.St) (H : Hp) (v : V), Xs M H0 H → En K M H0 H σ γ → Hs K M H0 H v s → ∀ Q : L2.St → Hp → Prop,
  (∀ σ', En K M H0 H σ' γ' → (∀ vs : List Nat, (∀ j ∈ js, j ∈ vs) → wipe σ' vs = wipe σ vs) → Q σ' H) → g v σ H Q
theorem tg_name {j : Nat} (hu : s.isU = false := by rfl) : Tg K M (gName j) [j] γ s (γ.set j (some s)) := fun H0 σ H v e0 E hv Q q => q _ (E.set hv hu) fun vs h => wipe_set (h j List.mem_cons_self)
theorem unpack_run {H0 H : Hp} {Q : L2.St → Hp → Prop} : ∀ (is : List Nat) (ds : List PyData) (vs : List V) (σ : L2.St) (γ : G), is.length = ds.length → Dats K H vs ds → En K M H0 H σ γ →
    (∀ σ', En K M H0 H σ' (setAll γ is ds) → (∀ ws : List Nat, (∀ j ∈ is, j ∈ ws) → wipe σ' ws = wipe σ ws) → Q σ' H) → gNames is vs σ H Q
  | [], [], _, σ, γ, _, h, E, q => by cases h; exact ⟨rfl, q σ E fun _ _ => rfl⟩
  | i :: is, d :: ds, _, σ, γ, hl, h, E, q => by
    cases h with
    | cons h1 h2 => exact ⟨_, _, rfl, unpack_run is ds _ _ (γ.set i (some (.d d))) (by simpa using hl) h2 (E.set (s := .d d) h1 rfl) fun σ' E' hw => q σ' E' fun ws hj => (hw ws fun j hm => hj j (List.mem_cons_of_mem _ hm)).trans (wipe_set (hj i List.mem_cons_self))⟩
  | [], _ :: _, _, _, _, hl, _, _, _ => by simp at hl
  | _ :: _, [], _, _, _, hl, _, _, _ => by simp at hl
theorem tg_tup {is : List Nat} {ds : List PyData} {n : Nat} {g : TGs} (hg : g = gNames is) (hn : ds.length = n) (hl : is.length = n) : Tg K M (gTup K n g) is γ (.d (.tuple ds)) (setAll γ is ds) := fun H0 σ H v e0 E hv Q q => by
  subst hg
  cases hv with
  | tup hs hd => exact ⟨_, _, rfl, hs, by rw [hd.len, hn], unpack_run is ds _ σ γ (by rw [hl, hn]) hd E q⟩
theorem ts_unp {is : List Nat} {ds : List PyData} {n : Nat} {g : TGs} (hg : g = gNames is) (h : Te K M te γ (.d (.tuple ds))) (hn : ds.length = n) (hl : is.length = n) (k : Ts K M tz (setAll γ is ds) N R) :
    Ts K M (tSeq (tAsg te (gTup K n g)) tz) γ N R := fun H0 σ H D e0 E nx r =>
  h H0 σ H e0 E _ fun v H1 e1 hv => tg_tup hg hn hl H0 σ H1 v (e0.trans e1) (E.ex e1) hv _ fun σ' E' _ => k H0 σ' H1 D (e0.trans e1) E' (fun γ2 σ2 H2 a b c d => nx γ2 σ2 H2 a b ((kp_ex e1).trans c) d) r
end

end Tw
namespace PySem.AutoSeq1
open PySem PySem.F
theorem tw_extend_tuple (l : Addr) (items : Array Value) (n : Nat) (b : Addr) (items2 : Array Value) (n2 : Nat) (dd : Option Addr) (sl : Array (Option Value)) (hs0 : ¬(!items.isEmpty && Builtin.List.listTooLong (items.size + items2.size)) = true) (hs1 : items.size ≤ sizeLine) (hs2 : items.size + items2.size ≤ sizeLine + 1) :
    Meets (Builtin.«list.extend» ⟨[.ref l, .ref b], []⟩) (fun _ R s => s.heap.get? l = some { cls := .type "list", dict := none, data := .seq items n, slots := #[] } ∧ s.heap.get? b = some { cls := .type "tuple", dict := dd, data := .seq items2 n2, slots := sl } ∧ R (.ok (.ret Value.none)) { s with heap := s.heap.update l (Obj.mapSeq fun x => x ++ items2), toks := s.toks }) :=
  .of_wp fun prog w A R s h => by
    obtain ⟨hp, g, d, tk, os⟩ := s; obtain ⟨hl, hb, h⟩ := h; have f1 := idx_int; have f2 := sub_tuple_tuple; have f3 := sub_list_list; have f4 := sub_tuple_list; have f5 := sub_list_tuple;
    have hz' : (items ++ items2).size ≤ sizeLine + 1 := by rw [Array.size_append]; exact hs2
    wp_walk using (wpAny_updateSeq hl rfl (hz := hs1) (_hz' := hz')), wpAny_loadPart' hl, wpAny_loadPart' hb; exact ⟨_, rfl, h⟩
end PySem.AutoSeq1
namespace Tw
open PySem PySem.Spec PyProof.Rows L2
open Evl (Ex)
section
variable {X : Cx}
def rAddT : R2 := fun x y H Q => ∃ i j, x = .str i ∧ y = .str j ∧ i.length + j.length ≤ sizeLine ∧ Q (.str (i ++ j)) H
def rAddU (K : PySem.W.Frag) : R2 := fun x y H Q => rI0 (fun i j => .int (i + j)) x y H Q ∨ (rAddT x y H Q ∨ (rCatA K x y H Q ∨ rCat x y H Q))
theorem op_addU : OpR X (binaryOp .Add) (rAddU X.K) := op_add.or (op_add_str.or (op_catA.or op_cat))
def rMulU : R2 := fun x y H Q => rI CMul (fun i j => .int (i * j)) x y H Q ∨ rRep x y H Q
theorem op_mulU : OpR X (binaryOp .Mult) rMulU := op_mul.or op_rep
def rLeT : R2 := fun x y H Q => ∃ i j, x = .str i ∧ y = .str j ∧ Q (.bl (!decide (j.cps.toList < i.cps.toList))) H
def rLeU : R2 := fun x y H Q => rI0 (fun i j => .bl (decide (i ≤ j))) x y H Q ∨ rLeT x y H Q
theorem op_leU : OpR X (compareOp .LtE) rLeU := op_le.or op_le_str
def rInSg : R2 := fun x y H Q => ∃ (c : Nat) (z : Str), x = .str ⟨#[c]⟩ ∧ y = .str z ∧ Q (.bl (decide (c ∈ z.cps.toList))) H
def rNotInSg : R2 := fun x y H Q => ∃ (c : Nat) (z : Str), x = .str ⟨#[c]⟩ ∧ y = .str z ∧ Q (.bl (!decide (c ∈ z.cps.toList))) H
def rInU (K : PySem.W.Frag) : R2 := fun x y H Q => rIn K false x y H Q ∨ (rInSg x y H Q ∨ rInD K x y H Q)
def rNotInU (K : PySem.W.Frag) : R2 := fun x y H Q => rIn K true x y H Q ∨ (rNotInSg x y H Q ∨ rNotInD K x y H Q)
theorem op_inU (hu : X.A.units + 65 < cLine) : OpR X (compareOp .In) (rInU X.K) := op_in_seq.or (OpR.or op_in_sign (op_inD hu))
theorem op_notInU (hu : X.A.units + 65 < cLine) : OpR X (compareOp .NotIn) (rNotInU X.K) := op_notIn_seq.or (OpR.or op_notIn_sign (op_notInD hu))
def rSlU (K : PySem.W.Frag) : V → Option Int → Option Int → Hp → VK → Prop := fun x lo hi H Q => rSlL K x lo hi H Q ∨ (rSlA K x lo hi H Q ∨ rSlS x lo hi H Q)
theorem sl_U : SlR X (rSlU X.K) := sl_list.or (sl_tupA.or sl_str)
def rLenS (K : PySem.W.Frag) : List V → Hp → VK → Prop := fun xs H Q => ∃ p ys, xs = [.ref p] ∧ (SqL K H p ys ∨ SqT K H p ys) ∧ Q (.int (ys.length : Nat)) H
def rLenT : List V → Hp → VK → Prop := fun xs H Q => ∃ z, xs = [.str z] ∧ z.length ≤ sizeLine ∧ Q (.int (z.length : Nat)) H
def rLenU (K : PySem.W.Frag) : List V → Hp → VK → Prop := fun xs H Q => rLenS K xs H Q ∨ rLenT xs H Q
theorem call_lenU : CallR X (.builtin "len") (rLenU X.K) := call_len_seq.or call_len_str
/-- list(text) -/
def rListT : List V → Hp → VK → Prop := fun xs H Q => ∃ z, xs = [.str z] ∧ z.length ≤ sizeLine ∧ ∀ l, H l = none → Q (.ref l) (upd H l (.lst (z.cps.toList.map fun c => V.str ⟨#[c]⟩)))
theorem vals_signs {x : Str} {acc : Array Value} (h : ItemsOf (SignAt x) acc x.cps.size) : Vals (x.cps.toList.map fun c => V.str ⟨#[c]⟩) acc.toList := by
  have hsz : acc.size = x.cps.size := h.1
  have g : ∀ (i : Nat) (v : Value), acc[i]? = some v → SignAt x i v := fun i v e => h.2 i v e
  have key : ∀ (n : Nat), n ≤ x.cps.size → Vals ((x.cps.toList.drop (x.cps.size - n)).map fun c => V.str ⟨#[c]⟩) (acc.toList.drop (acc.size - n)) := by
    intro n
    induction n with
    | zero =>
      intro _
      rw [Nat.sub_zero, Nat.sub_zero, List.drop_eq_nil_of_le (by simp), List.drop_eq_nil_of_le (by simp)]
      exact .nil
    | succ n ih =>
      intro hn
      have h1 : x.cps.size - (n + 1) < x.cps.toList.length := by simp; omega
      have h2 : acc.size - (n + 1) < acc.toList.length := by simp; omega
      rw [List.drop_eq_getElem_cons h1, List.drop_eq_getElem_cons h2]
      have e1 : x.cps.size - (n + 1) + 1 = x.cps.size - n := by omega
      have e2 : acc.size - (n + 1) + 1 = acc.size - n := by omega
      rw [e1, e2, List.map_cons]
      refine .cons ?_ (ih (by omega))
      have q := g (acc.size - (n + 1)) acc.toList[acc.size - (n + 1)] (by rw [← Array.getElem?_toList, List.getElem?_eq_getElem h2])
      obtain ⟨c, t, hc, hv⟩ := q
      rw [hv]
      refine ⟨t, ?_⟩
      have hc2 : x.cps.toList[x.cps.size - (n + 1)]? = some c := by rw [Array.getElem?_toList, ← hsz]; exact hc
      rw [List.getElem?_eq_getElem h1] at hc2
      rw [Option.some.inj hc2]
  have := key x.cps.size (Nat.le_refl _)
  rw [Nat.sub_self, show acc.size - x.cps.size = 0 by omega, List.drop_zero, List.drop_zero] at this
  exact this
theorem call_list_txt (hc : X.calm = true) : CallR X (.type "list") rListT := by
  intro pins s σ H xs us Q I r h
  obtain ⟨z, rfl, hz, q⟩ := h
  obtain ⟨u, rfl, rx⟩ := vals1 r
  obtain ⟨t, rfl⟩ := rx
  refine call_list_str (I.ok.hd hc) z t (fun h' tk acc' c' kp e hi => ?_) hz
  have hl : (z.cps.toList.map fun c => V.str ⟨#[c]⟩).length ≤ sizeLine := by rw [List.length_map, Array.length_toList]; exact hz
  exact ⟨.ref s.heap.objs.size, _, I.laid (t' := tk) kp (Nat.le_refl _) (show ObjOk X.prog X.w _ h' _ (.lst (z.cps.toList.map fun c => V.str ⟨#[c]⟩)) from ⟨hl, acc'.toList, c', vals_signs hi, by simpa using e⟩), rfl, q _ (I.hok.fresh (Nat.le_refl _))⟩
def rListS (K : PySem.W.Frag) : List V → Hp → VK → Prop := fun xs H Q => ∃ p ys, xs = [.ref p] ∧ (SqL K H p ys ∨ SqT K H p ys) ∧ ∀ l, H l = none → Q (.ref l) (upd H l (.lst ys))
def rListU (K : PySem.W.Frag) : List V → Hp → VK → Prop := fun xs H Q => rListS K xs H Q ∨ rListT xs H Q
theorem call_listU (hc : X.calm = true) : CallR X (.type "list") (rListU X.K) := call_list_of.or (call_list_txt hc)
def rTupleU (K : PySem.W.Frag) : List V → Hp → VK → Prop := fun xs H Q => ∃ p ys, xs = [.ref p] ∧ ((SqL K H p ys ∧ ∀ l, H l = none → Q (.ref l) (upd H l (.tup ys))) ∨ (SqT K H p ys ∧ Q (.ref p) H))
theorem call_tupleU : CallR X (.type "tuple") (rTupleU X.K) := call_tuple_of
def rInt1 : List V → Hp → VK → Prop := fun xs H Q => (∃ i, xs = [.int i] ∧ Q (.int i) H) ∨ ∃ k, xs = [.bl k] ∧ Q (.int (if k then 1 else 0)) H
theorem call_intU : CallR X (.type "int") rInt1 := call_int1
/-- list.extend(tuple) -/
def rExtT (K : PySem.W.Frag) : V → List V → Hp → VK → Prop := fun x vs H Q => ∃ l b xs zs, x = .ref l ∧ vs = [.ref b] ∧ H l = some (.lst xs) ∧ SqT K H b zs ∧ xs.length + zs.length ≤ sizeLine ∧ Q .non (upd H l (.lst (xs ++ zs)))
theorem mt_extT : MtM X "list.extend" (rExtT X.K) := by
  intro pins s σ H x vs v us Q I rx rv h
  obtain ⟨l, b, xs, zs, rfl, rfl, hH, hB, hz, q⟩ := h
  cases rx
  obtain ⟨u, rfl, ru⟩ := rv.one
  cases ru
  obtain ⟨z, its, n, r, hl, e⟩ := I.lstM hH
  obtain ⟨its2, r2, ⟨o2, e2, c2, n2, d2⟩, hl2⟩ := I.tuple hB
  obtain ⟨oc, od, odt, osl⟩ := o2
  simp only at c2 d2
  subst c2
  subst d2
  have hl3 := r2.length
  have hsz : its.toArray.size + its2.toArray.size ≤ sizeLine := by rw [List.size_toArray, List.size_toArray]; omega
  have hlong : ¬ (!its.toArray.isEmpty && Builtin.List.listTooLong (its.toArray.size + its2.toArray.size)) = true := by
    rw [notLongL hsz, Bool.and_false]
    exact Bool.false_ne_true
  refine call_meets F.slot_list_extend ⟨_, e, rfl⟩ F.entry_list_extend (F.args_list_extend_2 _ _)
    (AutoSeq1.tw_extend_tuple l its.toArray n b its2.toArray n2 od osl hlong (by rw [List.size_toArray]; omega) (by omega)) ⟨e, e2, ?_⟩
  refine ⟨.non, _, I.lset (its' := its ++ its2) hH e (by simp) (r.append r2) ?_, rfl, q⟩
  rw [List.length_append]
  omega
end
end Tw
namespace PySem.W
open PySem PySem.Calls PyProof.Rows
section
variable {prog : Program} {w : World} {A : Around} {E : Value → Shared → Prop} {s : Shared} {κ : PyProof.Rows.KeyKind}
theorem tw_collect_tuple {l : Addr} {vs : List Value} {Q : List Value → Shared → Prop} (hl : s.heap.IsTuple l vs.toArray)
    (h : Q vs { s with heap := (s.heap.push (seqObj "list" #[] 0)).update s.heap.objs.size (Obj.mapSeq (· ++ vs.toArray)) }) (hsz : vs.length ≤ sizeLine) :
    wpAny (model prog w) A (collect (.ref l)) Q E s := by
  obtain ⟨o, ho, hc, n, hd⟩ := id hl
  unfold collect
  refine wpAny_bind (wpAny_runValue (codeAny_builtin entry_proto_collect' ?_))
  show wpAny _ _ (do again (.builtin "list.__iadd__" ⟨[← newList [], .ref l], []⟩)) _ _ s
  refine wpAny_bind (wpAny_newList (wpAny_pure ⟨Code.quiet_builtin _ (by decide +kernel), codeAny_builtin entry_list_iadd' ?_⟩))
  show wpAny _ _ (Builtin.List.listExtendWith (.ref s.heap.objs.size) (.ref l) (.ref s.heap.objs.size)) _ _ { s with heap := s.heap.push (seqObj "list" #[] 0) }
  unfold Builtin.List.listExtendWith
  have ho' : (s.heap.push (seqObj "list" #[] 0)).get? l = some o := Heap.get?_push_of_some _ ho
  refine wpAny_bind (wpAny_typeOf (T := "tuple") ⟨o, ho', hc⟩ ?_)
  have ht : (Value.type "tuple" == Value.type "tuple") = true := by rfl
  rw [if_pos (by rw [ht]; simp)]
  refine wpAny_bind (listItems_at ho' hd ?_)
  refine wpAny_bind (listItems_at (xs := #[]) (n := 0) (Heap.get?_push_size _ rfl) rfl ?_)
  rw [if_neg (by simp)]
  refine wpAny_bind (listUpdate_at (xs := #[]) (n := 0) (Heap.get?_push_size _ rfl) rfl ?_ (Nat.zero_le _) (by show (#[] ++ vs.toArray).size ≤ sizeLine + 1; simp only [Array.size_append, List.size_toArray, List.length_nil]; omega))
  refine wpAny_pure ?_
  show wpAny (model prog w) A (do
      let o ← load s.heap.objs.size
      match o.data with
      | .seq xs _ => pure xs.toList
      | _ => unsupported "internal:collect") Q E { s with heap := (s.heap.push (seqObj "list" #[] 0)).update s.heap.objs.size (Obj.mapSeq (· ++ vs.toArray)) }
  refine wpAny_bind (wpAny_load (get?_update_seq (Heap.get?_push_size _ rfl) _) ?_)
  show wpAny _ _ (pure ((#[] : Array Value) ++ vs.toArray).toList) Q E _
  rw [show ((#[] : Array Value) ++ vs.toArray).toList = vs by simp]
  exact wpAny_pure h
theorem tw_sorted_of_sort {l : Addr} {vs : List Value} {Q : Value → Shared → Prop} (hl : s.heap.IsTuple l vs.toArray) (hL : vs.length ≤ sizeLine)
    (body : ∀ E' : Value → Shared → Prop, wpAny (model prog w) A.in1.in1 (Builtin.«list.sort» ⟨[.ref (s.heap.objs.size + 1)], []⟩) (fun f s' => f = .done (.ret .none) ∧ Q (.ref (s.heap.objs.size + 1)) s') E' { s with heap := copyHeap s.heap vs }) :
    wpAny (model prog w) A (call (.builtin "sorted") [.ref l]) Q E s := by
  refine call_function_entry_kw kind_sorted plain_sorted entry_sorted (args_sorted1 _) ?_
  unfold Builtin.«sorted»
  refine wpAny_bind (m := checkCount "sorted" 1 1 _) (wpAny_pure ?_)
  refine wpAny_bind (tw_collect_tuple hl ?_ hL)
  refine wpAny_bind (wpAny_newList ?_ hL)
  have hsz : ((s.heap.push (seqObj "list" #[] 0)).update s.heap.objs.size (Obj.mapSeq (· ++ vs.toArray))).objs.size = s.heap.objs.size + 1 := by
    rw [Heap.size_update, size_push']
  show wpAny _ _ _ _ _ { s with heap := copyHeap s.heap vs }
  rw [hsz]
  refine wpAny_bind (wpAny_holding (wpAny_call_entry_kw slot_list_sort ⟨_, copyHeap_at s.heap vs, rfl⟩ entry_list_sort ?body (args_list_sort _)))
  case body =>
    show wpAny (model prog w) A.in1.in1 (Builtin.«list.sort» ⟨[.ref (s.heap.objs.size + 1)], []⟩) _ _ _
    refine wpAny_mono (body _) (fun f s' hf => ?_) fun _ _ e => e
    obtain ⟨rfl, hq⟩ := hf
    exact ⟨_, rfl, wpAny_pure ⟨_, rfl, hq⟩⟩
theorem tw_sorted_vals {l : Addr} {vs : List Value} {Q : Value → Shared → Prop} (hl : s.heap.IsTuple l vs.toArray) (S : SortsAt prog w A.in1.in1 { s with heap := sortingHeap (copyHeap s.heap vs) (s.heap.objs.size + 1) vs } κ vs) (hL : vs.length ≤ sizeLine)
    (h : Q (.ref (s.heap.objs.size + 1)) { s with heap := sortedAll s.heap vs (sortVals κ false vs vs).toArray }) : wpAny (model prog w) A (call (.builtin "sorted") [.ref l]) Q E s :=
  tw_sorted_of_sort hl hL fun _ => list_sort_vals (s := { s with heap := copyHeap s.heap vs }) (copyHeap_at s.heap vs) S hL ⟨rfl, h⟩
theorem tw_sorted_data {β : Type} {R : Value → β → Prop} {enc : β → PyData} {bs : List β} {vs : List Value} {l : Addr} {Q : Value → Shared → Prop} (hl : s.heap.IsTuple l vs.toArray) (e : EachIs R vs bs) (er : EachIs (fun v b => ∃ as, Reads s.heap v (enc b) as) vs bs) (hal : AllAlike (bs.map enc)) (hk : Sortable (bs.map enc)) (hL : bs.length ≤ sizeLine)
    (hu : ∀ b, b ∈ bs → A.units + 2 + (enc b).depth < cLine) (h : ∀ out, out.length = bs.length → EachIs R out (bs.mergeSort (dataLe false enc)) → Q (.ref (s.heap.objs.size + 1)) { s with heap := sortedAll s.heap vs (List.toArray out) }) :
    wpAny (model prog w) A (call (.builtin "sorted") [.ref l]) Q E s := by
  have er' : EachIs (fun v b => ∃ as, Reads (sortingHeap (copyHeap s.heap vs) (s.heap.objs.size + 1) vs) v (enc b) as) vs bs := er.mono fun _ _ ⟨as, r⟩ => ⟨as, PyProof.Rows.Reads.keeps (fun _ _ => sorting_copy_old) r⟩
  exact tw_sorted_vals hl (SortsAt.data (s := { s with heap := sortingHeap (copyHeap s.heap vs) (s.heap.objs.size + 1) vs }) (each_map (R := fun v d => ∃ as, Reads (sortingHeap (copyHeap s.heap vs) (s.heap.objs.size + 1) vs) v d as) enc er') hal hk (bound_map hu)) (by rw [e.length]; exact hL)
    (h _ (by rw [sortVals_length false rfl]; exact e.length) (sortVals_data false e er' hal))
end
end PySem.W

namespace Tw
open PySem PySem.Spec PyProof.Rows L2
open Evl (Ex)
/-- the data in Python's order -/
def srtD (ds : List PyData) : List PyData := ds.mergeSort (PySem.W.dataLe false id)
/-- data that can be sorted -/
structure Sob (ds : List PyData) : Prop where
  al : PySem.W.AllAlike ds
  so : PySem.W.Sortable ds
  dp : ∀ d ∈ ds, d.depth ≤ 60
section
variable {X : Cx}
/-- what an item of the sorted list stands for -/
def Rit (K : PySem.W.Frag) (H : Hp) (v : Value) (d : PyData) : Prop := ∃ x, RelV x v ∧ Dat K H x d
theorem each_of {K : PySem.W.Frag} {H : Hp} : ∀ {ds : List PyData} {xs : List V} {us : List Value}, Dats K H xs ds → Vals xs us → PySem.W.EachIs (Rit K H) us ds
  | [], _, _, h, r => by cases h; cases r; exact .nil
  | d :: ds, _, _, h, r => by
    cases h with
    | cons h1 h2 =>
      cases r with
      | cons r1 r2 => exact .cons ⟨_, r1, h1⟩ (each_of h2 r2)
theorem of_each {K : PySem.W.Frag} {H : Hp} : ∀ {ds : List PyData} {us : List Value}, PySem.W.EachIs (Rit K H) us ds → ∃ xs, Vals xs us ∧ Dats K H xs ds
  | [], _, h => by cases h; exact ⟨[], .nil, .nil⟩
  | d :: ds, _, h => by
    cases h with
    | cons h1 h2 =>
      obtain ⟨x, r, hx⟩ := h1
      obtain ⟨xs, rs, hxs⟩ := of_each h2
      exact ⟨x :: xs, .cons r rs, .cons hx hxs⟩
theorem each_reads {pins : List (Addr × Obj)} {σ : L2.St} {H : Hp} {s : Shared} (I : Inv X pins σ H s) : ∀ {ds : List PyData} {us : List Value}, PySem.W.EachIs (Rit X.K H) us ds → PySem.W.EachIs (fun v b => ∃ as, Reads s.heap v (id b) as) us ds
  | [], _, h => by cases h; exact .nil
  | d :: ds, _, h => by
    cases h with
    | cons h1 h2 =>
      obtain ⟨x, r, hx⟩ := h1
      exact .cons (Dp.reads I d x _ hx.dp r) (each_reads I h2)
def rSortD (K : PySem.W.Frag) : List V → Hp → VK → Prop := fun vs H Q => ∃ (a : Addr) (xs : List V) (ds : List PyData), vs = [.ref a] ∧ (SqL K H a xs ∨ SqT K H a xs) ∧ Dats K H xs ds ∧ Sob ds ∧
  ∀ (p : Addr) (ys : List V), H p = none → Dats K H ys (srtD ds) → Q (.ref p) (upd H p (.lst ys))
theorem cr_sortD (hu : X.A.units + 70 < cLine) : CallR X (.builtin "sorted") (rSortD X.K) := by
  intro pins s σ H vs us Q I r h
  obtain ⟨a, xs, ds, rfl, hq, hd, hb, q⟩ := h
  obtain ⟨u, rfl, rx⟩ := vals1 r
  cases rx
  have fin : ∀ (its : List Value), Vals xs its → xs.length ≤ sizeLine → ∀ out : List Value, out.length = ds.length → PySem.W.EachIs (Rit X.K H) out (ds.mergeSort (PySem.W.dataLe false id)) →
      EP X pins σ Q (.ref (s.heap.objs.size + 1)) { s with heap := sortedAll s.heap its (List.toArray out) } := by
    intro its rv hz out hl he
    obtain ⟨ys, ry, hy⟩ := of_each he
    obtain ⟨ep, he'⟩ := PyProof.Rows.sortedAll_at s.heap its out.toArray
    have hlen : ys.length ≤ sizeLine := by rw [ry.length, hl, ← hd.len]; exact hz
    exact ⟨.ref _, upd H (s.heap.objs.size + 1) (.lst ys), I.laid (t' := s.toks) (fun _ _ => PyProof.Rows.sortedAll_old) (Nat.le_succ _) ⟨hlen, out, ep, ry, he'⟩, rfl, q _ _ (I.hok.fresh (Nat.le_succ _)) hy⟩
  have hdp : ∀ b, b ∈ ds → X.A.units + 2 + (id b).depth < cLine := fun b hm => by
    have := hb.dp b hm
    show X.A.units + 2 + b.depth < cLine
    omega
  have hal : PySem.W.AllAlike (ds.map id) := by rw [List.map_id]; exact hb.al
  have hso : PySem.W.Sortable (ds.map id) := by rw [List.map_id]; exact hb.so
  rcases hq with hq | hq
  · obtain ⟨its, rv, pl, hz⟩ := I.list hq
    have ee := each_of hd rv
    exact PySem.W.sorted_data (R := Rit X.K H) pl.isList ee (each_reads I ee) hal hso (by rw [← hd.len]; exact hz) hdp (fin its rv hz)
  · obtain ⟨its, rv, pl, hz⟩ := I.tuple hq
    have ee := each_of hd rv
    exact PySem.W.tw_sorted_data (R := Rit X.K H) (show s.heap.IsTuple a its.toArray from pl) ee (each_reads I ee) hal hso (by rw [← hd.len]; exact hz) hdp (fin its rv hz)
def rSortU (K : PySem.W.Frag) (w : World) : List V → Hp → VK → Prop := fun vs H Q => rSortD K vs H Q ∨ rSortedSet w vs H Q
theorem cr_sortU (hu : X.A.units + 70 < cLine) (hc : X.calm = true) : CallR X (.builtin "sorted") (rSortU X.K X.w) := (cr_sortD hu).or (cr_sortedSet hc)
/-- set(tuple of ints): how many members are told by their places -/
def rSetT (K : PySem.W.Frag) (w : World) : List V → Hp → VK → Prop := fun vs H Q => ∃ (a : Addr) (ns : List Int), vs = [.ref a] ∧ SqT K H a (ns.map V.int) ∧ ns.length ≤ 1000 ∧
  ∀ (p : Addr) (c : Nat), H p = none → (∀ ts : List Int, (∀ k ∈ ns, k ∈ ts) → c ≤ ts.length) → Q (.ref p) (upd H p (SetO w p (fun j => decide (j ∈ ns)) c))
theorem sub_len : ∀ {l ts : List Int}, l.Nodup → (∀ k ∈ l, k ∈ ts) → l.length ≤ ts.length
  | [], _, _, _ => Nat.zero_le _
  | k :: l, ts, hn, h => by
    obtain ⟨n1, n2⟩ := List.nodup_cons.mp hn
    have hk := h k List.mem_cons_self
    have := sub_len (l := l) (ts := ts.erase k) n2 fun j hj => (List.mem_erase_of_ne (fun e => n1 (by rw [← e]; exact hj))).mpr (h j (List.mem_cons_of_mem _ hj))
    rw [List.length_erase_of_mem hk] at this
    have hp := List.length_pos_of_mem hk
    rw [List.length_cons]
    omega
theorem set_count {w : World} {h : Heap} {a : Addr} {ns : List Int} {c : Nat} (R : SetR w h a (fun j => decide (j ∈ ns)) c) (ts : List Int) (hs : ∀ k ∈ ns, k ∈ ts) : c ≤ ts.length := by
  obtain ⟨o, es, ep, t, ho, hex, hd, g, nd, hm, hb, hf, hn, hr, hl⟩ := R
  have hlen : (es.toList.map keyOf).length = c := by rw [List.length_map, Array.length_toList, hn]
  rw [← hlen]
  refine sub_len nd fun k hk => hs k ?_
  have := (hm k).mpr hk
  exact of_decide_eq_true this
theorem cr_setT (hc : X.calm = true) : CallR X (.type "set") (rSetT X.K X.w) := by
  intro pins s σ H xs us Q I r h
  obtain ⟨a, ns, rfl, hq, hl, q⟩ := h
  obtain ⟨u, rfl, rx⟩ := vals1 r
  cases rx
  obtain ⟨its, rv, pl, hz⟩ := I.tuple hq
  refine call_set_tupI ns (I.ok.hd hc) (show s.heap.IsTuple a its.toArray from pl) (by simpa using rv.ints) (Nat.lt_of_le_of_lt (Nat.succ_le_succ hl) (by decide)) fun h' tk c hR hcl kp => ?_
  exact ⟨.ref s.heap.objs.size, upd H s.heap.objs.size (SetO X.w s.heap.objs.size (fun j => decide (j ∈ ns)) c), I.laid (t' := tk) kp (Nat.le_refl _) (setO_new hR), rfl, q _ c (I.hok.fresh (Nat.le_refl _)) (set_count hR)⟩
end
end Tw
namespace Tw
open PySem PySem.Spec PyProof.Rows L2
structure Yl (K : PySem.W.Frag) (M : Addr → Prop) (H0 : Hp) (S : Hp → Prop) (J : It) (ss : List Sv) : Prop where
  go : ∀ (i : Nat) (H : Hp), S H → i < ss.length → J.go i H
  stop : ∀ (H : Hp), S H → J.stop ss.length H
  yld : ∀ (i : Nat) (H : Hp) (v : V) (H' : Hp), S H → J.yld i H v H' → Xm M H H' ∧ ∀ s, ss[i]? = some s → Hs K M H0 H' v s
/-- for a loop; for a comprehension -/
def Ti (K : PySem.W.Frag) (M : Addr → Prop) (wi : TI) (γ : G) (ss : List Sv) : Prop := ∀ (H0 : Hp) (σ : L2.St) (H : Hp), Xs M H0 H → En K M H0 H σ γ → ∀ R : It → Hp → Prop, (∀ J H1, Xm M H H1 → Yl K M H0 (fun H' => Xm M H0 H' ∧ Kp H1 H') J ss → R J H1) → wi σ H R
def Tc (K : PySem.W.Frag) (M : Addr → Prop) (wi : TI) (γ : G) (ss : List Sv) : Prop := ∀ (H0 : Hp) (σ : L2.St) (H : Hp), Xs M H0 H → En K M H0 H σ γ → ∀ R : It → Hp → Prop, (∀ J H1, Xm M H H1 → Yl K M H0 (fun H' => Xm M H1 H') J ss → R J H1) → wi σ H R
section
variable {K : PySem.W.Frag} {M : Addr → Prop} {γ : G} {te tl : TE} {tt : TT} {s : Sv} {tu tz : TS} {N : G → Prop} {R : Sv → Prop} {g : TG} {wi : TI} {ss : List Sv}
theorem Yl.mono {H0 : Hp} {S S' : Hp → Prop} {J : It} (y : Yl K M H0 S J ss) (h : ∀ H, S' H → S H) : Yl K M H0 S' J ss := ⟨fun i H k => y.go i H (h H k), fun H k => y.stop H (h H k), fun i H v H' k => y.yld i H v H' (h H k)⟩
theorem ti_tc (h : Ti K M wi γ ss) : Tc K M wi γ ss := fun H0 σ H e0 E R q => h H0 σ H e0 E R fun J H1 e1 y => q J H1 e1 (y.mono fun H' k => ⟨(e0.trans (e1.trans k)).e, k.t⟩)
theorem yl_tup {H0 H1 : Hp} {a : Addr} {xs : List V} {ds : List PyData} (hs : SqT K H1 a xs) (hd : Dats K H1 xs ds) : Yl K M H0 (fun H' => Xm M H0 H' ∧ Kp H1 H') (Itt K a) (ds.map Sv.d) where
  go := fun i H k hi => by
    rw [List.length_map] at hi
    obtain ⟨v, e, _⟩ := hd.get (List.getElem?_eq_getElem hi)
    exact ⟨xs, v, k.2.sqt hs, e⟩
  stop := fun H k => ⟨xs, k.2.sqt hs, by rw [hd.len, List.length_map]; exact Nat.le_refl _⟩
  yld := fun i H v H' k h => by
    obtain ⟨rfl, f⟩ := h
    refine ⟨Xm.refl _, fun s e => ?_⟩
    rw [List.getElem?_map] at e
    cases ed : ds[i]? with
    | none => rw [ed] at e; cases e
    | some d =>
      rw [ed] at e
      cases e
      obtain ⟨u, e1, hu⟩ := hd.get ed
      have e2 := f xs (k.2.sqt hs)
      rw [e1] at e2
      cases e2
      exact Dat.kp k.2 hu
theorem yl_str {H0 : Hp} {x : Str} {S : Hp → Prop} : Yl K M H0 S (Its x) (x.cps.toList.map fun c => Sv.d (.str ⟨#[c]⟩)) where
  go := fun i H k hi => by simpa [Its] using hi
  stop := fun H k => by simp [Its]
  yld := fun i H v H' k h => by
    obtain ⟨rfl, c, e, rfl⟩ := h
    refine ⟨Xm.refl _, fun d q => ?_⟩
    rw [List.getElem?_map, Array.getElem?_toList, e] at q
    cases q
    exact Dat.str _
theorem yl_rng {H0 : Hp} {n : Nat} {S : Hp → Prop} : Yl K M H0 S (Itr 0 n) ((List.range n).map fun i => Sv.d (.int (i : Nat))) where
  go := fun i H k hi => by simpa [Itr] using hi
  stop := fun H k => by simp [Itr]
  yld := fun i H v H' k h => by
    obtain ⟨rfl, rfl⟩ := h
    refine ⟨Xm.refl _, fun d q => ?_⟩
    rw [List.getElem?_map] at q
    by_cases hi : i < n
    · rw [List.getElem?_eq_getElem (by simpa using hi)] at q
      simp at q
      subst q
      rw [Int.zero_add]
      exact Dat.int _
    · rw [List.getElem?_eq_none (by simpa using hi)] at q
      cases q
theorem yl_zip {H0 H1 : Hp} {a b : Addr} {xs ys : List V} {ds es : List PyData} (hs : SqT K H1 a xs) (hd : Dats K H1 xs ds) (hs2 : SqT K H1 b ys) (hd2 : Dats K H1 ys es) (hl : ds.length = es.length) : Yl K M H0 (fun H' => Xm M H0 H' ∧ Kp H1 H') (RZ.ItzT K a b) ((ds.zip es).map fun p => Sv.d (.tuple [p.1, p.2])) where
  go := fun i H k hi => by
    rw [List.length_map, List.length_zip] at hi
    obtain ⟨v, e, _⟩ := hd.get (List.getElem?_eq_getElem (show i < ds.length by omega))
    obtain ⟨u, e2, _⟩ := hd2.get (List.getElem?_eq_getElem (show i < es.length by omega))
    exact ⟨xs, ys, v, u, k.2.sqt hs, k.2.sqt hs2, e, e2⟩
  stop := fun H k => ⟨xs, ys, k.2.sqt hs, k.2.sqt hs2, .inl (by rw [hd.len, List.length_map, List.length_zip]; omega)⟩
  yld := fun i H v H' k h => by
    obtain ⟨T, x, y, rfl, hT, rfl, f, f2⟩ := h
    refine ⟨Xm.new hT, fun d q => ?_⟩
    rw [List.getElem?_map] at q
    cases z : (ds.zip es)[i]? with
    | none => rw [z] at q; cases q
    | some p =>
      rw [z] at q
      cases q
      obtain ⟨q1, q2⟩ := List.getElem?_zip_eq_some.mp z
      obtain ⟨u, e1, hu⟩ := hd.get q1
      obtain ⟨u2, e2, hu2⟩ := hd2.get q2
      have g1 := f xs (k.2.sqt hs)
      have g2 := f2 ys (k.2.sqt hs2)
      rw [e1] at g1
      rw [e2] at g2
      cases g1
      cases g2
      exact Dat.tup (.inl (.inl upd_same)) (.cons ((hu.kp k.2).kp (kp_new hT)) (.cons ((hu2.kp k.2).kp (kp_new hT)) .nil))
theorem get_map {α β : Type} {f : α → β} {l : List α} {i : Nat} {b : β} (h : (l.map f)[i]? = some b) : ∃ a, l[i]? = some a ∧ b = f a := by
  rw [List.getElem?_map] at h
  cases e : l[i]? with
  | none => rw [e] at h; cases h
  | some a => rw [e] at h; cases h; exact ⟨a, rfl, rfl⟩
/-- a list that stays -/
theorem yl_lst {H0 : Hp} {S : Hp → Prop} {p : Addr} {xs : List V} {ss : List Sv} (hS : ∀ H, S H → H p = some (.lst xs)) (hl : xs.length = ss.length) (hd : ∀ (i : Nat) (v : V) (s : Sv) (H : Hp), S H → xs[i]? = some v → ss[i]? = some s → Hs K M H0 H v s) : Yl K M H0 S (Itl K p) ss where
  go := fun i H k hi => ⟨xs, xs[i]'(by omega), .inl (.inl (hS H k)), List.getElem?_eq_getElem _⟩
  stop := fun H k => ⟨xs, .inl (.inl (hS H k)), by omega⟩
  yld := fun i H v H' k h => by
    obtain ⟨rfl, f⟩ := h
    exact ⟨Xm.refl _, fun s e => hd i v s H' k (f xs (.inl (.inl (hS H' k)))) e⟩
/-- a for -/
theorem ts_for {α : Type} {enc : α → Sv} {l : List α} {js : List Nat} (I : Nat → G → Prop) (hw : Ti K M wi γ (l.map enc)) (h0 : I 0 γ)
    (hs : ∀ (i : Nat) (a : α) (γ1 : G), l[i]? = some a → I i γ1 → ∃ γ2, Tg K M g js γ1 (enc a) γ2 ∧ Ts K M tu γ2 (I (i + 1)) R) (hd : ∀ γ1, I l.length γ1 → N γ1) : Ts K M (tFor wi g tu) γ N R := fun H0 σ H D e0 E n r =>
  hw H0 σ H e0 E _ fun J H1 e1 Y => by
    have len : (l.map enc).length = l.length := List.length_map ..
    refine ⟨fun i m σ' H' => m = l.length - i ∧ i ≤ l.length ∧ ∃ γ1, I i γ1 ∧ Xs M H0 H' ∧ Kp H1 H' ∧ En K M H0 H' σ' γ1, ⟨_, rfl, Nat.zero_le _, γ, h0, e0.trans e1, Kp.refl _, E.ex e1⟩, ?_⟩
    rintro i m σ' H' ⟨rfl, hi, γ1, hI, e2, k2, E2⟩
    by_cases hl : i < l.length
    · refine .inr ⟨Y.go i H' ⟨e2.e, k2⟩ (by rw [len]; exact hl), fun σ2 H2 => ∃ γ3, I (i + 1) γ3 ∧ Xs M H0 H2 ∧ Kp H1 H2 ∧ En K M H0 H2 σ2 γ3, fun σ2 H2 ⟨γ3, a, b, c, d⟩ => ⟨l.length - (i + 1), by omega, rfl, hl, γ3, a, b, c, d⟩, fun v H2 hy => ?_⟩
      obtain ⟨e3, hv⟩ := Y.yld i H' v H2 ⟨e2.e, k2⟩ hy
      obtain ⟨γ2, hg, hb⟩ := hs i l[i] γ1 (List.getElem?_eq_getElem hl) hI
      refine hg H0 σ' H2 v (e2.trans e3) (E2.ex e3) (hv _ (by rw [List.getElem?_map, List.getElem?_eq_getElem hl]; rfl)) _ fun σ3 E3 _ => ?_
      exact hb H0 σ3 H2 _ (e2.trans e3) E3 (fun γ3 σ4 H4 a b c d => ⟨γ3, a, b, (k2.trans (kp_ex e3)).trans c, d⟩) r
    · have e : i = l.length := by omega
      subst e
      exact .inl ⟨len ▸ Y.stop H' ⟨e2.e, k2⟩, n γ1 σ' H' (hd γ1 hI) e2 ((kp_ex e1).trans k2) E2⟩
/-- a for, then more -/
theorem ts_forS {α : Type} {enc : α → Sv} {l : List α} {js : List Nat} (I : Nat → G → Prop) (hw : Ti K M wi γ (l.map enc)) (h0 : I 0 γ)
    (hs : ∀ (i : Nat) (a : α) (γ1 : G), l[i]? = some a → I i γ1 → ∃ γ2, Tg K M g js γ1 (enc a) γ2 ∧ Ts K M tu γ2 (I (i + 1)) R) (hd : ∀ γ1, I l.length γ1 → Ts K M tz γ1 N R) : Ts K M (tSeq (tFor wi g tu) tz) γ N R :=
  ts_seq (N' := I l.length) (ts_for I hw h0 hs fun _ h => h) hd
/-- a list comprehension -/
theorem lc_pt {α : Type} {enc : α → Sv} {l : List α} {js vs : List Nat} {H0 H : Hp} {σ : L2.St} {Q : VK} (e0 : Xs M H0 H) (E : En K M H0 H σ γ) (f : α → Bool) (h : α → PyData) (hw : ∀ R : It → Hp → Prop, (∀ J H1, Xm M H H1 → Yl K M H0 (fun H' => Xm M H1 H') J (l.map enc) → R J H1) → wi σ H R) (hz : l.length ≤ 10000) (hj : ∀ j ∈ js, j ∈ vs)
    (hs : ∀ (a : α), a ∈ l → ∃ γ2, Tg K M g js (wipeG γ vs) (enc a) γ2 ∧ Tt K M tt γ2 (f a) ∧ (f a = true → Te K M te γ2 (.d (h a)))) (q : ∀ v H', Xm M H H' → Hs K M H0 H' v (.o ((l.filter f).map h)) → Q v H') : tLc wi g tt te vs σ H Q :=
  hw _ fun J H1 e1 Y Dl hD => by
    have ew := (E.ex e1).wipe vs
    have len : (l.map enc).length = l.length := List.length_map ..
    refine ⟨fun i m H' => m = l.length - i ∧ i ≤ l.length ∧ Xm M H1 H' ∧ ∃ acc, H' Dl = some (.lst acc) ∧ Dats K H' acc (((l.take i).filter f).map h), ⟨_, rfl, Nat.zero_le _, Xm.new hD, [], upd_same, .nil⟩, ?_⟩
    rintro i m H' ⟨rfl, hi, e2, acc, ha, hacc⟩
    have nD := (e0.trans e1).notM hD
    have lacc : acc.length ≤ 10000 := by
      rw [hacc.len, List.length_map]
      exact Nat.le_trans (List.length_filter_le _ _) (by rw [List.length_take]; omega)
    by_cases hl : i < l.length
    · refine .inr ⟨Y.go i H' e2 (by rw [len]; exact hl), fun H2 => Xm M H1 H2 ∧ ∃ acc, H2 Dl = some (.lst acc) ∧ Dats K H2 acc (((l.take (i + 1)).filter f).map h), fun H2 ⟨a, b⟩ => ⟨l.length - (i + 1), by omega, rfl, hl, a, b⟩, fun v H2 hy => ?_⟩
      obtain ⟨e3, hv⟩ := Y.yld i H' v H2 e2 hy
      obtain ⟨γ2, hg, ht, he⟩ := hs l[i] (List.getElem_mem hl)
      have etk : l.take (i + 1) = l.take i ++ [l[i]] := by rw [List.take_succ, List.getElem?_eq_getElem hl]; rfl
      refine hg H0 (wipe σ vs) H2 v ((e0.trans e1).trans (e2.trans e3)) (ew.ex (e2.trans e3)) (hv _ (by rw [List.getElem?_map, List.getElem?_eq_getElem hl]; rfl)) _ fun σ3 E3 hwp => ⟨(hwp vs hj).trans (wipe_wipe σ vs), ?_⟩
      refine ht H0 σ3 H2 ((e0.trans e1).trans (e2.trans e3)) E3 _ fun H3 e4 => ?_
      cases hf : f l[i] with
      | true =>
        show te σ3 H3 _
        refine he hf H0 σ3 H3 (((e0.trans e1).trans (e2.trans e3)).trans e4) (E3.ex e4) _ fun y H4 e5 hy => ?_
        have e6 := (e3.trans e4).trans e5
        have ha4 := e6.k _ _ nD ha
        refine ⟨acc, ha4, Evl.sz_lt (by omega), (e2.trans e6).mut hD (kp_lst ha4), acc ++ [y], upd_same, ?_⟩
        rw [etk, List.filter_append, List.map_append, List.filter_cons, if_pos hf]
        exact ((hacc.ex e6).kp (kp_lst ha4)).app (.cons (Dat.kp (kp_lst ha4) hy) .nil)
      | false =>
        show Xm M H1 H3 ∧ _
        refine ⟨(e2.trans e3).trans e4, acc, (e3.trans e4).k _ _ nD ha, ?_⟩
        rw [etk, List.filter_append, List.map_append, List.filter_cons, if_neg (by rw [hf]; decide)]
        show Dats K H3 acc (_ ++ [])
        rw [List.append_nil]
        exact hacc.ex (e3.trans e4)
    · have e : i = l.length := by omega
      subst e
      rw [List.take_length] at hacc
      exact .inl ⟨len ▸ Y.stop H' e2, q _ H' (e1.trans e2) ⟨Dl, acc, rfl, nD, (e0.trans e1).back hD, ha, hacc⟩⟩
theorem te_lc {α : Type} {enc : α → Sv} {l : List α} {js vs : List Nat} (f : α → Bool) (h : α → PyData) (hw : Tc K M wi γ (l.map enc)) (hz : l.length ≤ 10000) (hj : ∀ j ∈ js, j ∈ vs)
    (hs : ∀ (a : α), a ∈ l → ∃ γ2, Tg K M g js (wipeG γ vs) (enc a) γ2 ∧ Tt K M tt γ2 (f a) ∧ (f a = true → Te K M te γ2 (.d (h a)))) : Te K M (tLc wi g tt te vs) γ (.o ((l.filter f).map h)) := fun H0 σ H e0 E Q q =>
  lc_pt e0 E f h (fun R r => hw H0 σ H e0 E R r) hz hj hs q
theorem ti_tup {ds : List PyData} (h : Te K M tl γ (.d (.tuple ds))) : Ti K M (iTup K tl) γ (ds.map Sv.d) := fun H0 σ H e0 E R q => h H0 σ H e0 E _ fun v H1 e1 hv => by
  cases hv with
  | tup hs hd => exact ⟨_, rfl, ⟨_, hs⟩, q _ H1 e1 (yl_tup hs hd)⟩
theorem ti_str {x : Str} (h : Te K M tl γ (.d (.str x))) : Ti K M (iStr tl) γ (x.cps.toList.map fun c => Sv.d (.str ⟨#[c]⟩)) := fun H0 σ H e0 E R q => h H0 σ H e0 E _ fun v H1 e1 hv => by
  cases hv with
  | str _ => exact ⟨x, rfl, q _ H1 e1 yl_str⟩
theorem ti_rng1 {ta : TA} {n : Int} (h : Ta K M ta γ [.d (.int n)]) (hn : n < 2 ^ 62) (hn2 : -(2 ^ 62) ≤ n) : Ti K M (iRng1 ta) γ ((List.range n.toNat).map fun i => Sv.d (.int (i : Nat))) := fun H0 σ H e0 E R q => h H0 σ H e0 E _ fun v H1 e1 hv => by
  cases hv with
  | cons a b =>
    cases b
    cases a
    exact ⟨n, rfl, hn2, hn, q _ H1 e1 yl_rng⟩
theorem ti_zip {ta : TA} {ds es : List PyData} (h : Ta K M ta γ [.d (.tuple ds), .d (.tuple es)]) (hl : ds.length = es.length) : Ti K M (RZ.iZipA K ta) γ ((ds.zip es).map fun p => Sv.d (.tuple [p.1, p.2])) := fun H0 σ H e0 E R q => h H0 σ H e0 E _ fun v H1 e1 hv => by
  cases hv with
  | cons a b =>
    cases b with
    | cons b c =>
      cases c
      cases a with
      | tup hs hd =>
        cases b with
        | tup hs2 hd2 => exact ⟨_, _, _, _, rfl, .inr ⟨hs, hs2, q _ H1 e1 (yl_zip hs hd hs2 hd2 hl)⟩⟩
/-- over a list, in a comprehension -/
theorem tc_list {ds : List PyData} (h : Te K M tl γ s) (hsl : s.lst? = some ds) : Tc K M (iList K tl) γ (ds.map Sv.d) := fun H0 σ H e0 E R q => h H0 σ H e0 E _ fun v H1 e1 hv => by
  obtain ⟨p, xs, rfl, hm, hp, hx⟩ := hv.seq hsl
  refine ⟨p, rfl, ⟨xs, .inl (.inl hp)⟩, q _ H1 e1 (yl_lst (fun H k => k.k _ _ hm hp) (by rw [hx.len, List.length_map]) fun i v s H k e1 e2 => ?_)⟩
  obtain ⟨d, ed, rfl⟩ := get_map e2
  obtain ⟨u, eu, hu⟩ := hx.get ed
  rw [eu] at e1
  cases e1
  exact Dat.kp k.t hu
/-- over a list, one of many -/
theorem tp_lcL {α : Type} {enc : α → PyData} {js vs : List Nat} {P : List α → Prop} (f : α → Bool) (h : α → PyData) (hw : Tp K M tl γ (fun s => ∃ l, P l ∧ s.lst? = some (l.map enc))) (hz : ∀ l, P l → l.length ≤ 10000) (hj : ∀ j ∈ js, j ∈ vs)
    (hs : ∀ l, P l → ∀ (a : α), a ∈ l → ∃ γ2, Tg K M g js (wipeG γ vs) (.d (enc a)) γ2 ∧ Tt K M tt γ2 (f a) ∧ (f a = true → Te K M te γ2 (.d (h a)))) : Tp K M (tLc (iList K tl) g tt te vs) γ (fun s => ∃ l, P l ∧ s = .o ((l.filter f).map h)) := fun H0 σ H e0 E Q q =>
  hw H0 σ H e0 E _ fun v s H1 hp e1 hv => by
    obtain ⟨l, hl, hsl⟩ := hp
    obtain ⟨p, xs, rfl, hm, hp, hx⟩ := hv.seq hsl
    exact lc_pt (wi := iList K fun _ H Q => Q (.ref p) H) (l := l) (enc := fun a => .d (enc a)) (js := js) (e0.trans e1) (E.ex e1) f h (fun R r => ⟨p, rfl, ⟨xs, .inl (.inl hp)⟩, r _ H1 (Xm.refl H1) (yl_lst (fun H k => k.k _ _ hm hp) (by rw [hx.len, List.length_map, List.length_map]) fun i v s H k e1 e2 => by
      obtain ⟨a, ea, rfl⟩ := get_map e2
      obtain ⟨u, eu, hu⟩ := hx.get (i := i) (d := enc a) (by rw [List.getElem?_map, ea]; rfl)
      rw [eu] at e1
      cases e1
      exact Dat.kp k.t hu)⟩) (hz l hl) hj (hs l hl) fun v H' e hv => q v _ H' ⟨l, hl, rfl⟩ (e1.trans e) hv
theorem tc_tree {ts : List MD} (h : Te K M tl γ (.n (.l ts))) : Tc K M (iList K tl) γ (ts.map Sv.n) := fun H0 σ H e0 E R q => h H0 σ H e0 E _ fun v H1 e1 hv => by
  have hv' : Md K (fun p => ¬ M p) H1 v (.l ts) := hv
  cases hv' with
  | l hm hp hx =>
    refine ⟨_, rfl, ⟨_, .inl (.inl hp)⟩, q _ H1 e1 (yl_lst (fun H k => k.k _ _ hm hp) (by rw [hx.len, List.length_map]) fun i v s H k e1 e2 => ?_)⟩
    obtain ⟨d, ed, rfl⟩ := get_map e2
    obtain ⟨u, eu, hu⟩ := hx.get ed
    rw [eu] at e1
    cases e1
    exact Md.kp k.t (fun p o c g => ⟨c, k.k p o c g⟩) hu
theorem old_stays {H0 H1 H : Hp} {p : Addr} {o : HO} (e : Xm M H0 H1) (hm : ¬ M p) (h0 : H0 p ≠ none) (h1 : H1 p = some o) (k : Xm M H0 H) : H p = some o := by
  cases h : H0 p with
  | none => exact absurd h h0
  | some u =>
    have := e.k p u hm h
    rw [h1] at this
    cases this
    exact k.k p _ hm h
/-- over an old list -/
theorem ti_list {ds : List PyData} (h : Te K M tl γ (.l ds)) : Ti K M (iList K tl) γ (ds.map Sv.d) := fun H0 σ H e0 E R q => h H0 σ H e0 E _ fun v H1 e1 hv => by
  obtain ⟨p, xs, rfl, hm, h0, hp, hx⟩ := hv
  refine ⟨p, rfl, ⟨xs, .inl (.inl hp)⟩, q _ H1 e1 (yl_lst (fun H k => old_stays (e0.trans e1).e hm h0 hp k.1) (by rw [hx.len, List.length_map]) fun i v s H k e1 e2 => ?_)⟩
  obtain ⟨d, ed, rfl⟩ := get_map e2
  obtain ⟨u, eu, hu⟩ := hx.get ed
  rw [eu] at e1
  cases e1
  exact Dat.kp k.2 hu
theorem ti_tree {ts : List MD} (h : Te K M tl γ (.m (.l ts))) : Ti K M (iList K tl) γ (ts.map Sv.m) := fun H0 σ H e0 E R q => h H0 σ H e0 E _ fun v H1 e1 hv => by
  have hv' : Md K (fun p => ¬ M p ∧ H0 p ≠ none) H1 v (.l ts) := hv
  cases hv' with
  | l hm hp hx =>
    refine ⟨_, rfl, ⟨_, .inl (.inl hp)⟩, q _ H1 e1 (yl_lst (fun H k => old_stays (e0.trans e1).e hm.1 hm.2 hp k.1) (by rw [hx.len, List.length_map]) fun i v s H k f1 f2 => ?_)⟩
    obtain ⟨d, ed, rfl⟩ := get_map f2
    obtain ⟨u, eu, hu⟩ := hx.get ed
    rw [eu] at f1
    cases f1
    exact Md.kp k.2 (fun p o c g => ⟨c, old_stays (e0.trans e1).e c.1 c.2 g k.1⟩) hu
end
section
variable {K : PySem.W.Frag} {M : Addr → Prop} {γ : G} {wi : TI} {ss ss' : List Sv}
theorem ti_is (h : Ti K M wi γ ss) (e : ss = ss') : Ti K M wi γ ss' := e ▸ h
theorem tc_is (h : Tc K M wi γ ss) (e : ss = ss') : Tc K M wi γ ss' := e ▸ h
theorem tt_yes : Tt K M tYes γ true := fun H0 σ H e0 E Q q => q H (Xm.refl H)
end
section
variable {K : PySem.W.Frag} {M : Addr → Prop} {γ : G} {te : TE} {s : Sv} {tu tz : TS} {N : G → Prop} {R : Sv → Prop}
theorem grow_xm {H0 H : Hp} {p : Addr} {xs ys : List V} (e : Xs M H0 H) (h0 : H0 p = none) (hp : H p = some (.lst xs)) : Xs M H0 (upd H p (.lst ys)) := ⟨e.e.mut h0 (kp_lst hp), e.ok0⟩
/-- made.append(e) -/
theorem ts_app {i : Nat} {ds : List PyData} {d : PyData} (hi : γ[i]? = some (some (.u ds))) (h : Te K M te γ (.d d)) (hz : ds.length ≤ 50000) (k : N ((γ.map noO).set i (some (.u (ds ++ [d]))))) :
    Ts K M (tDrop (tBM K "list" rAppend (tVar i) (tCons te tNil))) γ N R := fun H0 σ H D e0 E n r => by
  obtain ⟨v, hv, p, xs, rfl, hm, h0, hp, hx⟩ := E.get i _ hi
  refine ⟨_, hv, .inl ⟨rfl, xs, .inl (.inl hp)⟩, ?_⟩
  refine h H0 σ H e0 E _ fun y H1 e1 hy => ?_
  have hp1 := e1.k _ _ hm hp
  refine ⟨p, xs, y, rfl, rfl, hp1, Evl.sz_lt (by rw [hx.len]; omega), ?_⟩
  exact n _ σ _ k (grow_xm (e0.trans e1) h0 hp1) ((kp_ex e1).trans (kp_lst hp1)) (((E.ex e1)).grow (e0.trans e1) hi hv hp1 ((hx.ex e1).app (.cons hy .nil)))
theorem ts_appS {i : Nat} {ds : List PyData} {d : PyData} (hi : γ[i]? = some (some (.u ds))) (h : Te K M te γ (.d d)) (hz : ds.length ≤ 50000) (k : Ts K M tz ((γ.map noO).set i (some (.u (ds ++ [d])))) N R) :
    Ts K M (tSeq (tDrop (tBM K "list" rAppend (tVar i) (tCons te tNil))) tz) γ N R := ts_seq (N' := fun γ' => γ' = (γ.map noO).set i (some (.u (ds ++ [d])))) (ts_app hi h hz rfl) fun γ' e => e ▸ k
/-- made.extend(a tuple), made.extend(a list) -/
theorem ts_extT {i : Nat} {ds es : List PyData} (hi : γ[i]? = some (some (.u ds))) (h : Te K M te γ (.d (.tuple es))) (hz : ds.length + es.length ≤ 50000) (k : N ((γ.map noO).set i (some (.u (ds ++ es))))) :
    Ts K M (tDrop (tBM K "list" (rExtT K) (tVar i) (tCons te tNil))) γ N R := fun H0 σ H D e0 E n r => by
  obtain ⟨v, hv, p, xs, rfl, hm, h0, hp, hx⟩ := E.get i _ hi
  refine ⟨_, hv, .inl ⟨rfl, xs, .inl (.inl hp)⟩, ?_⟩
  refine h H0 σ H e0 E _ fun y H1 e1 hy => ?_
  have hp1 := e1.k _ _ hm hp
  cases hy with
  | tup hs hd =>
    refine ⟨p, _, xs, _, rfl, rfl, hp1, hs, Evl.sz_of (by rw [hx.len, hd.len]; omega), ?_⟩
    exact n _ σ _ k (grow_xm (e0.trans e1) h0 hp1) ((kp_ex e1).trans (kp_lst hp1)) (((E.ex e1)).grow (e0.trans e1) hi hv hp1 ((hx.ex e1).app hd))
theorem ts_extL {i : Nat} {ds es : List PyData} (hi : γ[i]? = some (some (.u ds))) (h : Te K M te γ s) (hs : s.lst? = some es) (hz : ds.length + es.length ≤ 50000) (k : N ((γ.map noO).set i (some (.u (ds ++ es))))) :
    Ts K M (tDrop (tBM K "list" rExtend (tVar i) (tCons te tNil))) γ N R := fun H0 σ H D e0 E n r => by
  obtain ⟨v, hv, p, xs, rfl, hm, h0, hp, hx⟩ := E.get i _ hi
  refine ⟨_, hv, .inl ⟨rfl, xs, .inl (.inl hp)⟩, ?_⟩
  refine h H0 σ H e0 E _ fun y H1 e1 hy => ?_
  have hp1 := e1.k _ _ hm hp
  obtain ⟨b, zs, rfl, _, hb, hd⟩ := hy.seq hs
  refine ⟨p, b, xs, zs, rfl, rfl, hp1, hb, Evl.sz_of (by rw [hx.len, hd.len]; omega), ?_⟩
  exact n _ σ _ k (grow_xm (e0.trans e1) h0 hp1) ((kp_ex e1).trans (kp_lst hp1)) (((E.ex e1)).grow (e0.trans e1) hi hv hp1 ((hx.ex e1).app hd))
/-- a call for its check -/
theorem ts_drop (h : Te K M te γ s) (k : N γ) : Ts K M (tDrop te) γ N R := fun H0 σ H D e0 E n r =>
  h H0 σ H e0 E _ fun v H1 e1 hv => n _ σ H1 k (e0.trans e1) (kp_ex e1) (E.ex e1)
theorem ts_dropS (h : Te K M te γ s) (k : Ts K M tz γ N R) : Ts K M (tSeq (tDrop te) tz) γ N R := ts_seq (N' := fun γ' => γ' = γ) (ts_drop h rfl) fun γ' e => e ▸ k
/-- made = list(e), to grow: e a tuple -/
theorem ts_newT {i : Nat} {ds : List PyData} (h : Te K M te γ (.d (.tuple ds))) (k : Ts K M tz (γ.set i (some (.u ds))) N R) : Ts K M (tSeq (tAsg (tCB (rListU K) (tCons te tNil)) (gName i)) tz) γ N R := fun H0 σ H D e0 E n r =>
  h H0 σ H e0 E _ fun v H1 e1 hv => by
    cases hv with
    | @tup a xs0 _ hs hd =>
      refine .inl ⟨_, _, rfl, .inr hs, fun p hp => ?_⟩
      have e01 := e0.trans e1
      have E1 := E.ex e1
      have e2 : Xm M H1 (upd H1 p (.lst xs0)) := Xm.new hp
      refine k H0 (σ.set i (some (.ref p))) _ D (e01.trans e2) ((E1.ex e2).setU (s := .u ds) ⟨p, _, rfl, e01.notM hp, e01.back hp, upd_same, hd.kp (kp_new hp)⟩ fun _ j es hj hg hs => ?_) (fun γ2 σ2 H2 a b c d => n γ2 σ2 H2 a b (((kp_ex e1).trans (kp_ex e2)).trans c) d) r
      obtain ⟨v, hv, q, xs, rfl, _, _, hq, _⟩ := E1.get j _ hg
      rw [hs] at hv
      cases hv
      rw [hp] at hq
      cases hq
/-- a while: a measure -/
theorem ts_while {tt : TT} (I : Nat → G → Prop) (b : Nat → Bool) {n0 : Nat} (h0 : I n0 γ) (ht : ∀ n γ1, I n γ1 → Tt K M tt γ1 (b n)) (hs : ∀ n γ1, I n γ1 → b n = true → Ts K M tu γ1 (fun γ2 => ∃ m, m < n ∧ I m γ2) R) (hd : ∀ n γ1, I n γ1 → b n = false → N γ1) : Ts K M (tWhile tt tu) γ N R := fun H0 σ H D e0 E nx r => by
  refine ⟨fun m σ' H' => ∃ γ1, I m γ1 ∧ Xs M H0 H' ∧ Kp H H' ∧ En K M H0 H' σ' γ1, ⟨n0, γ, h0, e0, Kp.refl H, E⟩, ?_⟩
  rintro m σ' H' ⟨γ1, hI, e1, k1, E1⟩
  refine ht m γ1 hI H0 σ' H' e1 E1 _ fun H2 e2 => ?_
  cases hb : b m with
  | false => exact nx γ1 σ' H2 (hd m γ1 hI hb) (e1.trans e2) (k1.trans e2.t) (E1.ex e2)
  | true =>
    refine ⟨fun σ3 H3 => ∃ γ2 k, k < m ∧ I k γ2 ∧ Xs M H0 H3 ∧ Kp H H3 ∧ En K M H0 H3 σ3 γ2, fun σ3 H3 ⟨γ2, k, a, b, c, d, e⟩ => ⟨k, a, γ2, b, c, d, e⟩, ?_⟩
    exact hs m γ1 hI hb H0 σ' H2 _ (e1.trans e2) (E1.ex e2) (fun γ2 σ3 H3 ⟨k, a, b⟩ c d e => ⟨γ2, k, a, b, c, (k1.trans e2.t).trans d, e⟩) r
end
end Tw
namespace Tw
open PySem PySem.Spec PyProof.Rows L2
open Evl (Ex)
def leastI : List Int → Option Int
  | [] => none
  | n :: ns => some (ns.foldl min n)
def optI : Option Int → V
  | none => .non
  | some i => .int i
theorem alike_ints : ∀ ns : List Int, PySem.W.AlikeAll (ns.map PyData.int) := by
  refine fun ns => ⟨fun x hx y hy => ?_, fun x hx => ?_⟩
  · obtain ⟨i, _, rfl⟩ := List.mem_map.mp hx
    obtain ⟨j, _, rfl⟩ := List.mem_map.mp hy
    simp [PySem.W.alike]
  · obtain ⟨i, _, rfl⟩ := List.mem_map.mp hx
    exact fun e => nomatch e
section
variable {X : Cx}
def rMinD (K : PySem.W.Frag) : List V → List V → Hp → VK → Prop := fun vs zs H Q => ∃ (a : Addr) (ns : List Int), vs = [.ref a] ∧ zs = [.non] ∧ H a = some (.lst (ns.map V.int)) ∧ Q (optI (leastI ns)) H
theorem cr_minD (hu : X.A.units + 70 < cLine) (hc : X.calm = true) : CallRK X (.builtin "min") [Str.ofString "default"] (rMinD X.K) := by
  intro pins s σ H xs zs us ws Q I r rz h
  obtain ⟨a, ns, rfl, rfl, hq, q⟩ := h
  obtain ⟨u, rfl, rx⟩ := vals1 r
  obtain ⟨w1, rfl, rw1⟩ := vals1 rz
  cases rx
  cases rw1
  obtain ⟨its, rv, pl, hz⟩ := I.list (.inl (.inl hq))
  obtain ⟨as, hr⟩ := Dp.readsAll I (ns.map PyData.int) _ its (Dats.dp (dats_int (K := X.K) (H := H))) rv
  refine PySem.W.min_list_default (I.ok.hd hc) pl.isList (by simpa using hr) (alike_ints ns) (by rw [PySem.W.depth_ints]; omega) (fun h0 h' tk kp => ?_) fun y ys i v h' tk bs e hv hrd kp => ?_
  · have e0 : ns = [] := by simpa using h0
    subst e0
    exact ⟨.non, H, I.kept (t' := tk) kp, rfl, q⟩
  · cases ns with
    | nil => cases e
    | cons n ns =>
      cases e
      rw [PySem.W.minD_ints] at hrd
      cases hrd with
      | int _ t => exact ⟨.int _, H, I.kept (t' := tk) kp, ⟨t, rfl⟩, q⟩
end

def Ites (x : Str) : It := ⟨fun i _ => i < x.cps.size, fun i H v H' => ∃ T c, v = .ref T ∧ H T = none ∧ H' = upd H T (.tup [.int (i : Nat), .str ⟨#[c]⟩]) ∧ x.cps[i]? = some c, fun i _ => x.cps.size ≤ i⟩
theorem turn_enumS {P : Program} {w : World} {K : PySem.W.Frag} {elts : List Expr} {kk : Nat} {tpos : Pos} (x : Str) (t : Tok) (ty : String) (hty : ty = "str_ascii_iterator" ∨ ty = "str_iterator") (e it : Addr) :
    Turn P w K (.Tuple elts kk tpos) (Ites x) [e, it] e (fun i h => (∃ old, IsEnum h e it ((i : Nat) : Int) old) ∧ h.IsStrIter it ty x t i ∧ e ≠ it ∧ i ≤ x.cps.size) where
  mem := by simp
  obj := fun i h st b hb => by
    obtain ⟨⟨old, he⟩, ⟨o, ho, hc, hd⟩, _⟩ := st
    have e' : b = e ∨ b = it := by simpa using hb
    rcases e' with z | z
    · rw [z]; exact ⟨_, he, fun v q => nomatch q⟩
    · rw [z]; exact ⟨o, ho, fun v q => by rw [hd] at q; cases q⟩
  keep := fun i h h' st k => let ⟨⟨old, he⟩, ⟨o, ho, r⟩, hne⟩ := st; ⟨⟨old, k e (by simp) _ he⟩, ⟨o, k it (by simp) o ho, r⟩, hne⟩
  item := by
    intro X hP hw hK hc i pins s σ H E I hf st hg
    subst hP hw hK
    obtain ⟨⟨old, he⟩, hit, hne, hle⟩ := st
    have hel : e < s.heap.objs.size := Heap.lt_size he
    have hil : it < s.heap.objs.size := by obtain ⟨_, q, _⟩ := hit; exact Heap.lt_size q
    have D : Draws X.prog X.w X.A.in1 it [it] x.cps.size (fun i v => ∃ c u, x.cps[i]? = some c ∧ v = .str ⟨#[c]⟩ u) (fun i h => h.IsStrIter it ty x t i) := by
      rcases hty with z | z
      · rw [z]; exact Draws.strAscii (A := X.A.in1) (I.ok.hd hc) it x t
      · rw [z]; exact Draws.strWide (A := X.A.in1) (I.ok.hd hc) it x t
    refine wpAny_pyNext_enum_itemD D he hit hg hne (by simpa using hne) fun v h' tk hv ho hit' hT hsz hk => ?_
    obtain ⟨c, u, hcx, rfl⟩ := hv
    refine ⟨_, rfl, wpAny_letOwnedTupleGo_enum (s := { s with heap := h', toks := tk + 1 }) ho fun h'' he' sb => ?_⟩
    have hT2 : h''.get? s.heap.objs.size = some { cls := .type "tuple", data := .seq #[.int i tk, .str ⟨#[c]⟩ u] } := (sb.2 _ (Nat.ne_of_gt hel)).trans hT
    have new : ObjOk X.prog X.w (upd H s.heap.objs.size (.tup [.int (i : Nat), .str ⟨#[c]⟩])) h'' s.heap.objs.size (.tup [.int (i : Nat), .str ⟨#[c]⟩]) :=
      ⟨by show 2 ≤ sizeLine; decide, [.int i tk, .str ⟨#[c]⟩ u], .cons ⟨_, rfl⟩ (.cons ⟨_, rfl⟩ .nil), ⟨_, hT2, rfl, _, rfl⟩⟩
    have I1 : Inv X pins σ (upd H s.heap.objs.size (.tup [.int (i : Nat), .str ⟨#[c]⟩])) { s with heap := h'', toks := tk + 1 } :=
      I.turnedNew (ch := [e, it]) (fun b ob hb q => (sb.2 b (fun z => hb (by simp [z]))).trans (hk b ob (fun z => hb (by simp [z])) (fun z => hb (by simp [z])) q)) hf (Nat.le_refl _) new
    refine ⟨.ref s.heap.objs.size, _, I1, rfl, ⟨_, c, rfl, I.hok.fresh (Nat.le_refl _), rfl, hcx⟩, ⟨⟨.str ⟨#[c]⟩ u, ?_⟩, ?_, hne, hg⟩, fun b hb => ?_⟩
    · have e1 : ((i + 1 : Nat) : Int) = (i : Int) + 1 := by omega
      rw [e1]; exact he'
    · obtain ⟨o, ho2, r⟩ := hit'
      exact ⟨o, (sb.2 it (Ne.symm hne)).trans ho2, r⟩
    · have hb' : b < s.heap.objs.size := by
        have e' : b = e ∨ b = it := by simpa using hb
        rcases e' with z | z
        · rw [z]; exact hel
        · rw [z]; exact hil
      rw [upd_ne (Nat.ne_of_lt hb')]
      exact (hf b hb).1
  done := by
    intro X hP hw hK hc i pins s σ H E I hf st hg
    subst hP hw hK
    obtain ⟨⟨old, he⟩, hit, hne, hle⟩ := st
    have ei : i = x.cps.size := Nat.le_antisymm hle hg
    subst ei
    have D : Draws X.prog X.w X.A.in1 it [it] x.cps.size (fun i v => ∃ c u, x.cps[i]? = some c ∧ v = .str ⟨#[c]⟩ u) (fun i h => h.IsStrIter it ty x t i) := by
      rcases hty with z | z
      · rw [z]; exact Draws.strAscii (A := X.A.in1) (I.ok.hd hc) it x t
      · rw [z]; exact Draws.strWide (A := X.A.in1) (I.ok.hd hc) it x t
    obtain ⟨f0, f1, f2, f3, f4, f5⟩ := hf it (by simp)
    exact wpAny_pyNext_enum_endD D he hit fun h' eb => ⟨rfl, I.turned (t' := s.toks) (fun b o hb q => eb b o hb q) f0 f1 f3 f4 f5⟩
  self := fun A i s Q E st h => let ⟨⟨_, he⟩, _⟩ := st; wpAny_pyIter_enum he h
def iEnumS (ta : TA) : TI := fun σ H R => ta σ H fun vs H1 => ∃ x : Str, vs = [.str x] ∧ R (Ites x) H1
theorem pi_enumS {X : Cx} {e : Expr} {ta : TA} {p pos tpos : Pos} {elts : List Expr} {kk : Nat} (hg : Gl X "enumerate") (hm : X.mg "enumerate" = none) (ha : PA X [e] ta) (hs : starEach [e] X.env = [(false, eval e X.env)] := by rfl) :
    PI X (.Tuple elts kk tpos) (.Call (.Name "enumerate" p) [e] [] pos) (iEnumS ta) := by
  refine ⟨fun pins s σ H R I h => ?_⟩
  refine Call_ (ld_blt I hg hm boot_enumerate (PyProof.Rows.callWith_type1 (thn (ha.run pos pins s σ H _ I h) fun us s1 ⟨vs, H1, I1, r1, q1⟩ => ?_) hs rfl))
  obtain ⟨x, ex, q⟩ := q1
  subst ex
  cases r1 with
  | cons r rr =>
    cases rr
    obtain ⟨t, rfl⟩ := r
    refine call_enumerate_str fun h' he hit hsz hk => wpAny_pyIter_enum he ?_
    have I2 : Inv X pins σ H1 { s1 with heap := h' } := I1.kept (t' := s1.toks) hk
    have hty : strIterType x = "str_ascii_iterator" ∨ strIterType x = "str_iterator" := by
      unfold strIterType
      split
      · exact .inl rfl
      · exact .inr rfl
    refine ⟨s1.heap.objs.size + 1, [s1.heap.objs.size + 1, s1.heap.objs.size], _, _, H1, rfl, I2, turn_enumS x t (strIterType x) hty (s1.heap.objs.size + 1) s1.heap.objs.size, ⟨⟨.none, he⟩, hit, Nat.succ_ne_self _, Nat.zero_le _⟩, fun b hb => ?_, q⟩
    have e' : b = s1.heap.objs.size + 1 ∨ b = s1.heap.objs.size := by simpa using hb
    have hle : s1.heap.objs.size ≤ b := by
      rcases e' with z | z
      · rw [z]; exact Nat.le_add_right _ _
      · rw [z]; exact Nat.le_refl _
    exact I1.fpOk hle (I1.hok.fresh hle)
theorem yl_enumS {K : PySem.W.Frag} {M : Addr → Prop} {H0 : Hp} {S : Hp → Prop} {x : Str} : Yl K M H0 S (Ites x) ((List.range x.cps.size).map fun i => Sv.d (.tuple [.int (i : Nat), .str ⟨#[x.cps.getD i 0]⟩])) where
  go := fun i H k hi => by simpa [Ites] using hi
  stop := fun H k => by simp [Ites]
  yld := fun i H v H' k h => by
    obtain ⟨T, c, rfl, hT, rfl, hc⟩ := h
    refine ⟨Xm.new hT, fun d q => ?_⟩
    rw [List.getElem?_map] at q
    have hi : i < x.cps.size := (Array.getElem?_eq_some_iff.mp hc).1
    rw [List.getElem?_eq_getElem (by simpa using hi)] at q
    simp only [List.getElem_range, Option.map_some, Option.some.injEq] at q
    subst q
    have ec : x.cps.getD i 0 = c := by rw [Array.getD_eq_getD_getElem?, hc]; rfl
    rw [ec]
    exact Dat.tup (.inl (.inl upd_same)) (.cons (.int _) (.cons (.str _) .nil))
theorem ti_enumS {K : PySem.W.Frag} {M : Addr → Prop} {γ : G} {ta : TA} {x : Str} (h : Ta K M ta γ [.d (.str x)]) : Ti K M (iEnumS ta) γ ((List.range x.cps.size).map fun i => Sv.d (.tuple [.int (i : Nat), .str ⟨#[x.cps.getD i 0]⟩])) := fun H0 σ H e0 E R q => h H0 σ H e0 E _ fun v H1 e1 hv => by
  cases hv with
  | cons a b =>
    cases b
    cases a
    exact ⟨x, rfl, q _ H1 e1 yl_enumS⟩
end Tw
namespace Tw
open PySem PySem.Spec PyProof.Rows L2
def rSubI : R2 := rI0 fun i j => .int (i - j)
def rModI : R2 := rI (fun _ j => 0 < j) fun i j => .int (i % j)
def rDivI : R2 := rI CDiv fun i j => .int (i / j)
def rPowI : R2 := rI CPow fun i j => .int (i ^ j.toNat)
def rLtI : R2 := rI0 fun i j => .bl (decide (i < j))
def rGtI : R2 := rI0 fun i j => .bl (decide (j < i))
def rGeI : R2 := rI0 fun i j => .bl (decide (j ≤ i))
def rIsNo : R2 := fun x y H Q => y = .non ∧ Q (.bl (decide (x = .non))) H
def rNotNo : R2 := fun x y H Q => y = .non ∧ Q (.bl (!decide (x = .non))) H
section
variable {X : Cx}
theorem op_subI : OpR X (binaryOp .Sub) rSubI := op_sub
theorem op_modI : OpR X (binaryOp .Mod) rModI := op_mod
theorem op_divI : OpR X (binaryOp .FloorDiv) rDivI := op_fdiv
theorem op_powI : OpR X (binaryOp .Pow) rPowI := op_pow
theorem op_ltI : OpR X (compareOp .Lt) rLtI := op_lt
theorem op_gtI : OpR X (compareOp .Gt) rGtI := op_gt
theorem op_geI : OpR X (compareOp .GtE) rGeI := op_ge
theorem op_isNo : OpR X (compareOp .Is) rIsNo := op_isN
theorem op_notNo : OpR X (compareOp .IsNot) rNotNo := op_notN
end
def isNoD : PyData → Bool
  | .none => true
  | _ => false
/-- the part that a slice takes -/
def cutD (xs : List PyData) (lo hi : Option Int) : List PyData := (xs.drop (HT.sIx xs.length 0 lo)).take (HT.sIx xs.length xs.length hi - HT.sIx xs.length 0 lo)
section
variable {K : PySem.W.Frag} {M : Addr → Prop} {γ : G} {s s1 s2 : Sv}
theorem rv_addI {i j : Int} : Rv K M (rAddU K) (.d (.int i)) (.d (.int j)) (.d (.int (i + j))) := fun H0 H x y e0 hx hy Q q => by cases hx; cases hy; exact .inl ⟨i, j, rfl, rfl, q _ H (Xm.refl H) (Dat.int _)⟩
theorem rv_addS {i j : Str} (h : i.length + j.length ≤ 100000) : Rv K M (rAddU K) (.d (.str i)) (.d (.str j)) (.d (.str (i ++ j))) := fun H0 H x y e0 hx hy Q q => by
  cases hx; cases hy; exact .inr (.inl ⟨i, j, rfl, rfl, Evl.sz_of h, q _ H (Xm.refl H) (Dat.str _)⟩)
theorem rv_addT {xs ys : List PyData} (h : xs.length + ys.length ≤ 10000) : Rv K M (rAddU K) (.d (.tuple xs)) (.d (.tuple ys)) (.d (.tuple (xs ++ ys))) := fun H0 H x y e0 hx hy Q q => by
  cases hx with
  | tup hs hd =>
    cases hy with
    | tup hs2 hd2 =>
      refine .inr (.inr (.inl ⟨_, _, _, _, rfl, rfl, hs, hs2, Evl.sz_of (by rw [hd.len, hd2.len]; omega), fun e => ?_, fun _ e => ?_, fun _ _ p hp => ?_⟩))
      · subst e
        cases hd
        exact q _ H (Xm.refl H) (.tup hs2 hd2)
      · subst e
        cases hd2
        rw [List.append_nil] at q
        exact q _ H (Xm.refl H) (.tup hs hd)
      · exact q _ _ (Xm.new hp) (.tup (.inl (.inl upd_same)) ((hd.kp (kp_new hp)).app (hd2.kp (kp_new hp))))
theorem rv_addL {xs ys : List PyData} (h1 : s1.lst? = some xs) (h2 : s2.lst? = some ys) (h : xs.length + ys.length ≤ 50000) : Rv K M (rAddU K) s1 s2 (.o (xs ++ ys)) := fun H0 H x y e0 hx hy Q q => by
  obtain ⟨p, us, rfl, _, hp, hu⟩ := hx.seq h1
  obtain ⟨p2, us2, rfl, _, hp2, hu2⟩ := hy.seq h2
  refine .inr (.inr (.inr ⟨_, _, _, _, rfl, rfl, hp, hp2, Evl.sz_of (by rw [hu.len, hu2.len]; omega), fun l hl => ?_⟩))
  exact q _ _ (Xm.new hl) ⟨l, _, rfl, e0.notM hl, e0.back hl, upd_same, (hu.kp (kp_new hl)).app (hu2.kp (kp_new hl))⟩
theorem rv_sub {i j : Int} : Rv K M rSubI (.d (.int i)) (.d (.int j)) (.d (.int (i - j))) := fun H0 H x y e0 hx hy Q q => by cases hx; cases hy; exact ⟨i, j, rfl, rfl, q _ H (Xm.refl H) (Dat.int _)⟩
theorem rv_mulI {i j : Int} (h : CMul i j) : Rv K M rMulU (.d (.int i)) (.d (.int j)) (.d (.int (i * j))) := fun H0 H x y e0 hx hy Q q => by cases hx; cases hy; exact .inl ⟨i, j, rfl, rfl, h, q _ H (Xm.refl H) (Dat.int _)⟩
theorem rv_rep {xs : List PyData} {k : Nat} (h1 : s1.lst? = some xs) (h : xs.length * k ≤ 50000) (hk : k ≤ 50000) : Rv K M rMulU s1 (.d (.int k)) (.o (List.replicate k xs).flatten) := fun H0 H x y e0 hx hy Q q => by
  obtain ⟨p, us, rfl, _, hp, hu⟩ := hx.seq h1
  cases hy
  refine .inr ⟨p, (k : Int), us, rfl, rfl, hp, by omega, by omega, ?_, ?_⟩
  · rw [Int.toNat_natCast, hu.len]; exact Evl.sz_of (by omega)
  · intro l hl
    rw [Int.toNat_natCast]
    refine q _ _ (Xm.new hl) ⟨l, _, rfl, e0.notM hl, e0.back hl, upd_same, ?_⟩
    have hu' := hu.kp (kp_new hl (o := .lst (List.replicate k us).flatten))
    generalize upd H l (.lst (List.replicate k us).flatten) = H' at hu'
    clear q h hk
    induction k with
    | zero => exact .nil
    | succ k ih => rw [List.replicate_succ, List.replicate_succ, List.flatten_cons, List.flatten_cons]; exact hu'.app ih
theorem rv_mod {i j : Int} (h : 0 < j) : Rv K M rModI (.d (.int i)) (.d (.int j)) (.d (.int (i % j))) := fun H0 H x y e0 hx hy Q q => by cases hx; cases hy; exact ⟨i, j, rfl, rfl, h, q _ H (Xm.refl H) (Dat.int _)⟩
theorem rv_div {i j : Int} (h : 0 < j) (h2 : j < 1073741824) : Rv K M rDivI (.d (.int i)) (.d (.int j)) (.d (.int (i / j))) := fun H0 H x y e0 hx hy Q q => by cases hx; cases hy; exact ⟨i, j, rfl, rfl, ⟨h, h2⟩, q _ H (Xm.refl H) (Dat.int _)⟩
theorem rv_pow {i j : Int} (h : CPow i j) : Rv K M rPowI (.d (.int i)) (.d (.int j)) (.d (.int (i ^ j.toNat))) := fun H0 H x y e0 hx hy Q q => by cases hx; cases hy; exact ⟨i, j, rfl, rfl, h, q _ H (Xm.refl H) (Dat.int _)⟩
theorem rv_lt {i j : Int} : Rv K M rLtI (.d (.int i)) (.d (.int j)) (.d (.bool (decide (i < j)))) := fun H0 H x y e0 hx hy Q q => by cases hx; cases hy; exact ⟨i, j, rfl, rfl, q _ H (Xm.refl H) (Dat.bl _)⟩
theorem rv_gt {i j : Int} : Rv K M rGtI (.d (.int i)) (.d (.int j)) (.d (.bool (decide (j < i)))) := fun H0 H x y e0 hx hy Q q => by cases hx; cases hy; exact ⟨i, j, rfl, rfl, q _ H (Xm.refl H) (Dat.bl _)⟩
theorem rv_ge {i j : Int} : Rv K M rGeI (.d (.int i)) (.d (.int j)) (.d (.bool (decide (j ≤ i)))) := fun H0 H x y e0 hx hy Q q => by cases hx; cases hy; exact ⟨i, j, rfl, rfl, q _ H (Xm.refl H) (Dat.bl _)⟩
theorem rv_leI {i j : Int} : Rv K M rLeU (.d (.int i)) (.d (.int j)) (.d (.bool (decide (i ≤ j)))) := fun H0 H x y e0 hx hy Q q => by cases hx; cases hy; exact .inl ⟨i, j, rfl, rfl, q _ H (Xm.refl H) (Dat.bl _)⟩
theorem rv_leS {i j : Str} : Rv K M rLeU (.d (.str i)) (.d (.str j)) (.d (.bool (!decide (j.cps.toList < i.cps.toList)))) := fun H0 H x y e0 hx hy Q q => by cases hx; cases hy; exact .inr ⟨i, j, rfl, rfl, q _ H (Xm.refl H) (Dat.bl _)⟩
/-- data as == takes it: of slots -/
def Sv.dat? : Sv → Option PyData
  | .d x => some x
  | .l xs => some (.list xs)
  | .o xs => some (.list xs)
  | _ => none
theorem Hs.dp {H0 H : Hp} {v : V} {d : PyData} (h : Hs K M H0 H v s) (e : s.dat? = some d) : Dp K H v d := by
  cases s with
  | d x => cases e; exact Dat.dp h
  | l xs => cases e; obtain ⟨p, us, rfl, _, _, hp, hu⟩ := h; exact .lst (.inl (.inl hp)) hu.dp
  | o xs => cases e; obtain ⟨p, us, rfl, _, _, hp, hu⟩ := h; exact .lst (.inl (.inl hp)) hu.dp
  | u xs => cases e
  | r a => cases e
  | m t => cases e
  | n t => cases e
  | ty n => cases e
  | b => cases e
  | q _ => cases e
theorem rv_eq {d e : PyData} (h1 : s1.dat? = some d) (h2 : s2.dat? = some e) (sd : SeqAt.shaped d = true) (se : SeqAt.shaped e = true) : Rv K M (rEqD K) s1 s2 (.d (.bool (PyData.eqv d e))) := fun H0 H x y e0 hx hy Q q =>
  ⟨d, e, hx.dp h1, hy.dp h2, sd, se, q _ H (Xm.refl H) (Dat.bl _)⟩
theorem rv_ne {d e : PyData} (h1 : s1.dat? = some d) (h2 : s2.dat? = some e) (sd : SeqAt.shaped d = true) (se : SeqAt.shaped e = true) : Rv K M (rNeD K) s1 s2 (.d (.bool (!PyData.eqv d e))) := fun H0 H x y e0 hx hy Q q =>
  ⟨d, e, hx.dp h1, hy.dp h2, sd, se, q _ H (Xm.refl H) (Dat.bl _)⟩
theorem rv_isN {d : PyData} : Rv K M rIsNo (.d d) (.d .none) (.d (.bool (isNoD d))) := fun H0 H x y e0 hx hy Q q => by
  cases hy
  refine ⟨rfl, ?_⟩
  have : decide (x = V.non) = isNoD d := by cases hx <;> rfl
  rw [this]
  exact q _ H (Xm.refl H) (Dat.bl _)
theorem rv_notN {d : PyData} : Rv K M rNotNo (.d d) (.d .none) (.d (.bool (!isNoD d))) := fun H0 H x y e0 hx hy Q q => by
  cases hy
  refine ⟨rfl, ?_⟩
  have : decide (x = V.non) = isNoD d := by cases hx <;> rfl
  rw [this]
  exact q _ H (Xm.refl H) (Dat.bl _)
/-- in a tuple or a list of flat data -/
theorem rv_inT {d : PyData} {ds : List PyData} (hd : flatD d = true) (hs : ds.all flatD = true) : Rv K M (rInU K) (.d d) (.d (.tuple ds)) (.d (.bool (memD d ds))) := fun H0 H x y e0 hx hy Q q => by
  cases hy with
  | tup ht hu => exact .inl ⟨_, _, rfl, .inr ht, (flat_dat hx).trans hd, (flat_dats hu).trans hs, by rw [if_neg (by decide), mem_dats hx hu hd hs]; exact q _ H (Xm.refl H) (Dat.bl _)⟩
theorem rv_inL {d : PyData} {ds : List PyData} (h2 : s2.lst? = some ds) (hd : flatD d = true) (hs : ds.all flatD = true) : Rv K M (rInU K) (.d d) s2 (.d (.bool (memD d ds))) := fun H0 H x y e0 hx hy Q q => by
  obtain ⟨p, us, rfl, _, hp, hu⟩ := hy.seq h2
  exact .inl ⟨_, _, rfl, .inl (.inl (.inl hp)), (flat_dat hx).trans hd, (flat_dats hu).trans hs, by rw [if_neg (by decide), mem_dats hx hu hd hs]; exact q _ H (Xm.refl H) (Dat.bl _)⟩
theorem rv_inD {d : PyData} {ds : List PyData} (h2 : s2.lst? = some ds) (sd : SeqAt.shaped d = true) (se : SeqAt.shaped (.list ds) = true) : Rv K M (rInU K) (.d d) s2 (.d (.bool (memD d ds))) := fun H0 H x y e0 hx hy Q q => by
  obtain ⟨p, us, rfl, _, hp, hu⟩ := hy.seq h2
  exact .inr (.inr ⟨d, ds, Dat.dp hx, .lst (.inl (.inl hp)) hu.dp, sd, se, q _ H (Xm.refl H) (Dat.bl _)⟩)
theorem rv_inS {c : Nat} {z : Str} : Rv K M (rInU K) (.d (.str ⟨#[c]⟩)) (.d (.str z)) (.d (.bool (decide (c ∈ z.cps.toList)))) := fun H0 H x y e0 hx hy Q q => by
  cases hx; cases hy; exact .inr (.inl ⟨c, z, rfl, rfl, q _ H (Xm.refl H) (Dat.bl _)⟩)
theorem rv_ninS {c : Nat} {z : Str} : Rv K M (rNotInU K) (.d (.str ⟨#[c]⟩)) (.d (.str z)) (.d (.bool (!decide (c ∈ z.cps.toList)))) := fun H0 H x y e0 hx hy Q q => by
  cases hx; cases hy; exact .inr (.inl ⟨c, z, rfl, rfl, q _ H (Xm.refl H) (Dat.bl _)⟩)
theorem rv_ninL {d : PyData} {ds : List PyData} (h2 : s2.lst? = some ds) (hd : flatD d = true) (hs : ds.all flatD = true) : Rv K M (rNotInU K) (.d d) s2 (.d (.bool (!memD d ds))) := fun H0 H x y e0 hx hy Q q => by
  obtain ⟨p, us, rfl, _, hp, hu⟩ := hy.seq h2
  exact .inl ⟨_, _, rfl, .inl (.inl (.inl hp)), (flat_dat hx).trans hd, (flat_dats hu).trans hs, by rw [if_pos rfl, mem_dats hx hu hd hs]; exact q _ H (Xm.refl H) (Dat.bl _)⟩
theorem dats_atI {H : Hp} {xs : List V} {ds : List PyData} {i : Int} {d : PyData} (h : Dats K H xs ds) (e : atI ds i = some d) : ∃ v, atI xs i = some v ∧ Dat K H v d := by
  unfold atI at e ⊢
  rw [h.len]
  cases q : ixN ds.length i with
  | none => rw [q] at e; cases e
  | some j =>
    rw [q] at e
    exact h.get e
theorem rv_ixT {ds : List PyData} {i : Int} {d : PyData} (e : atI ds i = some d) : Rv K M (rIx K) (.d (.tuple ds)) (.d (.int i)) (.d d) := fun H0 H x y e0 hx hy Q q => by
  cases hx with
  | tup hs hd =>
    cases hy
    obtain ⟨v, ev, hv⟩ := dats_atI hd e
    exact .inr (.inl ⟨_, _, i, v, rfl, rfl, hs, ev, q _ H (Xm.refl H) hv⟩)
theorem rv_ixL {ds : List PyData} {i : Int} {d : PyData} (h1 : s1.lst? = some ds) (e : atI ds i = some d) : Rv K M (rIx K) s1 (.d (.int i)) (.d d) := fun H0 H x y e0 hx hy Q q => by
  obtain ⟨p, us, rfl, _, hp, hu⟩ := hx.seq h1
  cases hy
  obtain ⟨v, ev, hv⟩ := dats_atI hu e
  exact .inl ⟨_, _, i, v, rfl, rfl, .inl (.inl hp), ev, q _ H (Xm.refl H) hv⟩
theorem rv_ixS {z : Str} {i : Int} {c : Nat} (hz : z.length ≤ 100000) (e : atI z.cps.toList i = some c) : Rv K M (rIx K) (.d (.str z)) (.d (.int i)) (.d (.str ⟨#[c]⟩)) := fun H0 H x y e0 hx hy Q q => by
  cases hx; cases hy; exact .inr (.inr ⟨z, i, c, rfl, rfl, Evl.sz_of hz, e, q _ H (Xm.refl H) (Dat.str _)⟩)
theorem dats_cut {H : Hp} {xs : List V} {ds : List PyData} (lo hi : Option Int) (h : Dats K H xs ds) : Dats K H (cutV xs lo hi) (cutD ds lo hi) := by
  unfold cutV cutD
  rw [h.len]
  exact (h.drop _).take _
theorem cutD_whole {ds : List PyData} {lo hi : Option Int} (h : HT.sIx ds.length 0 lo = 0 ∧ HT.sIx ds.length ds.length hi = ds.length) : cutD ds lo hi = ds := by
  unfold cutD
  rw [h.1, h.2, List.drop_zero, Nat.sub_zero, List.take_length]
theorem rsl_T {ds : List PyData} {lo hi : Option Int} : Rsl K M (rSlU K) (.d (.tuple ds)) lo hi (.d (.tuple (cutD ds lo hi))) := fun H0 H x e0 hx Q q => by
  cases hx with
  | tup hs hd =>
    refine .inr (.inl ⟨_, _, rfl, hs, fun hw => ?_, fun hw p hp => ?_⟩)
    · rw [hd.len] at hw
      rw [cutD_whole hw] at q
      exact q _ H (Xm.refl H) (.tup hs hd)
    · exact q _ _ (Xm.new hp) (.tup (.inl (.inl upd_same)) (dats_cut lo hi (hd.kp (kp_new hp))))
theorem rsl_L {ds : List PyData} {lo hi : Option Int} (h1 : s1.lst? = some ds) : Rsl K M (rSlU K) s1 lo hi (.o (cutD ds lo hi)) := fun H0 H x e0 hx Q q => by
  obtain ⟨p, us, rfl, _, hp, hu⟩ := hx.seq h1
  refine .inl ⟨p, us, rfl, .inl (.inl hp), fun l hl => q _ _ (Xm.new hl) ⟨l, _, rfl, e0.notM hl, e0.back hl, upd_same, dats_cut lo hi (hu.kp (kp_new hl))⟩⟩
theorem rsl_S {z : Str} {lo hi : Option Int} (hz : z.length ≤ 100000) : Rsl K M (rSlU K) (.d (.str z)) lo hi (.d (.str (cutS z lo hi))) := fun H0 H x e0 hx Q q => by
  cases hx
  exact .inr (.inr ⟨z, rfl, Evl.sz_of hz, q _ H (Xm.refl H) (Dat.str _)⟩)
theorem rc_lenT {ds : List PyData} : Rc K M (rLenU K) [.d (.tuple ds)] (.d (.int ds.length)) := fun H0 H xs e0 hx Q q => by
  cases hx with
  | cons a b =>
    cases b
    cases a with
    | tup hs hd => exact .inl ⟨_, _, rfl, .inr hs, by rw [hd.len]; exact q _ H (Xm.refl H) (Dat.int _)⟩
theorem rc_lenL {ds : List PyData} (h1 : s1.lst? = some ds) : Rc K M (rLenU K) [s1] (.d (.int ds.length)) := fun H0 H xs e0 hx Q q => by
  cases hx with
  | cons a b =>
    cases b
    obtain ⟨p, us, rfl, _, hp, hu⟩ := a.seq h1
    exact .inl ⟨_, _, rfl, .inl (.inl (.inl hp)), by rw [hu.len]; exact q _ H (Xm.refl H) (Dat.int _)⟩
theorem rc_lenS {z : Str} (hz : z.length ≤ 100000) : Rc K M (rLenU K) [.d (.str z)] (.d (.int z.length)) := fun H0 H xs e0 hx Q q => by
  cases hx with
  | cons a b =>
    cases b
    cases a
    exact .inr ⟨z, rfl, Evl.sz_of hz, q _ H (Xm.refl H) (Dat.int _)⟩
theorem rc_listT {ds : List PyData} : Rc K M (rListU K) [.d (.tuple ds)] (.o ds) := fun H0 H xs e0 hx Q q => by
  cases hx with
  | cons a b =>
    cases b
    cases a with
    | tup hs hd => exact .inl ⟨_, _, rfl, .inr hs, fun l hl => q _ _ (Xm.new hl) ⟨l, _, rfl, e0.notM hl, e0.back hl, upd_same, hd.kp (kp_new hl)⟩⟩
theorem rc_listL {ds : List PyData} (h1 : s1.lst? = some ds) : Rc K M (rListU K) [s1] (.o ds) := fun H0 H xs e0 hx Q q => by
  cases hx with
  | cons a b =>
    cases b
    obtain ⟨p, us, rfl, _, hp, hu⟩ := a.seq h1
    exact .inl ⟨_, _, rfl, .inl (.inl (.inl hp)), fun l hl => q _ _ (Xm.new hl) ⟨l, _, rfl, e0.notM hl, e0.back hl, upd_same, hu.kp (kp_new hl)⟩⟩
theorem dats_signs {H : Hp} : ∀ l : List Nat, Dats K H (l.map fun c => V.str ⟨#[c]⟩) (l.map fun c => PyData.str ⟨#[c]⟩)
  | [] => .nil
  | c :: l => .cons (.str _) (dats_signs l)
theorem rc_listS {z : Str} (hz : z.length ≤ 100000) : Rc K M (rListU K) [.d (.str z)] (.o (z.cps.toList.map fun c => PyData.str ⟨#[c]⟩)) := fun H0 H xs e0 hx Q q => by
  cases hx with
  | cons a b =>
    cases b
    cases a
    exact .inr ⟨z, rfl, Evl.sz_of hz, fun l hl => q _ _ (Xm.new hl) ⟨l, _, rfl, e0.notM hl, e0.back hl, upd_same, dats_signs _⟩⟩
theorem rc_tupleL {ds : List PyData} (h1 : s1.lst? = some ds) : Rc K M (rTupleU K) [s1] (.d (.tuple ds)) := fun H0 H xs e0 hx Q q => by
  cases hx with
  | cons a b =>
    cases b
    obtain ⟨p, us, rfl, _, hp, hu⟩ := a.seq h1
    exact ⟨_, _, rfl, .inl ⟨.inl (.inl hp), fun l hl => q _ _ (Xm.new hl) (.tup (.inl (.inl upd_same)) (hu.kp (kp_new hl)))⟩⟩
theorem rc_tupleT {ds : List PyData} : Rc K M (rTupleU K) [.d (.tuple ds)] (.d (.tuple ds)) := fun H0 H xs e0 hx Q q => by
  cases hx with
  | cons a b =>
    cases b
    cases a with
    | tup hs hd => exact ⟨_, _, rfl, .inr ⟨hs, q _ H (Xm.refl H) (.tup hs hd)⟩⟩
theorem rc_intB {b : Bool} : Rc K M rInt1 [.d (.bool b)] (.d (.int (if b then 1 else 0))) := fun H0 H xs e0 hx Q q => by
  cases hx with
  | cons a b =>
    cases b
    cases a
    exact .inr ⟨b, rfl, q _ H (Xm.refl H) (Dat.int _)⟩
theorem rc_sortL {w : World} {ds : List PyData} (h1 : s1.lst? = some ds) (hb : Sob ds) : Rc K M (rSortU K w) [s1] (.o (srtD ds)) := fun H0 H xs e0 hx Q q => by
  cases hx with
  | cons a b =>
    cases b
    obtain ⟨p, us, rfl, _, hp, hu⟩ := a.seq h1
    exact .inl ⟨_, _, ds, rfl, .inl (.inl (.inl hp)), hu, hb, fun l ys hl hy => q _ _ (Xm.new hl) ⟨l, ys, rfl, e0.notM hl, e0.back hl, upd_same, hy.kp (kp_new hl)⟩⟩
theorem rc_sortT {w : World} {ds : List PyData} (hb : Sob ds) : Rc K M (rSortU K w) [.d (.tuple ds)] (.o (srtD ds)) := fun H0 H xs e0 hx Q q => by
  cases hx with
  | cons a b =>
    cases b
    cases a with
    | tup hs hd => exact .inl ⟨_, _, ds, rfl, .inr hs, hd, hb, fun l ys hl hy => q _ _ (Xm.new hl) ⟨l, ys, rfl, e0.notM hl, e0.back hl, upd_same, hy.kp (kp_new hl)⟩⟩
theorem rc_all {bs : List Bool} (h1 : s1.lst? = some (bs.map PyData.bool)) : Rc K M (rAll K) [s1] (.d (.bool (bs.all id))) := fun H0 H xs e0 hx Q q => by
  cases hx with
  | cons a b =>
    cases b
    obtain ⟨p, us, rfl, _, hp, hu⟩ := a.seq h1
    obtain rfl := bl_dats hu
    exact ⟨p, bs, rfl, .inl (.inl hp), q _ H (Xm.refl H) (Dat.bl _)⟩
theorem rc_any {bs : List Bool} (h1 : s1.lst? = some (bs.map PyData.bool)) : Rc K M (rAny K) [s1] (.d (.bool (bs.any id))) := fun H0 H xs e0 hx Q q => by
  cases hx with
  | cons a b =>
    cases b
    obtain ⟨p, us, rfl, _, hp, hu⟩ := a.seq h1
    obtain rfl := bl_dats hu
    exact ⟨p, bs, rfl, .inl (.inl hp), q _ H (Xm.refl H) (Dat.bl _)⟩
/-- sorted(set(e)) of ints: the members in order, each once -/
theorem te_sortSet {w : World} {te : TE} {ms ns ts : List Int} (h : Te K M te γ (.d (.tuple (ms.map PyData.int)))) (hz : ms.length ≤ 1000) (hts : ∀ k ∈ ms, k ∈ ts) (ht : ts.length < 64)
    (hn : ∀ ls : List Int, ls.Pairwise (· < ·) → (∀ k : Int, k ∈ ls ↔ k ∈ ms) → ls = ns) : Te K M (tCB (rSortU K w) (tCons (tCB (rSetT K w) (tCons te tNil)) tNil)) γ (.o (ns.map PyData.int)) := fun H0 σ H e0 E Q q =>
  h H0 σ H e0 E _ fun v H1 e1 hv => by
    cases hv with
    | tup hs hd =>
      obtain rfl := int_dats hd
      refine ⟨_, ms, rfl, hs, hz, fun p c hp hc => ?_⟩
      refine .inr ⟨p, fun j => decide (j ∈ ms), c, rfl, upd_same, Nat.lt_of_le_of_lt (hc ts hts) ht, fun ls l hl hm _ hl0 => ?_⟩
      have e := hn ls hl fun k => (hm k).trans (by simp)
      subst e
      have e2 := e1.trans (Xm.new hp (o := SetO w p (fun j => decide (j ∈ ms)) c))
      exact q _ _ (e2.trans (Xm.new hl0)) ⟨l, _, rfl, (e0.trans e2).notM hl0, (e0.trans e2).back hl0, upd_same, dats_int⟩
def optD : Option Int → PyData
  | none => .none
  | some i => .int i
theorem te_min {te tk : TE} {ns : List Int} (h : Te K M te γ s1) (h1 : s1.lst? = some (ns.map PyData.int)) (hk : Te K M tk γ (.d .none)) : Te K M (tCKw (rMinD K) (tCons te tNil) (tCons tk tNil)) γ (.d (optD (leastI ns))) := fun H0 σ H e0 E Q q =>
  h H0 σ H e0 E _ fun v H1 e1 hv => hk H0 σ H1 (e0.trans e1) (E.ex e1) _ fun u H2 e2 hu => by
    obtain ⟨p, us, rfl, hm, hp, hx⟩ := hv.seq h1
    cases hu
    obtain rfl := int_dats hx
    refine ⟨p, ns, rfl, rfl, e2.k _ _ hm hp, ?_⟩
    cases e : leastI ns with
    | none => rw [e] at q; exact q _ H2 (e1.trans e2) Dat.non
    | some i => rw [e] at q; exact q _ H2 (e1.trans e2) (Dat.int i)
/-- a built-in class as a value -/
theorem te_ty {n : String} : Te K M (tC (.ty n)) γ (.ty n) := fun H0 σ H e0 E Q q => q _ H (Xm.refl H) rfl
def tyD : PyData → String
  | .none => "NoneType" | .bool _ => "bool" | .int _ => "int" | .str _ => "str" | .tuple _ => "tuple" | .list _ => "list" | .dict _ => "dict"
theorem rc_isi {d : PyData} {n : String} {b : Bool} (h : kitB (tyD d) n = some b) : Rc K M (rIsi K) [.d d, .ty n] (.d (.bool b)) := fun H0 H xs e0 hx Q q => by
  cases hx with
  | cons a r =>
    cases r with
    | cons c r =>
      cases r
      obtain rfl : _ = V.ty n := c
      have key : ∀ (z : V) (t : Value), TyX K H z t → t = .type (tyD d) → (∃ (x c : V) (t u : Value) (b' : Bool), [z, V.ty n] = [x, c] ∧ ClsV c u ∧ TyX K H x t ∧ PySem.W.kitOne K t u = some b' ∧ Q (.bl b') H) := fun z t ht e => by
        subst e
        exact ⟨z, .ty n, _, _, b, rfl, .ty n, ht, kit_ty h, q _ H (Xm.refl H) (Dat.bl b)⟩
      cases a with
      | non => exact key _ _ (.base .non) rfl
      | bl b => exact key _ _ (.base (.bl b)) rfl
      | int i => exact key _ _ (.base (.int i)) rfl
      | str x => exact key _ _ (.base (.str x)) rfl
      | tup hs hd =>
        rcases hs with (hs | ⟨o, hs⟩) | ⟨o, its, m, hk, hc, _⟩
        · exact key _ _ (.base (.tup hs)) rfl
        · exact key _ _ (.fTuple hs) rfl
        · exact key _ _ (.kTuple hk hc) rfl
theorem rv_ixM {ts : List MD} {i : Int} {t : MD} (e : atI ts i = some t) : Rv K M (rIx K) (.m (.l ts)) (.d (.int i)) (.m t) := fun H0 H x y e0 hx hy Q q => by
  have hx' : Md K (fun p => ¬ M p ∧ H0 p ≠ none) H x (.l ts) := hx
  cases hx' with
  | l a b c =>
    cases hy
    unfold atI at e
    cases qi : ixN ts.length i with
    | none => rw [qi] at e; cases e
    | some j =>
      rw [qi] at e
      obtain ⟨v, ev, hv⟩ := c.get e
      refine .inl ⟨_, _, i, v, rfl, rfl, .inl (.inl b), ?_, q _ H (Xm.refl H) hv⟩
      unfold atI
      rw [c.len, qi]
      exact ev
theorem q_sql {H0 H : Hp} {v : V} {ds : List PyData} (h : Hs K M H0 H v (.q ds)) : ∃ a us, v = .ref a ∧ SqL K H a us ∧ Dats K H us ds := by
  obtain ⟨a, us, rfl, h, c⟩ := h
  refine ⟨a, us, rfl, ?_, c⟩
  rcases h with ⟨o, h⟩ | h
  · exact .inl (.inr ⟨o, h⟩)
  · exact .inr h
theorem rsl_Q {ds : List PyData} {lo hi : Option Int} : Rsl K M (rSlU K) (.q ds) lo hi (.o (cutD ds lo hi)) := fun H0 H x e0 hx Q q => by
  obtain ⟨a, us, rfl, hs, hu⟩ := q_sql hx
  exact .inl ⟨a, us, rfl, hs, fun l hl => q _ _ (Xm.new hl) ⟨l, _, rfl, e0.notM hl, e0.back hl, upd_same, dats_cut lo hi (hu.kp (kp_new hl))⟩⟩
theorem rc_lenQ {ds : List PyData} : Rc K M (rLenU K) [.q ds] (.d (.int ds.length)) := fun H0 H xs e0 hx Q q => by
  cases hx with
  | cons a b =>
    cases b
    obtain ⟨p, us, rfl, hs, hu⟩ := q_sql a
    exact .inl ⟨_, _, rfl, .inl hs, by rw [hu.len]; exact q _ H (Xm.refl H) (Dat.int _)⟩
theorem rc_sumL {ns : List Int} (h1 : s1.lst? = some (ns.map PyData.int)) : Rc K M (rSum K) [s1] (.d (.int ns.sum)) := fun H0 H xs e0 hx Q q => by
  cases hx with
  | cons a b =>
    cases b
    obtain ⟨p, us, rfl, _, hp, hu⟩ := a.seq h1
    obtain rfl := int_dats hu
    exact ⟨p, ns, rfl, .inl (.inl hp), q _ H (Xm.refl H) (Dat.int _)⟩
end
end Tw
namespace Tw
open PySem PySem.Spec PyProof.Rows L2
abbrev FnP (K : PySem.W.Frag) (x : Str) (i : Nat) (f : Addr) (fd : FuncData) : Prop := FunD K x x (defArgs (top i)) (defBody (top i)) (defScope (top i)) [] [] f fd
def Fnd (K : PySem.W.Frag) (mg : Str → Option Value) (x : Str) (i : Nat) : Prop := ∃ f fd, FnP K x i f fd ∧ mg x = some (.ref f)
structure Wld (K : PySem.W.Frag) (mg : Str → Option Value) (w : World) : Prop where
  f_names_in : Fnd K mg "names_in" 8
  f_has_part : Fnd K mg "has_part" 9
  f_side_of : Fnd K mg "side_of" 10
  f_part_named : Fnd K mg "part_named" 11
  f_moments_of : Fnd K mg "moments_of" 12
  f_link_of : Fnd K mg "link_of" 13
  f_stale_since : Fnd K mg "stale_since" 15
  f_state_of : Fnd K mg "state_of" 16
  f_states : Fnd K mg "states" 17
  f_lacking : Fnd K mg "lacking" 18
  f_stale : Fnd K mg "stale" 19
  f_in_step : Fnd K mg "in_step" 20
  f_parts_with : Fnd K mg "parts_with" 22
  f_parts_without : Fnd K mg "parts_without" 23
  f_parts_changed : Fnd K mg "parts_changed" 24
  f_rising_with : Fnd K mg "rising_with" 25
  f_word_spans : Fnd K mg "word_spans" 26
  f_names_with : Fnd K mg "names_with" 28
  f_names_without : Fnd K mg "names_without" 29
  f_side_changed : Fnd K mg "side_changed" 30
  f_links_exchanged : Fnd K mg "links_exchanged" 31
  f_links_more : Fnd K mg "links_more" 32
  f_links_fewer : Fnd K mg "links_fewer" 33
  f_links_lost : Fnd K mg "links_lost" 34
  f_with_side : Fnd K mg "with_side" 36
  f_look_behind : Fnd K mg "look_behind" 37
  f_is_alone : Fnd K mg "is_alone" 38
  f_put_done : Fnd K mg "put_done" 39
  f_take_done : Fnd K mg "take_done" 40
  f_part_done : Fnd K mg "part_done" 41
  f_join_done : Fnd K mg "join_done" 42
  f_move_done : Fnd K mg "move_done" 43
  f_text_changed : Fnd K mg "text_changed" 44
  f_change_done : Fnd K mg "change_done" 45
  f_word_done : Fnd K mg "word_done" 46
  f_link_done : Fnd K mg "link_done" 47
  f_own_link : Fnd K mg "own_link" 48
  f_loose_done : Fnd K mg "loose_done" 49
  f_step_done : Fnd K mg "step_done" 50
  f_alone_done : Fnd K mg "alone_done" 51
  f_lack_done : Fnd K mg "lack_done" 52
  f_done : Fnd K mg "done" 54
  f_law_mixed : Fnd K mg "_law_mixed" 56
  f_law_numbers : Fnd K mg "_law_numbers" 57
  f_law_next : Fnd K mg "_law_next" 58
  f_law_pool : Fnd K mg "_law_pool" 59
  f_law_moment : Fnd K mg "_law_moment" 60
  f_law_text : Fnd K mg "_law_text" 61
  f_law_same : Fnd K mg "_law_same" 62
  f_law_standing : Fnd K mg "_law_standing" 63
  f_law_standings : Fnd K mg "_law_standings" 64
  f_law_lacking : Fnd K mg "_law_lacking" 65
  f_law_stale : Fnd K mg "_law_stale" 66
  f_law_world : Fnd K mg "_law_world" 67
  f_law_book_of : Fnd K mg "_law_book_of" 68
  f_law_side : Fnd K mg "_law_side" 69
  f_law_link_at : Fnd K mg "_law_link_at" 70
  f_law_behind : Fnd K mg "_law_behind" 71
  f_law_late : Fnd K mg "_law_late" 72
  f_law_gone : Fnd K mg "_law_gone" 73
  f_law_worded : Fnd K mg "_law_worded" 74
  f_law_does_parts : Fnd K mg "_law_does_parts" 75
  f_law_does : Fnd K mg "_law_does" 76
  f_law_one_of : Fnd K mg "_law_one_of" 77
  f_law_fresh : Fnd K mg "_law_fresh" 78
  f_law_lone : Fnd K mg "_law_lone" 79
  f_law_alike : Fnd K mg "_law_alike" 80
  f_law_put : Fnd K mg "_law_put" 81
  f_law_link_deed : Fnd K mg "_law_link_deed" 82
  f_law_named_deed : Fnd K mg "_law_named_deed" 83
  f_law_deed : Fnd K mg "_law_deed" 84
  f_law_some_deeds : Fnd K mg "_law_some_deeds" 85
  f_law_right : Fnd K mg "_law_right" 86
  b_len : mg "len" = none
  b_list : mg "list" = none
  b_tuple : mg "tuple" = none
  b_sorted : mg "sorted" = none
  b_set : mg "set" = none
  b_min : mg "min" = none
  b_enumerate : mg "enumerate" = none
  b_range : mg "range" = none
  b_zip : mg "zip" = none
  b_isinstance : mg "isinstance" = none
  b_int : mg "int" = none
  b_str : mg "str" = none
  b_bool : mg "bool" = none
  b_all : mg "all" = none
  b_any : mg "any" = none
  b_sum : mg "sum" = none
  tab : ∃ (D : Addr) (es : Array DictEntry) (n : Nat), mg "DEEDS" = some (.ref D) ∧ KDict K w D es n ∧ ∀ q : Str × Str, q ∈ ([("put", "put_done"), ("take", "take_done"), ("part", "part_done"), ("join", "join_done"), ("move", "move_done"), ("change", "change_done"), ("word", "word_done"), ("link", "link_done"), ("loose", "loose_done"), ("step", "step_done"), ("alone", "alone_done"), ("lack", "lack_done")] : List (Str × Str)) → ∃ f, mg q.2 = some (.ref f) ∧ PySem.W.nsIn K D q.1 = some (some (.ref f))

/-- a def that the module's name x stands for keeps its promise -/
structure Kn (P : Program) (w : World) (K : PySem.W.Frag) (mg : Str → Option Value) (base : Heap) (x : Str) (ps : List Str) (k : Nat) (sp : Sp) : Prop where
  ex : ∃ f fd, FnOk P w K mg base CX0 k f fd ps sp ∧ mg x = some (.ref f) ∧ PySem.W.keepIn K (.ref f) = true ∧ Binds K fd ps []
theorem _root_.L2.Room.u65 {k : Nat} {A : Around} (r : Room k A) : A.units + 65 < cLine := by have := r.un; omega
theorem _root_.L2.Room.u70 {k : Nat} {A : Around} (r : Room k A) : A.units + 70 < cLine := by have := r.un; omega
section
variable {X : Cx} {x : Str} {ps : List Str} {j k : Nat} {sp : Sp} {p pos : Pos} {e : Expr} {es : List Expr} {t : TA}
theorem pe_kn (h : Kn X.prog X.w X.K X.mg X.base x ps j sp) (hr : Room k X.A) (hjk : j ≤ k) (hg : Gl X x) (ha : PA X (e :: es) t) (hdb : (x == ("__debug__" : Str)) = false := by decide)
    (he : starEach (e :: es) X.env = (false, eval e X.env) :: starEach es X.env := by rfl) (hpl : (backTo pos (starEach es X.env)).any (·.1) = false := by rfl) :
    PE X (.Call (.Name x p) (e :: es) [] pos) (tCall sp [] E0 t) := by
  obtain ⟨f, fd, F, hm, hk, hb⟩ := h.ex
  exact pe_call F (hr.mono hjk) hg hm hk hb .nil pass0 ha hdb he hpl
end
section
variable {P : Program} {w : World} {K : PySem.W.Frag} {mg : Str → Option Value} {base : Heap} {x : Str} {i k : Nat} {N ps : List Str} {sp : Sp}
theorem kn_mk (W : Fnd K mg x i) (S : FnScope N ps (defScope (top i))) (len : ∀ vs H Q E, sp vs H Q E → vs.length = ps.length)
    (hb : ∀ (kV doc pm : Value) (an : Option Addr) (cdv ct : Value) (us : List Value), us.length = ps.length → bindArgs (PySem.W.fnOf x x (defArgs (top i)) (defBody (top i)) (defScope (top i)) .none kV doc pm an cdv ct) ⟨us, []⟩ = pure (ps.zip us))
    (hbody : ∀ (f : Addr) (cdv : Value) (A : Around) (outer : List Env) (s : Shared) (H : Hp) (vs : List V) (Q : VK) (E : XK), Room k (A.deeper (envOfC x (defScope (top i)) s.heap.objs.size f cdv)) → sp vs H Q E →
      ∃ t, PSs (cxOf CX0 P w K mg base N x (defScope (top i)) f cdv A outer s H E).nox (defBody (top i)) t ∧ t { nx := fun _ H' => Q .non H', rt := Q } (L2.start N vs) H) : Kn P w K mg base x ps (k + 1) sp := by
  obtain ⟨f, fd, F, hm⟩ := W
  refine ⟨f, fd, F.ok S len (fun cdv A outer s H vs Q E hr h => ?_), hm, F.kp, F.bindsN hb⟩
  obtain ⟨t, h1, h2⟩ := hbody f cdv A outer s H vs Q E hr h
  exact ⟨t, h1.nox, h2⟩
/-- a def that changes nothing that was there -/
theorem kn_pure {Rel : List Sv → Sv → Prop} (W : Fnd K mg x i) (S : FnScope N ps (defScope (top i))) (len : ∀ ss s, Rel ss s → ss.length = ps.length)
    (hb : ∀ (kV doc pm : Value) (an : Option Addr) (cdv ct : Value) (us : List Value), us.length = ps.length → bindArgs (PySem.W.fnOf x x (defArgs (top i)) (defBody (top i)) (defScope (top i)) .none kV doc pm an cdv ct) ⟨us, []⟩ = pure (ps.zip us))
    (hbody : ∀ (f : Addr) (cdv : Value) (A : Around) (outer : List Env) (s : Shared) (H : Hp) (E : XK), Room k (A.deeper (envOfC x (defScope (top i)) s.heap.objs.size f cdv)) →
      ∃ t, PSs (cxOf CX0 P w K mg base N x (defScope (top i)) f cdv A outer s H E).nox (defBody (top i)) t ∧ ∀ M ss r, Rel ss r → Ts K M t (ss.map some ++ List.replicate (N.length - ss.length) none) (fun _ => r = .d .none) (fun r' => r' = r)) :
    Kn P w K mg base x ps (k + 1) (spP K Rel) := by
  refine kn_mk W S (fun vs H Q E h => ?_) hb fun f cdv A outer s H vs Q E hr h => ?_
  · obtain ⟨M, ss, r, _, ha, hr, _⟩ := h
    rw [ha.len]
    exact len ss r hr
  · obtain ⟨t, h1, h2⟩ := hbody f cdv A outer s H E hr
    obtain ⟨M, ss, r, e0, ha, hrel, hret, q⟩ := h
    refine ⟨t, h1, ?_⟩
    have E1 : En K M H H (L2.start N vs) (ss.map some ++ List.replicate (N.length - ss.length) none) := by
      unfold L2.start
      rw [ha.len]
      exact En.start ha _
    exact h2 M ss r hrel H (L2.start N vs) H _ e0 E1 (fun γ' σ' H' hn e _ _ => by
      subst hn
      exact q _ H' e.e Dat.non) fun r' v H' hr' e hv => by
      subst hr'
      exact q v H' e.e hv
/-- a def that may change the box -/
theorem kn_box {Rel : List Sv → (Sv → Prop) → Prop} (W : Fnd K mg x i) (S : FnScope N ps (defScope (top i))) (len : ∀ ss s, Rel ss s → ss.length = ps.length)
    (hb : ∀ (kV doc pm : Value) (an : Option Addr) (cdv ct : Value) (us : List Value), us.length = ps.length → bindArgs (PySem.W.fnOf x x (defArgs (top i)) (defBody (top i)) (defScope (top i)) .none kV doc pm an cdv ct) ⟨us, []⟩ = pure (ps.zip us))
    (hbody : ∀ (f : Addr) (cdv : Value) (A : Around) (outer : List Env) (s : Shared) (H : Hp) (E : XK), Room k (A.deeper (envOfC x (defScope (top i)) s.heap.objs.size f cdv)) →
      ∃ t, PSs (cxOf CX0 P w K mg base N x (defScope (top i)) f cdv A outer s H E).nox (defBody (top i)) t ∧ ∀ M ss R, Rel ss R → Ts K M t (ss.map some ++ List.replicate (N.length - ss.length) none) (fun _ => R (.d .none)) R) :
    Kn P w K mg base x ps (k + 1) (spR K Rel) := by
  refine kn_mk W S (fun vs H Q E h => ?_) hb fun f cdv A outer s H vs Q E hr h => ?_
  · obtain ⟨M, ss, r, _, ha, hr, _⟩ := h
    rw [ha.len]
    exact len ss r hr
  · obtain ⟨t, h1, h2⟩ := hbody f cdv A outer s H E hr
    obtain ⟨M, ss, r, e0, ha, hrel, hret, q⟩ := h
    refine ⟨t, h1, ?_⟩
    have E1 : En K M H H (L2.start N vs) (ss.map some ++ List.replicate (N.length - ss.length) none) := by
      unfold L2.start
      rw [ha.len]
      exact En.start ha _
    exact h2 M ss r hrel H (L2.start N vs) H _ e0 E1 (fun γ' σ' H' hn e _ _ => q _ _ H' hn e.e Dat.non) fun r' v H' hr' e hv => q v r' H' hr' e.e hv
/-- by arguments of one kind -/
def spF (K : PySem.W.Frag) {α : Type} (Pre : α → Prop) (args : α → List Sv) (res : α → Sv) : Sp := spP K fun ss s => ∃ z, Pre z ∧ ss = args z ∧ s = res z
theorem kn_fun {α : Type} {Pre : α → Prop} {args : α → List Sv} {res : α → Sv} (W : Fnd K mg x i) (S : FnScope N ps (defScope (top i))) (len : ∀ z, (args z).length = ps.length)
    (hb : ∀ (kV doc pm : Value) (an : Option Addr) (cdv ct : Value) (us : List Value), us.length = ps.length → bindArgs (PySem.W.fnOf x x (defArgs (top i)) (defBody (top i)) (defScope (top i)) .none kV doc pm an cdv ct) ⟨us, []⟩ = pure (ps.zip us))
    (hbody : ∀ (f : Addr) (cdv : Value) (A : Around) (outer : List Env) (s : Shared) (H : Hp) (E : XK), Room k (A.deeper (envOfC x (defScope (top i)) s.heap.objs.size f cdv)) →
      ∃ t, PSs (cxOf CX0 P w K mg base N x (defScope (top i)) f cdv A outer s H E).nox (defBody (top i)) t ∧ ∀ M z, Pre z → Ts K M t ((args z).map some ++ List.replicate (N.length - ps.length) none) (fun _ => res z = .d .none) (fun r' => r' = res z)) :
    Kn P w K mg base x ps (k + 1) (spF K Pre args res) := by
  refine kn_pure W S (fun ss s h => by obtain ⟨z, _, rfl, _⟩ := h; exact len z) hb fun f cdv A outer s H E hr => ?_
  obtain ⟨t, h1, h2⟩ := hbody f cdv A outer s H E hr
  refine ⟨t, h1, fun M ss r h => ?_⟩
  obtain ⟨z, hp, rfl, rfl⟩ := h
  rw [len z]
  exact h2 M z hp
theorem te_callF {M : Addr → Prop} {γ : G} {α : Type} {Pre : α → Prop} {args : α → List Sv} {res : α → Sv} {E : XK} {ta : TA} {ss : List Sv} (z : α) (ha : Ta K M ta γ ss) (hp : Pre z) (hx : ss.map Sv.weak = args z) (hr : (res z).isR = true) : Te K M (tCall (spF K Pre args res) [] E ta) γ (res z) :=
  te_call ha ⟨z, hp, hx, rfl⟩ hr
/-- by arguments of one kind, one of many -/
def spG (K : PySem.W.Frag) {α : Type} (Pre : α → Prop) (args : α → List Sv) (res : α → Sv → Prop) : Sp := spR K fun ss R => ∃ z, Pre z ∧ ss = args z ∧ R = res z
theorem kn_gun {α : Type} {Pre : α → Prop} {args : α → List Sv} {res : α → Sv → Prop} (W : Fnd K mg x i) (S : FnScope N ps (defScope (top i))) (len : ∀ z, (args z).length = ps.length)
    (hb : ∀ (kV doc pm : Value) (an : Option Addr) (cdv ct : Value) (us : List Value), us.length = ps.length → bindArgs (PySem.W.fnOf x x (defArgs (top i)) (defBody (top i)) (defScope (top i)) .none kV doc pm an cdv ct) ⟨us, []⟩ = pure (ps.zip us))
    (hbody : ∀ (f : Addr) (cdv : Value) (A : Around) (outer : List Env) (s : Shared) (H : Hp) (E : XK), Room k (A.deeper (envOfC x (defScope (top i)) s.heap.objs.size f cdv)) →
      ∃ t, PSs (cxOf CX0 P w K mg base N x (defScope (top i)) f cdv A outer s H E).nox (defBody (top i)) t ∧ ∀ M z, Pre z → Ts K M t ((args z).map some ++ List.replicate (N.length - ps.length) none) (fun _ => res z (.d .none)) (res z)) :
    Kn P w K mg base x ps (k + 1) (spG K Pre args res) := by
  refine kn_box W S (fun ss s h => by obtain ⟨z, _, rfl, _⟩ := h; exact len z) hb fun f cdv A outer s H E hr => ?_
  obtain ⟨t, h1, h2⟩ := hbody f cdv A outer s H E hr
  refine ⟨t, h1, fun M ss r h => ?_⟩
  obtain ⟨z, hp, rfl, rfl⟩ := h
  rw [len z]
  exact h2 M z hp
theorem tp_callG {M : Addr → Prop} {γ : G} {α : Type} {Pre : α → Prop} {args : α → List Sv} {res : α → Sv → Prop} {E : XK} {ta : TA} {Ps : List Sv → Prop} {P : Sv → Prop} (ha : Tpa K M ta γ Ps) (h : ∀ ss, Ps ss → ∃ z, Pre z ∧ ss.map Sv.weak = args z ∧ P = res z) (hr : ∀ s, P s → s.isR = true) : Tp K M (tCall (spG K Pre args res) [] E ta) γ P :=
  tp_call ha h hr
end
end Tw
namespace Tw
open PySem PySem.Spec PyProof.Rows L2
/-- what stands as data, one datum a thing, all alike -/
class Enc (β : Type) where
  enc : β → PyData
  al : ∀ a b : β, PySem.W.alike (enc a) (enc b) = true
  inj : ∀ a b : β, PyData.eqv (enc a) (enc b) = true → a = b
  rfl' : ∀ a : β, PyData.eqv (enc a) (enc a) = true
section
variable {β : Type} [Enc β]
open Enc
def leE (a b : β) : Bool := PySem.W.dataLe false enc a b
def sortE (l : List β) : List β := l.mergeSort leE
theorem leE_total : PySem.W.TotalLe (leE (β := β)) := PySem.W.sortLe_total (PyProof.Rows.listOrd PyProof.Rows.itemOrd) false fun b => PySem.W.keyToks (enc b)
theorem toks_inj {a b : β} (h : PySem.W.keyToks (enc a) = PySem.W.keyToks (enc b)) : a = b := by
  refine inj a b ?_
  cases e : PyData.eqv (enc a) (enc b) with
  | true => rfl
  | false =>
    have h1 := (PySem.W.toks_eqv (enc a) (enc b) (al a b)).2 e [.inl 0] [.inl 1]
    rw [h, PySem.W.lex_pre, PyProof.Rows.lex_irrefl] at h1
    exact absurd h1 (by decide)
theorem leE_anti (a b : β) (h1 : leE a b = true) (h2 : leE b a = true) : a = b := by
  refine toks_inj ?_
  have e1 : (!(PyProof.Rows.lexLt PyProof.Rows.itemOrd (PySem.W.keyToks (enc b)) (PySem.W.keyToks (enc a)))) = true := h1
  have e2 : (!(PyProof.Rows.lexLt PyProof.Rows.itemOrd (PySem.W.keyToks (enc a)) (PySem.W.keyToks (enc b)))) = true := h2
  rw [Bool.not_eq_true'] at e1 e2
  exact PyProof.Rows.lex_total _ _ e2 e1
theorem sortE_perm (l : List β) : (sortE l).Perm l := List.mergeSort_perm l _
theorem sortE_pw (l : List β) : (sortE l).Pairwise (fun a b => leE a b = true) := PySem.W.sort_pairwise leE_total l
theorem sortE_one {l m : List β} (hp : m.Perm l) (hs : m.Pairwise (fun a b => leE a b = true)) : m = sortE l :=
  PySem.W.Srt.the_of_perm leE (fun a b c => leE_total.trans a b c) (fun a b => Bool.or_eq_true_iff.mpr (leE_total.total a b)) leE_anti hp hs
theorem sortE_congr {l m : List β} (h : l.Perm m) : sortE l = sortE m := sortE_one ((sortE_perm l).trans h) (sortE_pw l)
theorem sortE_sortE (l : List β) : sortE (sortE l) = sortE l := sortE_congr (sortE_perm l)
theorem sortE_mem {l : List β} {a : β} : a ∈ sortE l ↔ a ∈ l := (sortE_perm l).mem_iff
theorem sortE_len (l : List β) : (sortE l).length = l.length := (sortE_perm l).length_eq
theorem sortE_nodup {l : List β} (h : l.Nodup) : (sortE l).Nodup := (sortE_perm l).nodup_iff.mpr h
theorem sortE_nil : sortE ([] : List β) = [] := List.eq_nil_of_length_eq_zero (sortE_len _)
theorem srtD_map (l : List β) : srtD (l.map enc) = (sortE l).map enc := (PySem.W.sort_maps enc fun _ _ _ _ => rfl).symm
theorem sob_map {l : List β} (hs : PySem.W.Sortable (l.map enc)) (hd : ∀ a : β, a ∈ l → (enc a).depth ≤ 60) : Sob (l.map enc) where
  al := PySem.W.AllAlike.of al
  so := hs
  dp := fun d hm => by obtain ⟨a, ha, rfl⟩ := List.mem_map.mp hm; exact hd a ha
theorem eqv_enc [DecidableEq β] (a b : β) : PyData.eqv (enc a) (enc b) = decide (a = b) := by
  by_cases e : a = b
  · subst e; rw [rfl' a]; simp
  · rw [decide_eq_false e]
    cases q : PyData.eqv (enc a) (enc b) with
    | false => rfl
    | true => exact absurd (inj a b q) e
theorem memD_enc [DecidableEq β] (a : β) (l : List β) : memD (enc a) (l.map enc) = decide (a ∈ l) := by
  unfold memD
  induction l with
  | nil => rfl
  | cons x l ih =>
    rw [List.map_cons, List.any_cons, ih, eqv_enc]
    by_cases e : x = a
    · subst e; simp
    · have : ¬ a = x := fun z => e z.symm
      simp [e, this]
end
instance : Enc Str where
  enc := .str
  al := fun _ _ => by simp [PySem.W.alike]
  inj := fun a b h => by simpa [PyData.eqv] using h
  rfl' := fun a => by simp [PyData.eqv]
instance : Enc Int where
  enc := .int
  al := fun _ _ => by simp [PySem.W.alike]
  inj := fun a b h => by simpa [PyData.eqv] using h
  rfl' := fun a => by simp [PyData.eqv]
section
variable {β : Type} [Enc β]
open Enc
theorem alikeAll_enc : ∀ l m : List β, PySem.W.alikeAll (l.map enc) (m.map enc) = true
  | [], _ => by simp [PySem.W.alikeAll]
  | _ :: _, [] => by simp [PySem.W.alikeAll]
  | a :: l, b :: m => by rw [List.map_cons, List.map_cons, PySem.W.alikeAll, al a b, alikeAll_enc l m]; rfl
theorem eqvAll_enc : ∀ l m : List β, PyData.eqvAll (l.map enc) (m.map enc) = true → l = m
  | [], [], _ => rfl
  | [], _ :: _, h => by simp [PyData.eqvAll] at h
  | _ :: _, [], h => by simp [PyData.eqvAll] at h
  | a :: l, b :: m, h => by
    rw [List.map_cons, List.map_cons, PyData.eqvAll, Bool.and_eq_true] at h
    rw [inj a b h.1, eqvAll_enc l m h.2]
theorem eqvAll_self : ∀ l : List β, PyData.eqvAll (l.map enc) (l.map enc) = true
  | [] => by simp [PyData.eqvAll]
  | a :: l => by rw [List.map_cons, PyData.eqvAll, rfl' a, eqvAll_self l]; rfl
end
/-- tuples of one kind of thing -/
instance {β : Type} [Enc β] : Enc (List β) where
  enc := fun l => .tuple (l.map Enc.enc)
  al := fun l m => by rw [PySem.W.alike]; exact alikeAll_enc l m
  inj := fun l m h => by rw [PyData.eqv] at h; exact eqvAll_enc l m h
  rfl' := fun l => by rw [PyData.eqv]; exact eqvAll_self l
instance {α β : Type} [Enc α] [Enc β] : Enc (α × β) where
  enc := fun p => .tuple [Enc.enc p.1, Enc.enc p.2]
  al := fun p q => by simp [PySem.W.alike, PySem.W.alikeAll, Enc.al]
  inj := fun p q h => by
    simp only [PyData.eqv, PyData.eqvAll, Bool.and_eq_true, Bool.and_true] at h
    exact Prod.ext (Enc.inj _ _ h.1) (Enc.inj _ _ h.2)
  rfl' := fun p => by simp [PyData.eqv, PyData.eqvAll, Enc.rfl']

structure Part where
  n : Str
  x : Str
  m : List Int
  deriving DecidableEq
structure Link where
  a : List Str
  b : List Str
  t : Int
  la : List Int
  lb : List Int
  deriving DecidableEq
structure Book where
  l : List Part
  r : List Part
  k : List Link
  z : List Str
  deriving DecidableEq
abbrev eNs (ns : List Str) : PyData := .tuple (ns.map PyData.str)
abbrev eIs (ms : List Int) : PyData := .tuple (ms.map PyData.int)
abbrev eP (p : Part) : PyData := .tuple [.str p.n, .str p.x, eIs p.m]
abbrev eL (l : Link) : PyData := .tuple [eNs l.a, eNs l.b, .int l.t, .tuple [eIs l.la, eIs l.lb]]
abbrev ePs (ps : List Part) : PyData := .tuple (ps.map eP)
abbrev eLs (ls : List Link) : PyData := .tuple (ls.map eL)
abbrev eB (b : Book) : PyData := .tuple [ePs b.l, ePs b.r, eLs b.k, eNs b.z]
instance : Enc Link where
  enc := eL
  al := fun p q => by
    have h1 := fun l m : List Str => alikeAll_enc l m
    have h2 := fun l m : List Int => alikeAll_enc l m
    have e1 : ∀ l m : List Str, PySem.W.alikeAll (l.map PyData.str) (m.map PyData.str) = true := h1
    have e2 : ∀ l m : List Int, PySem.W.alikeAll (l.map PyData.int) (m.map PyData.int) = true := h2
    simp [PySem.W.alike, PySem.W.alikeAll, e1, e2]
  inj := fun p q h => by
    simp only [PyData.eqv, PyData.eqvAll, Bool.and_eq_true, Bool.and_true] at h
    obtain ⟨h1, h2, h3, h4, h5⟩ := h
    cases p; cases q
    have e1 := eqvAll_enc (β := Str) _ _ h1
    have e2 := eqvAll_enc (β := Str) _ _ h2
    have e4 := eqvAll_enc (β := Int) _ _ h4
    have e5 := eqvAll_enc (β := Int) _ _ h5
    simp only at e1 e2 e4 e5 h3
    have e3 := eq_of_beq h3
    subst e1 e2 e3 e4 e5
    rfl
  rfl' := fun p => by
    have e1 : ∀ l : List Str, PyData.eqvAll (l.map PyData.str) (l.map PyData.str) = true := fun l => eqvAll_self l
    have e2 : ∀ l : List Int, PyData.eqvAll (l.map PyData.int) (l.map PyData.int) = true := fun l => eqvAll_self l
    simp [PyData.eqv, PyData.eqvAll, e1, e2]
abbrev sI (s : Bool) : Int := if s then 1 else 0
def Book.side (b : Book) : Bool → List Part
  | false => b.l
  | true => b.r
def Book.withSide (b : Book) : Bool → List Part → Book
  | false, ps => { b with l := ps }
  | true, ps => { b with r := ps }
def Link.side (l : Link) : Bool → List Str
  | false => l.a
  | true => l.b
def Link.lost (l : Link) : Bool → List Int
  | false => l.la
  | true => l.lb
def Link.withSide (l : Link) : Bool → List Str → Link
  | false, ns => { l with a := ns }
  | true, ns => { l with b := ns }
def Link.withLost (l : Link) : Bool → List Int → Link
  | false, ms => { l with la := ms }
  | true, ms => { l with lb := ms }
abbrev namesOf (ps : List Part) : List Str := ps.map Part.n
def Book.has (b : Book) (n : Str) : Bool := decide (n ∈ namesOf b.l) || decide (n ∈ namesOf b.r)
/-- a part's side -/
def Book.sd (b : Book) (n : Str) : Bool := !decide (n ∈ namesOf b.l)
def Book.part? (b : Book) (n : Str) : Option Part := (b.side (b.sd n)).find? fun p => decide (p.n = n)
def Book.lk (b : Book) (n : Str) : Option Link := b.k.find? fun l => decide (n ∈ l.side (b.sd n))
theorem Book.has_sd {b : Book} {n : Str} (h : b.has n = true) : n ∈ namesOf (b.side (b.sd n)) := by
  unfold Book.has at h
  unfold Book.sd
  by_cases e : n ∈ namesOf b.l
  · rw [decide_eq_true e]; exact e
  · rw [decide_eq_false e] at h ⊢
    simpa [Book.side] using h
theorem find_name {ps : List Part} {n : Str} (h : n ∈ namesOf ps) : ∃ p, ps.find? (fun p => decide (p.n = n)) = some p ∧ p.n = n ∧ p ∈ ps := by
  induction ps with
  | nil => simp at h
  | cons q ps ih =>
    by_cases e : q.n = n
    · exact ⟨q, by simp [List.find?_cons, e], e, List.mem_cons_self⟩
    · have h' : n ∈ namesOf ps := by
        rcases List.mem_map.mp h with ⟨p, hp, hn⟩
        rcases List.mem_cons.mp hp with r | r
        · subst r; exact absurd hn e
        · exact List.mem_map.mpr ⟨p, r, hn⟩
      obtain ⟨p, h1, h2, h3⟩ := ih h'
      exact ⟨p, by simp [List.find?_cons, e, h1], h2, List.mem_cons_of_mem _ h3⟩
theorem Book.part_some {b : Book} {n : Str} (h : b.has n = true) : ∃ p, b.part? n = some p ∧ p.n = n ∧ p ∈ b.side (b.sd n) := find_name (Book.has_sd h)
/-- how a part stands -/
inductive Stn where
  | alone | lacking | step | stale (t : Int)
  deriving DecidableEq
def eSt : Stn → PyData
  | .alone => .tuple [.str "alone"]
  | .lacking => .tuple [.str "lacking"]
  | .step => .tuple [.str "step"]
  | .stale t => .tuple [.str "stale", .int t]
def Book.momsOf (b : Book) (n : Str) : List Int := match b.part? n with
  | some p => p.m
  | none => []
def Book.since (b : Book) (l : Link) (s : Bool) : Option Int := leastI ((l.lost (!s) ++ (l.side (!s)).flatMap b.momsOf).filter fun t => decide (l.t < t))
def Book.st (b : Book) (n : Str) : Stn :=
  if n ∈ b.z then .alone else match b.lk n with
    | none => .lacking
    | some l => match b.since l (b.sd n) with
      | none => .step
      | some t => .stale t
end Tw
namespace Tw
open PySem PySem.Spec PyProof.Rows L2
section
variable {X : Cx} {K : PySem.W.Frag} {w : World}
theorem ix_seqK (h : X.K = K) : IxR X (rIx K) := h ▸ ix_seq
theorem op_addUK (h : X.K = K) : OpR X (binaryOp .Add) (rAddU K) := h ▸ op_addU
theorem op_eqDK (h : X.K = K) (hu : X.A.units + 64 < cLine) : OpR X (compareOp .Eq) (rEqD K) := h ▸ op_eqD hu
theorem op_neDK (h : X.K = K) (hu : X.A.units + 64 < cLine) : OpR X (compareOp .NotEq) (rNeD K) := h ▸ op_neD hu
theorem op_inUK (h : X.K = K) (hu : X.A.units + 65 < cLine) : OpR X (compareOp .In) (rInU K) := h ▸ op_inU hu
theorem op_notInUK (h : X.K = K) (hu : X.A.units + 65 < cLine) : OpR X (compareOp .NotIn) (rNotInU K) := h ▸ op_notInU hu
theorem sl_UK (h : X.K = K) : SlR X (rSlU K) := h ▸ sl_U
theorem call_lenUK (h : X.K = K) : CallR X (.builtin "len") (rLenU K) := h ▸ call_lenU
theorem call_listUK (h : X.K = K) (hc : X.calm = true) : CallR X (.type "list") (rListU K) := h ▸ call_listU hc
theorem call_tupleUK (h : X.K = K) : CallR X (.type "tuple") (rTupleU K) := h ▸ call_tupleU
theorem cr_sortUK (h : X.K = K) (h2 : X.w = w) (hu : X.A.units + 70 < cLine) (hc : X.calm = true) : CallR X (.builtin "sorted") (rSortU K w) := h ▸ h2 ▸ cr_sortU hu hc
theorem cr_setTK (h : X.K = K) (h2 : X.w = w) (hc : X.calm = true) : CallR X (.type "set") (rSetT K w) := h ▸ h2 ▸ cr_setT hc
theorem cr_minDK (h : X.K = K) (hu : X.A.units + 70 < cLine) (hc : X.calm = true) : CallRK X (.builtin "min") [Str.ofString "default"] (rMinD K) := h ▸ cr_minD hu hc
theorem call_isiKK (h : X.K = K) : CallR X (.builtin "isinstance") (rIsi K) := h ▸ call_isi
theorem cr_allK (h : X.K = K) (hc : X.calm = true) : CallR X (.builtin "all") (rAll K) := h ▸ cr_all hc
theorem cr_anyK (h : X.K = K) (hc : X.calm = true) : CallR X (.builtin "any") (rAny K) := h ▸ cr_any hc
theorem cr_sumK (h : X.K = K) (hc : X.calm = true) : CallR X (.builtin "sum") (rSum K) := h ▸ cr_sum hc
theorem mt_extTK (h : X.K = K) : MtM X "list.extend" (rExtT K) := h ▸ mt_extT
theorem mt_indexK (h : X.K = K) : MtR X "list.index" (rIndex K) := h ▸ mt_index
variable {pos tpos cpos apos : Pos}
theorem pi_listK {tg l : Expr} {tl : TE} (h : X.K = K) (hl : PE X l tl) : PI X tg l (iList K tl) := h ▸ pi_list hl
theorem pi_tupK {tg l : Expr} {tl : TE} (h : X.K = K) (hl : PE X l tl) : PI X tg l (iTup K tl) := h ▸ pi_tup hl
theorem pg_tupK {es : List Expr} {k : Nat} {t : TGs} {n : Nat} (h : X.K = K) (hc : X.calm = true) (hg : PGs X es t)
    (hn : (assignEach es X.env).length = n := by rfl) (hst : (assignEach es X.env).findIdx? (·.1) = none := by rfl) : PG X (.Tuple es k pos) (gTup K n t) := h ▸ pg_tup hc hg hn hst
theorem pg_lstK {es : List Expr} {k : Nat} {t : TGs} {n : Nat} (h : X.K = K) (hc : X.calm = true) (hg : PGs X es t)
    (hn : (assignEach es X.env).length = n := by rfl) (hst : (assignEach es X.env).findIdx? (·.1) = none := by rfl) : PG X (.Tuple es k pos) (gLst K n t) := h ▸ pg_lst hc hg hn hst
theorem pi_zipK {e e2 : Expr} {ta : TA} {p : Pos} {elts : List Expr} {kk : Nat} (h : X.K = K) (hg : Gl X "zip") (hm : X.mg "zip" = none) (ha : PA X [e, e2] ta)
    (hs : starEach [e, e2] X.env = (false, eval e X.env) :: starEach [e2] X.env := by rfl) (hpl : (backTo pos (starEach [e2] X.env)).any (·.1) = false := by rfl) : PI X (.Tuple elts kk tpos) (.Call (.Name "zip" p) [e, e2] [] pos) (RZ.iZipA K ta) := h ▸ RZ.pi_zipA hg hm ha hs hpl
theorem pi_enumK {e : Expr} {ta : TA} {p : Pos} {elts : List Expr} {kk : Nat} (h : X.K = K) (hg : Gl X "enumerate") (hm : X.mg "enumerate" = none) (ha : PA X [e] ta) (hs : starEach [e] X.env = [(false, eval e X.env)] := by rfl) :
    PI X (.Tuple elts kk tpos) (.Call (.Name "enumerate" p) [e] [] pos) (iEnum K ta) := h ▸ pi_enum hg hm ha hs
theorem pe_bmK {o e : Expr} {es : List Expr} {to : TE} {t : TA} {name : Str} {T id : String} {r : V → List V → Hp → VK → Prop} (h : X.K = K) (pa : PlainAttrs T) (slot : Slot T name id) (hty : typeOf (.builtin id) = pure (.type "method_descriptor")) (hm : MtR X id r) (ho : PE X o to) (ha : PA X (e :: es) t)
    (hbase : attributeBase o name X.env (eval o X.env) = eval o X.env := by rfl)
    (hfew : ((backTo cpos (starEach (e :: es) X.env)).all (fun x => !x.1) && (backToKw cpos (keywordEach [] X.env)).all (fun x => x.1.isSome)
      && decide ((e :: es).length + ([] : List Keyword).length + (if ([] : List Keyword).isEmpty then 0 else 1) < 30)) = true := by rfl)
    (hline : (apos.endLine == cpos.line) = true := by rfl) (hs : starEach (e :: es) X.env = (false, eval e X.env) :: starEach es X.env := by rfl) (hplain : (backTo cpos (starEach es X.env)).any (·.1) = false := by rfl) :
    PE X (.Call (.Attribute o name apos) (e :: es) [] cpos) (tBM K T r to t) := h ▸ pe_bm pa slot hty hm ho ha hbase hfew hline hs hplain
end
section
variable {X : Cx} {K : PySem.W.Frag} {w : World} {x : Str} {ps : List Str} {j k : Nat} {sp : Sp} {p pos : Pos} {e : Expr} {es : List Expr} {t : TA}
theorem pe_knK (h0 : X.K = K) (h : Kn X.prog X.w K X.mg X.base x ps j sp) (hr : Room k X.A) (hjk : j ≤ k) (hg : Gl X x) (ha : PA X (e :: es) t) (hdb : (x == ("__debug__" : Str)) = false := by decide)
    (he : starEach (e :: es) X.env = (false, eval e X.env) :: starEach es X.env := by rfl) (hpl : (backTo pos (starEach es X.env)).any (·.1) = false := by rfl) :
    PE X (.Call (.Name x p) (e :: es) [] pos) (tCall sp [] E0 t) := pe_kn (h0 ▸ h) hr hjk hg ha hdb he hpl
end
section
variable {K : PySem.W.Frag} {M : Addr → Prop} {γ : G} {te tl ta tb : TE} {tt : TT} {s : Sv} {g : TG} {wi : TI}
/-- a comprehension without a test -/
theorem te_lc0 {α : Type} {enc : α → Sv} {l : List α} {js vs : List Nat} (h : α → PyData) (hw : Tc K M wi γ (l.map enc)) (hz : l.length ≤ 10000) (hj : ∀ j ∈ js, j ∈ vs)
    (hs : ∀ (a : α), a ∈ l → ∃ γ2, Tg K M g js (wipeG γ vs) (enc a) γ2 ∧ Te K M te γ2 (.d (h a))) : Te K M (tLc wi g tYes te vs) γ (.o (l.map h)) := by
  have h1 := te_lc (tt := tYes) (fun _ => true) h hw hz hj fun a ha => by
    obtain ⟨γ2, a1, a2⟩ := hs a ha
    exact ⟨γ2, a1, tt_yes, fun _ => a2⟩
  rwa [List.filter_eq_self.mpr fun _ _ => rfl] at h1
theorem ti_tupE {α : Type} {enc : α → PyData} {l : List α} (h : Te K M tl γ (.d (.tuple (l.map enc)))) : Ti K M (iTup K tl) γ (l.map fun a => .d (enc a)) := ti_is (ti_tup h) (by rw [List.map_map]; rfl)
theorem tc_listE {α : Type} {enc : α → PyData} {l : List α} (h : Te K M tl γ s) (hs : s.lst? = some (l.map enc)) : Tc K M (iList K tl) γ (l.map fun a => .d (enc a)) := tc_is (tc_list h hs) (by rw [List.map_map]; rfl)
theorem ti_listE {α : Type} {enc : α → PyData} {l : List α} (h : Te K M tl γ (.l (l.map enc))) : Ti K M (iList K tl) γ (l.map fun a => .d (enc a)) := ti_is (ti_list h) (by rw [List.map_map]; rfl)
/-- texts are flat -/
theorem flat_strs (ns : List Str) : (ns.map PyData.str).all flatD = true := by rw [List.all_map]; exact List.all_eq_true.mpr fun _ _ => rfl
theorem flat_ints (ns : List Int) : (ns.map PyData.int).all flatD = true := by rw [List.all_map]; exact List.all_eq_true.mpr fun _ _ => rfl
theorem memD_str (n : Str) (ns : List Str) : memD (.str n) (ns.map PyData.str) = decide (n ∈ ns) := memD_enc n ns
theorem memD_int (n : Int) (ns : List Int) : memD (.int n) (ns.map PyData.int) = decide (n ∈ ns) := memD_enc n ns
theorem rv_inStrL {s2 : Sv} {n : Str} {ns : List Str} (h : s2.lst? = some (ns.map PyData.str)) : Rv K M (rInU K) (.d (.str n)) s2 (.d (.bool (decide (n ∈ ns)))) := memD_str n ns ▸ rv_inL h rfl (flat_strs ns)
theorem rv_inStrT {n : Str} {ns : List Str} : Rv K M (rInU K) (.d (.str n)) (.d (.tuple (ns.map PyData.str))) (.d (.bool (decide (n ∈ ns)))) := memD_str n ns ▸ rv_inT rfl (flat_strs ns)
theorem rv_ninStrL {s2 : Sv} {n : Str} {ns : List Str} (h : s2.lst? = some (ns.map PyData.str)) : Rv K M (rNotInU K) (.d (.str n)) s2 (.d (.bool (!decide (n ∈ ns)))) := memD_str n ns ▸ rv_ninL h rfl (flat_strs ns)
theorem rv_ninIntL {s2 : Sv} {n : Int} {ns : List Int} (h : s2.lst? = some (ns.map PyData.int)) : Rv K M (rNotInU K) (.d (.int n)) s2 (.d (.bool (!decide (n ∈ ns)))) := memD_int n ns ▸ rv_ninL h rfl (flat_ints ns)
theorem eqv_str (a b : Str) : PyData.eqv (.str a) (.str b) = decide (a = b) := eqv_enc a b
theorem eqv_int (a b : Int) : PyData.eqv (.int a) (.int b) = decide (a = b) := eqv_enc a b
/-- equality: of scalars, of anything that is laid -/
def rEqU (K : PySem.W.Frag) : R2 := fun x y H Q => rEq x y H Q ∨ rEqD K x y H Q
def rNeU (K : PySem.W.Frag) : R2 := fun x y H Q => rNe x y H Q ∨ rNeD K x y H Q
theorem op_eqUK {X : Cx} (h : X.K = K) (hu : X.A.units + 64 < cLine) : OpR X (compareOp .Eq) (rEqU K) := op_eq.or (h ▸ op_eqD hu)
theorem op_neUK {X : Cx} (h : X.K = K) (hu : X.A.units + 64 < cLine) : OpR X (compareOp .NotEq) (rNeU K) := op_ne.or (h ▸ op_neD hu)
theorem rv_eqStr {a b : Str} : Rv K M (rEqU K) (.d (.str a)) (.d (.str b)) (.d (.bool (decide (a = b)))) := fun H0 H x y e0 hx hy Q q => by
  cases hx; cases hy
  refine .inl ⟨rfl, ?_⟩
  have e : decide (V.str a = V.str b) = decide (a = b) := by simp
  rw [e]
  exact q _ H (Xm.refl H) (Dat.bl _)
theorem rv_neStr {a b : Str} : Rv K M (rNeU K) (.d (.str a)) (.d (.str b)) (.d (.bool (!decide (a = b)))) := fun H0 H x y e0 hx hy Q q => by
  cases hx; cases hy
  refine .inl ⟨rfl, ?_⟩
  have e : decide (V.str a = V.str b) = decide (a = b) := by simp
  rw [e]
  exact q _ H (Xm.refl H) (Dat.bl _)
theorem rv_eqInt {a b : Int} : Rv K M (rEqU K) (.d (.int a)) (.d (.int b)) (.d (.bool (decide (a = b)))) := fun H0 H x y e0 hx hy Q q => by
  cases hx; cases hy
  refine .inl ⟨rfl, ?_⟩
  have e : decide (V.int a = V.int b) = decide (a = b) := by simp
  rw [e]
  exact q _ H (Xm.refl H) (Dat.bl _)
theorem rv_neInt {a b : Int} : Rv K M (rNeU K) (.d (.int a)) (.d (.int b)) (.d (.bool (!decide (a = b)))) := fun H0 H x y e0 hx hy Q q => by
  cases hx; cases hy
  refine .inl ⟨rfl, ?_⟩
  have e : decide (V.int a = V.int b) = decide (a = b) := by simp
  rw [e]
  exact q _ H (Xm.refl H) (Dat.bl _)
theorem rv_eqBl {a b : Bool} : Rv K M (rEqU K) (.d (.bool a)) (.d (.bool b)) (.d (.bool (decide (a = b)))) := fun H0 H x y e0 hx hy Q q => by
  cases hx; cases hy
  refine .inl ⟨rfl, ?_⟩
  have e : decide (V.bl a = V.bl b) = decide (a = b) := by simp
  rw [e]
  exact q _ H (Xm.refl H) (Dat.bl _)
theorem rv_neBl {a b : Bool} : Rv K M (rNeU K) (.d (.bool a)) (.d (.bool b)) (.d (.bool (!decide (a = b)))) := fun H0 H x y e0 hx hy Q q => by
  cases hx; cases hy
  refine .inl ⟨rfl, ?_⟩
  have e : decide (V.bl a = V.bl b) = decide (a = b) := by simp
  rw [e]
  exact q _ H (Xm.refl H) (Dat.bl _)
theorem at_nat {α : Type} {xs : List α} {i : Nat} {x : α} (h : xs[i]? = some x) : atI xs (i : Int) = some x := by
  have hl := (List.getElem?_eq_some_iff.mp h).1
  have e : ixN xs.length (i : Int) = some i := by
    unfold ixN
    first | (simp; omega) | (rw [if_pos (by omega)]; simp; omega) | (split <;> simp <;> omega)
  unfold atI
  rw [e]
  exact h
theorem te_isRc {r : List V → Hp → VK → Prop} {ss : List Sv} {s s' : Sv} (h : Rc K M r ss s) (e : s = s') : Rc K M r ss s' := e ▸ h
/-- what may be compared -/
structure Shp (n : Nat) (d : PyData) : Prop where
  l : d.canLay0 = true
  d : d.depth ≤ n
abbrev nOk (n : Str) : Prop := PyData.strOk n = true
theorem Shp.mono {n m : Nat} {d : PyData} (h : Shp n d) (k : n ≤ m) : Shp m d := ⟨h.l, Nat.le_trans h.d k⟩
theorem shp_int {i : Int} : Shp 0 (.int i) := ⟨by simp [PyData.canLay0], by simp [PyData.depth]⟩
theorem shp_bl {i : Bool} : Shp 0 (.bool i) := ⟨by simp [PyData.canLay0], by simp [PyData.depth]⟩
theorem shp_non : Shp 0 .none := ⟨by simp [PyData.canLay0], by simp [PyData.depth]⟩
theorem shp_str {n : Str} (h : nOk n) : Shp 0 (.str n) := ⟨by simp only [PyData.canLay0]; exact h, by simp [PyData.depth]⟩
theorem shp_all {n : Nat} : ∀ {ds : List PyData}, (∀ d ∈ ds, Shp n d) → PyData.canLayAll0 ds = true ∧ PyData.depthAll ds ≤ n
  | [], _ => ⟨by simp [PyData.canLayAll0], by simp [PyData.depthAll]⟩
  | d :: ds, h => by
    have h1 := h d List.mem_cons_self
    obtain ⟨a, b⟩ := shp_all fun e he => h e (List.mem_cons_of_mem _ he)
    refine ⟨by simp only [PyData.canLayAll0, h1.l, a]; rfl, ?_⟩
    simp only [PyData.depthAll]
    have := h1.d
    omega
theorem shp_tup {n : Nat} {ds : List PyData} (h : ∀ d ∈ ds, Shp n d) : Shp (n + 1) (.tuple ds) := ⟨by simp only [PyData.canLay0]; exact (shp_all h).1, by simp only [PyData.depth]; have := (shp_all h).2; omega⟩
theorem shp_lst {n : Nat} {ds : List PyData} (h : ∀ d ∈ ds, Shp n d) : Shp (n + 1) (.list ds) := ⟨by simp only [PyData.canLay0]; exact (shp_all h).1, by simp only [PyData.depth]; have := (shp_all h).2; omega⟩
theorem Shp.ok {n : Nat} {d : PyData} (h : Shp n d) (hn : n ≤ 64) : SeqAt.shaped d = true := by
  unfold SeqAt.shaped
  rw [Bool.and_eq_true]
  exact ⟨h.l, decide_eq_true (Nat.le_trans h.d hn)⟩
theorem shp_ints (ms : List Int) : ∀ d ∈ ms.map PyData.int, Shp 0 d := fun d h => by obtain ⟨i, _, rfl⟩ := List.mem_map.mp h; exact shp_int
theorem shp_strs {ns : List Str} (hn : ∀ n ∈ ns, nOk n) : ∀ d ∈ ns.map PyData.str, Shp 0 d := fun d h => by obtain ⟨i, hi, rfl⟩ := List.mem_map.mp h; exact shp_str (hn i hi)
theorem rv_eqS {s1 s2 : Sv} {n m : Nat} {d e : PyData} (h1 : s1.dat? = some d) (h2 : s2.dat? = some e) (sd : Shp n d) (se : Shp m e) (hn : n ≤ 64 := by decide) (hm : m ≤ 64 := by decide) : Rv K M (rEqU K) s1 s2 (.d (.bool (PyData.eqv d e))) := fun H0 H x y e0 hx hy Q q => .inr (rv_eq h1 h2 (sd.ok hn) (se.ok hm) H0 H x y e0 hx hy Q q)
theorem rv_neS {s1 s2 : Sv} {n m : Nat} {d e : PyData} (h1 : s1.dat? = some d) (h2 : s2.dat? = some e) (sd : Shp n d) (se : Shp m e) (hn : n ≤ 64 := by decide) (hm : m ≤ 64 := by decide) : Rv K M (rNeU K) s1 s2 (.d (.bool (!PyData.eqv d e))) := fun H0 H x y e0 hx hy Q q => .inr (rv_ne h1 h2 (sd.ok hn) (se.ok hm) H0 H x y e0 hx hy Q q)
end
structure POk (p : Part) : Prop where
  n : nOk p.n
  m : p.m.length ≤ 62
  x : p.x.length ≤ 20000
structure LOk (l : Link) : Prop where
  a : l.a.length ≤ 100
  b : l.b.length ≤ 100
  la : l.la.length ≤ 62
  lb : l.lb.length ≤ 62
  na : ∀ n ∈ l.a, nOk n
  nb : ∀ n ∈ l.b, nOk n
structure Small (b : Book) : Prop where
  l : b.l.length ≤ 100
  r : b.r.length ≤ 100
  k : b.k.length ≤ 100
  z : b.z.length ≤ 100
  pl : ∀ p ∈ b.l, POk p
  pr : ∀ p ∈ b.r, POk p
  lk : ∀ l ∈ b.k, LOk l
  zn : ∀ n ∈ b.z, nOk n
theorem Small.side {b : Book} (h : Small b) (s : Bool) : (b.side s).length ≤ 100 := by cases s; exact h.l; exact h.r
theorem Small.ps {b : Book} (h : Small b) (s : Bool) : ∀ p ∈ b.side s, POk p := by cases s; exact h.pl; exact h.pr
theorem LOk.side {l : Link} (h : LOk l) (s : Bool) : (l.side s).length ≤ 100 := by cases s; exact h.a; exact h.b
theorem LOk.lost {l : Link} (h : LOk l) (s : Bool) : (l.lost s).length ≤ 62 := by cases s; exact h.la; exact h.lb
theorem LOk.ns {l : Link} (h : LOk l) (s : Bool) : ∀ n ∈ l.side s, nOk n := by cases s; exact h.na; exact h.nb
theorem shp_link {l : Link} (h : LOk l) : Shp 3 (eL l) := by
  refine shp_tup fun d hd => ?_
  simp only [List.mem_cons, List.not_mem_nil, or_false] at hd
  rcases hd with rfl | rfl | rfl | rfl
  · exact (shp_tup (shp_strs h.na)).mono (by decide)
  · exact (shp_tup (shp_strs h.nb)).mono (by decide)
  · exact shp_int.mono (by decide)
  · refine shp_tup fun d hd => ?_
    simp only [List.mem_cons, List.not_mem_nil, or_false] at hd
    rcases hd with rfl | rfl
    · exact shp_tup (shp_ints _)
    · exact shp_tup (shp_ints _)
theorem at_side {b : Book} {s : Bool} : atI [ePs b.l, ePs b.r, eLs b.k, eNs b.z] (sI s) = some (ePs (b.side s)) := by cases s <;> rfl
theorem at_lside {l : Link} {s : Bool} : atI [eNs l.a, eNs l.b, .int l.t, .tuple [eIs l.la, eIs l.lb]] (sI s) = some (eNs (l.side s)) := by cases s <;> rfl
theorem at_llost {l : Link} {s : Bool} : atI [eIs l.la, eIs l.lb] (sI s) = some (eIs (l.lost s)) := by cases s <;> rfl
theorem sI_not (s : Bool) : (1 : Int) - sI s = sI (!s) := by cases s <;> rfl
/-- a part by its name, a link as data -/
def Book.pt (b : Book) (n : Str) : Part := (b.part? n).getD ⟨⟨#[]⟩, ⟨#[]⟩, []⟩
def oL : Option Link → PyData
  | none => .none
  | some l => eL l
/-- what is in the links is in the book -/
structure Closed (b : Book) : Prop where
  in_ : ∀ l ∈ b.k, ∀ s, ∀ n ∈ l.side s, n ∈ namesOf (b.side s)
end Tw
namespace Tw
open PySem PySem.Spec PyProof.Rows L2
section
variable {K : PySem.W.Frag} {M : Addr → Prop} {γ : G} {te tl : TE} {tt : TT} {s : Sv} {tu tz : TS} {N : G → Prop} {R : Sv → Prop} {g : TG} {wi : TI}
/-- made = a new list, to grow -/
theorem ts_newE {i : Nat} {ds : List PyData} (h : Te K M te (γ.map (Option.map Sv.weak)) (.o ds)) (k : Ts K M tz (γ.set i (some (.u ds))) N R) : Ts K M (tSeq (tAsg te (gName i)) tz) γ N R := fun H0 σ H D e0 E n r =>
  h H σ H e0.self E.old _ fun v H1 e1 hv => by
    obtain ⟨p, xs, rfl, hm, hp0, hp, hd⟩ := hv
    refine k H0 (σ.set i (some (.ref p))) H1 D (e0.trans e1) ((E.ex e1).setU (s := .u ds) ⟨p, xs, rfl, hm, e0.back hp0, hp, hd⟩ fun _ j es hj hg hs => ?_) (fun γ2 σ2 H2 a b c d => n γ2 σ2 H2 a b ((kp_ex e1).trans c) d) r
    obtain ⟨v, hv, q, xs, rfl, _, _, hq, _⟩ := E.get j _ hg
    rw [hs] at hv
    cases hv
    rw [hp0] at hq
    cases hq
/-- the first that is hit -/
theorem ts_findS {α : Type} {enc : α → Sv} {l : List α} {j : Nat} (f : α → Bool) (Fr : G → Prop) (hw : Ti K M wi γ (l.map enc)) (h0 : Fr γ) (hit : ∀ a γ1, l.find? f = some a → Fr γ1 → Ts K M tu (γ1.set j (some (enc a))) (fun _ => False) R)
    (miss : ∀ a γ1, a ∈ l → f a = false → Fr γ1 → Ts K M tu (γ1.set j (some (enc a))) Fr R) (hn : l.find? f = none → ∀ γ1, Fr γ1 → Ts K M tz γ1 N R) (hu : ∀ a, (enc a).isU = false := by intro _; rfl) : Ts K M (tSeq (tFor wi (gName j) tu) tz) γ N R := by
  refine ts_forS (js := [j]) (fun i γ => Fr γ ∧ ∀ a ∈ l.take i, f a = false) hw ⟨h0, fun a h => by simp at h⟩ ?_ ?_
  · rintro i a γ1 hi ⟨h1, h2⟩
    refine ⟨_, tg_name (hu a), ?_⟩
    cases hf : f a with
    | true =>
      refine ts_mono (hit a γ1 (List.find?_eq_some_iff_append.mpr ⟨hf, l.take i, l.drop (i + 1), ?_, fun q hq => by rw [h2 q hq]; rfl⟩) h1) (fun _ z => z.elim) fun _ z => z
      obtain ⟨hl, rfl⟩ := List.getElem?_eq_some_iff.mp hi
      rw [List.getElem_cons_drop, List.take_append_drop]
    | false =>
      refine ts_mono (miss a γ1 (List.mem_of_getElem? hi) hf h1) (fun γ2 z => ⟨z, fun q hq => ?_⟩) fun _ z => z
      rw [List.take_succ, hi] at hq
      rcases List.mem_append.mp hq with h | h
      · exact h2 q h
      · simp at h
        subst h
        exact hf
  · rintro γ1 ⟨h1, h2⟩
    rw [List.take_length] at h2
    exact hn (List.find?_eq_none.mpr fun a ha => by rw [h2 a ha]; decide) γ1 h1
end
section
variable {K : PySem.W.Frag} {M : Addr → Prop} {γ : G} {ta : TA} {tz : TS} {N : G → Prop} {R : Sv → Prop}
theorem ts_par {i j : Nat} {s1 s2 : Sv} (h : Ta K M ta γ [s1, s2]) (k : Ts K M tz ((γ.set i (some s1)).set j (some s2)) N R) (h1 : s1.isU = false := by rfl) (h2 : s2.isU = false := by rfl) : Ts K M (tSeq (tPar i j ta) tz) γ N R := fun H0 σ H D e0 E n r =>
  h H0 σ H e0 E _ fun vs H1 e1 hv => by
    cases hv with
    | cons a b =>
      cases b with
      | cons b c =>
        cases c
        exact ⟨_, _, rfl, k H0 _ H1 D (e0.trans e1) (((E.ex e1).set a h1).set b h2) (fun γ2 σ2 H2 a b c d => n γ2 σ2 H2 a b ((kp_ex e1).trans c) d) r⟩
/-- a name's def is called, whatever it is -/
def tCallH (P : Program) (w : World) (K : PySem.W.Frag) (mg : Str → Option Value) (base : Heap) (k : Nat) (i : Nat) (t : TA) : TE := fun σ H Q => ∃ f sp, σ[i]? = some (some (.ref f)) ∧ Held P w K mg base k f sp ∧ t σ H fun vs H1 => sp vs H1 Q (fun _ _ _ => False)
theorem pe_callH {X : Cx} {i k : Nat} {x : Str} {p pos : Pos} {e : Expr} {es : List Expr} {t : TA} (h0 : X.K = K) (hr : Room k X.A) (hN : X.N[i]? = some x) (hv : Vis X.env.scope x) (ha : PA X (e :: es) t)
    (hdb : (x == ("__debug__" : Str)) = false := by decide) (hcd : (x == ("__classdict__" : Str)) = false := by decide)
    (he : starEach (e :: es) X.env = (false, eval e X.env) :: starEach es X.env := by rfl) (hpl : (backTo pos (starEach es X.env)).any (·.1) = false := by rfl) : PE X (.Call (.Name x p) (e :: es) [] pos) (tCallH X.prog X.w K X.mg X.base k i t) := by
  subst h0
  refine ⟨fun pins s σ H Q I h => ?_⟩
  obtain ⟨f, sp, hs, hS, ht⟩ := h
  obtain ⟨fd, ps, F, hk, hb⟩ := hS.ex
  refine (pe_callL (i := i) (f := f) (sp := sp) (dvs := []) (E := fun _ _ _ => False) F hr hN hv hk hb .nil (fun _ _ _ _ _ _ _ z => z.elim) ha hdb hcd he hpl).run pins s σ H Q I ⟨hs, ?_⟩
  have e0 : (fun (vs : List V) (H1 : Hp) => sp (vs ++ []) H1 Q (fun _ _ _ => False)) = fun vs H1 => sp vs H1 Q (fun _ _ _ => False) := by
    funext vs H1
    rw [List.append_nil]
  show t σ H (fun vs H1 => sp (vs ++ []) H1 Q (fun _ _ _ => False))
  rw [e0]
  exact ht
/-- d[key] of a frozen dict -/
def rKd (K : PySem.W.Frag) (d : Addr) : R2 := fun x y H Q => ∃ (z : Str) (u0 : Value) (v0 : V), x = .ref d ∧ y = .str z ∧ PySem.W.nsIn K d z = some (some u0) ∧ RelV v0 u0 ∧ Q v0 H
theorem ix_kd {X : Cx} {d : Addr} {es : Array DictEntry} {n : Nat} (h0 : X.K = K) (D : KDict X.K X.w d es n) : IxR X (rKd K d) := by
  subst h0
  intro value slice pins s σ H x y v u Q I rx ry h hs
  have h' := h
  obtain ⟨z, u0, v0, ex, ey, _⟩ := h'
  subst ex
  obtain rfl : v = Value.ref d := rx
  exact tail_any (kd_type D I) PySem.F.slot_dict_getitem.lookup (op_item_kd D pins s σ H (.ref d) y (.ref d) u Q I (show RelV (.ref d) (.ref d) from rfl) ry h) hs
theorem rv_kd {d f : Addr} {z : Str} (h : PySem.W.nsIn K d z = some (some (.ref f))) : Rv K M (rKd K d) (.r d) (.d (.str z)) (.r f) := fun H0 H x y e0 hx hy Q q => by
  obtain rfl : x = .ref d := hx
  cases hy
  exact ⟨z, _, .ref f, rfl, rfl, h, rfl, q _ H (Xm.refl H) rfl⟩
theorem te_ref {a : Addr} : Te K M (tC (.ref a)) γ (.r a) := fun H0 σ H e0 E Q q => q _ H (Xm.refl H) rfl
theorem te_callH {P : Program} {w : World} {mg : Str → Option Value} {base : Heap} {k i : Nat} {f : Addr} {α : Type} {Pre : α → Prop} {args : α → List Sv} {res : α → Sv} {ss : List Sv} (z : α) (hi : γ[i]? = some (some (.r f))) (hf : Held P w K mg base k f (spF K Pre args res)) (ha : Ta K M ta γ ss) (hp : Pre z) (hx : ss.map Sv.weak = args z) (hr : (res z).isR = true) :
    Te K M (tCallH P w K mg base k i ta) γ (res z) := fun H0 σ H e0 E Q q => by
  obtain ⟨v, hv, rfl⟩ := E.get i _ hi
  exact ⟨f, _, hv, hf, ha H0 σ H e0 E _ fun xs H1 e1 hxs => ⟨M, ss.map Sv.weak, res z, (e0.trans e1).self, hxs.weak, ⟨z, hp, hx, rfl⟩, hr, fun v H2 e2 hv => q v H2 (e1.trans e2) (hv.back hr (e0.trans e1))⟩⟩
end
section
variable {K : PySem.W.Frag} {M : Addr → Prop} {γ : G} {te tl : TE} {tt : TT} {s : Sv} {tu tw tz : TS} {N : G → Prop} {R : Sv → Prop} {g : TG} {wi : TI}
def TsC (K : PySem.W.Frag) (M : Addr → Prop) (ts : TS) (γ : G) (N : G → Prop) (R : Sv → Prop) : Prop := ∀ (H0 : Hp) (σ : L2.St) (H : Hp) (D : Ends), Xs M H0 H → En K M H0 H σ γ → (∀ γ' σ' H', N γ' → Xs M H0 H' → Kp H H' → En K M H0 H' σ' γ' → D.nx σ' H') →
  (∀ γ' σ' H', N γ' → Xs M H0 H' → Kp H H' → En K M H0 H' σ' γ' → D.ct σ' H') → (∀ s v H', R s → Xs M H0 H' → Hs K M H0 H' v s → D.rt v H') → ts D σ H
theorem tsc_of (h : Ts K M tu γ N R) : TsC K M tu γ N R := fun H0 σ H D e0 E n c r => h H0 σ H D e0 E n r
theorem tsc_cont (h : Ts K M tu γ N R) : TsC K M (tSeq (tSeq tu tCont) tz) γ N R := fun H0 σ H D e0 E n c r => h H0 σ H { nx := fun σ H => D.ct σ H, rt := D.rt, bk := D.bk, ct := D.ct } e0 E c r
theorem tsc_ifS {b : Bool} (h : Tt K M tt γ b) (h1 : b = true → TsC K M (tSeq tu tz) γ N R) (h2 : b = false → TsC K M (tSeq tw tz) γ N R) : TsC K M (tSeq (tIfS tt tu tw) tz) γ N R := fun H0 σ H D e0 E n c r => h H0 σ H e0 E _ fun H1 e1 => by
  cases b with
  | true => exact h1 rfl H0 σ H1 D (e0.trans e1) (E.ex e1) (fun γ2 σ2 H2 a b c d => n γ2 σ2 H2 a b ((kp_ex e1).trans c) d) (fun γ2 σ2 H2 a b k d => c γ2 σ2 H2 a b ((kp_ex e1).trans k) d) r
  | false => exact h2 rfl H0 σ H1 D (e0.trans e1) (E.ex e1) (fun γ2 σ2 H2 a b c d => n γ2 σ2 H2 a b ((kp_ex e1).trans c) d) (fun γ2 σ2 H2 a b k d => c γ2 σ2 H2 a b ((kp_ex e1).trans k) d) r
theorem ts_extLP {i : Nat} {ds : List PyData} {P : Sv → Prop} (hi : γ[i]? = some (some (.u ds))) (h : Tp K M te γ P) (hs : ∀ s, P s → ∃ es, s.lst? = some es ∧ ds.length + es.length ≤ 50000 ∧ N ((γ.map noO).set i (some (.u (ds ++ es))))) :
    Ts K M (tDrop (tBM K "list" rExtend (tVar i) (tCons te tNil))) γ N R := fun H0 σ H D e0 E n r => by
  obtain ⟨v, hv, p, xs, rfl, hm, h0, hp, hx⟩ := E.get i _ hi
  refine ⟨_, hv, .inl ⟨rfl, xs, .inl (.inl hp)⟩, ?_⟩
  refine h H0 σ H e0 E _ fun y s H1 hps e1 hy => ?_
  obtain ⟨es, hse, hz, k⟩ := hs s hps
  have hp1 := e1.k _ _ hm hp
  obtain ⟨b, zs, rfl, _, hb, hd⟩ := hy.seq hse
  refine ⟨p, b, xs, zs, rfl, rfl, hp1, hb, Evl.sz_of (by rw [hx.len, hd.len]; omega), ?_⟩
  exact n _ σ _ k (grow_xm (e0.trans e1) h0 hp1) ((kp_ex e1).trans (kp_lst hp1)) (((E.ex e1)).grow (e0.trans e1) hi hv hp1 ((hx.ex e1).app hd))
/-- a list that is new -/
def Tf (K : PySem.W.Frag) (M : Addr → Prop) (te : TE) (γ : G) (ds : List PyData) : Prop := ∀ (H0 : Hp) (σ : L2.St) (H : Hp), Xs M H0 H → En K M H0 H σ γ → ∀ Q : VK, (∀ p xs H', Xm M H H' → H p = none → H' p = some (.lst xs) → Dats K H' xs ds → Q (.ref p) H') → te σ H Q
theorem tf_of {ds : List PyData} (h : Te K M te (γ.map (Option.map Sv.weak)) (.o ds)) : Tf K M te γ ds := fun H0 σ H e0 E Q q => h H σ H e0.self E.old _ fun v H1 e1 hv => by
  obtain ⟨p, xs, rfl, hm, hp0, hp, hd⟩ := hv
  exact q p xs H1 e1 hp0 hp hd
/-- kinds of slots that do not ask how old their lists are -/
def newS : Option Sv → Bool
  | some (.l _) => false
  | some (.m _) => false
  | _ => true
theorem ts_forF {α : Type} {enc : α → PyData} {l : List α} {js : List Nat} (I : Nat → G → Prop) (hw : Tf K M tl γ (l.map enc)) (h0 : I 0 γ) (hnew : ∀ i γ1, I i γ1 → ∀ (j : Nat) (s : Option Sv), γ1[j]? = some s → newS s = true)
    (hs : ∀ (i : Nat) (a : α) (γ1 : G), l[i]? = some a → I i γ1 → ∃ γ2, Tg K M g js γ1 (.d (enc a)) γ2 ∧ TsC K M tu γ2 (I (i + 1)) R) (hR : ∀ s, R s → s.isR = true) (hd : ∀ γ1, I l.length γ1 → N γ1) : Ts K M (tFor (iList K tl) g tu) γ N R := fun H0 σ H D e0 E n r =>
  hw H0 σ H e0 E _ fun p xs H1 e1 hp0 hp hx => by
    have len : xs.length = l.length := by rw [hx.len, List.length_map]
    refine ⟨p, rfl, ⟨xs, .inl (.inl hp)⟩, ?_⟩
    have nm : ¬ M p := e0.notM hp0
    have h0p : H0 p = none := e0.back hp0
    have ok0 := e0.ok0
    let H0' : Hp := upd H0 p (.lst xs)
    have toX : ∀ H', Xs M H0 H' → H' p = some (.lst xs) → Xs M H0' H' := fun H' x hp' => by
      refine ⟨⟨fun a o na ha => ?_, ⟨fun a ys ha => ?_, fun a o u ha => ?_⟩, fun b q mb nq hb => ?_⟩, fun b mb => ?_⟩
      · by_cases e : a = p
        · subst e; rw [show H0' a = some (.lst xs) from upd_same] at ha; cases ha; exact hp'
        · rw [show H0' a = H0 a from upd_ne e] at ha; exact x.e.k a o na ha
      · by_cases e : a = p
        · subst e; rw [show H0' a = some (.lst xs) from upd_same] at ha; cases ha
        · rw [show H0' a = H0 a from upd_ne e] at ha; exact x.e.t.1 a ys ha
      · by_cases e : a = p
        · subst e; rw [show H0' a = some (.lst xs) from upd_same] at ha; cases ha
        · rw [show H0' a = H0 a from upd_ne e] at ha; exact x.e.t.2 a o u ha
      · obtain ⟨q', nq', hb'⟩ := x.ok b mb
        have eb : H0' b = H0 b := upd_ne fun e => nm (e ▸ mb)
        obtain ⟨ns, i, k, b1, b2, b3⟩ := hb
        rw [eb] at b1
        obtain ⟨ns', i', k', c1, c2, c3⟩ := (ok0 b mb).choose_spec.2
        rw [b1] at c1
        cases c1
        exact x.e.b b _ mb nq ⟨_, _, _, b1, c2, c3⟩
      · obtain ⟨q, nq, hb⟩ := ok0 b mb
        refine ⟨q, nq, hb.of fun a o r h => ?_⟩
        rw [show H0' a = H0 a from upd_ne fun e => by subst e; rw [h0p] at h; cases h]
        exact h
    have toE : ∀ H' σ' γ', (∀ (i : Nat) (s : Sv), γ'[i]? = some (some s) → ∀ v, σ'[i]? = some (some v) → Hs K M H0 H' v s → Hs K M H0' H' v s) → En K M H0 H' σ' γ' → En K M H0' H' σ' γ' := fun H' σ' γ' h E' =>
      ⟨E'.len, fun i s e => by obtain ⟨v, a, b⟩ := E'.get i s e; exact ⟨v, a, h i s e v a b⟩, E'.uni⟩
    have fromE : ∀ H' σ' γ', (∀ (j : Nat) (s : Option Sv), γ'[j]? = some s → newS s = true) → En K M H0' H' σ' γ' → En K M H0 H' σ' γ' := fun H' σ' γ' hn E' =>
      ⟨E'.len, fun i s e => by
        obtain ⟨v, a, b⟩ := E'.get i s e
        refine ⟨v, a, ?_⟩
        have hn' := hn i _ e
        have z0 : ∀ q, H0' q = none → H0 q = none := fun q h => by
          by_cases e : q = p
          · subst e; exact h0p
          · rwa [show H0' q = H0 q from upd_ne e] at h
        cases s with
        | d x => exact b
        | l xs => cases hn'
        | r a => exact b
        | o ds => obtain ⟨q, zs, a1, m, z, b1, c⟩ := b; exact ⟨q, zs, a1, m, z0 q z, b1, c⟩
        | u ds => obtain ⟨q, zs, a1, m, z, b1, c⟩ := b; exact ⟨q, zs, a1, m, z0 q z, b1, c⟩
        | m t => cases hn'
        | n t => exact b
        | ty n => exact b
        | b => exact b
        | q ds => exact b, E'.uni⟩
    have E1 : En K M H0' H1 σ γ := by
      refine toE H1 σ γ (fun i s e v ev b => ?_) (E.ex e1)
      obtain ⟨v', ev', b0⟩ := E.get i s e
      rw [ev] at ev'
      cases ev'
      have nz : ∀ q o, H q = some o → q ≠ p := fun q o h e => by subst e; rw [hp0] at h; cases h
      cases s with
      | d x => exact b
      | l xs => exact absurd (hnew 0 γ h0 i _ e) Bool.false_ne_true
      | r a => exact b
      | o ds => obtain ⟨q, zs, rfl, m, z, b1, c⟩ := b; obtain ⟨q', zs', e', _, _, b1', _⟩ := b0; cases e'; exact ⟨q, zs, rfl, m, (show H0' q = none from (upd_ne (nz q _ b1')).trans z), b1, c⟩
      | u ds => obtain ⟨q, zs, rfl, m, z, b1, c⟩ := b; obtain ⟨q', zs', e', _, _, b1', _⟩ := b0; cases e'; exact ⟨q, zs, rfl, m, (show H0' q = none from (upd_ne (nz q _ b1')).trans z), b1, c⟩
      | m t => exact absurd (hnew 0 γ h0 i _ e) Bool.false_ne_true
      | n t => exact b
      | ty n => exact b
      | b => exact b
      | q ds => exact b
    have back : ∀ H', Xs M H0' H' → Xs M H0 H' := fun H' x => ⟨⟨fun a o na ha => x.e.k a o na (by rw [show H0' a = H0 a from upd_ne fun e => by subst e; rw [h0p] at ha; cases ha]; exact ha),
      ⟨fun a ys ha => x.e.t.1 a ys (by rw [show H0' a = H0 a from upd_ne fun e => by subst e; rw [h0p] at ha; cases ha]; exact ha), fun a o u ha => x.e.t.2 a o u (by rw [show H0' a = H0 a from upd_ne fun e => by subst e; rw [h0p] at ha; cases ha]; exact ha)⟩,
      fun b q mb nq hb => x.e.b b q mb nq (hb.of fun a o r h => by rw [show H0' a = H0 a from upd_ne fun e => by subst e; rw [h0p] at h; cases h]; exact h)⟩, ok0⟩
    have xp : ∀ H', Xs M H0' H' → H' p = some (.lst xs) := fun H' x => x.e.k p _ nm upd_same
    refine ⟨fun i m σ' H' => m = l.length - i ∧ i ≤ l.length ∧ ∃ γ1, I i γ1 ∧ Xs M H0' H' ∧ Kp H1 H' ∧ En K M H0' H' σ' γ1, ⟨_, rfl, Nat.zero_le _, γ, h0, toX H1 (e0.trans e1) hp, Kp.refl _, E1⟩, ?_⟩
    rintro i m σ' H' ⟨rfl, hi, γ1, hI, e2, k2, E2⟩
    by_cases hl : i < l.length
    · refine .inr ⟨⟨xs, xs[i]'(by omega), .inl (.inl (xp H' e2)), List.getElem?_eq_getElem _⟩, fun σ2 H2 => ∃ γ3, I (i + 1) γ3 ∧ Xs M H0' H2 ∧ Kp H1 H2 ∧ En K M H0' H2 σ2 γ3, fun σ2 H2 ⟨γ3, a, b, c, d⟩ => ⟨l.length - (i + 1), by omega, rfl, hl, γ3, a, b, c, d⟩, fun v H2 hy => ?_⟩
      obtain ⟨rfl, hyf⟩ := hy
      have hv := hyf xs (.inl (.inl (xp H2 e2)))
      obtain ⟨d, hd1, hd2⟩ := hx.get' hv
      have ed : d = enc l[i] := by
        rw [List.getElem?_map, List.getElem?_eq_getElem hl] at hd1
        exact (Option.some.inj hd1).symm
      subst ed
      obtain ⟨γ2, hg, hb⟩ := hs i l[i] γ1 (List.getElem?_eq_getElem hl) hI
      refine hg H0' σ' H2 v e2 E2 (Dat.kp k2 hd2) _ fun σ3 E3 _ => ?_
      exact hb H0' σ3 H2 _ e2 E3 (fun γ3 σ4 H4 a b c d => ⟨γ3, a, b, k2.trans c, d⟩) (fun γ3 σ4 H4 a b c d => ⟨γ3, a, b, k2.trans c, d⟩) fun s v H' hr x hv => r s v H' hr (back H' x) (hv.back (hR s hr) ⟨Xm.new h0p, ok0⟩)
    · have e : i = l.length := by omega
      subst e
      exact .inl ⟨⟨xs, .inl (.inl (xp H' e2)), by omega⟩, n γ1 σ' H' (hd γ1 hI) (back H' e2) ((kp_ex e1).trans k2) (fromE H' σ' γ1 (hnew _ γ1 hI) E2)⟩
end
def rise (l : List Int) : List Int := (l.eraseDups).mergeSort fun a b => decide (a ≤ b)
theorem rise_mem {l : List Int} {k : Int} : k ∈ rise l ↔ k ∈ l := by
  unfold rise
  rw [(List.mergeSort_perm _ _).mem_iff, List.mem_eraseDups]
theorem nodup_eraseDups : ∀ (n : Nat) (l : List Int), l.length ≤ n → l.eraseDups.Nodup
  | _, [], _ => by simp
  | n + 1, a :: l, h => by
    rw [List.eraseDups_cons, List.nodup_cons]
    refine ⟨fun hm => ?_, nodup_eraseDups n _ ?_⟩
    · rw [List.mem_eraseDups, List.mem_filter] at hm
      simp at hm
    · have := List.length_filter_le (fun b => !b == a) l
      simp only [List.length_cons] at h
      omega
theorem rise_nodup (l : List Int) : (rise l).Nodup := (List.mergeSort_perm _ _).nodup_iff.mpr (nodup_eraseDups _ l (Nat.le_refl _))
theorem rise_le (l : List Int) : (rise l).Pairwise (· ≤ ·) := by
  have h := List.pairwise_mergeSort (le := fun a b : Int => decide (a ≤ b)) (fun a b c h1 h2 => by simp at h1 h2 ⊢; omega) (fun a b => by simp; omega) l.eraseDups
  exact h.imp fun h => by simpa using h
theorem rise_lt (l : List Int) : (rise l).Pairwise (· < ·) := by
  have h := (rise_le l).and (rise_nodup l)
  exact h.imp fun ⟨h1, h2⟩ => by omega
theorem lt_unique : ∀ {l m : List Int}, l.Pairwise (· < ·) → m.Pairwise (· < ·) → (∀ k, k ∈ l ↔ k ∈ m) → l = m
  | [], [], _, _, _ => rfl
  | [], b :: m, _, _, h => by simpa using (h b).mpr List.mem_cons_self
  | a :: l, [], _, _, h => by simpa using (h a).mp List.mem_cons_self
  | a :: l, b :: m, h1, h2, h => by
    rw [List.pairwise_cons] at h1 h2
    have e : a = b := by
      have ha := (h a).mp List.mem_cons_self
      have hb := (h b).mpr List.mem_cons_self
      rcases List.mem_cons.mp ha with e | e
      · exact e
      · rcases List.mem_cons.mp hb with e2 | e2
        · exact e2.symm
        · have := h1.1 b e2
          have := h2.1 a e
          omega
    subst e
    rw [lt_unique h1.2 h2.2 fun k => ?_]
    constructor
    · intro hk
      have := (h k).mp (List.mem_cons_of_mem _ hk)
      rcases List.mem_cons.mp this with e | e
      · subst e; have := h1.1 k hk; omega
      · exact e
    · intro hk
      have := (h k).mpr (List.mem_cons_of_mem _ hk)
      rcases List.mem_cons.mp this with e | e
      · subst e; have := h2.1 k hk; omega
      · exact e
theorem nodup_le {l ts : List Int} (h : l.Nodup) (hs : ∀ k ∈ l, k ∈ ts) : l.length ≤ ts.length := sub_len h hs
def insP (ps : List Part) (p : Part) (n : Str) : List Part := if n = "" then p :: ps else ps.flatMap fun o => if o.n = n then [o, p] else [o]
def outP (ps : List Part) (n : Str) : List Part := ps.filter fun o => !decide (o.n = n)
def chgP (ps : List Part) (p : Part) : List Part := ps.map fun o => if o.n = p.n then p else o
def isW (c : Nat) : Bool := (decide (97 ≤ c) && decide (c ≤ 122)) || ((decide (65 ≤ c) && decide (c ≤ 90)) || (decide (48 ≤ c) && decide (c ≤ 57)))
def spStep (st : List (Nat × Nat) × Option Nat) (i c : Nat) : List (Nat × Nat) × Option Nat := match isW c, st.2 with
  | true, none => (st.1, some i)
  | true, some b => (st.1, some b)
  | false, none => (st.1, none)
  | false, some b => (st.1 ++ [(b, i)], none)
def spAt (x : Str) : Nat → List (Nat × Nat) × Option Nat
  | 0 => ([], none)
  | i + 1 => spStep (spAt x i) i (x.cps.getD i 0)
def spans (x : Str) : List (Nat × Nat) := (spAt (x ++ " ") (x.length + 1)).1
def addN (ns : List Str) (n : Str) : List Str := sortE (ns ++ [n])
def outN (ns : List Str) (n : Str) : List Str := ns.filter fun o => !decide (o = n)
def exch (ks : List Link) (old new : Option Link) : List Link := sortE ((ks.filter fun l => !decide (some l = old)) ++ new.toList)
def moreL (ks : List Link) (s : Bool) (n m : Str) : List Link := match ks.find? fun l => decide (n ∈ l.side s) with
  | none => ks
  | some l => exch ks (some l) (some (l.withSide s (addN (l.side s) m)))
def fewerL (ks : List Link) (s : Bool) (n : Str) : List Link := match ks.find? fun l => decide (n ∈ l.side s) with
  | none => ks
  | some l => exch ks (some l) (some (l.withSide s (outN (l.side s) n)))
def lostL (ks : List Link) (s : Bool) (n : Str) (t : Int) : List Link := match ks.find? fun l => decide (n ∈ l.side s) with
  | none => ks
  | some l => if l.side s = [n] then exch ks (some l) none else exch ks (some l) (some ((l.withSide s (outN (l.side s) n)).withLost s (rise (l.lost s ++ [t]))))
theorem sob_strs (l : List Str) : Sob (l.map PyData.str) := sob_map (β := Str) (.inr fun d h => by obtain ⟨q, _, rfl⟩ := List.mem_map.mp h; exact ⟨(fun z => nomatch z), (fun xs z => nomatch z)⟩) fun q _ => by
  show (PyData.str q).depth ≤ 60
  simp [PyData.depth]
theorem depth_strs (l : List Str) : PyData.depthAll (l.map PyData.str) = 0 := by
  induction l with
  | nil => simp [PyData.depthAll]
  | cons a l ih => simp [PyData.depthAll, ih, PyData.depth]
theorem depth_ints (l : List Int) : PyData.depthAll (l.map PyData.int) = 0 := by
  induction l with
  | nil => simp [PyData.depthAll]
  | cons a l ih => simp [PyData.depthAll, ih, PyData.depth]
theorem sob_links (l : List Link) : Sob (l.map eL) := sob_map (β := Link) (.inl fun d h => by obtain ⟨q, _, rfl⟩ := List.mem_map.mp h; exact ⟨_, _, rfl⟩) fun q _ => by
  show (eL q).depth ≤ 60
  simp [PyData.depth, PyData.depthAll, depth_strs, depth_ints]
theorem srt_strs (l : List Str) : srtD (l.map PyData.str) = (sortE l).map PyData.str := srtD_map (β := Str) l
theorem srt_links (l : List Link) : srtD (l.map eL) = (sortE l).map eL := srtD_map (β := Link) l
end Tw
namespace Tw
open PySem PySem.Spec PyProof.Rows L2
local macro_rules
  | `(tactic| walk_at "rv") => `(tactic| first
    | exact rv_ixT rfl | exact rv_addI | exact rv_sub | exact rv_ixL rfl rfl | exact rv_ixM rfl
    | exact rsl_T | exact rsl_L rfl
    | exact rv_inStrL rfl | exact rv_inStrT | exact rv_ninStrL rfl | exact rv_ninIntL rfl | exact rv_eqStr | exact rv_neStr | exact rv_eqInt | exact rv_neInt | exact rv_eqBl | exact rv_neBl
    | exact rv_lt | exact rv_gt | exact rv_ge | exact rv_leI | exact rv_leS | exact rv_isN | exact rv_notN
    | exact rc_lenT | exact rc_lenL rfl | exact rc_intB | exact rc_listT | exact rc_listL rfl | exact rc_tupleL rfl | exact rc_tupleT)
local macro_rules
  | `(tactic| walk_at "e1") => `(tactic| first
    | exact te_var rfl | exact te_int | exact te_str | exact te_bl | exact te_non | exact ta_nil | exact to_none
    | apply to_some | apply ta_cons | apply te_op | apply te_cb | apply te_sl
    | apply tt_B | apply tt_test | walk_at "rv")
local macro_rules
  | `(tactic| walk_at "e") => `(tactic| repeat walk_at "e1")

variable {P : Program} {w : World} {K : PySem.W.Frag} {mg : Str → Option Value} {base : Heap}
theorem sc_names_in : FnScope ["parts", "part"] ["parts"] (defScope (top 8)) := ⟨rfl, rfl, rfl, by decide +kernel, rfl, by decide +kernel, by decide +kernel⟩
abbrev Sp_names_in (K : PySem.W.Frag) : Sp := spF K (α := List Part) (fun ps => ps.length ≤ 1000) (fun ps => [.d (ePs ps)]) (fun ps => .o ((namesOf ps).map .str))
theorem kn_names_in (W : Wld K mg w) : Kn P w K mg base "names_in" ["parts"] 1 (Sp_names_in K) := by
  refine kn_fun W.f_names_in sc_names_in (fun _ => rfl) (fun _ _ _ _ _ _ us hl => match us, hl with | [_], _ => rfl) fun f cdv A outer s H E hr => ⟨_, (pss_one (ps_ret (pe_lc (own := [("part", 1)]) rfl sc_names_in.nd (pi_tupK (K := K) (by rfl) (pv 0)) (blkOk_by (N := ["parts", "part"]) (sc := defScope (top 8)) (by decide +kernel)) (fun _ _ _ _ _ => (pg_name (i := 1) sc_names_in.nd rfl (by first | exact .inl rfl | exact .inr rfl))) (fun _ _ _ _ _ => pts_nil) (fun _ _ _ _ _ => (pe_ix (ix_seqK (K := K) (by rfl)) (pv 1) pe_int (fun _ _ => rfl)))))), fun M z hz => ?_⟩
  refine ts_ret (te_is (te_lc0 (fun p : Part => .str p.n) (ti_tc (ti_tupE (te_var rfl))) (by omega) (by simp) fun p hp => ⟨_, tg_name, ?_⟩) (by simp [namesOf])) rfl
  walk_at "e"
theorem sc_has_part : FnScope ["book", "name"] ["book", "name"] (defScope (top 9)) := ⟨rfl, rfl, rfl, by decide +kernel, rfl, by decide +kernel, by decide +kernel⟩
abbrev Sp_has_part (K : PySem.W.Frag) : Sp := spF K (α := Book × Str) (fun z => Small z.1) (fun z => [.d (eB z.1), .d (.str z.2)]) (fun z => .d (.bool (z.1.has z.2)))
theorem kn_has_part (W : Wld K mg w) : Kn P w K mg base "has_part" ["book", "name"] 2 (Sp_has_part K) := by
  refine kn_fun W.f_has_part sc_has_part (fun _ => rfl) (fun _ _ _ _ _ _ us hl => match us, hl with | [_, _], _ => rfl) fun f cdv A outer s H E hr => ⟨_, (pss_one (ps_ret (pe_or (pe_cmpR (op_inUK (K := K) (by rfl) hr.u65) (pv 1) (pe_knK (K := K) (by rfl) (kn_names_in W) hr (by decide) (by rfl) (pa_cons (pe_ix (ix_seqK (K := K) (by rfl)) (pv 0) pe_int (fun _ _ => rfl)) pa_nil)) (by rfl)) (pe_one (pe_cmpR (op_inUK (K := K) (by rfl) hr.u65) (pv 1) (pe_knK (K := K) (by rfl) (kn_names_in W) hr (by decide) (by rfl) (pa_cons (pe_ix (ix_seqK (K := K) (by rfl)) (pv 0) pe_int (fun _ _ => rfl)) pa_nil)) (by rfl)))))), fun M z hz => ?_⟩
  obtain ⟨b, n⟩ := z
  refine ts_ret (te_or (b := decide (n ∈ namesOf b.r)) ?_ fun _ => ?_) rfl
  · apply te_op (te_var rfl) (te_callF b.l (ta_cons (te_op (te_var rfl) te_int (rv_ixT rfl)) ta_nil) (Nat.le_trans hz.l (by decide)) rfl rfl)
    · walk_at "e"
  · apply te_op (te_var rfl) (te_callF b.r (ta_cons (te_op (te_var rfl) te_int (rv_ixT rfl)) ta_nil) (Nat.le_trans hz.r (by decide)) rfl rfl)
    · walk_at "e"
theorem sc_side_of : FnScope ["book", "name", "side"] ["book", "name"] (defScope (top 10)) := ⟨rfl, rfl, rfl, by decide +kernel, rfl, by decide +kernel, by decide +kernel⟩
abbrev Sp_side_of (K : PySem.W.Frag) : Sp := spF K (α := Book × Str) (fun z => Small z.1 ∧ z.1.has z.2 = true) (fun z => [.d (eB z.1), .d (.str z.2)]) (fun z => .d (.int (sI (z.1.sd z.2))))
theorem kn_side_of (W : Wld K mg w) : Kn P w K mg base "side_of" ["book", "name"] 2 (Sp_side_of K) := by
  refine kn_fun W.f_side_of sc_side_of (fun _ => rfl) (fun _ _ _ _ _ _ us hl => match us, hl with | [_, _], _ => rfl) fun f cdv A outer s H E hr => ⟨_, (pss_cons (ps_for PassesOwn.never rfl (pi_tupK (K := K) (by rfl) (pe_tup (pa_cons pe_int (pa_cons pe_int pa_nil)))) (pg_name (i := 2) sc_side_of.nd rfl (by first | exact .inl rfl | exact .inr rfl)) (pss_one (ps_if (pt_cmpR (op_inUK (K := K) (by rfl) hr.u65) (pv 1) (pe_knK (K := K) (by rfl) (kn_names_in W) hr (by decide) (by rfl) (pa_cons (pe_ix (ix_seqK (K := K) (by rfl)) (pv 0) (pv 2) (fun _ _ => rfl)) pa_nil)) (by rfl)) (pss_one (ps_ret (pv 2))) pss_nil)))
    (pss_one ps_never)), fun M z hz => ?_⟩
  obtain ⟨b, n⟩ := z
  obtain ⟨hs, hh⟩ := hz
  refine ts_forS (α := Bool) (enc := fun s => .d (.int (sI s))) (l := [false, true]) (js := [2]) (fun i γ => (∃ x, γ = [some (.d (eB b)), some (.d (.str n)), x]) ∧ (1 ≤ i → n ∉ namesOf b.l) ∧ (2 ≤ i → n ∉ namesOf b.r)) ?_ ⟨⟨none, rfl⟩, fun h => by omega, fun h => by omega⟩ ?_ ?_
  · refine ti_tupE (enc := fun s => PyData.int (sI s)) (te_tup (ds := [.int 0, .int 1]) ?_ (by decide))
    walk_at "e"
  · rintro i s γ1 hi ⟨⟨x, rfl⟩, h1, h2⟩
    refine ⟨_, tg_name, ts_if (b := decide (n ∈ namesOf (b.side s))) ?_ (fun e => ?_) fun e => ?_⟩
    · apply tt_B
      apply te_op (te_var rfl) (te_callF (b.side s) (ta_cons (te_op (te_var rfl) (te_var rfl) (rv_ixT at_side)) ta_nil) (Nat.le_trans (hs.side s) (by decide)) rfl rfl)
      walk_at "rv"
    · refine ts_ret (te_var rfl) ?_
      have e' := of_decide_eq_true e
      cases s with
      | false => simp [Book.sd, show n ∈ namesOf b.l from e']
      | true =>
        have hi1 : i = 1 := by
          match i, hi with
          | 0, hi => cases hi
          | 1, _ => rfl
          | i + 2, hi => simp at hi
        simp [Book.sd, h1 (by omega)]
    · refine ts_next ⟨⟨_, rfl⟩, fun _ => ?_, fun hk => ?_⟩
      · have e' := of_decide_eq_false e
        cases s with
        | false => exact e'
        | true =>
          have hi1 : i = 1 := by
            match i, hi with
            | 0, hi => cases hi
            | 1, _ => rfl
            | i + 2, hi => simp at hi
          exact h1 (by omega)
      · have e' := of_decide_eq_false e
        cases s with
        | true => exact e'
        | false =>
          match i, hi with
          | 0, hi => omega
          | 1, hi => cases hi
          | i + 2, hi => simp at hi
  · rintro γ1 ⟨_, h1, h2⟩
    have a1 := h1 (by decide)
    have a2 := h2 (by decide)
    simp [Book.has, a1, a2] at hh
theorem sc_part_named : FnScope ["book", "name", "part"] ["book", "name"] (defScope (top 11)) := ⟨rfl, rfl, rfl, by decide +kernel, rfl, by decide +kernel, by decide +kernel⟩
abbrev Sp_part_named (K : PySem.W.Frag) : Sp := spF K (α := Book × Str) (fun z => Small z.1 ∧ z.1.has z.2 = true) (fun z => [.d (eB z.1), .d (.str z.2)]) (fun z => .d (eP (z.1.pt z.2)))
theorem kn_part_named (W : Wld K mg w) : Kn P w K mg base "part_named" ["book", "name"] 3 (Sp_part_named K) := by
  refine kn_fun W.f_part_named sc_part_named (fun _ => rfl) (fun _ _ _ _ _ _ us hl => match us, hl with | [_, _], _ => rfl) fun f cdv A outer s H E hr => ⟨_, (pss_cons (ps_for PassesOwn.never rfl (pi_tupK (K := K) (by rfl) (pe_ix (ix_seqK (K := K) (by rfl)) (pv 0) (pe_knK (K := K) (by rfl) (kn_side_of W) hr (by decide) (by rfl) (pa_cons (pv 0) (pa_cons (pv 1) pa_nil))) (fun _ _ => rfl))) (pg_name (i := 2) sc_part_named.nd rfl (by first | exact .inl rfl | exact .inr rfl)) (pss_one (ps_if (pt_cmpR (op_eqUK (K := K) (by rfl) hr.units) (pe_ix (ix_seqK (K := K) (by rfl)) (pv 2) pe_int (fun _ _ => rfl)) (pv 1) (nomark _)) (pss_one (ps_ret (pv 2))) pss_nil)))
    (pss_one ps_never)), fun M z hz => ?_⟩
  obtain ⟨b, n⟩ := z
  obtain ⟨hs, hh⟩ := hz
  obtain ⟨p0, hp0, _, hm0⟩ := Book.part_some hh
  have ept : b.pt n = p0 := by unfold Book.pt; rw [hp0]; rfl
  refine ts_forS (α := Part) (enc := fun p => .d (eP p)) (l := b.side (b.sd n)) (js := [2]) (fun i γ => (∃ x, γ = [some (.d (eB b)), some (.d (.str n)), x]) ∧ ∀ p ∈ (b.side (b.sd n)).take i, p.n ≠ n) ?_ ⟨⟨none, rfl⟩, fun p h => by simp at h⟩ ?_ ?_
  · refine ti_tupE (te_op (te_var rfl) (te_callF (b, n) (ta_cons (te_var rfl) (ta_cons (te_var rfl) ta_nil)) ⟨hs, hh⟩ rfl rfl) (rv_ixT at_side))
  · rintro i p γ1 hi ⟨⟨x, rfl⟩, h1⟩
    refine ⟨_, tg_name, ts_if (b := decide (p.n = n)) ?_ (fun e => ?_) fun e => ?_⟩
    · walk_at "e"
    · refine ts_ret (te_var rfl) ?_
      have e' := of_decide_eq_true e
      have : b.part? n = some p := by
        unfold Book.part?
        refine List.find?_eq_some_iff_append.mpr ⟨by simpa using e', (b.side (b.sd n)).take i, (b.side (b.sd n)).drop (i + 1), ?_, fun q hq => by simpa using h1 q hq⟩
        obtain ⟨hl, rfl⟩ := List.getElem?_eq_some_iff.mp hi
        rw [List.getElem_cons_drop, List.take_append_drop]
      rw [ept, Option.some.inj (hp0.symm.trans this)]
    · refine ts_next ⟨⟨_, rfl⟩, fun q hq => ?_⟩
      rw [List.take_succ, hi] at hq
      rcases List.mem_append.mp hq with h | h
      · exact h1 q h
      · simp at h
        subst h
        exact of_decide_eq_false e
  · rintro γ1 ⟨_, h1⟩
    rw [List.take_length] at h1
    have : b.part? n = none := List.find?_eq_none.mpr fun p hp => by simpa using h1 p hp
    rw [hp0] at this
    cases this
theorem sc_moments_of : FnScope ["book", "name"] ["book", "name"] (defScope (top 12)) := ⟨rfl, rfl, rfl, by decide +kernel, rfl, by decide +kernel, by decide +kernel⟩
abbrev Sp_moments_of (K : PySem.W.Frag) : Sp := spF K (α := Book × Str) (fun z => Small z.1 ∧ z.1.has z.2 = true) (fun z => [.d (eB z.1), .d (.str z.2)]) (fun z => .d (eIs (z.1.pt z.2).m))
theorem kn_moments_of (W : Wld K mg w) : Kn P w K mg base "moments_of" ["book", "name"] 4 (Sp_moments_of K) := by
  refine kn_fun W.f_moments_of sc_moments_of (fun _ => rfl) (fun _ _ _ _ _ _ us hl => match us, hl with | [_, _], _ => rfl) fun f cdv A outer s H E hr => ⟨_, (pss_one (ps_ret (pe_ix (ix_seqK (K := K) (by rfl)) (pe_knK (K := K) (by rfl) (kn_part_named W) hr (by decide) (by rfl) (pa_cons (pv 0) (pa_cons (pv 1) pa_nil))) pe_int (fun _ _ => rfl)))), fun M z hz => ?_⟩
  obtain ⟨b, n⟩ := z
  refine ts_ret (te_op (te_callF (b, n) (ta_cons (te_var rfl) (ta_cons (te_var rfl) ta_nil)) hz rfl rfl) te_int (rv_ixT rfl)) rfl
theorem sc_link_of : FnScope ["book", "name", "side", "link"] ["book", "name"] (defScope (top 13)) := ⟨rfl, rfl, rfl, by decide +kernel, rfl, by decide +kernel, by decide +kernel⟩
abbrev Sp_link_of (K : PySem.W.Frag) : Sp := spF K (α := Book × Str) (fun z => Small z.1 ∧ z.1.has z.2 = true) (fun z => [.d (eB z.1), .d (.str z.2)]) (fun z => .d (oL (z.1.lk z.2)))
theorem kn_link_of (W : Wld K mg w) : Kn P w K mg base "link_of" ["book", "name"] 3 (Sp_link_of K) := by
  refine kn_fun W.f_link_of sc_link_of (fun _ => rfl) (fun _ _ _ _ _ _ us hl => match us, hl with | [_, _], _ => rfl) fun f cdv A outer s H E hr => ⟨_, (pss_cons (ps_set (i := 2) sc_link_of.nd rfl (by first | exact .inl rfl | exact .inr rfl) (pe_knK (K := K) (by rfl) (kn_side_of W) hr (by decide) (by rfl) (pa_cons (pv 0) (pa_cons (pv 1) pa_nil))))
    (pss_cons (ps_for PassesOwn.never rfl (pi_tupK (K := K) (by rfl) (pe_ix (ix_seqK (K := K) (by rfl)) (pv 0) pe_int (fun _ _ => rfl))) (pg_name (i := 3) sc_link_of.nd rfl (by first | exact .inl rfl | exact .inr rfl)) (pss_one (ps_if (pt_cmpR (op_inUK (K := K) (by rfl) hr.u65) (pv 1) (pe_ix (ix_seqK (K := K) (by rfl)) (pv 3) (pv 2) (fun _ _ => rfl)) (by rfl)) (pss_one (ps_ret (pv 3))) pss_nil)))
    (pss_one (ps_ret pe_non)))), fun M z hz => ?_⟩
  obtain ⟨b, n⟩ := z
  obtain ⟨hs, hh⟩ := hz
  refine ts_asg (te_callF (b, n) (ta_cons (te_var rfl) (ta_cons (te_var rfl) ta_nil)) ⟨hs, hh⟩ rfl rfl) ?_ rfl
  refine ts_forS (α := Link) (enc := fun p => .d (eL p)) (l := b.k) (js := [3]) (fun i γ => (∃ x, γ = [some (.d (eB b)), some (.d (.str n)), some (.d (.int (sI (b.sd n)))), x]) ∧ ∀ l ∈ b.k.take i, n ∉ l.side (b.sd n)) ?_ ⟨⟨none, rfl⟩, fun p h => by simp at h⟩ ?_ ?_
  · refine ti_tupE ?_
    walk_at "e"
  · rintro i l γ1 hi ⟨⟨x, rfl⟩, h1⟩
    refine ⟨_, tg_name, ts_if (b := decide (n ∈ l.side (b.sd n))) ?_ (fun e => ?_) fun e => ?_⟩
    · apply tt_B
      exact te_op (te_var rfl) (te_op (te_var rfl) (te_var rfl) (rv_ixT at_lside)) rv_inStrT
    · refine ts_ret (te_var rfl) ?_
      have e' := of_decide_eq_true e
      have : b.lk n = some l := by
        unfold Book.lk
        refine List.find?_eq_some_iff_append.mpr ⟨by simpa using e', b.k.take i, b.k.drop (i + 1), ?_, fun q hq => by simpa using h1 q hq⟩
        obtain ⟨hl, rfl⟩ := List.getElem?_eq_some_iff.mp hi
        rw [List.getElem_cons_drop, List.take_append_drop]
      show Sv.d (eL l) = Sv.d (oL (b.lk n))
      rw [this]
      rfl
    · refine ts_next ⟨⟨_, rfl⟩, fun q hq => ?_⟩
      rw [List.take_succ, hi] at hq
      rcases List.mem_append.mp hq with h | h
      · exact h1 q h
      · simp at h
        subst h
        exact of_decide_eq_false e
  · rintro γ1 ⟨⟨x, rfl⟩, h1⟩
    rw [List.take_length] at h1
    have : b.lk n = none := List.find?_eq_none.mpr fun p hp => by simpa using h1 p hp
    refine ts_ret te_non ?_
    show Sv.d .none = Sv.d (oL (b.lk n))
    rw [this]
    rfl
end Tw
namespace Tw
open PySem PySem.Spec PyProof.Rows L2
local macro_rules
  | `(tactic| walk_at "rv") => `(tactic| first
    | exact rv_ixT rfl | exact rv_addI | exact rv_sub | exact rv_ixL rfl rfl | exact rv_ixM rfl
    | exact rsl_T | exact rsl_L rfl
    | exact rv_inStrL rfl | exact rv_inStrT | exact rv_ninStrL rfl | exact rv_ninIntL rfl | exact rv_eqStr | exact rv_neStr | exact rv_eqInt | exact rv_neInt | exact rv_eqBl | exact rv_neBl
    | exact rv_lt | exact rv_gt | exact rv_ge | exact rv_leI | exact rv_leS | exact rv_isN | exact rv_notN
    | exact rc_lenT | exact rc_lenL rfl | exact rc_intB | exact rc_listT | exact rc_listL rfl | exact rc_tupleL rfl | exact rc_tupleT)
local macro_rules
  | `(tactic| walk_at "e1") => `(tactic| first
    | exact te_var rfl | exact te_int | exact te_str | exact te_bl | exact te_non | exact ta_nil | exact to_none
    | apply to_some | apply ta_cons | apply te_op | apply te_cb | apply te_sl
    | apply tt_B | apply tt_test | walk_at "rv")
local macro_rules
  | `(tactic| walk_at "e") => `(tactic| repeat walk_at "e1")

theorem Book.momsOf_pt (b : Book) (n : Str) : b.momsOf n = (b.pt n).m := by
  unfold Book.momsOf Book.pt
  cases b.part? n <;> rfl
theorem Book.has_of {b : Book} {n : Str} {s : Bool} (h : n ∈ namesOf (b.side s)) : b.has n = true := by
  unfold Book.has
  rw [Bool.or_eq_true]
  cases s with
  | false => exact .inl (decide_eq_true h)
  | true => exact .inr (decide_eq_true h)
theorem Book.pt_ok {b : Book} (hs : Small b) {n : Str} (h : b.has n = true) : POk (b.pt n) ∧ b.pt n ∈ b.side (b.sd n) ∧ (b.pt n).n = n := by
  obtain ⟨p0, hp0, e, hm0⟩ := Book.part_some h
  have ept : b.pt n = p0 := by unfold Book.pt; rw [hp0]; rfl
  rw [ept]
  exact ⟨hs.ps _ p0 hm0, hm0, e⟩
theorem flatMap_le {α β : Type} {f : α → List β} {n : Nat} : ∀ {l : List α}, (∀ a ∈ l, (f a).length ≤ n) → (l.flatMap f).length ≤ l.length * n
  | [], _ => by simp
  | a :: l, h => by
    have h1 := h a List.mem_cons_self
    have h2 := flatMap_le fun b hb => h b (List.mem_cons_of_mem _ hb)
    rw [List.flatMap_cons, List.length_append, List.length_cons, Nat.succ_mul]
    omega
theorem Book.lk_mem {b : Book} {n : Str} {l : Link} (h : b.lk n = some l) : l ∈ b.k ∧ n ∈ l.side (b.sd n) := by
  unfold Book.lk at h
  exact ⟨List.mem_of_find?_eq_some h, by simpa using List.find?_some h⟩
variable {P : Program} {w : World} {K : PySem.W.Frag} {mg : Str → Option Value} {base : Heap}
theorem sc_stale_since : FnScope ["book", "link", "side", "moments", "name", "moment"] ["book", "link", "side"] (defScope (top 15)) := ⟨rfl, rfl, rfl, by decide +kernel, rfl, by decide +kernel, by decide +kernel⟩
abbrev Sp_stale_since (K : PySem.W.Frag) : Sp := spF K (α := Book × Link × Bool) (fun z => Small z.1 ∧ LOk z.2.1 ∧ ∀ n ∈ z.2.1.side (!z.2.2), z.1.has n = true) (fun z => [.d (eB z.1), .d (eL z.2.1), .d (.int (sI z.2.2))]) (fun z => .d (optD (z.1.since z.2.1 z.2.2)))
theorem kn_stale_since (W : Wld K mg w) : Kn P w K mg base "stale_since" ["book", "link", "side"] 5 (Sp_stale_since K) := by
  refine kn_fun W.f_stale_since sc_stale_since (fun _ => rfl) (fun _ _ _ _ _ _ us hl => match us, hl with | [_, _, _], _ => rfl) fun f cdv A outer s H E hr => ⟨_, (pss_cons (ps_set (i := 3) sc_stale_since.nd rfl (by first | exact .inl rfl | exact .inr rfl) (pe_callTy (call_listUK (K := K) (by rfl) rfl) (by rfl) W.b_list (by decide +kernel) (pa_cons (pe_ix (ix_seqK (K := K) (by rfl)) (pe_ix (ix_seqK (K := K) (by rfl)) (pv 1) pe_int (fun _ _ => rfl)) (pe_op op_subI pe_int (pv 2)) (fun _ _ => rfl)) pa_nil)))
    (pss_cons (ps_for PassesOwn.never rfl (pi_tupK (K := K) (by rfl) (pe_ix (ix_seqK (K := K) (by rfl)) (pv 1) (pe_op op_subI pe_int (pv 2)) (fun _ _ => rfl))) (pg_name (i := 4) sc_stale_since.nd rfl (by first | exact .inl rfl | exact .inr rfl)) (pss_one (ps_expr (pe_bmK (K := K) (by rfl) PySem.F.plainAttrs_list PySem.F.slot_list_extend PySem.F.type_list_extend (mt_extTK (K := K) (by rfl)) (pv 3) (pa_cons (pe_knK (K := K) (by rfl) (kn_moments_of W) hr (by decide) (by rfl) (pa_cons (pv 0) (pa_cons (pv 4) pa_nil))) pa_nil)))))
    (pss_one (ps_ret (pe_callBK (cr_minDK (K := K) (by rfl) hr.u70 rfl) (by rfl) W.b_min (by decide +kernel) (pa_cons (pe_lc (own := [("moment", 5)]) rfl sc_stale_since.nd (pi_listK (K := K) (by rfl) (pv 3)) (blkOk_by (N := ["book", "link", "side", "moments", "name", "moment"]) (sc := defScope (top 15)) (by decide +kernel)) (fun _ _ _ _ _ => (pg_name (i := 5) sc_stale_since.nd rfl (by first | exact .inl rfl | exact .inr rfl))) (fun _ _ _ _ _ => pts_one (pt_cmpR op_gtI (pv 5) (pe_ix (ix_seqK (K := K) (by rfl)) (pv 1) pe_int (fun _ _ => rfl)) (nomark _))) (fun _ _ _ _ _ => (pv 5))) pa_nil) (pk_cons pe_non pk_nil)))))), fun M z hz => ?_⟩
  obtain ⟨b, l, s⟩ := z
  obtain ⟨hs, hl, hh⟩ : Small b ∧ LOk l ∧ ∀ n ∈ l.side (!s), b.has n = true := hz
  have lm : ∀ n ∈ l.side (!s), (b.momsOf n).length ≤ 62 := fun n hn => by rw [Book.momsOf_pt]; exact (Book.pt_ok hs (hh n hn)).1.m
  refine ts_newT (ds := (l.lost (!s)).map PyData.int) ?_ ?_
  · exact te_op (te_op (te_var rfl) te_int (rv_ixT rfl)) (te_is (te_op te_int (te_var rfl) rv_sub) (by rw [sI_not])) (rv_ixT at_llost)
  refine ts_forS (α := Str) (enc := fun n => .d (.str n)) (l := l.side (!s)) (js := [4]) (fun i γ => ∃ x, γ = [some (.d (eB b)), some (.d (eL l)), some (.d (.int (sI s))), some (.u ((l.lost (!s) ++ ((l.side (!s)).take i).flatMap b.momsOf).map PyData.int)), x, none]) ?_ ⟨none, by simp⟩ ?_ ?_
  · exact ti_tupE (te_op (te_var rfl) (te_is (te_op te_int (te_var rfl) rv_sub) (by rw [sI_not])) (rv_ixT at_lside))
  · rintro i n γ1 hi ⟨x, rfl⟩
    have hn := List.mem_of_getElem? hi
    refine ⟨_, tg_name, ts_extT (es := (b.momsOf n).map PyData.int) rfl (te_is (te_callF (b, n) (ta_cons (te_var rfl) (ta_cons (te_var rfl) ta_nil)) ⟨hs, hh n hn⟩ rfl rfl) (by rw [Book.momsOf_pt])) ?_ ⟨some (.d (.str n)), ?_⟩⟩
    · have h1 := lm n hn
      have h2 := hl.lost (!s)
      have h3 := flatMap_le (f := b.momsOf) (l := (l.side (!s)).take i) fun a ha => lm a (List.mem_of_mem_take ha)
      have h4 := hl.side (!s)
      have h5 : ((l.side (!s)).take i).length ≤ 100 := by rw [List.length_take]; omega
      have h6 : ((l.side (!s)).take i).length * 62 ≤ 100 * 62 := Nat.mul_le_mul_right 62 h5
      rw [List.length_map, List.length_map, List.length_append]
      omega
    · rw [List.take_succ, hi, List.flatMap_append, ← List.append_assoc, List.map_append (l₁ := _ ++ _)]
      simp [noO]
  · rintro γ1 ⟨x, rfl⟩
    rw [List.take_length]
    refine ts_ret (te_is (te_min (ns := (l.lost (!s) ++ (l.side (!s)).flatMap b.momsOf).filter fun t => decide (l.t < t)) (te_lc (enc := fun t : Int => .d (.int t)) (fun t => decide (l.t < t)) (fun t => PyData.int t) (tc_listE (te_var rfl) rfl) ?_ (by simp) fun t ht => ⟨_, tg_name, ?_, fun _ => te_var rfl⟩) rfl te_non) rfl) rfl
    · have h2 := hl.lost (!s)
      have h3 := flatMap_le (f := b.momsOf) (l := l.side (!s)) fun a ha => lm a ha
      have h4 := hl.side (!s)
      have h6 : (l.side (!s)).length * 62 ≤ 100 * 62 := Nat.mul_le_mul_right 62 h4
      rw [List.length_append]
      omega
    · apply tt_B
      exact te_op (te_var rfl) (te_op (te_var rfl) te_int (rv_ixT rfl)) rv_gt
theorem Book.since_ok {b : Book} (hs : Small b) (hc : Closed b) {n : Str} {l : Link} (h : b.lk n = some l) (s : Bool) : LOk l ∧ ∀ m ∈ l.side s, b.has m = true := by
  obtain ⟨h1, _⟩ := Book.lk_mem h
  exact ⟨hs.lk l h1, fun m hm => Book.has_of (hc.in_ l h1 s m hm)⟩
theorem sc_state_of : FnScope ["book", "name", "side", "link", "since"] ["book", "name"] (defScope (top 16)) := ⟨rfl, rfl, rfl, by decide +kernel, rfl, by decide +kernel, by decide +kernel⟩
abbrev Sp_state_of (K : PySem.W.Frag) : Sp := spF K (α := Book × Str) (fun z => Small z.1 ∧ Closed z.1 ∧ z.1.has z.2 = true) (fun z => [.d (eB z.1), .d (.str z.2)]) (fun z => .d (eSt (z.1.st z.2)))
theorem kn_state_of (W : Wld K mg w) : Kn P w K mg base "state_of" ["book", "name"] 6 (Sp_state_of K) := by
  refine kn_fun W.f_state_of sc_state_of (fun _ => rfl) (fun _ _ _ _ _ _ us hl => match us, hl with | [_, _], _ => rfl) fun f cdv A outer s H E hr => ⟨_, (pss_cons (ps_set (i := 2) sc_state_of.nd rfl (by first | exact .inl rfl | exact .inr rfl) (pe_knK (K := K) (by rfl) (kn_side_of W) hr (by decide) (by rfl) (pa_cons (pv 0) (pa_cons (pv 1) pa_nil))))
    (pss_cons (ps_if (pt_cmpR (op_inUK (K := K) (by rfl) hr.u65) (pv 1) (pe_ix (ix_seqK (K := K) (by rfl)) (pv 0) pe_int (fun _ _ => rfl)) (by rfl)) (pss_one (ps_ret (pe_tup (pa_cons pe_str pa_nil)))) pss_nil)
    (pss_cons (ps_set (i := 3) sc_state_of.nd rfl (by first | exact .inl rfl | exact .inr rfl) (pe_knK (K := K) (by rfl) (kn_link_of W) hr (by decide) (by rfl) (pa_cons (pv 0) (pa_cons (pv 1) pa_nil))))
    (pss_cons (ps_if (pt_cmpR op_isNo (pv 3) pe_non (nomark _)) (pss_one (ps_ret (pe_tup (pa_cons pe_str pa_nil)))) pss_nil)
    (pss_cons (ps_set (i := 4) sc_state_of.nd rfl (by first | exact .inl rfl | exact .inr rfl) (pe_knK (K := K) (by rfl) (kn_stale_since W) hr (by decide) (by rfl) (pa_cons (pv 0) (pa_cons (pv 3) (pa_cons (pv 2) pa_nil)))))
    (pss_cons (ps_if (pt_cmpR op_isNo (pv 4) pe_non (nomark _)) (pss_one (ps_ret (pe_tup (pa_cons pe_str pa_nil)))) pss_nil)
    (pss_one (ps_ret (pe_tup (pa_cons pe_str (pa_cons (pv 4) pa_nil))))))))))), fun M z hz => ?_⟩
  obtain ⟨b, n⟩ := z
  obtain ⟨hs, hc, hh⟩ := hz
  refine ts_asg (te_callF (b, n) (ta_cons (te_var rfl) (ta_cons (te_var rfl) ta_nil)) ⟨hs, hh⟩ rfl rfl) ?_ rfl
  refine ts_ifS (b := decide (n ∈ b.z)) ?_ (fun e => ?_) fun e => ?_
  · apply tt_B
    exact te_op (te_var rfl) (te_op (te_var rfl) te_int (rv_ixT rfl)) rv_inStrT
  · refine ts_retS (te_tup (ds := [.str "alone"]) (ta_cons te_str ta_nil) (Nat.le_of_ble_eq_true rfl)) ?_
    show _ = Sv.d (eSt (b.st n))
    unfold Book.st
    rw [if_pos (of_decide_eq_true e)]
    rfl
  have e1 := of_decide_eq_false e
  refine ts_seq (ts_next (N := fun γ => γ = [some (.d (eB b)), some (.d (.str n)), some (.d (.int (sI (b.sd n)))), none, none]) rfl) ?_
  rintro _ rfl
  refine ts_asg (te_callF (b, n) (ta_cons (te_var rfl) (ta_cons (te_var rfl) ta_nil)) ⟨hs, hh⟩ rfl rfl) ?_ rfl
  cases hk : b.lk n with
  | none =>
    refine ts_ifS (b := true) ?_ (fun e => ?_) fun e => nomatch e
    · apply tt_B
      exact te_op (te_var rfl) te_non rv_isN
    · refine ts_retS (te_tup (ds := [.str "lacking"]) (ta_cons te_str ta_nil) (Nat.le_of_ble_eq_true rfl)) ?_
      show _ = Sv.d (eSt (b.st n))
      unfold Book.st
      rw [if_neg e1, hk]
      rfl
  | some l =>
    obtain ⟨hl, hm⟩ := Book.since_ok hs hc hk (!b.sd n)
    refine ts_skip ?_ ?_
    · apply tt_B
      exact te_op (te_var rfl) te_non rv_isN
    refine ts_asg (te_callF (b, l, b.sd n) (ta_cons (te_var rfl) (ta_cons (te_var rfl) (ta_cons (te_var rfl) ta_nil))) ⟨hs, hl, hm⟩ rfl rfl) ?_ rfl
    cases ht : b.since l (b.sd n) with
    | none =>
      refine ts_ifS (b := true) ?_ (fun e => ?_) fun e => nomatch e
      · apply tt_B
        exact te_op (te_var rfl) te_non rv_isN
      · refine ts_retS (te_tup (ds := [.str "step"]) (ta_cons te_str ta_nil) (Nat.le_of_ble_eq_true rfl)) ?_
        show _ = Sv.d (eSt (b.st n))
        unfold Book.st
        simp only [if_neg e1, hk, ht]
        rfl
    | some t =>
      refine ts_skip ?_ ?_
      · apply tt_B
        exact te_op (te_var rfl) te_non rv_isN
      refine ts_ret (te_tup (ds := [.str "stale", .int t]) (ta_cons te_str (ta_cons (te_var rfl) ta_nil)) (Nat.le_of_ble_eq_true rfl)) ?_
      show _ = Sv.d (eSt (b.st n))
      unfold Book.st
      simp only [if_neg e1, hk, ht]
      rfl
/-- the rows of standings -/
abbrev eRow (r : List (Str × Stn)) : PyData := .tuple (r.map fun q => .tuple [.str q.1, eSt q.2])
def Book.row (b : Book) (s : Bool) : List (Str × Stn) := (b.side s).map fun p => (p.n, b.st p.n)
theorem sc_states : FnScope ["book", "told", "parts", "part"] ["book"] (defScope (top 17)) := ⟨rfl, rfl, rfl, by decide +kernel, rfl, by decide +kernel, by decide +kernel⟩
abbrev Sp_states (K : PySem.W.Frag) : Sp := spF K (α := Book) (fun b => Small b ∧ Closed b) (fun b => [.d (eB b)]) (fun b => .d (.tuple [eRow (b.row false), eRow (b.row true)]))
theorem kn_states (W : Wld K mg w) : Kn P w K mg base "states" ["book"] 7 (Sp_states K) := by
  refine kn_fun W.f_states sc_states (fun _ => rfl) (fun _ _ _ _ _ _ us hl => match us, hl with | [_], _ => rfl) fun f cdv A outer s H E hr => ⟨_, (pss_cons (ps_setLc (i := 1) (own := [("parts", 2)]) rfl sc_states.nd rfl rfl (sw_true rfl rfl rfl (by decide +kernel)) (pi_tupK (K := K) (by rfl) (pe_slice (sl_UK (K := K) (by rfl)) (pv 0) po_none (po_some pe_int))) (blkOk_by (N := ["book", "told", "parts", "part"]) (sc := defScope (top 17)) (by decide +kernel)) (fun _ _ _ _ _ => (pg_name (i := 2) sc_states.nd rfl (by first | exact .inl rfl | exact .inr rfl))) (fun _ _ _ _ _ => pts_nil) (fun _ _ _ _ _ => (pe_callTy (call_tupleUK (K := K) (by rfl)) (by rfl) W.b_tuple (by decide +kernel) (pa_cons (pe_lc (own := [("part", 3)]) rfl sc_states.nd (pi_tupK (K := K) (by rfl) (pv 2)) (blkOk_by (by kernel_rfl)) (fun _ _ _ _ _ => (pg_name (i := 3) sc_states.nd rfl (by first | exact .inl rfl | exact .inr rfl))) (fun _ _ _ _ _ => pts_nil) (fun _ _ _ _ _ => (pe_tup (pa_cons (pe_ix (ix_seqK (K := K) (by rfl)) (pv 3) pe_int (fun _ _ => rfl)) (pa_cons (pe_knK (K := K) (by rfl) (kn_state_of W) hr (by decide) (by rfl) (pa_cons (pv 0) (pa_cons (pe_ix (ix_seqK (K := K) (by rfl)) (pv 3) pe_int (fun _ _ => rfl)) pa_nil))) pa_nil))))) pa_nil))))
    (pss_one (ps_ret (pe_tup (pa_cons (pe_ix (ix_seqK (K := K) (by rfl)) (pv 1) pe_int (fun _ _ => rfl)) (pa_cons (pe_ix (ix_seqK (K := K) (by rfl)) (pv 1) pe_int (fun _ _ => rfl)) pa_nil)))))), fun M z hz => ?_⟩
  obtain ⟨hs, hc⟩ := hz
  refine ts_asg (te_lc0 (α := Bool) (enc := fun s => .d (ePs (z.side s))) (l := [false, true]) (fun s => eRow (z.row s)) ?_ (by decide) (by simp) fun s _ => ⟨_, tg_name, ?_⟩) ?_ rfl
  · refine ti_tc (ti_is (ti_tup (te_sl (te_var rfl) to_none (to_some te_int) rsl_T)) rfl)
  · refine te_cb (ta_cons (te_lc0 (α := Part) (enc := fun p => .d (eP p)) (l := z.side s) (fun p => .tuple [.str p.n, eSt (z.st p.n)]) (ti_tc (ti_tupE (te_var rfl))) (Nat.le_trans (hs.side s) (by decide)) (by simp) fun p hp => ⟨_, tg_name, ?_⟩) ta_nil) (te_isRc (rc_tupleL rfl) (by simp [Book.row, Function.comp_def]))
    exact te_tup (ds := [.str p.n, eSt (z.st p.n)]) (ta_cons (te_op (te_var rfl) te_int (rv_ixT rfl)) (ta_cons (te_callF (z, p.n) (ta_cons (te_var rfl) (ta_cons (te_op (te_var rfl) te_int (rv_ixT rfl)) ta_nil)) ⟨hs, hc, Book.has_of (s := s) (List.mem_map.mpr ⟨p, hp, rfl⟩)⟩ rfl rfl) ta_nil)) (Nat.le_of_ble_eq_true rfl)
  · exact ts_ret (te_tup (ds := [eRow (z.row false), eRow (z.row true)]) (ta_cons (te_op (te_var rfl) te_int (rv_ixL rfl rfl)) (ta_cons (te_op (te_var rfl) te_int (rv_ixL rfl rfl)) ta_nil)) (Nat.le_of_ble_eq_true rfl)) rfl
theorem shp_st (x : Stn) : Shp 1 (eSt x) := by
  cases x with
  | alone => exact shp_tup (fun d h => by simp at h; subst h; exact shp_str (by decide +kernel))
  | lacking => exact shp_tup (fun d h => by simp at h; subst h; exact shp_str (by decide +kernel))
  | step => exact shp_tup (fun d h => by simp at h; subst h; exact shp_str (by decide +kernel))
  | stale t => exact shp_tup (fun d h => by
      simp at h
      rcases h with rfl | rfl
      · exact shp_str (by decide +kernel)
      · exact shp_int)
theorem eqv_st (x y : Stn) : PyData.eqv (eSt x) (eSt y) = decide (x = y) := by
  cases x <;> cases y <;> simp [eSt, PyData.eqv, PyData.eqvAll] <;> first | decide | exact Bool.beq_eq_decide_eq _ _ | (rw [Bool.eq_iff_iff]; simp)
theorem sc_lacking : FnScope ["book", "told", "parts", "name", "standing"] ["book"] (defScope (top 18)) := ⟨rfl, rfl, rfl, by decide +kernel, rfl, by decide +kernel, by decide +kernel⟩
abbrev Sp_lacking (K : PySem.W.Frag) : Sp := spF K (α := Book) (fun b => Small b ∧ Closed b) (fun b => [.d (eB b)]) (fun b => .d (.tuple [eNs (((b.row false).filter fun q => decide (q.2 = .lacking)).map Prod.fst), eNs (((b.row true).filter fun q => decide (q.2 = .lacking)).map Prod.fst)]))
theorem kn_lacking (W : Wld K mg w) : Kn P w K mg base "lacking" ["book"] 8 (Sp_lacking K) := by
  refine kn_fun W.f_lacking sc_lacking (fun _ => rfl) (fun _ _ _ _ _ _ us hl => match us, hl with | [_], _ => rfl) fun f cdv A outer s H E hr => ⟨_, (pss_cons (ps_setLc (i := 1) (own := [("parts", 2)]) rfl sc_lacking.nd rfl rfl (sw_true rfl rfl rfl (by decide +kernel)) (pi_tupK (K := K) (by rfl) (pe_knK (K := K) (by rfl) (kn_states W) hr (by decide) (by rfl) (pa_cons (pv 0) pa_nil))) (blkOk_by (N := ["book", "told", "parts", "name", "standing"]) (sc := defScope (top 18)) (by decide +kernel)) (fun _ _ _ _ _ => (pg_name (i := 2) sc_lacking.nd rfl (by first | exact .inl rfl | exact .inr rfl))) (fun _ _ _ _ _ => pts_nil) (fun _ _ _ _ _ => (pe_callTy (call_tupleUK (K := K) (by rfl)) (by rfl) W.b_tuple (by decide +kernel) (pa_cons (pe_lc (own := [("name", 3), ("standing", 4)]) rfl sc_lacking.nd (pi_tupK (K := K) (by rfl) (pv 2)) (blkOk_by (by kernel_rfl)) (fun _ _ _ _ _ => (pg_tupK (n := 2) (K := K) (by rfl) rfl (pgs_cons (pg_name (i := 3) sc_lacking.nd rfl (by first | exact .inl rfl | exact .inr rfl)) (pgs_cons (pg_name (i := 4) sc_lacking.nd rfl (by first | exact .inl rfl | exact .inr rfl)) pgs_nil)))) (fun _ _ _ _ _ => pts_one (pt_cmpR (op_eqUK (K := K) (by rfl) hr.units) (pv 4) (pe_tup (pa_cons pe_str pa_nil)) (nomark _))) (fun _ _ _ _ _ => (pv 3))) pa_nil))))
    (pss_one (ps_ret (pe_tup (pa_cons (pe_ix (ix_seqK (K := K) (by rfl)) (pv 1) pe_int (fun _ _ => rfl)) (pa_cons (pe_ix (ix_seqK (K := K) (by rfl)) (pv 1) pe_int (fun _ _ => rfl)) pa_nil)))))), fun M z hz => ?_⟩
  obtain ⟨hs, hc⟩ := hz
  refine ts_asg (te_lc0 (α := Bool) (enc := fun s => .d (eRow (z.row s))) (l := [false, true]) (fun s => eNs (((z.row s).filter fun q => decide (q.2 = .lacking)).map Prod.fst)) ?_ (by decide) (by simp) fun s _ => ⟨_, tg_name, ?_⟩) ?_ rfl
  · refine ti_tc (ti_is (ti_tup (te_callF z (ta_cons (te_var rfl) ta_nil) ⟨hs, hc⟩ rfl rfl)) rfl)
  · refine te_cb (ta_cons (te_lc (α := Str × Stn) (enc := fun q => .d (.tuple [.str q.1, eSt q.2])) (l := z.row s) (fun q => decide (q.2 = .lacking)) (fun q => .str q.1) (ti_tc (ti_tupE (te_var rfl))) ?_ (by simp) fun q hq => ⟨_, tg_tup (is := [3, 4]) (ds := [.str q.1, eSt q.2]) rfl rfl rfl, ?_, fun _ => te_var rfl⟩) ta_nil) (te_isRc (rc_tupleL rfl) (by simp [Function.comp_def]))
    · simp only [Book.row, List.length_map]
      exact Nat.le_trans (hs.side s) (by decide)
    · apply tt_B
      exact te_is (te_op (te_var rfl) (te_tup (ds := [.str "lacking"]) (ta_cons te_str ta_nil) (by decide)) (rv_eqS rfl rfl (shp_st q.2) (shp_st .lacking))) (by rw [show PyData.tuple [.str "lacking"] = eSt .lacking from rfl, eqv_st])
  · exact ts_ret (te_tup (ds := [_, _]) (ta_cons (te_op (te_var rfl) te_int (rv_ixL rfl rfl)) (ta_cons (te_op (te_var rfl) te_int (rv_ixL rfl rfl)) ta_nil)) (Nat.le_of_ble_eq_true rfl)) rfl
def Stn.nm : Stn → Str
  | .alone => "alone"
  | .lacking => "lacking"
  | .step => "step"
  | .stale _ => "stale"
theorem rv_st0 {M : Addr → Prop} (x : Stn) : Rv K M (rIx K) (.d (eSt x)) (.d (.int 0)) (.d (.str x.nm)) := by cases x <;> exact rv_ixT rfl
theorem rv_st1 {M : Addr → Prop} (t : Int) : Rv K M (rIx K) (.d (eSt (.stale t))) (.d (.int 1)) (.d (.int t)) := rv_ixT rfl
def Stn.old : Stn → Option Int
  | .stale t => some t
  | _ => none
/-- the stale ones by their moments -/
def Book.olds (b : Book) : List (Int × Str) := ((b.row false ++ b.row true).filter fun q => q.2.old.isSome).map fun q => (q.2.old.getD 0, q.1)
theorem sob_pairs (l : List (Int × Str)) : Sob (l.map Enc.enc) := sob_map (.inl fun d h => by obtain ⟨q, _, rfl⟩ := List.mem_map.mp h; exact ⟨_, _, rfl⟩) fun q _ => by
  show (PyData.tuple [.int q.1, .str q.2]).depth ≤ 60
  simp [PyData.depth, PyData.depthAll]
theorem row_le {b : Book} (hs : Small b) : (b.row false ++ b.row true).length ≤ 200 := by
  have h1 := hs.l
  have h2 := hs.r
  simp only [List.length_append, Book.row, List.length_map, Book.side]
  omega
theorem sc_stale : FnScope ["book", "left", "right", "found", "name", "standing", "since"] ["book"] (defScope (top 19)) := ⟨rfl, rfl, rfl, by decide +kernel, rfl, by decide +kernel, by decide +kernel⟩
abbrev Sp_stale (K : PySem.W.Frag) : Sp := spF K (α := Book) (fun b => Small b ∧ Closed b) (fun b => [.d (eB b)]) (fun b => .d (.tuple ((sortE b.olds).map fun q => .tuple [.str q.2, .int q.1])))
theorem kn_stale (W : Wld K mg w) : Kn P w K mg base "stale" ["book"] 8 (Sp_stale K) := by
  refine kn_fun W.f_stale sc_stale (fun _ => rfl) (fun _ _ _ _ _ _ us hl => match us, hl with | [_], _ => rfl) fun f cdv A outer s H E hr => ⟨_, (pss_cons (ps_asg (pe_knK (K := K) (by rfl) (kn_states W) hr (by decide) (by rfl) (pa_cons (pv 0) pa_nil)) (pg_tupK (n := 2) (K := K) (by rfl) rfl (pgs_cons (pg_name (i := 1) sc_stale.nd rfl (by first | exact .inl rfl | exact .inr rfl)) (pgs_cons (pg_name (i := 2) sc_stale.nd rfl (by first | exact .inl rfl | exact .inr rfl)) pgs_nil))))
    (pss_cons (ps_setLc (i := 3) (own := [("name", 4), ("standing", 5)]) rfl sc_stale.nd rfl rfl (sw_true rfl rfl rfl (by decide +kernel)) (pi_tupK (K := K) (by rfl) (pe_op (op_addUK (K := K) (by rfl)) (pv 1) (pv 2))) (blkOk_by (N := ["book", "left", "right", "found", "name", "standing", "since"]) (sc := defScope (top 19)) (by decide +kernel)) (fun _ _ _ _ _ => (pg_tupK (n := 2) (K := K) (by rfl) rfl (pgs_cons (pg_name (i := 4) sc_stale.nd rfl (by first | exact .inl rfl | exact .inr rfl)) (pgs_cons (pg_name (i := 5) sc_stale.nd rfl (by first | exact .inl rfl | exact .inr rfl)) pgs_nil)))) (fun _ _ _ _ _ => pts_one (pt_cmpR (op_eqUK (K := K) (by rfl) hr.units) (pe_ix (ix_seqK (K := K) (by rfl)) (pv 5) pe_int (fun _ _ => rfl)) pe_str (nomark _))) (fun _ _ _ _ _ => (pe_tup (pa_cons (pe_ix (ix_seqK (K := K) (by rfl)) (pv 5) pe_int (fun _ _ => rfl)) (pa_cons (pv 4) pa_nil)))))
    (pss_one (ps_ret (pe_callTy (call_tupleUK (K := K) (by rfl)) (by rfl) W.b_tuple (by decide +kernel) (pa_cons (pe_lc (own := [("since", 6), ("name", 4)]) rfl sc_stale.nd (pi_listK (K := K) (by rfl) (pe_callB (cr_sortUK (K := K) (w := w) (by rfl) (by rfl) hr.u70 rfl) (by rfl) W.b_sorted (by decide +kernel) (pa_cons (pv 3) pa_nil))) (blkOk_by (N := ["book", "left", "right", "found", "name", "standing", "since"]) (sc := defScope (top 19)) (by decide +kernel)) (fun _ _ _ _ _ => (pg_tupK (n := 2) (K := K) (by rfl) rfl (pgs_cons (pg_name (i := 6) sc_stale.nd rfl (by first | exact .inl rfl | exact .inr rfl)) (pgs_cons (pg_name (i := 4) sc_stale.nd rfl (by first | exact .inl rfl | exact .inr rfl)) pgs_nil)))) (fun _ _ _ _ _ => pts_nil) (fun _ _ _ _ _ => (pe_tup (pa_cons (pv 4) (pa_cons (pv 6) pa_nil))))) pa_nil)))))), fun M z hz => ?_⟩
  obtain ⟨hs, hc⟩ := hz
  have hle := row_le hs
  refine ts_unp (is := [1, 2]) rfl (te_callF z (ta_cons (te_var rfl) ta_nil) ⟨hs, hc⟩ rfl rfl) rfl rfl ?_
  refine ts_asg (te_is (te_lc (α := Str × Stn) (enc := fun q => .d (.tuple [.str q.1, eSt q.2])) (l := z.row false ++ z.row true) (fun q => q.2.old.isSome) (fun q => .tuple [.int (q.2.old.getD 0), .str q.1]) (ti_tc (ti_tupE (te_is (te_op (te_var rfl) (te_var rfl) (rv_addT ?_)) (by rw [List.map_append])))) (by omega) (by simp) fun q hq => ⟨_, tg_tup (is := [4, 5]) (ds := [.str q.1, eSt q.2]) rfl rfl rfl, ?_, fun e => ?_⟩) (s2 := .o (z.olds.map Enc.enc)) ?_) ?_ rfl
  · simp only [List.length_append] at hle
    simp only [List.length_map]
    omega
  · apply tt_B
    refine te_is (te_op (te_op (te_var rfl) te_int (rv_st0 q.2)) te_str rv_eqStr) ?_
    cases q.2 <;> simp [Stn.old, Stn.nm] <;> decide
  · obtain ⟨n, x⟩ := q
    cases x with
    | stale t => exact te_tup (ds := [_, _]) (ta_cons (te_op (te_var rfl) te_int (rv_st1 t)) (ta_cons (te_var rfl) ta_nil)) (Nat.le_of_ble_eq_true rfl)
    | alone => cases e
    | lacking => cases e
    | step => cases e
  · unfold Book.olds
    rw [List.map_map]
    rfl
  refine ts_ret (te_cb (ta_cons (te_lc0 (α := Int × Str) (enc := fun q => .d (Enc.enc q)) (l := sortE z.olds) (fun q => .tuple [.str q.2, .int q.1]) (tc_listE (te_cb (ta_cons (te_var rfl) ta_nil) (rc_sortL rfl (sob_pairs _))) (by rw [srtD_map]; rfl)) ?_ (by simp) fun q hq => ⟨_, tg_tup (is := [6, 4]) (ds := [.int q.1, .str q.2]) rfl rfl rfl, te_tup (ds := [_, _]) (ta_cons (te_var rfl) (ta_cons (te_var rfl) ta_nil)) (Nat.le_of_ble_eq_true rfl)⟩) ta_nil) (rc_tupleL rfl)) rfl
  rw [sortE_len]
  unfold Book.olds
  rw [List.length_map]
  exact Nat.le_trans (List.length_filter_le _ _) (by omega)
def Stn.fine : Stn → Bool
  | .step => true
  | .alone => true
  | _ => false
theorem sc_in_step : FnScope ["book", "left", "right", "name", "standing"] ["book"] (defScope (top 20)) := ⟨rfl, rfl, rfl, by decide +kernel, rfl, by decide +kernel, by decide +kernel⟩
abbrev Sp_in_step (K : PySem.W.Frag) : Sp := spF K (α := Book) (fun b => Small b ∧ Closed b) (fun b => [.d (eB b)]) (fun b => .d (.bool ((b.row false ++ b.row true).all fun q => q.2.fine)))
theorem kn_in_step (W : Wld K mg w) : Kn P w K mg base "in_step" ["book"] 8 (Sp_in_step K) := by
  refine kn_fun W.f_in_step sc_in_step (fun _ => rfl) (fun _ _ _ _ _ _ us hl => match us, hl with | [_], _ => rfl) fun f cdv A outer s H E hr => ⟨_, (pss_cons (ps_asg (pe_knK (K := K) (by rfl) (kn_states W) hr (by decide) (by rfl) (pa_cons (pv 0) pa_nil)) (pg_tupK (n := 2) (K := K) (by rfl) rfl (pgs_cons (pg_name (i := 1) sc_in_step.nd rfl (by first | exact .inl rfl | exact .inr rfl)) (pgs_cons (pg_name (i := 2) sc_in_step.nd rfl (by first | exact .inl rfl | exact .inr rfl)) pgs_nil))))
    (pss_one (ps_ret (pe_callB (cr_allK (K := K) (by rfl) rfl) (by rfl) W.b_all (by decide +kernel) (pa_cons (pe_lc (own := [("name", 3), ("standing", 4)]) rfl sc_in_step.nd (pi_tupK (K := K) (by rfl) (pe_op (op_addUK (K := K) (by rfl)) (pv 1) (pv 2))) (blkOk_by (N := ["book", "left", "right", "name", "standing"]) (sc := defScope (top 20)) (by decide +kernel)) (fun _ _ _ _ _ => (pg_tupK (n := 2) (K := K) (by rfl) rfl (pgs_cons (pg_name (i := 3) sc_in_step.nd rfl (by first | exact .inl rfl | exact .inr rfl)) (pgs_cons (pg_name (i := 4) sc_in_step.nd rfl (by first | exact .inl rfl | exact .inr rfl)) pgs_nil)))) (fun _ _ _ _ _ => pts_nil) (fun _ _ _ _ _ => (pe_cmpR (op_inUK (K := K) (by rfl) hr.u65) (pe_ix (ix_seqK (K := K) (by rfl)) (pv 4) pe_int (fun _ _ => rfl)) (pe_tup (pa_cons pe_str (pa_cons pe_str pa_nil))) (by rfl)))) pa_nil))))), fun M z hz => ?_⟩
  obtain ⟨hs, hc⟩ := hz
  have hle := row_le hs
  refine ts_unp (is := [1, 2]) rfl (te_callF z (ta_cons (te_var rfl) ta_nil) ⟨hs, hc⟩ rfl rfl) rfl rfl ?_
  refine ts_ret (te_is (te_cb (ta_cons (te_is (te_lc0 (α := Str × Stn) (enc := fun q => .d (.tuple [.str q.1, eSt q.2])) (l := z.row false ++ z.row true) (fun q => .bool q.2.fine) (ti_tc (ti_tupE (te_is (te_op (te_var rfl) (te_var rfl) (rv_addT ?_)) (by rw [List.map_append])))) (by omega) (by simp) fun q hq => ⟨_, tg_tup (is := [3, 4]) (ds := [.str q.1, eSt q.2]) rfl rfl rfl, ?_⟩) (s2 := .o (((z.row false ++ z.row true).map fun q => q.2.fine).map PyData.bool)) (by rw [List.map_map]; rfl)) ta_nil) (rc_all rfl)) (by rw [List.all_map]; rfl)) rfl
  · simp only [List.length_append] at hle
    simp only [List.length_map]
    omega
  · refine te_is (te_op (te_op (te_var rfl) te_int (rv_st0 q.2)) (te_tup (ds := ([Str.ofString "step", Str.ofString "alone"] : List Str).map PyData.str) (ta_cons te_str (ta_cons te_str ta_nil)) (by decide)) rv_inStrT) ?_
    cases q.2 <;> simp [Stn.fine, Stn.nm] <;> decide
end Tw
namespace Tw
open PySem PySem.Spec PyProof.Rows L2
local macro_rules
  | `(tactic| walk_at "rv") => `(tactic| first
    | exact rv_ixT rfl | exact rv_addI | exact rv_sub | exact rv_ixL rfl rfl | exact rv_ixM rfl
    | exact rsl_T | exact rsl_L rfl
    | exact rv_inStrL rfl | exact rv_inStrT | exact rv_ninStrL rfl | exact rv_ninIntL rfl | exact rv_eqStr | exact rv_neStr | exact rv_eqInt | exact rv_neInt | exact rv_eqBl | exact rv_neBl
    | exact rv_lt | exact rv_gt | exact rv_ge | exact rv_leI | exact rv_leS | exact rv_isN | exact rv_notN
    | exact rc_lenT | exact rc_lenL rfl | exact rc_intB | exact rc_listT | exact rc_listL rfl | exact rc_tupleL rfl | exact rc_tupleT)
local macro_rules
  | `(tactic| walk_at "e1") => `(tactic| first
    | exact te_var rfl | exact te_int | exact te_str | exact te_bl | exact te_non | exact ta_nil | exact to_none
    | apply to_some | apply ta_cons | apply te_op | apply te_cb | apply te_sl
    | apply tt_B | apply tt_test | walk_at "rv")
local macro_rules
  | `(tactic| walk_at "e") => `(tactic| repeat walk_at "e1")

variable {P : Program} {w : World} {K : PySem.W.Frag} {mg : Str → Option Value} {base : Heap}
theorem sc_parts_with : FnScope ["parts", "part", "behind", "made", "one"] ["parts", "part", "behind"] (defScope (top 22)) := ⟨rfl, rfl, rfl, by decide +kernel, rfl, by decide +kernel, by decide +kernel⟩
abbrev Sp_parts_with (K : PySem.W.Frag) : Sp := spF K (α := List Part × Part × Str) (fun z => z.1.length ≤ 1000) (fun z => [.d (ePs z.1), .d (eP z.2.1), .d (.str z.2.2)]) (fun z => .d (ePs (insP z.1 z.2.1 z.2.2)))
theorem kn_parts_with (W : Wld K mg w) : Kn P w K mg base "parts_with" ["parts", "part", "behind"] 1 (Sp_parts_with K) := by
  refine kn_fun W.f_parts_with sc_parts_with (fun _ => rfl) (fun _ _ _ _ _ _ us hl => match us, hl with | [_, _, _], _ => rfl) fun f cdv A outer s H E hr => ⟨_, (pss_cons (ps_if (pt_cmpR (op_eqUK (K := K) (by rfl) hr.units) (pv 2) pe_str (nomark _)) (pss_one (ps_ret (pe_op (op_addUK (K := K) (by rfl)) (pe_tup (pa_cons (pv 1) pa_nil)) (pv 0)))) pss_nil)
    (pss_cons (ps_set (i := 3) sc_parts_with.nd rfl (by first | exact .inl rfl | exact .inr rfl) (pe_lst pa_nil))
    (pss_cons (ps_for PassesOwn.never rfl (pi_tupK (K := K) (by rfl) (pv 0)) (pg_name (i := 4) sc_parts_with.nd rfl (by first | exact .inl rfl | exact .inr rfl)) (pss_cons (ps_expr (pe_bmK (K := K) (by rfl) PySem.F.plainAttrs_list PySem.F.slot_list_append PySem.F.type_list_append mt_append (pv 3) (pa_cons (pv 4) pa_nil)))
    (pss_one (ps_if (pt_cmpR (op_eqUK (K := K) (by rfl) hr.units) (pe_ix (ix_seqK (K := K) (by rfl)) (pv 4) pe_int (fun _ _ => rfl)) (pv 2) (nomark _)) (pss_one (ps_expr (pe_bmK (K := K) (by rfl) PySem.F.plainAttrs_list PySem.F.slot_list_append PySem.F.type_list_append mt_append (pv 3) (pa_cons (pv 1) pa_nil)))) pss_nil))))
    (pss_one (ps_ret (pe_callTy (call_tupleUK (K := K) (by rfl)) (by rfl) W.b_tuple (by decide +kernel) (pa_cons (pv 3) pa_nil))))))), fun M z hz => ?_⟩
  obtain ⟨ps, p, n⟩ := z
  have hz' : ps.length ≤ 1000 := hz
  refine ts_ifS (b := decide (n = "")) ?_ (fun e => ?_) fun e => ?_
  · walk_at "e"
  · refine ts_retS (te_op (te_tup (ds := [eP p]) (ta_cons (te_var rfl) ta_nil) (Nat.le_of_ble_eq_true rfl)) (te_var rfl) (rv_addT (by simp; omega))) ?_
    show _ = Sv.d (ePs (insP ps p n))
    rw [insP, if_pos (of_decide_eq_true e)]
    rfl
  refine ts_seq (ts_next (N := fun γ => γ = [some (.d (ePs ps)), some (.d (eP p)), some (.d (.str n)), none, none]) rfl) ?_
  rintro _ rfl
  have lf : ∀ o ∈ ps, ((fun o : Part => if o.n = n then [o, p] else [o]) o).length ≤ 2 := fun o _ => by dsimp only; split <;> simp
  refine ts_new ?_
  refine ts_forS (α := Part) (enc := fun p => .d (eP p)) (l := ps) (js := [4]) (fun i γ => ∃ x, γ = [some (.d (ePs ps)), some (.d (eP p)), some (.d (.str n)), some (.u (((ps.take i).flatMap fun o => if o.n = n then [o, p] else [o]).map eP)), x]) (ti_tupE (te_var rfl)) ⟨none, by simp⟩ ?_ ?_
  · rintro i o γ1 hi ⟨x, rfl⟩
    have hl : (((ps.take i).flatMap fun o => if o.n = n then [o, p] else [o]).map eP).length ≤ 2000 := by
      have h3 := flatMap_le (l := ps.take i) fun a ha => lf a (List.mem_of_mem_take ha)
      have h5 : (ps.take i).length ≤ 1000 := by rw [List.length_take]; omega
      rw [List.length_map]
      omega
    refine ⟨_, tg_name, ts_appS (d := eP o) rfl (te_var rfl) (by omega) (ts_if (b := decide (o.n = n)) ?_ (fun e => ?_) fun e => ?_)⟩
    · walk_at "e"
    · refine ts_app (d := eP p) rfl (te_var rfl) (by rw [List.length_append]; simp only [List.length_cons, List.length_nil]; omega) ⟨some (.d (eP o)), ?_⟩
      rw [List.take_succ, hi, List.flatMap_append]
      simp [noO, of_decide_eq_true e]
    · refine ts_next ⟨some (.d (eP o)), ?_⟩
      rw [List.take_succ, hi, List.flatMap_append]
      simp [noO, of_decide_eq_false e]
  · rintro γ1 ⟨x, rfl⟩
    rw [List.take_length]
    refine ts_ret (te_cb (ta_cons (te_var rfl) ta_nil) (rc_tupleL rfl)) ?_
    show _ = Sv.d (ePs (insP ps p n))
    rw [insP, if_neg (of_decide_eq_false e)]
theorem sc_parts_without : FnScope ["parts", "name", "one"] ["parts", "name"] (defScope (top 23)) := ⟨rfl, rfl, rfl, by decide +kernel, rfl, by decide +kernel, by decide +kernel⟩
abbrev Sp_parts_without (K : PySem.W.Frag) : Sp := spF K (α := List Part × Str) (fun z => z.1.length ≤ 1000) (fun z => [.d (ePs z.1), .d (.str z.2)]) (fun z => .d (ePs (outP z.1 z.2)))
theorem kn_parts_without (W : Wld K mg w) : Kn P w K mg base "parts_without" ["parts", "name"] 1 (Sp_parts_without K) := by
  refine kn_fun W.f_parts_without sc_parts_without (fun _ => rfl) (fun _ _ _ _ _ _ us hl => match us, hl with | [_, _], _ => rfl) fun f cdv A outer s H E hr => ⟨_, (pss_one (ps_ret (pe_callTy (call_tupleUK (K := K) (by rfl)) (by rfl) W.b_tuple (by decide +kernel) (pa_cons (pe_lc (own := [("one", 2)]) rfl sc_parts_without.nd (pi_tupK (K := K) (by rfl) (pv 0)) (blkOk_by (N := ["parts", "name", "one"]) (sc := defScope (top 23)) (by decide +kernel)) (fun _ _ _ _ _ => (pg_name (i := 2) sc_parts_without.nd rfl (by first | exact .inl rfl | exact .inr rfl))) (fun _ _ _ _ _ => pts_one (pt_cmpR (op_neUK (K := K) (by rfl) hr.units) (pe_ix (ix_seqK (K := K) (by rfl)) (pv 2) pe_int (fun _ _ => rfl)) (pv 1) (nomark _))) (fun _ _ _ _ _ => (pv 2))) pa_nil)))), fun M z hz => ?_⟩
  obtain ⟨ps, n⟩ := z
  refine ts_ret (te_cb (ta_cons (te_lc (α := Part) (enc := fun p => .d (eP p)) (l := ps) (fun o => !decide (o.n = n)) eP (ti_tc (ti_tupE (te_var rfl))) (Nat.le_trans hz (by decide)) (by simp) fun p hp => ⟨_, tg_name, ?_, fun _ => te_var rfl⟩) ta_nil) (rc_tupleL rfl)) rfl
  walk_at "e"
theorem sc_parts_changed : FnScope ["parts", "part", "one"] ["parts", "part"] (defScope (top 24)) := ⟨rfl, rfl, rfl, by decide +kernel, rfl, by decide +kernel, by decide +kernel⟩
abbrev Sp_parts_changed (K : PySem.W.Frag) : Sp := spF K (α := List Part × Part) (fun z => z.1.length ≤ 1000) (fun z => [.d (ePs z.1), .d (eP z.2)]) (fun z => .d (ePs (chgP z.1 z.2)))
theorem kn_parts_changed (W : Wld K mg w) : Kn P w K mg base "parts_changed" ["parts", "part"] 1 (Sp_parts_changed K) := by
  refine kn_fun W.f_parts_changed sc_parts_changed (fun _ => rfl) (fun _ _ _ _ _ _ us hl => match us, hl with | [_, _], _ => rfl) fun f cdv A outer s H E hr => ⟨_, (pss_one (ps_ret (pe_callTy (call_tupleUK (K := K) (by rfl)) (by rfl) W.b_tuple (by decide +kernel) (pa_cons (pe_lc (own := [("one", 2)]) rfl sc_parts_changed.nd (pi_tupK (K := K) (by rfl) (pv 0)) (blkOk_by (N := ["parts", "part", "one"]) (sc := defScope (top 24)) (by decide +kernel)) (fun _ _ _ _ _ => (pg_name (i := 2) sc_parts_changed.nd rfl (by first | exact .inl rfl | exact .inr rfl))) (fun _ _ _ _ _ => pts_nil) (fun _ _ _ _ _ => (pe_ifExp (pt_cmpR (op_eqUK (K := K) (by rfl) hr.units) (pe_ix (ix_seqK (K := K) (by rfl)) (pv 2) pe_int (fun _ _ => rfl)) (pe_ix (ix_seqK (K := K) (by rfl)) (pv 1) pe_int (fun _ _ => rfl)) (nomark _)) (pv 1) (pv 2)))) pa_nil)))), fun M z hz => ?_⟩
  obtain ⟨ps, p⟩ := z
  refine ts_ret (te_cb (ta_cons (te_lc0 (α := Part) (enc := fun p => .d (eP p)) (l := ps) (fun o => eP (if o.n = p.n then p else o)) (ti_tc (ti_tupE (te_var rfl))) (Nat.le_trans hz (by decide)) (by simp) fun o hp => ⟨_, tg_name, te_if (b := decide (o.n = p.n)) ?_ (fun e => ?_) fun e => ?_⟩) ta_nil) (te_isRc (rc_tupleL rfl) (by simp [chgP, Function.comp_def]))) rfl
  · walk_at "e"
  · rw [if_pos (of_decide_eq_true e)]
    exact te_var rfl
  · rw [if_neg (of_decide_eq_false e)]
    exact te_var rfl
theorem sc_rising_with : FnScope ["moments", "more"] ["moments", "more"] (defScope (top 25)) := ⟨rfl, rfl, rfl, by decide +kernel, rfl, by decide +kernel, by decide +kernel⟩
abbrev Sp_rising_with (K : PySem.W.Frag) : Sp := spF K (α := List Int × List Int) (fun z => (z.1 ++ z.2).length ≤ 1000 ∧ ∃ ts : List Int, ts.length < 64 ∧ ∀ k ∈ z.1 ++ z.2, k ∈ ts) (fun z => [.d (eIs z.1), .d (eIs z.2)]) (fun z => .d (eIs (rise (z.1 ++ z.2))))
theorem kn_rising_with (W : Wld K mg w) : Kn P w K mg base "rising_with" ["moments", "more"] 1 (Sp_rising_with K) := by
  refine kn_fun W.f_rising_with sc_rising_with (fun _ => rfl) (fun _ _ _ _ _ _ us hl => match us, hl with | [_, _], _ => rfl) fun f cdv A outer s H E hr => ⟨_, (pss_one (ps_ret (pe_callTy (call_tupleUK (K := K) (by rfl)) (by rfl) W.b_tuple (by decide +kernel) (pa_cons (pe_callB (cr_sortUK (K := K) (w := w) (by rfl) (by rfl) hr.u70 rfl) (by rfl) W.b_sorted (by decide +kernel) (pa_cons (pe_callTy (cr_setTK (K := K) (w := w) (by rfl) (by rfl) rfl) (by rfl) W.b_set (by decide +kernel) (pa_cons (pe_op (op_addUK (K := K) (by rfl)) (pv 0) (pv 1)) pa_nil)) pa_nil)) pa_nil)))), fun M z hz => ?_⟩
  obtain ⟨ms, more⟩ := z
  obtain ⟨hl, ts, ht, hm⟩ : (ms ++ more).length ≤ 1000 ∧ ∃ ts : List Int, ts.length < 64 ∧ ∀ k ∈ ms ++ more, k ∈ ts := hz
  refine ts_ret (te_cb (ta_cons (te_sortSet (ms := ms ++ more) (ns := rise (ms ++ more)) (ts := ts) (te_is (te_op (te_var rfl) (te_var rfl) (rv_addT ?_)) (by rw [List.map_append])) hl hm ht fun ls h1 h2 => lt_unique h1 (rise_lt _) fun k => (h2 k).trans rise_mem.symm) ta_nil) (rc_tupleL rfl)) rfl
  rw [List.length_map, List.length_map]
  rw [List.length_append] at hl
  simp only
  omega
theorem sc_names_with : FnScope ["names", "name"] ["names", "name"] (defScope (top 28)) := ⟨rfl, rfl, rfl, by decide +kernel, rfl, by decide +kernel, by decide +kernel⟩
abbrev Sp_names_with (K : PySem.W.Frag) : Sp := spF K (α := List Str × Str) (fun z => z.1.length ≤ 1000) (fun z => [.d (eNs z.1), .d (.str z.2)]) (fun z => .d (eNs (addN z.1 z.2)))
theorem kn_names_with (W : Wld K mg w) : Kn P w K mg base "names_with" ["names", "name"] 1 (Sp_names_with K) := by
  refine kn_fun W.f_names_with sc_names_with (fun _ => rfl) (fun _ _ _ _ _ _ us hl => match us, hl with | [_, _], _ => rfl) fun f cdv A outer s H E hr => ⟨_, (pss_one (ps_ret (pe_callTy (call_tupleUK (K := K) (by rfl)) (by rfl) W.b_tuple (by decide +kernel) (pa_cons (pe_callB (cr_sortUK (K := K) (w := w) (by rfl) (by rfl) hr.u70 rfl) (by rfl) W.b_sorted (by decide +kernel) (pa_cons (pe_op (op_addUK (K := K) (by rfl)) (pv 0) (pe_tup (pa_cons (pv 1) pa_nil))) pa_nil)) pa_nil)))), fun M z hz => ?_⟩
  obtain ⟨ns, n⟩ := z
  have hz' : ns.length ≤ 1000 := hz
  refine ts_ret (te_cb (ta_cons (te_cb (ta_cons (te_is (te_op (te_var rfl) (te_tup (ds := [.str n]) (ta_cons (te_var rfl) ta_nil) (Nat.le_of_ble_eq_true rfl)) (rv_addT (by simp; omega))) (s2 := .d (.tuple ((ns ++ [n]).map PyData.str))) (by rw [List.map_append]; rfl)) ta_nil) (rc_sortT (sob_strs _))) ta_nil) (rc_tupleL rfl)) ?_
  rw [srt_strs]
  rfl
theorem sc_names_without : FnScope ["names", "name", "one"] ["names", "name"] (defScope (top 29)) := ⟨rfl, rfl, rfl, by decide +kernel, rfl, by decide +kernel, by decide +kernel⟩
abbrev Sp_names_without (K : PySem.W.Frag) : Sp := spF K (α := List Str × Str) (fun z => z.1.length ≤ 1000) (fun z => [.d (eNs z.1), .d (.str z.2)]) (fun z => .d (eNs (outN z.1 z.2)))
theorem kn_names_without (W : Wld K mg w) : Kn P w K mg base "names_without" ["names", "name"] 1 (Sp_names_without K) := by
  refine kn_fun W.f_names_without sc_names_without (fun _ => rfl) (fun _ _ _ _ _ _ us hl => match us, hl with | [_, _], _ => rfl) fun f cdv A outer s H E hr => ⟨_, (pss_one (ps_ret (pe_callTy (call_tupleUK (K := K) (by rfl)) (by rfl) W.b_tuple (by decide +kernel) (pa_cons (pe_lc (own := [("one", 2)]) rfl sc_names_without.nd (pi_tupK (K := K) (by rfl) (pv 0)) (blkOk_by (N := ["names", "name", "one"]) (sc := defScope (top 29)) (by decide +kernel)) (fun _ _ _ _ _ => (pg_name (i := 2) sc_names_without.nd rfl (by first | exact .inl rfl | exact .inr rfl))) (fun _ _ _ _ _ => pts_one (pt_cmpR (op_neUK (K := K) (by rfl) hr.units) (pv 2) (pv 1) (nomark _))) (fun _ _ _ _ _ => (pv 2))) pa_nil)))), fun M z hz => ?_⟩
  obtain ⟨ns, n⟩ := z
  refine ts_ret (te_cb (ta_cons (te_lc (α := Str) (enc := fun p => .d (.str p)) (l := ns) (fun o => !decide (o = n)) PyData.str (ti_tc (ti_tupE (te_var rfl))) (Nat.le_trans hz (by decide)) (by simp) fun p hp => ⟨_, tg_name, ?_, fun _ => te_var rfl⟩) ta_nil) (rc_tupleL rfl)) rfl
  walk_at "e"
theorem sc_side_changed : FnScope ["pair", "side", "thing"] ["pair", "side", "thing"] (defScope (top 30)) := ⟨rfl, rfl, rfl, by decide +kernel, rfl, by decide +kernel, by decide +kernel⟩
abbrev Sp_side_changed (K : PySem.W.Frag) : Sp := spF K (α := List PyData × Bool × PyData) (fun z => z.1.length = 2 ∨ z.1.length = 4) (fun z => [.d (.tuple z.1), .d (.int (sI z.2.1)), .d z.2.2]) (fun z => .d (.tuple (z.1.set z.2.1.toNat z.2.2)))
theorem kn_side_changed (W : Wld K mg w) : Kn P w K mg base "side_changed" ["pair", "side", "thing"] 1 (Sp_side_changed K) := by
  refine kn_fun W.f_side_changed sc_side_changed (fun _ => rfl) (fun _ _ _ _ _ _ us hl => match us, hl with | [_, _, _], _ => rfl) fun f cdv A outer s H E hr => ⟨_, (pss_one (ps_ret (pe_op (op_addUK (K := K) (by rfl)) (pe_op (op_addUK (K := K) (by rfl)) (pe_slice (sl_UK (K := K) (by rfl)) (pv 0) po_none (po_some (pv 1))) (pe_tup (pa_cons (pv 2) pa_nil))) (pe_slice (sl_UK (K := K) (by rfl)) (pv 0) (po_some (pe_op (op_addUK (K := K) (by rfl)) (pv 1) pe_int)) po_none)))), fun M z hz => ?_⟩
  obtain ⟨ds, s, x⟩ := z
  have hl : ds.length = 2 ∨ ds.length = 4 := hz
  have key : cutD ds none (some (sI s)) ++ [x] ++ cutD ds (some (sI s + 1)) none = ds.set s.toNat x ∧ (cutD ds none (some (sI s))).length ≤ 10 ∧ (cutD ds (some (sI s + 1)) none).length ≤ 10 := by
    rcases hl with h | h
    · match ds, h with
      | [a, b], _ => cases s <;> exact ⟨rfl, (Nat.le_of_ble_eq_true rfl), (Nat.le_of_ble_eq_true rfl)⟩
    · match ds, h with
      | [a, b, c, d], _ => cases s <;> exact ⟨rfl, (Nat.le_of_ble_eq_true rfl), (Nat.le_of_ble_eq_true rfl)⟩
  refine ts_ret (te_is (te_op (te_op (te_sl (te_var rfl) to_none (to_some (te_var rfl)) rsl_T) (te_tup (ds := [x]) (ta_cons (te_var rfl) ta_nil) (Nat.le_of_ble_eq_true rfl)) (rv_addT ?_)) (te_sl (te_var rfl) (to_some (te_op (te_var rfl) te_int rv_addI)) to_none rsl_T) (rv_addT ?_)) ?_) rfl
  · have := key.2.1
    simp only [List.length_cons, List.length_nil]
    omega
  · have h1 := key.2.1
    have h2 := key.2.2
    rw [List.length_append]
    simp only [List.length_cons, List.length_nil]
    omega
  · rw [key.1]
theorem shp_oL {o : Option Link} (h : ∀ l, o = some l → LOk l) : Shp 3 (oL o) := by
  cases o with
  | none => exact shp_non.mono (by decide)
  | some l => exact shp_link (h l rfl)
theorem eqv_oL (l : Link) (o : Option Link) : PyData.eqv (eL l) (oL o) = decide (some l = o) := by
  cases o with
  | none => simp [oL, PyData.eqv]
  | some k => rw [show PyData.eqv (eL l) (oL (some k)) = PyData.eqv (Enc.enc l) (Enc.enc k) from rfl, eqv_enc]; simp
theorem sc_links_exchanged : FnScope ["links", "old", "new", "left", "link"] ["links", "old", "new"] (defScope (top 31)) := ⟨rfl, rfl, rfl, by decide +kernel, rfl, by decide +kernel, by decide +kernel⟩
abbrev Sp_links_exchanged (K : PySem.W.Frag) : Sp := spF K (α := List Link × Option Link × Option Link) (fun z => z.1.length ≤ 1000 ∧ (∀ l ∈ z.1, LOk l) ∧ ∀ l, z.2.1 = some l → LOk l) (fun z => [.d (eLs z.1), .d (oL z.2.1), .d (oL z.2.2)]) (fun z => .d (eLs (exch z.1 z.2.1 z.2.2)))
theorem kn_links_exchanged (W : Wld K mg w) : Kn P w K mg base "links_exchanged" ["links", "old", "new"] 1 (Sp_links_exchanged K) := by
  refine kn_fun W.f_links_exchanged sc_links_exchanged (fun _ => rfl) (fun _ _ _ _ _ _ us hl => match us, hl with | [_, _, _], _ => rfl) fun f cdv A outer s H E hr => ⟨_, (pss_cons (ps_setLc (i := 3) (own := [("link", 4)]) rfl sc_links_exchanged.nd rfl rfl (sw_true rfl rfl rfl (by decide +kernel)) (pi_tupK (K := K) (by rfl) (pv 0)) (blkOk_by (N := ["links", "old", "new", "left", "link"]) (sc := defScope (top 31)) (by decide +kernel)) (fun _ _ _ _ _ => (pg_name (i := 4) sc_links_exchanged.nd rfl (by first | exact .inl rfl | exact .inr rfl))) (fun _ _ _ _ _ => pts_one (pt_cmpR (op_neUK (K := K) (by rfl) hr.units) (pv 4) (pv 1) (nomark _))) (fun _ _ _ _ _ => (pv 4)))
    (pss_cons (ps_if (pt_cmpR op_notNo (pv 2) pe_non (nomark _)) (pss_one (ps_expr (pe_bmK (K := K) (by rfl) PySem.F.plainAttrs_list PySem.F.slot_list_append PySem.F.type_list_append mt_append (pv 3) (pa_cons (pv 2) pa_nil)))) pss_nil)
    (pss_one (ps_ret (pe_callTy (call_tupleUK (K := K) (by rfl)) (by rfl) W.b_tuple (by decide +kernel) (pa_cons (pe_callB (cr_sortUK (K := K) (w := w) (by rfl) (by rfl) hr.u70 rfl) (by rfl) W.b_sorted (by decide +kernel) (pa_cons (pv 3) pa_nil)) pa_nil)))))), fun M z hz => ?_⟩
  obtain ⟨ks, old, new⟩ := z
  obtain ⟨hl, hk, ho⟩ : ks.length ≤ 1000 ∧ (∀ l ∈ ks, LOk l) ∧ ∀ l, old = some l → LOk l := hz
  refine ts_newE (te_lc (α := Link) (enc := fun p => .d (eL p)) (l := ks) (fun l => !decide (some l = old)) eL (ti_tc (ti_tupE (te_var rfl))) (Nat.le_trans hl (by decide)) (by simp) fun l hp => ⟨_, tg_name, ?_, fun _ => te_var rfl⟩) ?_
  · apply tt_B
    exact te_is (te_op (te_var rfl) (te_var rfl) (rv_neS rfl rfl (shp_link (hk l hp)) (shp_oL ho))) (by rw [eqv_oL])
  have hf := List.length_filter_le (fun l => !decide (some l = old)) ks
  cases new with
  | none =>
    refine ts_skip ?_ (ts_ret (te_cb (ta_cons (te_cb (ta_cons (te_var rfl) ta_nil) (rc_sortL rfl (sob_links _))) ta_nil) (rc_tupleL rfl)) ?_)
    · apply tt_B
      exact te_op (te_var rfl) te_non rv_notN
    · rw [srt_links]
      simp [exch]
  | some l =>
    refine ts_ifS (b := true) ?_ (fun _ => ?_) fun e => nomatch e
    · apply tt_B
      exact te_op (te_var rfl) te_non rv_notN
    refine ts_appS (d := eL l) rfl (te_var rfl) (by rw [List.length_map]; omega) ?_
    have es : (ks.filter fun l => !decide (some l = old)).map eL ++ [eL l] = ((ks.filter fun l => !decide (some l = old)) ++ [l]).map eL := by rw [List.map_append]; rfl
    refine ts_ret (te_cb (ta_cons (te_cb (ta_cons (te_var rfl) ta_nil) (rc_sortL rfl (es ▸ sob_links ((ks.filter fun l => !decide (some l = old)) ++ [l])))) ta_nil) (rc_tupleL rfl)) ?_
    rw [es, srt_links]
    rfl
theorem lk_set (l : Link) (s : Bool) (ns : List Str) : PyData.tuple ([eNs l.a, eNs l.b, .int l.t, .tuple [eIs l.la, eIs l.lb]].set s.toNat (eNs ns)) = eL (l.withSide s ns) := by cases s <;> rfl
theorem lt_set (l : Link) (s : Bool) (ms : List Int) : PyData.tuple ([eIs l.la, eIs l.lb].set s.toNat (eIs ms)) = .tuple [eIs (l.withLost s ms).la, eIs (l.withLost s ms).lb] := by cases s <;> rfl
theorem sc_links_more : FnScope ["links", "side", "name", "more", "link"] ["links", "side", "name", "more"] (defScope (top 32)) := ⟨rfl, rfl, rfl, by decide +kernel, rfl, by decide +kernel, by decide +kernel⟩
abbrev Sp_links_more (K : PySem.W.Frag) : Sp := spF K (α := List Link × Bool × Str × Str) (fun z => z.1.length ≤ 1000 ∧ (∀ l ∈ z.1, LOk l)) (fun z => [.d (eLs z.1), .d (.int (sI z.2.1)), .d (.str z.2.2.1), .d (.str z.2.2.2)]) (fun z => .d (eLs (moreL z.1 z.2.1 z.2.2.1 z.2.2.2)))
theorem kn_links_more (W : Wld K mg w) : Kn P w K mg base "links_more" ["links", "side", "name", "more"] 2 (Sp_links_more K) := by
  refine kn_fun W.f_links_more sc_links_more (fun _ => rfl) (fun _ _ _ _ _ _ us hl => match us, hl with | [_, _, _, _], _ => rfl) fun f cdv A outer s H E hr => ⟨_, (pss_cons (ps_for PassesOwn.never rfl (pi_tupK (K := K) (by rfl) (pv 0)) (pg_name (i := 4) sc_links_more.nd rfl (by first | exact .inl rfl | exact .inr rfl)) (pss_one (ps_if (pt_cmpR (op_inUK (K := K) (by rfl) hr.u65) (pv 2) (pe_ix (ix_seqK (K := K) (by rfl)) (pv 4) (pv 1) (fun _ _ => rfl)) (by rfl)) (pss_one (ps_ret (pe_knK (K := K) (by rfl) (kn_links_exchanged W) hr (by decide) (by rfl) (pa_cons (pv 0) (pa_cons (pv 4) (pa_cons (pe_knK (K := K) (by rfl) (kn_side_changed W) hr (by decide) (by rfl) (pa_cons (pv 4) (pa_cons (pv 1) (pa_cons (pe_knK (K := K) (by rfl) (kn_names_with W) hr (by decide) (by rfl) (pa_cons (pe_ix (ix_seqK (K := K) (by rfl)) (pv 4) (pv 1) (fun _ _ => rfl)) (pa_cons (pv 3) pa_nil))) pa_nil)))) pa_nil)))))) pss_nil)))
    (pss_one (ps_ret (pv 0)))), fun M z hz => ?_⟩
  obtain ⟨ks, s, n, m⟩ := z
  obtain ⟨hl, hk⟩ : ks.length ≤ 1000 ∧ (∀ l ∈ ks, LOk l) := hz
  refine ts_findS (α := Link) (enc := fun p => .d (eL p)) (l := ks) (j := 4) (fun l => decide (n ∈ l.side s)) (fun γ => ∃ x, γ = [some (.d (eLs ks)), some (.d (.int (sI s))), some (.d (.str n)), some (.d (.str m)), x]) (ti_tupE (te_var rfl)) ⟨none, rfl⟩ ?_ ?_ ?_
  · rintro l γ1 hf ⟨x, rfl⟩
    have hm := List.mem_of_find?_eq_some hf
    refine ts_if (b := true) ?_ (fun _ => ?_) fun e => nomatch e
    · apply tt_B
      exact te_is (te_op (te_var rfl) (te_op (te_var rfl) (te_var rfl) (rv_ixT at_lside)) rv_inStrT) (by rw [List.find?_some hf])
    · refine ts_ret (te_callF (ks, some l, some (l.withSide s (addN (l.side s) m))) (ta_cons (te_var rfl) (ta_cons (te_var rfl) (ta_cons (te_is (te_callF (_, s, _) (ta_cons (te_var rfl) (ta_cons (te_var rfl) (ta_cons (te_callF (l.side s, m) (ta_cons (te_op (te_var rfl) (te_var rfl) (rv_ixT at_lside)) (ta_cons (te_var rfl) ta_nil)) (Nat.le_trans ((hk l hm).side s) (by decide)) rfl rfl) ta_nil))) (.inr rfl) rfl rfl) (congrArg Sv.d (lk_set l s _))) ta_nil))) ⟨hl, hk, fun k e => by cases e; exact hk l hm⟩ rfl rfl) ?_
      show _ = Sv.d (eLs (moreL ks s n m))
      unfold moreL
      rw [hf]
  · rintro l γ1 hm hf ⟨x, rfl⟩
    refine ts_if (b := false) ?_ (fun e => nomatch e) fun _ => ts_next ⟨_, rfl⟩
    apply tt_B
    exact te_is (te_op (te_var rfl) (te_op (te_var rfl) (te_var rfl) (rv_ixT at_lside)) rv_inStrT) (by rw [hf])
  · rintro hf γ1 ⟨x, rfl⟩
    refine ts_ret (te_var rfl) ?_
    show _ = Sv.d (eLs (moreL ks s n m))
    unfold moreL
    rw [hf]
theorem sc_links_fewer : FnScope ["links", "side", "name", "link"] ["links", "side", "name"] (defScope (top 33)) := ⟨rfl, rfl, rfl, by decide +kernel, rfl, by decide +kernel, by decide +kernel⟩
abbrev Sp_links_fewer (K : PySem.W.Frag) : Sp := spF K (α := List Link × Bool × Str) (fun z => z.1.length ≤ 1000 ∧ (∀ l ∈ z.1, LOk l)) (fun z => [.d (eLs z.1), .d (.int (sI z.2.1)), .d (.str z.2.2)]) (fun z => .d (eLs (fewerL z.1 z.2.1 z.2.2)))
theorem kn_links_fewer (W : Wld K mg w) : Kn P w K mg base "links_fewer" ["links", "side", "name"] 2 (Sp_links_fewer K) := by
  refine kn_fun W.f_links_fewer sc_links_fewer (fun _ => rfl) (fun _ _ _ _ _ _ us hl => match us, hl with | [_, _, _], _ => rfl) fun f cdv A outer s H E hr => ⟨_, (pss_cons (ps_for PassesOwn.never rfl (pi_tupK (K := K) (by rfl) (pv 0)) (pg_name (i := 3) sc_links_fewer.nd rfl (by first | exact .inl rfl | exact .inr rfl)) (pss_one (ps_if (pt_cmpR (op_inUK (K := K) (by rfl) hr.u65) (pv 2) (pe_ix (ix_seqK (K := K) (by rfl)) (pv 3) (pv 1) (fun _ _ => rfl)) (by rfl)) (pss_one (ps_ret (pe_knK (K := K) (by rfl) (kn_links_exchanged W) hr (by decide) (by rfl) (pa_cons (pv 0) (pa_cons (pv 3) (pa_cons (pe_knK (K := K) (by rfl) (kn_side_changed W) hr (by decide) (by rfl) (pa_cons (pv 3) (pa_cons (pv 1) (pa_cons (pe_knK (K := K) (by rfl) (kn_names_without W) hr (by decide) (by rfl) (pa_cons (pe_ix (ix_seqK (K := K) (by rfl)) (pv 3) (pv 1) (fun _ _ => rfl)) (pa_cons (pv 2) pa_nil))) pa_nil)))) pa_nil)))))) pss_nil)))
    (pss_one (ps_ret (pv 0)))), fun M z hz => ?_⟩
  obtain ⟨ks, s, n⟩ := z
  obtain ⟨hl, hk⟩ : ks.length ≤ 1000 ∧ (∀ l ∈ ks, LOk l) := hz
  refine ts_findS (α := Link) (enc := fun p => .d (eL p)) (l := ks) (j := 3) (fun l => decide (n ∈ l.side s)) (fun γ => ∃ x, γ = [some (.d (eLs ks)), some (.d (.int (sI s))), some (.d (.str n)), x]) (ti_tupE (te_var rfl)) ⟨none, rfl⟩ ?_ ?_ ?_
  · rintro l γ1 hf ⟨x, rfl⟩
    have hm := List.mem_of_find?_eq_some hf
    refine ts_if (b := true) ?_ (fun _ => ?_) fun e => nomatch e
    · apply tt_B
      exact te_is (te_op (te_var rfl) (te_op (te_var rfl) (te_var rfl) (rv_ixT at_lside)) rv_inStrT) (by rw [List.find?_some hf])
    · refine ts_ret (te_callF (ks, some l, some (l.withSide s (outN (l.side s) n))) (ta_cons (te_var rfl) (ta_cons (te_var rfl) (ta_cons (te_is (te_callF (_, s, _) (ta_cons (te_var rfl) (ta_cons (te_var rfl) (ta_cons (te_callF (l.side s, n) (ta_cons (te_op (te_var rfl) (te_var rfl) (rv_ixT at_lside)) (ta_cons (te_var rfl) ta_nil)) (Nat.le_trans ((hk l hm).side s) (by decide)) rfl rfl) ta_nil))) (.inr rfl) rfl rfl) (congrArg Sv.d (lk_set l s _))) ta_nil))) ⟨hl, hk, fun k e => by cases e; exact hk l hm⟩ rfl rfl) ?_
      show _ = Sv.d (eLs (fewerL ks s n))
      unfold fewerL
      rw [hf]
  · rintro l γ1 hm hf ⟨x, rfl⟩
    refine ts_if (b := false) ?_ (fun e => nomatch e) fun _ => ts_next ⟨_, rfl⟩
    apply tt_B
    exact te_is (te_op (te_var rfl) (te_op (te_var rfl) (te_var rfl) (rv_ixT at_lside)) rv_inStrT) (by rw [hf])
  · rintro hf γ1 ⟨x, rfl⟩
    refine ts_ret (te_var rfl) ?_
    show _ = Sv.d (eLs (fewerL ks s n))
    unfold fewerL
    rw [hf]
theorem eqv_strs (a b : List Str) : PyData.eqv (eNs a) (eNs b) = decide (a = b) := eqv_enc (β := List Str) a b
theorem cut3 {a b c d x : PyData} : cutD [a, b, c, d] none (some 3) ++ [x] = [a, b, c, x] := rfl
theorem sc_links_lost : FnScope ["links", "side", "name", "t", "link", "lost", "left"] ["links", "side", "name", "t"] (defScope (top 34)) := ⟨rfl, rfl, rfl, by decide +kernel, rfl, by decide +kernel, by decide +kernel⟩
abbrev Sp_links_lost (K : PySem.W.Frag) : Sp := spF K (α := List Link × Bool × Str × Int) (fun z => z.1.length ≤ 1000 ∧ (∀ l ∈ z.1, LOk l) ∧ nOk z.2.2.1 ∧ ∃ ts : List Int, ts.length < 64 ∧ z.2.2.2 ∈ ts ∧ ∀ l ∈ z.1, ∀ k ∈ l.lost z.2.1, k ∈ ts) (fun z => [.d (eLs z.1), .d (.int (sI z.2.1)), .d (.str z.2.2.1), .d (.int z.2.2.2)]) (fun z => .d (eLs (lostL z.1 z.2.1 z.2.2.1 z.2.2.2)))
theorem kn_links_lost (W : Wld K mg w) : Kn P w K mg base "links_lost" ["links", "side", "name", "t"] 2 (Sp_links_lost K) := by
  refine kn_fun W.f_links_lost sc_links_lost (fun _ => rfl) (fun _ _ _ _ _ _ us hl => match us, hl with | [_, _, _, _], _ => rfl) fun f cdv A outer s H E hr => ⟨_, (pss_cons (ps_for PassesOwn.never rfl (pi_tupK (K := K) (by rfl) (pv 0)) (pg_name (i := 4) sc_links_lost.nd rfl (by first | exact .inl rfl | exact .inr rfl)) (pss_cons (ps_if (pt_cmpR (op_eqUK (K := K) (by rfl) hr.units) (pe_ix (ix_seqK (K := K) (by rfl)) (pv 4) (pv 1) (fun _ _ => rfl)) (pe_tup (pa_cons (pv 2) pa_nil)) (nomark _)) (pss_one (ps_ret (pe_knK (K := K) (by rfl) (kn_links_exchanged W) hr (by decide) (by rfl) (pa_cons (pv 0) (pa_cons (pv 4) (pa_cons pe_non pa_nil)))))) pss_nil)
    (pss_one (ps_if (pt_cmpR (op_inUK (K := K) (by rfl) hr.u65) (pv 2) (pe_ix (ix_seqK (K := K) (by rfl)) (pv 4) (pv 1) (fun _ _ => rfl)) (by rfl)) (pss_cons (ps_set (i := 5) sc_links_lost.nd rfl (by first | exact .inl rfl | exact .inr rfl) (pe_knK (K := K) (by rfl) (kn_side_changed W) hr (by decide) (by rfl) (pa_cons (pe_ix (ix_seqK (K := K) (by rfl)) (pv 4) pe_int (fun _ _ => rfl)) (pa_cons (pv 1) (pa_cons (pe_knK (K := K) (by rfl) (kn_rising_with W) hr (by decide) (by rfl) (pa_cons (pe_ix (ix_seqK (K := K) (by rfl)) (pe_ix (ix_seqK (K := K) (by rfl)) (pv 4) pe_int (fun _ _ => rfl)) (pv 1) (fun _ _ => rfl)) (pa_cons (pe_tup (pa_cons (pv 3) pa_nil)) pa_nil))) pa_nil)))))
    (pss_cons (ps_set (i := 6) sc_links_lost.nd rfl (by first | exact .inl rfl | exact .inr rfl) (pe_knK (K := K) (by rfl) (kn_side_changed W) hr (by decide) (by rfl) (pa_cons (pv 4) (pa_cons (pv 1) (pa_cons (pe_knK (K := K) (by rfl) (kn_names_without W) hr (by decide) (by rfl) (pa_cons (pe_ix (ix_seqK (K := K) (by rfl)) (pv 4) (pv 1) (fun _ _ => rfl)) (pa_cons (pv 2) pa_nil))) pa_nil)))))
    (pss_one (ps_ret (pe_knK (K := K) (by rfl) (kn_links_exchanged W) hr (by decide) (by rfl) (pa_cons (pv 0) (pa_cons (pv 4) (pa_cons (pe_op (op_addUK (K := K) (by rfl)) (pe_slice (sl_UK (K := K) (by rfl)) (pv 6) po_none (po_some pe_int)) (pe_tup (pa_cons (pv 5) pa_nil))) pa_nil)))))))) pss_nil))))
    (pss_one (ps_ret (pv 0)))), fun M z hz => ?_⟩
  obtain ⟨ks, s, n, t⟩ := z
  obtain ⟨hl, hk, hn, ts, hts, htt, hks⟩ : ks.length ≤ 1000 ∧ (∀ l ∈ ks, LOk l) ∧ nOk n ∧ ∃ ts : List Int, ts.length < 64 ∧ t ∈ ts ∧ ∀ l ∈ ks, ∀ k ∈ l.lost s, k ∈ ts := hz
  have test : ∀ {M : Addr → Prop} {l : Link} {x y : Option Sv}, l ∈ ks → Te K M (tOp (rEqU K) (tOp (rIx K) (tVar 4) (tVar 1)) (tTup (tCons (tVar 2) tNil))) [some (.d (eLs ks)), some (.d (.int (sI s))), some (.d (.str n)), some (.d (.int t)), some (.d (eL l)), x, y] (.d (.bool (decide (l.side s = [n])))) := fun {M l x y} hm => by
    exact te_is (te_op (te_op (te_var rfl) (te_var rfl) (rv_ixT at_lside)) (te_tup (ds := [.str n]) (ta_cons (te_var rfl) ta_nil) (Nat.le_of_ble_eq_true rfl)) (rv_eqS rfl rfl (shp_tup (shp_strs ((hk l hm).ns s))) (shp_tup (n := 0) fun d hd => by simp at hd; subst hd; exact shp_str hn))) (by rw [show PyData.tuple [.str n] = eNs [n] from rfl, eqv_strs])
  have tin : ∀ {M : Addr → Prop} {l : Link} {x y : Option Sv}, Te K M (tOp (rInU K) (tVar 2) (tOp (rIx K) (tVar 4) (tVar 1))) [some (.d (eLs ks)), some (.d (.int (sI s))), some (.d (.str n)), some (.d (.int t)), some (.d (eL l)), x, y] (.d (.bool (decide (n ∈ l.side s)))) := fun {M l x y} => te_op (te_var rfl) (te_op (te_var rfl) (te_var rfl) (rv_ixT at_lside)) rv_inStrT
  refine ts_findS (α := Link) (enc := fun p => .d (eL p)) (l := ks) (j := 4) (fun l => decide (n ∈ l.side s)) (fun γ => ∃ x y z, γ = [some (.d (eLs ks)), some (.d (.int (sI s))), some (.d (.str n)), some (.d (.int t)), x, y, z]) (ti_tupE (te_var rfl)) ⟨none, none, none, rfl⟩ ?_ ?_ ?_
  · rintro l γ1 hf ⟨x, y, z, rfl⟩
    have hm := List.mem_of_find?_eq_some hf
    refine ts_ifS (b := decide (l.side s = [n])) (tt_B (test hm)) (fun e => ?_) fun e => ?_
    · refine ts_retS (te_callF (ks, some l, none) (ta_cons (te_var rfl) (ta_cons (te_var rfl) (ta_cons te_non ta_nil))) ⟨hl, hk, fun k e => by cases e; exact hk l hm⟩ rfl rfl) ?_
      show _ = Sv.d (eLs (lostL ks s n t))
      unfold lostL
      rw [hf]
      simp only
      rw [if_pos (of_decide_eq_true e)]
    refine ts_seq (ts_next (N := fun γ => γ = [some (.d (eLs ks)), some (.d (.int (sI s))), some (.d (.str n)), some (.d (.int t)), some (.d (eL l)), y, z]) rfl) ?_
    rintro _ rfl
    refine ts_if (b := true) (tt_B (te_is tin (by rw [List.find?_some hf]))) (fun _ => ?_) fun e => nomatch e
    have hlo := (hk l hm).lost s
    refine ts_asg (te_is (te_callF ([eIs l.la, eIs l.lb], s, eIs (rise (l.lost s ++ [t]))) (ta_cons (te_op (te_var rfl) te_int (rv_ixT rfl)) (ta_cons (te_var rfl) (ta_cons (te_callF (l.lost s, [t]) (ta_cons (te_op (te_op (te_var rfl) te_int (rv_ixT rfl)) (te_var rfl) (rv_ixT at_llost)) (ta_cons (te_tup (ds := [.int t]) (ta_cons (te_var rfl) ta_nil) (Nat.le_of_ble_eq_true rfl)) ta_nil)) ⟨by simp only [List.length_append, List.length_cons, List.length_nil]; omega, ts, hts, fun k hk' => ?_⟩ rfl rfl) ta_nil))) (.inl rfl) rfl rfl) (congrArg Sv.d (lt_set l s _))) ?_ rfl
    · rcases List.mem_append.mp hk' with h | h
      · exact hks l hm k h
      · simp at h
        subst h
        exact htt
    refine ts_asg (te_is (te_callF (_, s, _) (ta_cons (te_var rfl) (ta_cons (te_var rfl) (ta_cons (te_callF (l.side s, n) (ta_cons (te_op (te_var rfl) (te_var rfl) (rv_ixT at_lside)) (ta_cons (te_var rfl) ta_nil)) (Nat.le_trans ((hk l hm).side s) (by decide)) rfl rfl) ta_nil))) (.inr rfl) rfl rfl) (congrArg Sv.d (lk_set l s _))) ?_ rfl
    refine ts_ret (te_callF (ks, some l, some ((l.withSide s (outN (l.side s) n)).withLost s (rise (l.lost s ++ [t])))) (ta_cons (te_var rfl) (ta_cons (te_var rfl) (ta_cons (te_is (s2 := .d (eL ((l.withSide s (outN (l.side s) n)).withLost s (rise (l.lost s ++ [t]))))) (te_op (te_sl (te_var rfl) to_none (to_some te_int) rsl_T) (te_tup (ds := [_]) (ta_cons (te_var rfl) ta_nil) (Nat.le_of_ble_eq_true rfl)) (rv_addT (Nat.le_of_ble_eq_true rfl))) ?_) ta_nil))) ⟨hl, hk, fun k e => by cases e; exact hk l hm⟩ rfl rfl) ?_
    · rw [cut3]
      cases s <;> rfl
    · show _ = Sv.d (eLs (lostL ks s n t))
      unfold lostL
      rw [hf]
      simp only
      rw [if_neg (of_decide_eq_false e)]
  · rintro l γ1 hm hf ⟨x, y, z, rfl⟩
    have hne : ¬ l.side s = [n] := fun e => by
      have := of_decide_eq_false hf
      rw [e] at this
      simp at this
    refine ts_skip (tt_B (te_is (test hm) (by rw [decide_eq_false hne]))) (ts_if (b := false) (tt_B (te_is tin (by rw [hf]))) (fun e => nomatch e) fun _ => ts_next ⟨_, _, _, rfl⟩)
  · rintro hf γ1 ⟨x, y, z, rfl⟩
    refine ts_ret (te_var rfl) ?_
    show _ = Sv.d (eLs (lostL ks s n t))
    unfold lostL
    rw [hf]
end Tw
namespace Tw
open PySem PySem.Spec PyProof.Rows L2
inductive Deed where
  | put (t : Int) (s : Bool) (h n x : Str)
  | take (t : Int) (n : Str)
  | part (t : Int) (n : Str) (i : Nat) (m : Str)
  | join (t : Int) (n o : Str)
  | move (t : Int) (n h : Str)
  | change (t : Int) (n x : Str)
  | word (t : Int) (n : Str) (i : Nat) (o : Str)
  | link (t : Int) (a b : List Str)
  | loose (t : Int) (n : Str)
  | step (t : Int) (n : Str)
  | alone (t : Int) (n : Str)
  | lack (t : Int) (n : Str)
def eD : Deed → PyData
  | .put t s h n x => .tuple [.str "put", .int t, .int (sI s), .str h, .str n, .str x]
  | .take t n => .tuple [.str "take", .int t, .str n]
  | .part t n i m => .tuple [.str "part", .int t, .str n, .int i, .str m]
  | .join t n o => .tuple [.str "join", .int t, .str n, .str o]
  | .move t n h => .tuple [.str "move", .int t, .str n, .str h]
  | .change t n x => .tuple [.str "change", .int t, .str n, .str x]
  | .word t n i o => .tuple [.str "word", .int t, .str n, .int i, .str o]
  | .link t a b => .tuple [.str "link", .int t, eNs a, eNs b]
  | .loose t n => .tuple [.str "loose", .int t, .str n]
  | .step t n => .tuple [.str "step", .int t, .str n]
  | .alone t n => .tuple [.str "alone", .int t, .str n]
  | .lack t n => .tuple [.str "lack", .int t, .str n]
def Book.txt (b : Book) (t : Int) (n x : Str) : Book := b.withSide (b.sd n) (chgP (b.side (b.sd n)) ⟨n, x, rise ((b.pt n).m ++ [t])⟩)
/-- the book behind a deed -/
def Book.dn (b : Book) : Deed → Book
  | .put t s h n x => b.withSide s (insP (b.side s) ⟨n, x, [t]⟩ h)
  | .take t n => { b.withSide (b.sd n) (outP (b.side (b.sd n)) n) with k := lostL b.k (b.sd n) n t, z := outN b.z n }
  | .part t n i m => { b.withSide (b.sd n) (insP (chgP (b.side (b.sd n)) ⟨n, cutS (b.pt n).x none (some i), (b.pt n).m⟩) ⟨m, cutS (b.pt n).x (some i) none, (b.pt n).m⟩ n) with
      k := moreL b.k (b.sd n) n m, z := if n ∈ b.z then addN b.z m else b.z }
  | .join t n o => { b.withSide (b.sd n) (outP (chgP (b.side (b.sd n)) ⟨n, (b.pt n).x ++ (b.pt o).x, rise ((b.pt n).m ++ (b.pt o).m)⟩) o) with k := fewerL b.k (b.sd n) o, z := outN b.z o }
  | .move t n h => b.withSide (b.sd n) (insP (outP (b.side (b.sd n)) n) (b.pt n) h)
  | .change t n x => b.txt t n x
  | .word t n i o => match (spans (b.pt n).x)[i]? with
    | some (p, q) => b.txt t n (cutS (b.pt n).x none (some p) ++ o ++ cutS (b.pt n).x (some q) none)
    | none => b
  | .link t a c => { b with k := exch b.k none (some ⟨sortE a, sortE c, t, [], []⟩) }
  | .loose t n => { b with k := exch b.k (b.lk n) none }
  | .step t n => match b.lk n with
    | some l => { b with k := exch b.k (some l) (some { l with t := t, la := [], lb := [] }) }
    | none => b
  | .alone t n => { b with z := addN b.z n }
  | .lack t n => { b with z := outN b.z n }
/-- moments that are few in all -/
def Few (b : Book) (t : Int) : Prop := ∃ ts : List Int, ts.length < 64 ∧ t ∈ ts ∧ (∀ s, ∀ p ∈ b.side s, ∀ k ∈ p.m, k ∈ ts) ∧ ∀ l ∈ b.k, ∀ s, ∀ k ∈ l.lost s, k ∈ ts
/-- a deed that can be done -/
def Can (b : Book) : Deed → Prop
  | .put t s h n x => (h ≠ "" → b.has h = true ∧ b.sd h = s) ∧ b.has n = false
  | .take t n => b.has n = true ∧ Few b t ∧ nOk n
  | .part t n i m => b.has n = true ∧ b.has m = false ∧ 1 ≤ i ∧ i < (b.pt n).x.length ∧ n ≠ ""
  | .join t n o => b.has n = true ∧ b.has o = true ∧ b.sd o = b.sd n ∧ n ≠ o ∧ b.lk n = b.lk o ∧ (n ∈ b.z ↔ o ∈ b.z) ∧ Few b t
  | .move t n h => b.has n = true ∧ (h ≠ "" → b.has h = true ∧ b.sd h = b.sd n) ∧ n ≠ h
  | .change t n x => b.has n = true ∧ Few b t
  | .word t n i o => b.has n = true ∧ Few b t ∧ i < (spans (b.pt n).x).length ∧ o.length ≤ 1000
  | .link t a c => (∀ n ∈ a, b.has n = true ∧ b.sd n = false ∧ b.lk n = none ∧ n ∉ b.z) ∧ (∀ n ∈ c, b.has n = true ∧ b.sd n = true ∧ b.lk n = none ∧ n ∉ b.z) ∧ a.length ≤ 100 ∧ c.length ≤ 100
  | .loose t n => b.has n = true ∧ (b.lk n).isSome = true
  | .step t n => b.has n = true ∧ (b.lk n).isSome = true
  | .alone t n => b.has n = true ∧ b.lk n = none ∧ n ∉ b.z
  | .lack t n => b.has n = true ∧ n ∈ b.z
theorem eB_with (b : Book) (s : Bool) (ps : List Part) : PyData.tuple ([ePs b.l, ePs b.r, eLs b.k, eNs b.z].set s.toNat (ePs ps)) = eB (b.withSide s ps) := by cases s <;> rfl
def oN : Option Nat → PyData
  | none => .none
  | some i => .int i
theorem spAt_len (x : Str) : ∀ i, (spAt x i).1.length ≤ i
  | 0 => Nat.le_refl _
  | i + 1 => by
    have := spAt_len x i
    unfold spAt spStep
    split <;> simp <;> omega
end Tw
namespace Tw
open PySem PySem.Spec PyProof.Rows L2
local macro_rules
  | `(tactic| walk_at "rv") => `(tactic| first
    | exact rv_ixT rfl | exact rv_addI | exact rv_sub | exact rv_ixL rfl rfl | exact rv_ixM rfl
    | exact rsl_T | exact rsl_L rfl
    | exact rv_inStrL rfl | exact rv_inStrT | exact rv_ninStrL rfl | exact rv_ninIntL rfl | exact rv_eqStr | exact rv_neStr | exact rv_eqInt | exact rv_neInt | exact rv_eqBl | exact rv_neBl
    | exact rv_lt | exact rv_gt | exact rv_ge | exact rv_leI | exact rv_leS | exact rv_isN | exact rv_notN
    | exact rc_lenT | exact rc_lenL rfl | exact rc_intB | exact rc_listT | exact rc_listL rfl | exact rc_tupleL rfl | exact rc_tupleT)
local macro_rules
  | `(tactic| walk_at "e1") => `(tactic| first
    | exact te_var rfl | exact te_int | exact te_str | exact te_bl | exact te_non | exact ta_nil | exact to_none
    | apply to_some | apply ta_cons | apply te_op | apply te_cb | apply te_sl
    | apply tt_B | apply tt_test | walk_at "rv")
local macro_rules
  | `(tactic| walk_at "e") => `(tactic| repeat walk_at "e1")

variable {P : Program} {w : World} {K : PySem.W.Frag} {mg : Str → Option Value} {base : Heap}
theorem ge_one {c k : Nat} {a : Str} (h : a.cps.toList = [k]) : (!decide ((⟨#[c]⟩ : Str).cps.toList < a.cps.toList)) = decide (k ≤ c) := by
  rw [h, Bool.eq_iff_iff]
  simp [List.cons_lt_cons_iff]
theorem le_one {c k : Nat} {a : Str} (h : a.cps.toList = [k]) : (!decide (a.cps.toList < (⟨#[c]⟩ : Str).cps.toList)) = decide (c ≤ k) := by
  rw [h, Bool.eq_iff_iff]
  simp [List.cons_lt_cons_iff]
theorem in_rng {M : Addr → Prop} {γ : G} {i c lo hi : Nat} {a z : Str} (ha : a.cps.toList = [lo]) (hz : z.cps.toList = [hi]) (h : γ[i]? = some (some (.d (.str ⟨#[c]⟩)))) : Te K M (tChain rLeU rLeU (tC (.str a)) (tVar i) (tC (.str z))) γ (.d (.bool (decide (lo ≤ c) && decide (c ≤ hi)))) := by
  have h1 := te_chain (K := K) (M := M) (γ := γ) (te_str (i := a)) (te_var h) rv_leS (te_str (i := z)) rv_leS
  rw [ge_one ha, le_one hz] at h1
  exact h1
theorem isNoD_oN (o : Option Nat) : isNoD (oN o) = o.isNone := by cases o <;> rfl
theorem sc_word_spans : FnScope ["text", "spans", "begin", "at", "sign", "is_in"] ["text"] (defScope (top 26)) := ⟨rfl, rfl, rfl, by decide +kernel, rfl, by decide +kernel, by decide +kernel⟩
abbrev Sp_word_spans (K : PySem.W.Frag) : Sp := spF K (α := Str) (fun x => x.length ≤ 40000) (fun x => [.d (.str x)]) (fun x => .o ((spans x).map fun q => .tuple [.int q.1, .int q.2]))
theorem kn_word_spans (W : Wld K mg w) : Kn P w K mg base "word_spans" ["text"] 1 (Sp_word_spans K) := by
  refine kn_fun W.f_word_spans sc_word_spans (fun _ => rfl) (fun _ _ _ _ _ _ us hl => match us, hl with | [_], _ => rfl) fun f cdv A outer s H E hr => ⟨_, (pss_cons (ps_set (i := 1) sc_word_spans.nd rfl (by first | exact .inl rfl | exact .inr rfl) (pe_lst pa_nil))
    (pss_cons (ps_set (i := 2) sc_word_spans.nd rfl (by first | exact .inl rfl | exact .inr rfl) pe_non)
    (pss_cons (ps_for PassesOwn.never rfl (pi_enumS (by rfl) W.b_enumerate (pa_cons (pe_op (op_addUK (K := K) (by rfl)) (pv 0) pe_str) pa_nil)) (pg_tupK (n := 2) (K := K) (by rfl) rfl (pgs_cons (pg_name (i := 3) sc_word_spans.nd rfl (by first | exact .inl rfl | exact .inr rfl)) (pgs_cons (pg_name (i := 4) sc_word_spans.nd rfl (by first | exact .inl rfl | exact .inr rfl)) pgs_nil))) (pss_cons (ps_set (i := 5) sc_word_spans.nd rfl (by first | exact .inl rfl | exact .inr rfl) (pe_or (pe_chain op_leU op_leU pe_str (pv 4) pe_str) (pe_or (pe_chain op_leU op_leU pe_str (pv 4) pe_str) (pe_one (pe_chain op_leU op_leU pe_str (pv 4) pe_str)))))
    (pss_cons (ps_if (PW.pt (pw_and (pt_val (pv 5)) (pw_and1 (pt_cmpR op_isNo (pv 2) pe_non (nomark _))))) (pss_one (ps_set (i := 2) sc_word_spans.nd rfl (by first | exact .inl rfl | exact .inr rfl) (pv 3))) pss_nil)
    (pss_one (ps_if (PW.pt (pw_and (pt_not (pt_val (pv 5))) (pw_and1 (pt_cmpR op_notNo (pv 2) pe_non (nomark _))))) (pss_cons (ps_expr (pe_bmK (K := K) (by rfl) PySem.F.plainAttrs_list PySem.F.slot_list_append PySem.F.type_list_append mt_append (pv 1) (pa_cons (pe_tup (pa_cons (pv 2) (pa_cons (pv 3) pa_nil))) pa_nil)))
    (pss_one (ps_set (i := 2) sc_word_spans.nd rfl (by first | exact .inl rfl | exact .inr rfl) pe_non))) pss_nil)))))
    (pss_one (ps_ret (pv 1)))))), fun M z hz => ?_⟩
  have hl : z.length ≤ 40000 := hz
  have hx : (z ++ (" " : Str)).cps.size = z.length + 1 := by
    rw [show (z ++ (" " : Str)).cps = z.cps ++ (" " : Str).cps from rfl, Array.size_append]
    rfl
  refine ts_new (ts_asg te_non ?_ rfl)
  refine ts_forS (α := Nat) (enc := fun i => .d (.tuple [.int (i : Nat), .str ⟨#[(z ++ (" " : Str)).cps.getD i 0]⟩])) (l := List.range (z ++ (" " : Str)).cps.size) (js := [3, 4])
    (fun i γ => ∃ x y u, γ = [some (.d (.str z)), some (.u ((spAt (z ++ (" " : Str)) i).1.map fun q => PyData.tuple [.int q.1, .int q.2])), some (.d (oN (spAt (z ++ (" " : Str)) i).2)), x, y, u]) (ti_enumS (ta_cons (te_op (te_var rfl) te_str (rv_addS (by show z.length + 1 ≤ _; omega))) ta_nil)) ⟨none, none, none, rfl⟩ ?_ ?_
  · rintro i a γ1 hi ⟨x, y, u, rfl⟩
    obtain ⟨hil, rfl⟩ := List.getElem?_eq_some_iff.mp hi
    rw [List.length_range, hx] at hil
    rw [List.getElem_range]
    have hsp := spAt_len (z ++ (" " : Str)) i
    have hstep : spAt (z ++ (" " : Str)) (i + 1) = spStep (spAt (z ++ (" " : Str)) i) i ((z ++ (" " : Str)).cps.getD i 0) := rfl
    rw [hstep]
    generalize (z ++ (" " : Str)).cps.getD i 0 = c at *
    generalize spAt (z ++ (" " : Str)) i = st at *
    obtain ⟨ls, bg⟩ := st
    refine ⟨_, tg_tup (is := [3, 4]) (ds := [.int (i : Nat), .str ⟨#[c]⟩]) rfl rfl rfl, ts_asg (s := .d (.bool (isW c))) ?_ ?_ rfl⟩
    · exact te_or (in_rng rfl rfl rfl) fun _ => te_or (in_rng rfl rfl rfl) fun _ => in_rng rfl rfl rfl
    have hls : ls.length ≤ 40000 := by simp only at hsp; omega
    cases hw : isW c with
    | true =>
      cases bg with
      | none =>
        refine ts_seq (N' := fun γ => γ = [some (.d (.str z)), some (.u (ls.map fun q => PyData.tuple [.int q.1, .int q.2])), some (.d (.int (i : Nat))), some (.d (.int (i : Nat))), some (.d (.str ⟨#[c]⟩)), some (.d (.bool true))]) (ts_if (b := true && true) (tt_and (tt_B (te_var rfl)) fun _ => tt_test (te_op (te_var rfl) te_non rv_isN)) (fun _ => ts_asg1 (te_var rfl) rfl rfl) fun e => nomatch e) ?_
        rintro _ rfl
        refine ts_skip1 (tt_and (a := false) (b := true) (tt_not (a := true) (tt_B (te_var rfl))) fun e => nomatch e) ⟨some (.d (.int (i : Nat))), some (.d (.str ⟨#[c]⟩)), some (.d (.bool true)), ?_⟩
        simp [spStep, hw, oN]
      | some b0 =>
        refine ts_skip (tt_and (a := true) (b := false) (tt_B (te_var rfl)) fun _ => tt_test (te_op (te_var rfl) te_non rv_isN)) ?_
        refine ts_skip1 (tt_and (a := false) (b := true) (tt_not (a := true) (tt_B (te_var rfl))) fun e => nomatch e) ⟨some (.d (.int (i : Nat))), some (.d (.str ⟨#[c]⟩)), some (.d (.bool true)), ?_⟩
        simp [spStep, hw]
        rfl
    | false =>
      refine ts_skip (tt_and (a := false) (b := true) (tt_B (te_var rfl)) fun e => nomatch e) ?_
      cases bg with
      | none =>
        refine ts_skip1 (tt_and (a := true) (b := false) (tt_not (a := false) (tt_B (te_var rfl))) fun _ => tt_test (te_op (te_var rfl) te_non rv_notN)) ⟨some (.d (.int (i : Nat))), some (.d (.str ⟨#[c]⟩)), some (.d (.bool false)), ?_⟩
        simp [spStep, hw]
        rfl
      | some b0 =>
        refine ts_if (b := true) (tt_and (a := true) (b := true) (tt_not (a := false) (tt_B (te_var rfl))) fun _ => tt_test (te_op (te_var rfl) te_non rv_notN)) (fun _ => ?_) fun e => nomatch e
        refine ts_appS (d := .tuple [.int b0, .int i]) rfl (te_tup (ds := [_, _]) (ta_cons (te_var rfl) (ta_cons (te_var rfl) ta_nil)) (Nat.le_of_ble_eq_true rfl)) (by rw [List.length_map]; omega) ?_
        refine ts_asg1 te_non ⟨some (.d (.int (i : Nat))), some (.d (.str ⟨#[c]⟩)), some (.d (.bool false)), ?_⟩ rfl
        simp [spStep, hw]
        rfl
  · rintro γ1 ⟨x, y, u, rfl⟩
    rw [List.length_range, hx]
    exact ts_ret (te_varU rfl) rfl
theorem sc_with_side : FnScope ["book", "side", "parts"] ["book", "side", "parts"] (defScope (top 36)) := ⟨rfl, rfl, rfl, by decide +kernel, rfl, by decide +kernel, by decide +kernel⟩
abbrev Sp_with_side (K : PySem.W.Frag) : Sp := spF K (α := Book × Bool × List Part) (fun _ => True) (fun z => [.d (eB z.1), .d (.int (sI z.2.1)), .d (ePs z.2.2)]) (fun z => .d (eB (z.1.withSide z.2.1 z.2.2)))
theorem kn_with_side (W : Wld K mg w) : Kn P w K mg base "with_side" ["book", "side", "parts"] 1 (Sp_with_side K) := by
  refine kn_fun W.f_with_side sc_with_side (fun _ => rfl) (fun _ _ _ _ _ _ us hl => match us, hl with | [_, _, _], _ => rfl) fun f cdv A outer s H E hr => ⟨_, (pss_one (ps_ret (pe_op (op_addUK (K := K) (by rfl)) (pe_op (op_addUK (K := K) (by rfl)) (pe_slice (sl_UK (K := K) (by rfl)) (pv 0) po_none (po_some (pv 1))) (pe_tup (pa_cons (pv 2) pa_nil))) (pe_slice (sl_UK (K := K) (by rfl)) (pv 0) (po_some (pe_op (op_addUK (K := K) (by rfl)) (pv 1) pe_int)) po_none)))), fun M z hz => ?_⟩
  obtain ⟨b, s, ps⟩ := z
  cases s with
  | false => exact ts_ret (te_op (te_op (te_sl (te_var rfl) to_none (to_some (te_var rfl)) rsl_T) (te_tup (ds := [_]) (ta_cons (te_var rfl) ta_nil) (Nat.le_of_ble_eq_true rfl)) (rv_addT (Nat.le_of_ble_eq_true rfl))) (te_sl (te_var rfl) (to_some (te_op (te_var rfl) te_int rv_addI)) to_none rsl_T) (rv_addT (Nat.le_of_ble_eq_true rfl))) rfl
  | true => exact ts_ret (te_op (te_op (te_sl (te_var rfl) to_none (to_some (te_var rfl)) rsl_T) (te_tup (ds := [_]) (ta_cons (te_var rfl) ta_nil) (Nat.le_of_ble_eq_true rfl)) (rv_addT (Nat.le_of_ble_eq_true rfl))) (te_sl (te_var rfl) (to_some (te_op (te_var rfl) te_int rv_addI)) to_none rsl_T) (rv_addT (Nat.le_of_ble_eq_true rfl))) rfl
theorem sc_look_behind : FnScope ["book", "side", "behind"] ["book", "side", "behind"] (defScope (top 37)) := ⟨rfl, rfl, rfl, by decide +kernel, rfl, by decide +kernel, by decide +kernel⟩
abbrev Sp_look_behind (K : PySem.W.Frag) : Sp := spF K (α := Book × Bool × Str) (fun z => Small z.1 ∧ (z.2.2 ≠ "" → z.1.has z.2.2 = true ∧ z.1.sd z.2.2 = z.2.1)) (fun z => [.d (eB z.1), .d (.int (sI z.2.1)), .d (.str z.2.2)]) (fun _ => .d .none)
theorem kn_look_behind (W : Wld K mg w) : Kn P w K mg base "look_behind" ["book", "side", "behind"] 3 (Sp_look_behind K) := by
  refine kn_fun W.f_look_behind sc_look_behind (fun _ => rfl) (fun _ _ _ _ _ _ us hl => match us, hl with | [_, _, _], _ => rfl) fun f cdv A outer s H E hr => ⟨_, (pss_one (ps_if (PW.pt (pw_and (pt_cmpR (op_neUK (K := K) (by rfl) hr.units) (pv 2) pe_str (nomark _)) (pw_and1 (pt_cmpR (op_neUK (K := K) (by rfl) hr.units) (pe_knK (K := K) (by rfl) (kn_side_of W) hr (by decide) (by rfl) (pa_cons (pv 0) (pa_cons (pv 2) pa_nil))) (pv 1) (nomark _))))) (pss_one ps_never) pss_nil)), fun M z hz => ?_⟩
  obtain ⟨b, s, n⟩ := z
  obtain ⟨hs, hn⟩ : Small b ∧ (n ≠ "" → b.has n = true ∧ b.sd n = s) := hz
  by_cases e : n = ""
  · refine ts_skip1 (tt_and (a := false) (b := true) ?_ fun e => nomatch e) rfl
    apply tt_test
    exact te_is (te_op (te_var rfl) te_str rv_neStr) (by rw [decide_eq_true e]; rfl)
  · obtain ⟨h1, h2⟩ := hn e
    refine ts_skip1 (tt_and (a := true) (b := false) ?_ fun _ => ?_) rfl
    · apply tt_test
      exact te_is (te_op (te_var rfl) te_str rv_neStr) (by rw [decide_eq_false e]; rfl)
    · apply tt_test
      exact te_is (te_op (te_callF (b, n) (ta_cons (te_var rfl) (ta_cons (te_var rfl) ta_nil)) ⟨hs, h1⟩ rfl rfl) (te_var rfl) rv_neInt) (by rw [h2]; simp)
theorem sc_is_alone : FnScope ["book", "name"] ["book", "name"] (defScope (top 38)) := ⟨rfl, rfl, rfl, by decide +kernel, rfl, by decide +kernel, by decide +kernel⟩
abbrev Sp_is_alone (K : PySem.W.Frag) : Sp := spF K (α := Book × Str) (fun _ => True) (fun z => [.d (eB z.1), .d (.str z.2)]) (fun z => .d (.bool (decide (z.2 ∈ z.1.z))))
theorem kn_is_alone (W : Wld K mg w) : Kn P w K mg base "is_alone" ["book", "name"] 1 (Sp_is_alone K) := by
  refine kn_fun W.f_is_alone sc_is_alone (fun _ => rfl) (fun _ _ _ _ _ _ us hl => match us, hl with | [_, _], _ => rfl) fun f cdv A outer s H E hr => ⟨_, (pss_one (ps_ret (pe_cmpR (op_inUK (K := K) (by rfl) hr.u65) (pv 1) (pe_ix (ix_seqK (K := K) (by rfl)) (pv 0) pe_int (fun _ _ => rfl)) (by rfl)))), fun M z hz => ?_⟩
  exact ts_ret (te_op (te_var rfl) (te_op (te_var rfl) te_int (rv_ixT rfl)) rv_inStrT) rfl
theorem insP_le {ps : List Part} {p : Part} {n : Str} : (insP ps p n).length ≤ 2 * ps.length + 1 := by
  unfold insP
  split
  · simp; omega
  · have := flatMap_le (f := fun o : Part => if o.n = n then [o, p] else [o]) (l := ps) (n := 2) fun o _ => by split <;> simp
    omega
theorem outP_le {ps : List Part} {n : Str} : (outP ps n).length ≤ ps.length := List.length_filter_le _ _
theorem chgP_le {ps : List Part} {p : Part} : (chgP ps p).length = ps.length := List.length_map ..
theorem cutS_len (x : Str) (lo hi : Option Int) : (cutS x lo hi).length ≤ x.length := by
  show ((x.cps.toList.drop _).take _).toArray.size ≤ x.cps.size
  rw [List.size_toArray, List.length_take, List.length_drop]
  have : x.cps.toList.length = x.cps.size := by simp
  omega
theorem sc_put_done : FnScope ["book", "deed", "word", "t", "side", "behind", "name", "text"] ["book", "deed"] (defScope (top 39)) := ⟨rfl, rfl, rfl, by decide +kernel, rfl, by decide +kernel, by decide +kernel⟩
abbrev Sp_put_done (K : PySem.W.Frag) : Sp := spF K (α := Book × Int × Bool × Str × Str × Str) (fun z => Small z.1 ∧ Can z.1 (.put z.2.1 z.2.2.1 z.2.2.2.1 z.2.2.2.2.1 z.2.2.2.2.2)) (fun z => [.d (eB z.1), .d (eD (.put z.2.1 z.2.2.1 z.2.2.2.1 z.2.2.2.2.1 z.2.2.2.2.2))]) (fun z => .d (eB (z.1.dn (.put z.2.1 z.2.2.1 z.2.2.2.1 z.2.2.2.2.1 z.2.2.2.2.2))))
theorem kn_put_done (W : Wld K mg w) : Kn P w K mg base "put_done" ["book", "deed"] 4 (Sp_put_done K) := by
  refine kn_fun W.f_put_done sc_put_done (fun _ => rfl) (fun _ _ _ _ _ _ us hl => match us, hl with | [_, _], _ => rfl) fun f cdv A outer s H E hr => ⟨_, (pss_cons (ps_asg (pv 1) (pg_tupK (n := 6) (K := K) (by rfl) rfl (pgs_cons (pg_name (i := 2) sc_put_done.nd rfl (by first | exact .inl rfl | exact .inr rfl)) (pgs_cons (pg_name (i := 3) sc_put_done.nd rfl (by first | exact .inl rfl | exact .inr rfl)) (pgs_cons (pg_name (i := 4) sc_put_done.nd rfl (by first | exact .inl rfl | exact .inr rfl)) (pgs_cons (pg_name (i := 5) sc_put_done.nd rfl (by first | exact .inl rfl | exact .inr rfl)) (pgs_cons (pg_name (i := 6) sc_put_done.nd rfl (by first | exact .inl rfl | exact .inr rfl)) (pgs_cons (pg_name (i := 7) sc_put_done.nd rfl (by first | exact .inl rfl | exact .inr rfl)) pgs_nil))))))))
    (pss_cons (ps_expr (pe_knK (K := K) (by rfl) (kn_look_behind W) hr (by decide) (by rfl) (pa_cons (pv 0) (pa_cons (pv 4) (pa_cons (pv 5) pa_nil)))))
    (pss_cons (ps_if (pt_val (pe_knK (K := K) (by rfl) (kn_has_part W) hr (by decide) (by rfl) (pa_cons (pv 0) (pa_cons (pv 6) pa_nil)))) (pss_one ps_never) pss_nil)
    (pss_one (ps_ret (pe_knK (K := K) (by rfl) (kn_with_side W) hr (by decide) (by rfl) (pa_cons (pv 0) (pa_cons (pv 4) (pa_cons (pe_knK (K := K) (by rfl) (kn_parts_with W) hr (by decide) (by rfl) (pa_cons (pe_ix (ix_seqK (K := K) (by rfl)) (pv 0) (pv 4) (fun _ _ => rfl)) (pa_cons (pe_tup (pa_cons (pv 6) (pa_cons (pv 7) (pa_cons (pe_tup (pa_cons (pv 3) pa_nil)) pa_nil)))) (pa_cons (pv 5) pa_nil)))) pa_nil))))))))), fun M z hz => ?_⟩
  obtain ⟨b, t, s, h, n, x⟩ := z
  obtain ⟨hs, hh, hn⟩ : Small b ∧ (h ≠ "" → b.has h = true ∧ b.sd h = s) ∧ b.has n = false := hz
  refine ts_unp (is := [2, 3, 4, 5, 6, 7]) rfl (te_var rfl) rfl rfl ?_
  refine ts_dropS (te_callF (b, s, h) (ta_cons (te_var rfl) (ta_cons (te_var rfl) (ta_cons (te_var rfl) ta_nil))) ⟨hs, hh⟩ rfl rfl) ?_
  refine ts_skip (tt_B (te_is (te_callF (b, n) (ta_cons (te_var rfl) (ta_cons (te_var rfl) ta_nil)) hs rfl rfl) (by simp only; rw [hn]))) ?_
  refine ts_ret (te_callF (b, s, _) (ta_cons (te_var rfl) (ta_cons (te_var rfl) (ta_cons (te_callF (b.side s, ⟨n, x, [t]⟩, h) (ta_cons (te_op (te_var rfl) (te_var rfl) (rv_ixT at_side)) (ta_cons (te_tup (ds := [.str n, .str x, eIs [t]]) (ta_cons (te_var rfl) (ta_cons (te_var rfl) (ta_cons (te_tup (ds := [.int t]) (ta_cons (te_var rfl) ta_nil) (Nat.le_of_ble_eq_true rfl)) ta_nil))) (Nat.le_of_ble_eq_true rfl)) (ta_cons (te_var rfl) ta_nil))) (Nat.le_trans (hs.side s) (by decide)) rfl rfl) ta_nil))) trivial rfl rfl) rfl
theorem cut2 {a b c d x y : PyData} : cutD [a, b, c, d] none (some 2) ++ [x, y] = [a, b, x, y] := rfl
theorem sc_take_done : FnScope ["book", "deed", "word", "t", "name", "side", "made"] ["book", "deed"] (defScope (top 40)) := ⟨rfl, rfl, rfl, by decide +kernel, rfl, by decide +kernel, by decide +kernel⟩
abbrev Sp_take_done (K : PySem.W.Frag) : Sp := spF K (α := Book × Int × Str) (fun z => Small z.1 ∧ Can z.1 (.take z.2.1 z.2.2)) (fun z => [.d (eB z.1), .d (eD (.take z.2.1 z.2.2))]) (fun z => .d (eB (z.1.dn (.take z.2.1 z.2.2))))
theorem kn_take_done (W : Wld K mg w) : Kn P w K mg base "take_done" ["book", "deed"] 4 (Sp_take_done K) := by
  refine kn_fun W.f_take_done sc_take_done (fun _ => rfl) (fun _ _ _ _ _ _ us hl => match us, hl with | [_, _], _ => rfl) fun f cdv A outer s H E hr => ⟨_, (pss_cons (ps_asg (pv 1) (pg_tupK (n := 3) (K := K) (by rfl) rfl (pgs_cons (pg_name (i := 2) sc_take_done.nd rfl (by first | exact .inl rfl | exact .inr rfl)) (pgs_cons (pg_name (i := 3) sc_take_done.nd rfl (by first | exact .inl rfl | exact .inr rfl)) (pgs_cons (pg_name (i := 4) sc_take_done.nd rfl (by first | exact .inl rfl | exact .inr rfl)) pgs_nil)))))
    (pss_cons (ps_set (i := 5) sc_take_done.nd rfl (by first | exact .inl rfl | exact .inr rfl) (pe_knK (K := K) (by rfl) (kn_side_of W) hr (by decide) (by rfl) (pa_cons (pv 0) (pa_cons (pv 4) pa_nil))))
    (pss_cons (ps_set (i := 6) sc_take_done.nd rfl (by first | exact .inl rfl | exact .inr rfl) (pe_knK (K := K) (by rfl) (kn_with_side W) hr (by decide) (by rfl) (pa_cons (pv 0) (pa_cons (pv 5) (pa_cons (pe_knK (K := K) (by rfl) (kn_parts_without W) hr (by decide) (by rfl) (pa_cons (pe_ix (ix_seqK (K := K) (by rfl)) (pv 0) (pv 5) (fun _ _ => rfl)) (pa_cons (pv 4) pa_nil))) pa_nil)))))
    (pss_one (ps_ret (pe_op (op_addUK (K := K) (by rfl)) (pe_slice (sl_UK (K := K) (by rfl)) (pv 6) po_none (po_some pe_int)) (pe_tup (pa_cons (pe_knK (K := K) (by rfl) (kn_links_lost W) hr (by decide) (by rfl) (pa_cons (pe_ix (ix_seqK (K := K) (by rfl)) (pv 0) pe_int (fun _ _ => rfl)) (pa_cons (pv 5) (pa_cons (pv 4) (pa_cons (pv 3) pa_nil))))) (pa_cons (pe_knK (K := K) (by rfl) (kn_names_without W) hr (by decide) (by rfl) (pa_cons (pe_ix (ix_seqK (K := K) (by rfl)) (pv 0) pe_int (fun _ _ => rfl)) (pa_cons (pv 4) pa_nil))) pa_nil))))))))), fun M z hz => ?_⟩
  obtain ⟨b, t, n⟩ := z
  obtain ⟨hs, hn, ⟨ts, h1, h2, h3, h4⟩, ho⟩ : Small b ∧ b.has n = true ∧ Few b t ∧ nOk n := hz
  refine ts_unp (is := [2, 3, 4]) rfl (te_var rfl) rfl rfl ?_
  refine ts_asg (te_callF (b, n) (ta_cons (te_var rfl) (ta_cons (te_var rfl) ta_nil)) ⟨hs, hn⟩ rfl rfl) ?_ rfl
  refine ts_asg (te_callF (b, b.sd n, _) (ta_cons (te_var rfl) (ta_cons (te_var rfl) (ta_cons (te_callF (b.side (b.sd n), n) (ta_cons (te_op (te_var rfl) (te_var rfl) (rv_ixT at_side)) (ta_cons (te_var rfl) ta_nil)) (Nat.le_trans (hs.side _) (by decide)) rfl rfl) ta_nil))) trivial rfl rfl) ?_ rfl
  refine ts_ret (te_op (te_sl (te_var rfl) to_none (to_some te_int) rsl_T) (te_tup (ds := [_, _]) (ta_cons (te_callF (b.k, b.sd n, n, t) (ta_cons (te_op (te_var rfl) te_int (rv_ixT rfl)) (ta_cons (te_var rfl) (ta_cons (te_var rfl) (ta_cons (te_var rfl) ta_nil)))) ⟨Nat.le_trans hs.k (by decide), hs.lk, ho, ts, h1, h2, fun l hl k hk => h4 l hl _ k hk⟩ rfl rfl) (ta_cons (te_callF (b.z, n) (ta_cons (te_op (te_var rfl) te_int (rv_ixT rfl)) (ta_cons (te_var rfl) ta_nil)) (Nat.le_trans hs.z (by decide)) rfl rfl) ta_nil)) (Nat.le_of_ble_eq_true rfl)) (rv_addT (Nat.le_of_ble_eq_true rfl))) rfl
theorem sc_part_done : FnScope ["book", "deed", "word", "t", "name", "at", "more", "side", "own", "text", "moments", "parts", "made", "alone"] ["book", "deed"] (defScope (top 41)) := ⟨rfl, rfl, rfl, by decide +kernel, rfl, by decide +kernel, by decide +kernel⟩
abbrev Sp_part_done (K : PySem.W.Frag) : Sp := spF K (α := Book × Int × Str × Nat × Str) (fun z => Small z.1 ∧ Can z.1 (.part z.2.1 z.2.2.1 z.2.2.2.1 z.2.2.2.2)) (fun z => [.d (eB z.1), .d (eD (.part z.2.1 z.2.2.1 z.2.2.2.1 z.2.2.2.2))]) (fun z => .d (eB (z.1.dn (.part z.2.1 z.2.2.1 z.2.2.2.1 z.2.2.2.2))))
theorem kn_part_done (W : Wld K mg w) : Kn P w K mg base "part_done" ["book", "deed"] 4 (Sp_part_done K) := by
  refine kn_fun W.f_part_done sc_part_done (fun _ => rfl) (fun _ _ _ _ _ _ us hl => match us, hl with | [_, _], _ => rfl) fun f cdv A outer s H E hr => ⟨_, (pss_cons (ps_asg (pv 1) (pg_tupK (n := 5) (K := K) (by rfl) rfl (pgs_cons (pg_name (i := 2) sc_part_done.nd rfl (by first | exact .inl rfl | exact .inr rfl)) (pgs_cons (pg_name (i := 3) sc_part_done.nd rfl (by first | exact .inl rfl | exact .inr rfl)) (pgs_cons (pg_name (i := 4) sc_part_done.nd rfl (by first | exact .inl rfl | exact .inr rfl)) (pgs_cons (pg_name (i := 5) sc_part_done.nd rfl (by first | exact .inl rfl | exact .inr rfl)) (pgs_cons (pg_name (i := 6) sc_part_done.nd rfl (by first | exact .inl rfl | exact .inr rfl)) pgs_nil)))))))
    (pss_cons (ps_set (i := 7) sc_part_done.nd rfl (by first | exact .inl rfl | exact .inr rfl) (pe_knK (K := K) (by rfl) (kn_side_of W) hr (by decide) (by rfl) (pa_cons (pv 0) (pa_cons (pv 4) pa_nil))))
    (pss_cons (ps_if (pt_val (pe_knK (K := K) (by rfl) (kn_has_part W) hr (by decide) (by rfl) (pa_cons (pv 0) (pa_cons (pv 6) pa_nil)))) (pss_one ps_never) pss_nil)
    (pss_cons (ps_asg (pe_knK (K := K) (by rfl) (kn_part_named W) hr (by decide) (by rfl) (pa_cons (pv 0) (pa_cons (pv 4) pa_nil))) (pg_tupK (n := 3) (K := K) (by rfl) rfl (pgs_cons (pg_name (i := 8) sc_part_done.nd rfl (by first | exact .inl rfl | exact .inr rfl)) (pgs_cons (pg_name (i := 9) sc_part_done.nd rfl (by first | exact .inl rfl | exact .inr rfl)) (pgs_cons (pg_name (i := 10) sc_part_done.nd rfl (by first | exact .inl rfl | exact .inr rfl)) pgs_nil)))))
    (pss_cons (ps_if (pt_not (pt_chain op_leU op_ltI pe_int (pv 5) (pe_callB (call_lenUK (K := K) (by rfl)) (by rfl) W.b_len (by decide +kernel) (pa_cons (pv 9) pa_nil)))) (pss_one ps_never) pss_nil)
    (pss_cons (ps_set (i := 11) sc_part_done.nd rfl (by first | exact .inl rfl | exact .inr rfl) (pe_knK (K := K) (by rfl) (kn_parts_changed W) hr (by decide) (by rfl) (pa_cons (pe_ix (ix_seqK (K := K) (by rfl)) (pv 0) (pv 7) (fun _ _ => rfl)) (pa_cons (pe_tup (pa_cons (pv 4) (pa_cons (pe_slice (sl_UK (K := K) (by rfl)) (pv 9) po_none (po_some (pv 5))) (pa_cons (pv 10) pa_nil)))) pa_nil))))
    (pss_cons (ps_set (i := 12) sc_part_done.nd rfl (by first | exact .inl rfl | exact .inr rfl) (pe_knK (K := K) (by rfl) (kn_with_side W) hr (by decide) (by rfl) (pa_cons (pv 0) (pa_cons (pv 7) (pa_cons (pe_knK (K := K) (by rfl) (kn_parts_with W) hr (by decide) (by rfl) (pa_cons (pv 11) (pa_cons (pe_tup (pa_cons (pv 6) (pa_cons (pe_slice (sl_UK (K := K) (by rfl)) (pv 9) (po_some (pv 5)) po_none) (pa_cons (pv 10) pa_nil)))) (pa_cons (pv 4) pa_nil)))) pa_nil)))))
    (pss_cons (ps_set (i := 13) sc_part_done.nd rfl (by first | exact .inl rfl | exact .inr rfl) (pe_ifExp (pt_val (pe_knK (K := K) (by rfl) (kn_is_alone W) hr (by decide) (by rfl) (pa_cons (pv 0) (pa_cons (pv 4) pa_nil)))) (pe_knK (K := K) (by rfl) (kn_names_with W) hr (by decide) (by rfl) (pa_cons (pe_ix (ix_seqK (K := K) (by rfl)) (pv 0) pe_int (fun _ _ => rfl)) (pa_cons (pv 6) pa_nil))) (pe_ix (ix_seqK (K := K) (by rfl)) (pv 0) pe_int (fun _ _ => rfl))))
    (pss_one (ps_ret (pe_op (op_addUK (K := K) (by rfl)) (pe_slice (sl_UK (K := K) (by rfl)) (pv 12) po_none (po_some pe_int)) (pe_tup (pa_cons (pe_knK (K := K) (by rfl) (kn_links_more W) hr (by decide) (by rfl) (pa_cons (pe_ix (ix_seqK (K := K) (by rfl)) (pv 0) pe_int (fun _ _ => rfl)) (pa_cons (pv 7) (pa_cons (pv 4) (pa_cons (pv 6) pa_nil))))) (pa_cons (pv 13) pa_nil)))))))))))))), fun M z hz => ?_⟩
  obtain ⟨b, t, n, i, m⟩ := z
  obtain ⟨hs, hn, hm, hi1, hi2, hne⟩ : Small b ∧ b.has n = true ∧ b.has m = false ∧ 1 ≤ i ∧ i < (b.pt n).x.length ∧ n ≠ "" := hz
  obtain ⟨hp, hpm, hpn⟩ := Book.pt_ok hs hn
  refine ts_unp (is := [2, 3, 4, 5, 6]) rfl (te_var rfl) rfl rfl ?_
  refine ts_asg (te_callF (b, n) (ta_cons (te_var rfl) (ta_cons (te_var rfl) ta_nil)) ⟨hs, hn⟩ rfl rfl) ?_ rfl
  refine ts_skip (tt_B (te_is (te_callF (b, m) (ta_cons (te_var rfl) (ta_cons (te_var rfl) ta_nil)) hs rfl rfl) (by simp only; rw [hm]))) ?_
  refine ts_unp (is := [8, 9, 10]) (ds := [.str (b.pt n).n, .str (b.pt n).x, eIs (b.pt n).m]) rfl (te_callF (b, n) (ta_cons (te_var rfl) (ta_cons (te_var rfl) ta_nil)) ⟨hs, hn⟩ rfl rfl) rfl rfl ?_
  have hx := hp.x
  refine ts_skip ?_ ?_
  · refine tt_is (tt_not (tt_test (te_chain te_int (te_var rfl) rv_leI (te_cb (ta_cons (te_var rfl) ta_nil) (rc_lenS (by omega))) rv_lt))) ?_
    simp
    omega
  have hsl := hs.side (b.sd n)
  refine ts_asg (te_callF (b.side (b.sd n), ⟨n, cutS (b.pt n).x none (some (i : Int)), (b.pt n).m⟩) (ta_cons (te_op (te_var rfl) (te_var rfl) (rv_ixT at_side)) (ta_cons (te_tup (ds := [_, _, _]) (ta_cons (te_var rfl) (ta_cons (te_sl (te_var rfl) to_none (to_some (te_var rfl)) (rsl_S (by omega))) (ta_cons (te_var rfl) ta_nil))) (Nat.le_of_ble_eq_true rfl)) ta_nil)) (Nat.le_trans hsl (by decide)) rfl rfl) ?_ rfl
  refine ts_asg (te_callF (b, b.sd n, _) (ta_cons (te_var rfl) (ta_cons (te_var rfl) (ta_cons (te_callF (chgP (b.side (b.sd n)) ⟨n, cutS (b.pt n).x none (some (i : Int)), (b.pt n).m⟩, ⟨m, cutS (b.pt n).x (some (i : Int)) none, (b.pt n).m⟩, n) (ta_cons (te_var rfl) (ta_cons (te_tup (ds := [_, _, _]) (ta_cons (te_var rfl) (ta_cons (te_sl (te_var rfl) (to_some (te_var rfl)) to_none (rsl_S (by omega))) (ta_cons (te_var rfl) ta_nil))) (Nat.le_of_ble_eq_true rfl)) (ta_cons (te_var rfl) ta_nil))) (by simp only; rw [chgP_le]; omega) rfl rfl) ta_nil))) trivial rfl rfl) ?_ rfl
  refine ts_asg (te_if (b := decide (n ∈ b.z)) (s := .d (eNs (if n ∈ b.z then addN b.z m else b.z))) (tt_B (te_callF (b, n) (ta_cons (te_var rfl) (ta_cons (te_var rfl) ta_nil)) trivial rfl rfl)) (fun e => ?_) fun e => ?_) ?_ rfl
  · rw [if_pos (of_decide_eq_true e)]
    exact te_callF (b.z, m) (ta_cons (te_op (te_var rfl) te_int (rv_ixT rfl)) (ta_cons (te_var rfl) ta_nil)) (Nat.le_trans hs.z (by decide)) rfl rfl
  · rw [if_neg (of_decide_eq_false e)]
    exact (te_op (te_var rfl) te_int (rv_ixT rfl))
  refine ts_ret (te_op (te_sl (te_var rfl) to_none (to_some te_int) rsl_T) (te_tup (ds := [_, _]) (ta_cons (te_callF (b.k, b.sd n, n, m) (ta_cons (te_op (te_var rfl) te_int (rv_ixT rfl)) (ta_cons (te_var rfl) (ta_cons (te_var rfl) (ta_cons (te_var rfl) ta_nil)))) ⟨Nat.le_trans hs.k (by decide), hs.lk⟩ rfl rfl) (ta_cons (te_var rfl) ta_nil)) (Nat.le_of_ble_eq_true rfl)) (rv_addT (Nat.le_of_ble_eq_true rfl))) rfl
end Tw
namespace Tw
open PySem PySem.Spec PyProof.Rows L2
local macro_rules
  | `(tactic| walk_at "rv") => `(tactic| first
    | exact rv_ixT rfl | exact rv_addI | exact rv_sub | exact rv_ixL rfl rfl | exact rv_ixM rfl
    | exact rsl_T | exact rsl_L rfl
    | exact rv_inStrL rfl | exact rv_inStrT | exact rv_ninStrL rfl | exact rv_ninIntL rfl | exact rv_eqStr | exact rv_neStr | exact rv_eqInt | exact rv_neInt | exact rv_eqBl | exact rv_neBl
    | exact rv_lt | exact rv_gt | exact rv_ge | exact rv_leI | exact rv_leS | exact rv_isN | exact rv_notN
    | exact rc_lenT | exact rc_lenL rfl | exact rc_intB | exact rc_listT | exact rc_listL rfl | exact rc_tupleL rfl | exact rc_tupleT)
local macro_rules
  | `(tactic| walk_at "e1") => `(tactic| first
    | exact te_var rfl | exact te_int | exact te_str | exact te_bl | exact te_non | exact ta_nil | exact to_none
    | apply to_some | apply ta_cons | apply te_op | apply te_cb | apply te_sl
    | apply tt_B | apply tt_test | walk_at "rv")
local macro_rules
  | `(tactic| walk_at "e") => `(tactic| repeat walk_at "e1")

variable {P : Program} {w : World} {K : PySem.W.Frag} {mg : Str → Option Value} {base : Heap}
theorem sc_move_done : FnScope ["book", "deed", "word", "t", "name", "behind", "side"] ["book", "deed"] (defScope (top 43)) := ⟨rfl, rfl, rfl, by decide +kernel, rfl, by decide +kernel, by decide +kernel⟩
abbrev Sp_move_done (K : PySem.W.Frag) : Sp := spF K (α := Book × Int × Str × Str) (fun z => Small z.1 ∧ Can z.1 (.move z.2.1 z.2.2.1 z.2.2.2)) (fun z => [.d (eB z.1), .d (eD (.move z.2.1 z.2.2.1 z.2.2.2))]) (fun z => .d (eB (z.1.dn (.move z.2.1 z.2.2.1 z.2.2.2))))
theorem kn_move_done (W : Wld K mg w) : Kn P w K mg base "move_done" ["book", "deed"] 4 (Sp_move_done K) := by
  refine kn_fun W.f_move_done sc_move_done (fun _ => rfl) (fun _ _ _ _ _ _ us hl => match us, hl with | [_, _], _ => rfl) fun f cdv A outer s H E hr => ⟨_, (pss_cons (ps_asg (pv 1) (pg_tupK (n := 4) (K := K) (by rfl) rfl (pgs_cons (pg_name (i := 2) sc_move_done.nd rfl (by first | exact .inl rfl | exact .inr rfl)) (pgs_cons (pg_name (i := 3) sc_move_done.nd rfl (by first | exact .inl rfl | exact .inr rfl)) (pgs_cons (pg_name (i := 4) sc_move_done.nd rfl (by first | exact .inl rfl | exact .inr rfl)) (pgs_cons (pg_name (i := 5) sc_move_done.nd rfl (by first | exact .inl rfl | exact .inr rfl)) pgs_nil))))))
    (pss_cons (ps_set (i := 6) sc_move_done.nd rfl (by first | exact .inl rfl | exact .inr rfl) (pe_knK (K := K) (by rfl) (kn_side_of W) hr (by decide) (by rfl) (pa_cons (pv 0) (pa_cons (pv 4) pa_nil))))
    (pss_cons (ps_expr (pe_knK (K := K) (by rfl) (kn_look_behind W) hr (by decide) (by rfl) (pa_cons (pv 0) (pa_cons (pv 6) (pa_cons (pv 5) pa_nil)))))
    (pss_cons (ps_if (pt_cmpR (op_eqUK (K := K) (by rfl) hr.units) (pv 4) (pv 5) (nomark _)) (pss_one ps_never) pss_nil)
    (pss_one (ps_ret (pe_knK (K := K) (by rfl) (kn_with_side W) hr (by decide) (by rfl) (pa_cons (pv 0) (pa_cons (pv 6) (pa_cons (pe_knK (K := K) (by rfl) (kn_parts_with W) hr (by decide) (by rfl) (pa_cons (pe_knK (K := K) (by rfl) (kn_parts_without W) hr (by decide) (by rfl) (pa_cons (pe_ix (ix_seqK (K := K) (by rfl)) (pv 0) (pv 6) (fun _ _ => rfl)) (pa_cons (pv 4) pa_nil))) (pa_cons (pe_knK (K := K) (by rfl) (kn_part_named W) hr (by decide) (by rfl) (pa_cons (pv 0) (pa_cons (pv 4) pa_nil))) (pa_cons (pv 5) pa_nil)))) pa_nil)))))))))), fun M z hz => ?_⟩
  obtain ⟨b, t, n, h⟩ := z
  obtain ⟨hs, hn, hh, hne⟩ : Small b ∧ b.has n = true ∧ (h ≠ "" → b.has h = true ∧ b.sd h = b.sd n) ∧ n ≠ h := hz
  refine ts_unp (is := [2, 3, 4, 5]) rfl (te_var rfl) rfl rfl ?_
  refine ts_asg (te_callF (b, n) (ta_cons (te_var rfl) (ta_cons (te_var rfl) ta_nil)) ⟨hs, hn⟩ rfl rfl) ?_ rfl
  refine ts_dropS (te_callF (b, b.sd n, h) (ta_cons (te_var rfl) (ta_cons (te_var rfl) (ta_cons (te_var rfl) ta_nil))) ⟨hs, hh⟩ rfl rfl) ?_
  refine ts_skip (tt_B (te_is (te_op (te_var rfl) (te_var rfl) rv_eqStr) (by rw [decide_eq_false hne]))) ?_
  have hsl := hs.side (b.sd n)
  have ho : (outP (b.side (b.sd n)) n).length ≤ 1000 := Nat.le_trans outP_le (Nat.le_trans hsl (by decide))
  exact ts_ret (te_callF (b, b.sd n, _) (ta_cons (te_var rfl) (ta_cons (te_var rfl) (ta_cons (te_callF (outP (b.side (b.sd n)) n, b.pt n, h) (ta_cons (te_callF (b.side (b.sd n), n) (ta_cons (te_op (te_var rfl) (te_var rfl) (rv_ixT at_side)) (ta_cons (te_var rfl) ta_nil)) (Nat.le_trans hsl (by decide)) rfl rfl) (ta_cons (te_callF (b, n) (ta_cons (te_var rfl) (ta_cons (te_var rfl) ta_nil)) ⟨hs, hn⟩ rfl rfl) (ta_cons (te_var rfl) ta_nil))) ho rfl rfl) ta_nil))) trivial rfl rfl) rfl
theorem sc_text_changed : FnScope ["book", "t", "name", "text", "side", "moments"] ["book", "t", "name", "text"] (defScope (top 44)) := ⟨rfl, rfl, rfl, by decide +kernel, rfl, by decide +kernel, by decide +kernel⟩
abbrev Sp_text_changed (K : PySem.W.Frag) : Sp := spF K (α := Book × Int × Str × Str) (fun z => Small z.1 ∧ z.1.has z.2.2.1 = true ∧ Few z.1 z.2.1) (fun z => [.d (eB z.1), .d (.int z.2.1), .d (.str z.2.2.1), .d (.str z.2.2.2)]) (fun z => .d (eB (z.1.txt z.2.1 z.2.2.1 z.2.2.2)))
theorem kn_text_changed (W : Wld K mg w) : Kn P w K mg base "text_changed" ["book", "t", "name", "text"] 4 (Sp_text_changed K) := by
  refine kn_fun W.f_text_changed sc_text_changed (fun _ => rfl) (fun _ _ _ _ _ _ us hl => match us, hl with | [_, _, _, _], _ => rfl) fun f cdv A outer s H E hr => ⟨_, (pss_cons (ps_set (i := 4) sc_text_changed.nd rfl (by first | exact .inl rfl | exact .inr rfl) (pe_knK (K := K) (by rfl) (kn_side_of W) hr (by decide) (by rfl) (pa_cons (pv 0) (pa_cons (pv 2) pa_nil))))
    (pss_cons (ps_set (i := 5) sc_text_changed.nd rfl (by first | exact .inl rfl | exact .inr rfl) (pe_knK (K := K) (by rfl) (kn_rising_with W) hr (by decide) (by rfl) (pa_cons (pe_ix (ix_seqK (K := K) (by rfl)) (pe_knK (K := K) (by rfl) (kn_part_named W) hr (by decide) (by rfl) (pa_cons (pv 0) (pa_cons (pv 2) pa_nil))) pe_int (fun _ _ => rfl)) (pa_cons (pe_tup (pa_cons (pv 1) pa_nil)) pa_nil))))
    (pss_one (ps_ret (pe_knK (K := K) (by rfl) (kn_with_side W) hr (by decide) (by rfl) (pa_cons (pv 0) (pa_cons (pv 4) (pa_cons (pe_knK (K := K) (by rfl) (kn_parts_changed W) hr (by decide) (by rfl) (pa_cons (pe_ix (ix_seqK (K := K) (by rfl)) (pv 0) (pv 4) (fun _ _ => rfl)) (pa_cons (pe_tup (pa_cons (pv 2) (pa_cons (pv 3) (pa_cons (pv 5) pa_nil)))) pa_nil))) pa_nil)))))))), fun M z hz => ?_⟩
  obtain ⟨b, t, n, x⟩ := z
  obtain ⟨hs, hn, ⟨ts, h1, h2, h3, h4⟩⟩ : Small b ∧ b.has n = true ∧ Few b t := hz
  obtain ⟨hp, hpm, hpn⟩ := Book.pt_ok hs hn
  have hpl := hp.m
  refine ts_asg (te_callF (b, n) (ta_cons (te_var rfl) (ta_cons (te_var rfl) ta_nil)) ⟨hs, hn⟩ rfl rfl) ?_ rfl
  refine ts_asg (te_callF ((b.pt n).m, [t]) (ta_cons (te_op (te_callF (b, n) (ta_cons (te_var rfl) (ta_cons (te_var rfl) ta_nil)) ⟨hs, hn⟩ rfl rfl) te_int (rv_ixT rfl)) (ta_cons (te_tup (ds := [.int t]) (ta_cons (te_var rfl) ta_nil) (Nat.le_of_ble_eq_true rfl)) ta_nil)) ⟨by simp only [List.length_append, List.length_cons, List.length_nil]; omega, ts, h1, fun k hk => ?_⟩ rfl rfl) ?_ rfl
  · rcases List.mem_append.mp hk with h | h
    · exact h3 _ _ hpm k h
    · simp at h
      subst h
      exact h2
  exact ts_ret (te_callF (b, b.sd n, _) (ta_cons (te_var rfl) (ta_cons (te_var rfl) (ta_cons (te_callF (b.side (b.sd n), ⟨n, x, rise ((b.pt n).m ++ [t])⟩) (ta_cons (te_op (te_var rfl) (te_var rfl) (rv_ixT at_side)) (ta_cons (te_tup (ds := [_, _, _]) (ta_cons (te_var rfl) (ta_cons (te_var rfl) (ta_cons (te_var rfl) ta_nil))) (Nat.le_of_ble_eq_true rfl)) ta_nil)) (Nat.le_trans (hs.side _) (by decide)) rfl rfl) ta_nil))) trivial rfl rfl) rfl
theorem sc_change_done : FnScope ["book", "deed", "word", "t", "name", "text"] ["book", "deed"] (defScope (top 45)) := ⟨rfl, rfl, rfl, by decide +kernel, rfl, by decide +kernel, by decide +kernel⟩
abbrev Sp_change_done (K : PySem.W.Frag) : Sp := spF K (α := Book × Int × Str × Str) (fun z => Small z.1 ∧ Can z.1 (.change z.2.1 z.2.2.1 z.2.2.2)) (fun z => [.d (eB z.1), .d (eD (.change z.2.1 z.2.2.1 z.2.2.2))]) (fun z => .d (eB (z.1.dn (.change z.2.1 z.2.2.1 z.2.2.2))))
theorem kn_change_done (W : Wld K mg w) : Kn P w K mg base "change_done" ["book", "deed"] 5 (Sp_change_done K) := by
  refine kn_fun W.f_change_done sc_change_done (fun _ => rfl) (fun _ _ _ _ _ _ us hl => match us, hl with | [_, _], _ => rfl) fun f cdv A outer s H E hr => ⟨_, (pss_cons (ps_asg (pv 1) (pg_tupK (n := 4) (K := K) (by rfl) rfl (pgs_cons (pg_name (i := 2) sc_change_done.nd rfl (by first | exact .inl rfl | exact .inr rfl)) (pgs_cons (pg_name (i := 3) sc_change_done.nd rfl (by first | exact .inl rfl | exact .inr rfl)) (pgs_cons (pg_name (i := 4) sc_change_done.nd rfl (by first | exact .inl rfl | exact .inr rfl)) (pgs_cons (pg_name (i := 5) sc_change_done.nd rfl (by first | exact .inl rfl | exact .inr rfl)) pgs_nil))))))
    (pss_one (ps_ret (pe_knK (K := K) (by rfl) (kn_text_changed W) hr (by decide) (by rfl) (pa_cons (pv 0) (pa_cons (pv 3) (pa_cons (pv 4) (pa_cons (pv 5) pa_nil)))))))), fun M z hz => ?_⟩
  obtain ⟨b, t, n, x⟩ := z
  obtain ⟨hs, hn, hf⟩ : Small b ∧ b.has n = true ∧ Few b t := hz
  refine ts_unp (is := [2, 3, 4, 5]) rfl (te_var rfl) rfl rfl ?_
  exact ts_ret (te_callF (b, t, n, x) (ta_cons (te_var rfl) (ta_cons (te_var rfl) (ta_cons (te_var rfl) (ta_cons (te_var rfl) ta_nil)))) ⟨hs, hn, hf⟩ rfl rfl) rfl
theorem spans_in (x : Str) : ∀ i, ∀ q ∈ (spAt x i).1, q.2 ≤ i
  | 0, q, h => by cases h
  | i + 1, q, h => by
    have ih := spans_in x i
    unfold spAt spStep at h
    split at h
    · have := ih q h; omega
    · have := ih q h; omega
    · have := ih q h; omega
    · rcases List.mem_append.mp h with h | h
      · have := ih q h; omega
      · simp at h
        subst h
        exact Nat.le_succ _
theorem sc_word_done : FnScope ["book", "deed", "word", "t", "name", "k", "other", "text", "spans", "begin", "end"] ["book", "deed"] (defScope (top 46)) := ⟨rfl, rfl, rfl, by decide +kernel, rfl, by decide +kernel, by decide +kernel⟩
abbrev Sp_word_done (K : PySem.W.Frag) : Sp := spF K (α := Book × Int × Str × Nat × Str) (fun z => Small z.1 ∧ Can z.1 (.word z.2.1 z.2.2.1 z.2.2.2.1 z.2.2.2.2)) (fun z => [.d (eB z.1), .d (eD (.word z.2.1 z.2.2.1 z.2.2.2.1 z.2.2.2.2))]) (fun z => .d (eB (z.1.dn (.word z.2.1 z.2.2.1 z.2.2.2.1 z.2.2.2.2))))
theorem kn_word_done (W : Wld K mg w) : Kn P w K mg base "word_done" ["book", "deed"] 5 (Sp_word_done K) := by
  refine kn_fun W.f_word_done sc_word_done (fun _ => rfl) (fun _ _ _ _ _ _ us hl => match us, hl with | [_, _], _ => rfl) fun f cdv A outer s H E hr => ⟨_, (pss_cons (ps_asg (pv 1) (pg_tupK (n := 5) (K := K) (by rfl) rfl (pgs_cons (pg_name (i := 2) sc_word_done.nd rfl (by first | exact .inl rfl | exact .inr rfl)) (pgs_cons (pg_name (i := 3) sc_word_done.nd rfl (by first | exact .inl rfl | exact .inr rfl)) (pgs_cons (pg_name (i := 4) sc_word_done.nd rfl (by first | exact .inl rfl | exact .inr rfl)) (pgs_cons (pg_name (i := 5) sc_word_done.nd rfl (by first | exact .inl rfl | exact .inr rfl)) (pgs_cons (pg_name (i := 6) sc_word_done.nd rfl (by first | exact .inl rfl | exact .inr rfl)) pgs_nil)))))))
    (pss_cons (ps_set (i := 7) sc_word_done.nd rfl (by first | exact .inl rfl | exact .inr rfl) (pe_ix (ix_seqK (K := K) (by rfl)) (pe_knK (K := K) (by rfl) (kn_part_named W) hr (by decide) (by rfl) (pa_cons (pv 0) (pa_cons (pv 4) pa_nil))) pe_int (fun _ _ => rfl)))
    (pss_cons (ps_set (i := 8) sc_word_done.nd rfl (by first | exact .inl rfl | exact .inr rfl) (pe_knK (K := K) (by rfl) (kn_word_spans W) hr (by decide) (by rfl) (pa_cons (pv 7) pa_nil)))
    (pss_cons (ps_if (pt_cmpR op_geI (pv 5) (pe_callB (call_lenUK (K := K) (by rfl)) (by rfl) W.b_len (by decide +kernel) (pa_cons (pv 8) pa_nil)) (nomark _)) (pss_one ps_never) pss_nil)
    (pss_cons (ps_asg (pe_ix (ix_seqK (K := K) (by rfl)) (pv 8) (pv 5) (fun _ _ => rfl)) (pg_tupK (n := 2) (K := K) (by rfl) rfl (pgs_cons (pg_name (i := 9) sc_word_done.nd rfl (by first | exact .inl rfl | exact .inr rfl)) (pgs_cons (pg_name (i := 10) sc_word_done.nd rfl (by first | exact .inl rfl | exact .inr rfl)) pgs_nil))))
    (pss_one (ps_ret (pe_knK (K := K) (by rfl) (kn_text_changed W) hr (by decide) (by rfl) (pa_cons (pv 0) (pa_cons (pv 3) (pa_cons (pv 4) (pa_cons (pe_op (op_addUK (K := K) (by rfl)) (pe_op (op_addUK (K := K) (by rfl)) (pe_slice (sl_UK (K := K) (by rfl)) (pv 7) po_none (po_some (pv 9))) (pv 6)) (pe_slice (sl_UK (K := K) (by rfl)) (pv 7) (po_some (pv 10)) po_none)) pa_nil)))))))))))), fun M z hz => ?_⟩
  obtain ⟨b, t, n, i, o⟩ := z
  obtain ⟨hs, hn, hf, hi, hol⟩ : Small b ∧ b.has n = true ∧ Few b t ∧ i < (spans (b.pt n).x).length ∧ o.length ≤ 1000 := hz
  obtain ⟨hp, hpm, hpn⟩ := Book.pt_ok hs hn
  have hx := hp.x
  have hsi : (spans (b.pt n).x)[i]? = some (spans (b.pt n).x)[i] := List.getElem?_eq_getElem hi
  generalize (spans (b.pt n).x)[i] = q at hsi
  obtain ⟨q1, q2⟩ := q
  refine ts_unp (is := [2, 3, 4, 5, 6]) rfl (te_var rfl) rfl rfl ?_
  refine ts_asg (te_op (te_callF (b, n) (ta_cons (te_var rfl) (ta_cons (te_var rfl) ta_nil)) ⟨hs, hn⟩ rfl rfl) te_int (rv_ixT rfl)) ?_ rfl
  refine ts_asg (te_callF (b.pt n).x (ta_cons (te_var rfl) ta_nil) (Nat.le_trans hx (by decide)) rfl rfl) ?_ rfl
  refine ts_skip (tt_B (te_is (te_op (te_var rfl) (te_cb (ta_cons (te_var rfl) ta_nil) (rc_lenL rfl)) rv_ge) ?_)) ?_
  · have hge : ¬ ((List.map (fun q => PyData.tuple [.int q.1, .int q.2]) (spans (b.pt n).x)).length : Int) ≤ (i : Int) := by rw [List.length_map]; omega
    exact congrArg (fun k => Sv.d (.bool k)) (decide_eq_false hge)
  refine ts_unp (is := [9, 10]) (ds := [.int q1, .int q2]) rfl (te_op (te_var rfl) (te_var rfl) (rv_ixL rfl ?_)) rfl rfl ?_
  · have e : ((spans (b.pt n).x).map fun q => PyData.tuple [.int q.1, .int q.2])[i]? = some (.tuple [.int q1, .int q2]) := by rw [List.getElem?_map, hsi]; rfl
    exact at_nat e
  have c1 := cutS_len (b.pt n).x none (some (q1 : Int))
  have c2 := cutS_len (b.pt n).x (some (q2 : Int)) none
  refine ts_ret (te_callF (b, t, n, cutS (b.pt n).x none (some (q1 : Int)) ++ o ++ cutS (b.pt n).x (some (q2 : Int)) none) (ta_cons (te_var rfl) (ta_cons (te_var rfl) (ta_cons (te_var rfl) (ta_cons (te_op (te_op (te_sl (te_var rfl) to_none (to_some (te_var rfl)) (rsl_S (show (b.pt n).x.length ≤ 100000 by omega))) (te_var rfl) (rv_addS (show (cutS (b.pt n).x none (some (q1 : Int))).length + o.length ≤ 100000 by omega))) (te_sl (te_var rfl) (to_some (te_var rfl)) to_none (rsl_S (show (b.pt n).x.length ≤ 100000 by omega))) (rv_addS (show (cutS (b.pt n).x none (some (q1 : Int)) ++ o).length + (cutS (b.pt n).x (some (q2 : Int)) none).length ≤ 100000 from ?_))) ta_nil)))) ⟨hs, hn, hf⟩ rfl rfl) ?_
  · have : (cutS (b.pt n).x none (some (q1 : Int)) ++ o).length = (cutS (b.pt n).x none (some (q1 : Int))).length + o.length := by
      show ((cutS (b.pt n).x none (some (q1 : Int))).cps ++ o.cps).size = _
      rw [Array.size_append]
      rfl
    omega
  · show _ = Sv.d (eB (b.dn (.word t n i o)))
    simp only [Book.dn, hsi]
theorem sc_own_link : FnScope ["book", "name", "link"] ["book", "name"] (defScope (top 48)) := ⟨rfl, rfl, rfl, by decide +kernel, rfl, by decide +kernel, by decide +kernel⟩
abbrev Sp_own_link (K : PySem.W.Frag) : Sp := spF K (α := Book × Str) (fun z => Small z.1 ∧ z.1.has z.2 = true ∧ (z.1.lk z.2).isSome = true) (fun z => [.d (eB z.1), .d (.str z.2)]) (fun z => .d (oL (z.1.lk z.2)))
theorem kn_own_link (W : Wld K mg w) : Kn P w K mg base "own_link" ["book", "name"] 4 (Sp_own_link K) := by
  refine kn_fun W.f_own_link sc_own_link (fun _ => rfl) (fun _ _ _ _ _ _ us hl => match us, hl with | [_, _], _ => rfl) fun f cdv A outer s H E hr => ⟨_, (pss_cons (ps_set (i := 2) sc_own_link.nd rfl (by first | exact .inl rfl | exact .inr rfl) (pe_knK (K := K) (by rfl) (kn_link_of W) hr (by decide) (by rfl) (pa_cons (pv 0) (pa_cons (pv 1) pa_nil))))
    (pss_cons (ps_if (pt_cmpR op_isNo (pv 2) pe_non (nomark _)) (pss_one ps_never) pss_nil)
    (pss_one (ps_ret (pv 2))))), fun M z hz => ?_⟩
  obtain ⟨b, n⟩ := z
  obtain ⟨hs, hn, hl⟩ : Small b ∧ b.has n = true ∧ (b.lk n).isSome = true := hz
  refine ts_asg (te_callF (b, n) (ta_cons (te_var rfl) (ta_cons (te_var rfl) ta_nil)) ⟨hs, hn⟩ rfl rfl) ?_ rfl
  obtain ⟨l, e⟩ := Option.isSome_iff_exists.mp hl
  refine ts_skip (tt_B (te_is (te_op (te_var rfl) te_non rv_isN) ?_)) (ts_ret (te_var rfl) rfl)
  simp only
  rw [e]
  rfl
theorem cut2' {a b c d x y : PyData} : cutD [a, b, c, d] none (some 2) ++ [x, y] = [a, b, x, y] := rfl
theorem sc_loose_done : FnScope ["book", "deed", "link"] ["book", "deed"] (defScope (top 49)) := ⟨rfl, rfl, rfl, by decide +kernel, rfl, by decide +kernel, by decide +kernel⟩
abbrev Sp_loose_done (K : PySem.W.Frag) : Sp := spF K (α := Book × Int × Str) (fun z => Small z.1 ∧ Can z.1 (.loose z.2.1 z.2.2)) (fun z => [.d (eB z.1), .d (eD (.loose z.2.1 z.2.2))]) (fun z => .d (eB (z.1.dn (.loose z.2.1 z.2.2))))
theorem kn_loose_done (W : Wld K mg w) : Kn P w K mg base "loose_done" ["book", "deed"] 5 (Sp_loose_done K) := by
  refine kn_fun W.f_loose_done sc_loose_done (fun _ => rfl) (fun _ _ _ _ _ _ us hl => match us, hl with | [_, _], _ => rfl) fun f cdv A outer s H E hr => ⟨_, (pss_cons (ps_set (i := 2) sc_loose_done.nd rfl (by first | exact .inl rfl | exact .inr rfl) (pe_knK (K := K) (by rfl) (kn_own_link W) hr (by decide) (by rfl) (pa_cons (pv 0) (pa_cons (pe_ix (ix_seqK (K := K) (by rfl)) (pv 1) pe_int (fun _ _ => rfl)) pa_nil))))
    (pss_one (ps_ret (pe_op (op_addUK (K := K) (by rfl)) (pe_slice (sl_UK (K := K) (by rfl)) (pv 0) po_none (po_some pe_int)) (pe_tup (pa_cons (pe_knK (K := K) (by rfl) (kn_links_exchanged W) hr (by decide) (by rfl) (pa_cons (pe_ix (ix_seqK (K := K) (by rfl)) (pv 0) pe_int (fun _ _ => rfl)) (pa_cons (pv 2) (pa_cons pe_non pa_nil)))) (pa_cons (pe_ix (ix_seqK (K := K) (by rfl)) (pv 0) pe_int (fun _ _ => rfl)) pa_nil))))))), fun M z hz => ?_⟩
  obtain ⟨b, t, n⟩ := z
  obtain ⟨hs, hn, hl⟩ : Small b ∧ b.has n = true ∧ (b.lk n).isSome = true := hz
  refine ts_asg (te_callF (b, n) (ta_cons (te_var rfl) (ta_cons (te_op (te_var rfl) te_int (rv_ixT rfl)) ta_nil)) ⟨hs, hn, hl⟩ rfl rfl) ?_ rfl
  exact ts_ret (te_op (te_sl (te_var rfl) to_none (to_some te_int) rsl_T) (te_tup (ds := [_, _]) (ta_cons (te_callF (b.k, b.lk n, none) (ta_cons (te_op (te_var rfl) te_int (rv_ixT rfl)) (ta_cons (te_var rfl) (ta_cons te_non ta_nil))) ⟨Nat.le_trans hs.k (by decide), hs.lk, fun l e => hs.lk l (Book.lk_mem e).1⟩ rfl rfl) (ta_cons (te_op (te_var rfl) te_int (rv_ixT rfl)) ta_nil)) (Nat.le_of_ble_eq_true rfl)) (rv_addT (Nat.le_of_ble_eq_true rfl))) rfl
theorem sc_step_done : FnScope ["book", "deed", "link"] ["book", "deed"] (defScope (top 50)) := ⟨rfl, rfl, rfl, by decide +kernel, rfl, by decide +kernel, by decide +kernel⟩
abbrev Sp_step_done (K : PySem.W.Frag) : Sp := spF K (α := Book × Int × Str) (fun z => Small z.1 ∧ Can z.1 (.step z.2.1 z.2.2)) (fun z => [.d (eB z.1), .d (eD (.step z.2.1 z.2.2))]) (fun z => .d (eB (z.1.dn (.step z.2.1 z.2.2))))
theorem kn_step_done (W : Wld K mg w) : Kn P w K mg base "step_done" ["book", "deed"] 5 (Sp_step_done K) := by
  refine kn_fun W.f_step_done sc_step_done (fun _ => rfl) (fun _ _ _ _ _ _ us hl => match us, hl with | [_, _], _ => rfl) fun f cdv A outer s H E hr => ⟨_, (pss_cons (ps_set (i := 2) sc_step_done.nd rfl (by first | exact .inl rfl | exact .inr rfl) (pe_knK (K := K) (by rfl) (kn_own_link W) hr (by decide) (by rfl) (pa_cons (pv 0) (pa_cons (pe_ix (ix_seqK (K := K) (by rfl)) (pv 1) pe_int (fun _ _ => rfl)) pa_nil))))
    (pss_one (ps_ret (pe_op (op_addUK (K := K) (by rfl)) (pe_slice (sl_UK (K := K) (by rfl)) (pv 0) po_none (po_some pe_int)) (pe_tup (pa_cons (pe_knK (K := K) (by rfl) (kn_links_exchanged W) hr (by decide) (by rfl) (pa_cons (pe_ix (ix_seqK (K := K) (by rfl)) (pv 0) pe_int (fun _ _ => rfl)) (pa_cons (pv 2) (pa_cons (pe_op (op_addUK (K := K) (by rfl)) (pe_slice (sl_UK (K := K) (by rfl)) (pv 2) po_none (po_some pe_int)) (pe_tup (pa_cons (pe_ix (ix_seqK (K := K) (by rfl)) (pv 1) pe_int (fun _ _ => rfl)) (pa_cons (pe_tup (pa_cons (pe_tup pa_nil) (pa_cons (pe_tup pa_nil) pa_nil))) pa_nil)))) pa_nil)))) (pa_cons (pe_ix (ix_seqK (K := K) (by rfl)) (pv 0) pe_int (fun _ _ => rfl)) pa_nil))))))), fun M z hz => ?_⟩
  obtain ⟨b, t, n⟩ := z
  obtain ⟨hs, hn, hl⟩ : Small b ∧ b.has n = true ∧ (b.lk n).isSome = true := hz
  obtain ⟨l, e⟩ := Option.isSome_iff_exists.mp hl
  refine ts_asg (s := .d (eL l)) (te_is (te_callF (b, n) (ta_cons (te_var rfl) (ta_cons (te_op (te_var rfl) te_int (rv_ixT rfl)) ta_nil)) ⟨hs, hn, hl⟩ rfl rfl) (by simp only; rw [e]; rfl)) ?_ rfl
  refine ts_ret (te_op (te_sl (te_var rfl) to_none (to_some te_int) rsl_T) (te_tup (ds := [_, _]) (ta_cons (te_callF (b.k, some l, some { l with t := t, la := [], lb := [] }) (ta_cons (te_op (te_var rfl) te_int (rv_ixT rfl)) (ta_cons (te_var rfl) (ta_cons (te_is (s2 := .d (eL { l with t := t, la := [], lb := [] })) (te_op (te_sl (te_var rfl) to_none (to_some te_int) rsl_T) (te_tup (ds := [_, _]) (ta_cons (te_op (te_var rfl) te_int (rv_ixT rfl)) (ta_cons (te_tup (ds := [eIs [], eIs []]) (ta_cons (te_tup (ds := []) ta_nil (Nat.le_of_ble_eq_true rfl)) (ta_cons (te_tup (ds := []) ta_nil (Nat.le_of_ble_eq_true rfl)) ta_nil)) (Nat.le_of_ble_eq_true rfl)) ta_nil)) (Nat.le_of_ble_eq_true rfl)) (rv_addT (Nat.le_of_ble_eq_true rfl))) rfl) ta_nil))) ⟨Nat.le_trans hs.k (by decide), hs.lk, fun l' e' => by cases e'; exact hs.lk l (Book.lk_mem e).1⟩ rfl rfl) (ta_cons (te_op (te_var rfl) te_int (rv_ixT rfl)) ta_nil)) (Nat.le_of_ble_eq_true rfl)) (rv_addT (Nat.le_of_ble_eq_true rfl))) ?_
  show _ = Sv.d (eB (b.dn (.step t n)))
  unfold Book.dn
  simp only [e]
  rfl
theorem sc_alone_done : FnScope ["book", "deed", "name"] ["book", "deed"] (defScope (top 51)) := ⟨rfl, rfl, rfl, by decide +kernel, rfl, by decide +kernel, by decide +kernel⟩
abbrev Sp_alone_done (K : PySem.W.Frag) : Sp := spF K (α := Book × Int × Str) (fun z => Small z.1 ∧ Can z.1 (.alone z.2.1 z.2.2)) (fun z => [.d (eB z.1), .d (eD (.alone z.2.1 z.2.2))]) (fun z => .d (eB (z.1.dn (.alone z.2.1 z.2.2))))
theorem kn_alone_done (W : Wld K mg w) : Kn P w K mg base "alone_done" ["book", "deed"] 4 (Sp_alone_done K) := by
  refine kn_fun W.f_alone_done sc_alone_done (fun _ => rfl) (fun _ _ _ _ _ _ us hl => match us, hl with | [_, _], _ => rfl) fun f cdv A outer s H E hr => ⟨_, (pss_cons (ps_set (i := 2) sc_alone_done.nd rfl (by first | exact .inl rfl | exact .inr rfl) (pe_ix (ix_seqK (K := K) (by rfl)) (pv 1) pe_int (fun _ _ => rfl)))
    (pss_cons (ps_if (PW.pt (pw_or (pt_cmpR op_notNo (pe_knK (K := K) (by rfl) (kn_link_of W) hr (by decide) (by rfl) (pa_cons (pv 0) (pa_cons (pv 2) pa_nil))) pe_non (nomark _)) (pw_or1 (pt_val (pe_knK (K := K) (by rfl) (kn_is_alone W) hr (by decide) (by rfl) (pa_cons (pv 0) (pa_cons (pv 2) pa_nil))))))) (pss_one ps_never) pss_nil)
    (pss_one (ps_ret (pe_op (op_addUK (K := K) (by rfl)) (pe_slice (sl_UK (K := K) (by rfl)) (pv 0) po_none (po_some pe_int)) (pe_tup (pa_cons (pe_knK (K := K) (by rfl) (kn_names_with W) hr (by decide) (by rfl) (pa_cons (pe_ix (ix_seqK (K := K) (by rfl)) (pv 0) pe_int (fun _ _ => rfl)) (pa_cons (pv 2) pa_nil))) pa_nil))))))), fun M z hz => ?_⟩
  obtain ⟨b, t, n⟩ := z
  obtain ⟨hs, hn, hl, ha⟩ : Small b ∧ b.has n = true ∧ b.lk n = none ∧ n ∉ b.z := hz
  refine ts_asg (te_op (te_var rfl) te_int (rv_ixT rfl)) ?_ rfl
  refine ts_skip (tt_or (a := false) (b := false) (tt_test (te_is (te_op (te_callF (b, n) (ta_cons (te_var rfl) (ta_cons (te_var rfl) ta_nil)) ⟨hs, hn⟩ rfl rfl) te_non rv_notN) ?_)) fun _ => tt_B (te_is (te_callF (b, n) (ta_cons (te_var rfl) (ta_cons (te_var rfl) ta_nil)) trivial rfl rfl) ?_)) ?_
  · simp only; rw [hl]; rfl
  · simp only; rw [decide_eq_false ha]
  exact ts_ret (te_op (te_sl (te_var rfl) to_none (to_some te_int) rsl_T) (te_tup (ds := [_]) (ta_cons (te_callF (b.z, n) (ta_cons (te_op (te_var rfl) te_int (rv_ixT rfl)) (ta_cons (te_var rfl) ta_nil)) (Nat.le_trans hs.z (by decide)) rfl rfl) ta_nil) (Nat.le_of_ble_eq_true rfl)) (rv_addT (Nat.le_of_ble_eq_true rfl))) rfl
theorem sc_lack_done : FnScope ["book", "deed", "name"] ["book", "deed"] (defScope (top 52)) := ⟨rfl, rfl, rfl, by decide +kernel, rfl, by decide +kernel, by decide +kernel⟩
abbrev Sp_lack_done (K : PySem.W.Frag) : Sp := spF K (α := Book × Int × Str) (fun z => Small z.1 ∧ Can z.1 (.lack z.2.1 z.2.2)) (fun z => [.d (eB z.1), .d (eD (.lack z.2.1 z.2.2))]) (fun z => .d (eB (z.1.dn (.lack z.2.1 z.2.2))))
theorem kn_lack_done (W : Wld K mg w) : Kn P w K mg base "lack_done" ["book", "deed"] 4 (Sp_lack_done K) := by
  refine kn_fun W.f_lack_done sc_lack_done (fun _ => rfl) (fun _ _ _ _ _ _ us hl => match us, hl with | [_, _], _ => rfl) fun f cdv A outer s H E hr => ⟨_, (pss_cons (ps_set (i := 2) sc_lack_done.nd rfl (by first | exact .inl rfl | exact .inr rfl) (pe_ix (ix_seqK (K := K) (by rfl)) (pv 1) pe_int (fun _ _ => rfl)))
    (pss_cons (ps_if (pt_not (pt_val (pe_knK (K := K) (by rfl) (kn_has_part W) hr (by decide) (by rfl) (pa_cons (pv 0) (pa_cons (pv 2) pa_nil))))) (pss_one ps_never) pss_nil)
    (pss_cons (ps_if (pt_not (pt_val (pe_knK (K := K) (by rfl) (kn_is_alone W) hr (by decide) (by rfl) (pa_cons (pv 0) (pa_cons (pv 2) pa_nil))))) (pss_one ps_never) pss_nil)
    (pss_one (ps_ret (pe_op (op_addUK (K := K) (by rfl)) (pe_slice (sl_UK (K := K) (by rfl)) (pv 0) po_none (po_some pe_int)) (pe_tup (pa_cons (pe_knK (K := K) (by rfl) (kn_names_without W) hr (by decide) (by rfl) (pa_cons (pe_ix (ix_seqK (K := K) (by rfl)) (pv 0) pe_int (fun _ _ => rfl)) (pa_cons (pv 2) pa_nil))) pa_nil)))))))), fun M z hz => ?_⟩
  obtain ⟨b, t, n⟩ := z
  obtain ⟨hs, hn, ha⟩ : Small b ∧ b.has n = true ∧ n ∈ b.z := hz
  refine ts_asg (te_op (te_var rfl) te_int (rv_ixT rfl)) ?_ rfl
  refine ts_skip (tt_is (tt_not (tt_B (te_callF (b, n) (ta_cons (te_var rfl) (ta_cons (te_var rfl) ta_nil)) hs rfl rfl))) (by simp only; rw [hn]; rfl)) ?_
  refine ts_skip (tt_is (tt_not (tt_B (te_callF (b, n) (ta_cons (te_var rfl) (ta_cons (te_var rfl) ta_nil)) trivial rfl rfl))) (by simp only; rw [decide_eq_true ha]; rfl)) ?_
  exact ts_ret (te_op (te_sl (te_var rfl) to_none (to_some te_int) rsl_T) (te_tup (ds := [_]) (ta_cons (te_callF (b.z, n) (ta_cons (te_op (te_var rfl) te_int (rv_ixT rfl)) (ta_cons (te_var rfl) ta_nil)) (Nat.le_trans hs.z (by decide)) rfl rfl) ta_nil) (Nat.le_of_ble_eq_true rfl)) (rv_addT (Nat.le_of_ble_eq_true rfl))) rfl
end Tw
namespace Tw
open PySem PySem.Spec PyProof.Rows L2
local macro_rules
  | `(tactic| walk_at "rv") => `(tactic| first
    | exact rv_ixT rfl | exact rv_addI | exact rv_sub | exact rv_ixL rfl rfl | exact rv_ixM rfl
    | exact rsl_T | exact rsl_L rfl
    | exact rv_inStrL rfl | exact rv_inStrT | exact rv_ninStrL rfl | exact rv_ninIntL rfl | exact rv_eqStr | exact rv_neStr | exact rv_eqInt | exact rv_neInt | exact rv_eqBl | exact rv_neBl
    | exact rv_lt | exact rv_gt | exact rv_ge | exact rv_leI | exact rv_leS | exact rv_isN | exact rv_notN
    | exact rc_lenT | exact rc_lenL rfl | exact rc_intB | exact rc_listT | exact rc_listL rfl | exact rc_tupleL rfl | exact rc_tupleT)
local macro_rules
  | `(tactic| walk_at "e1") => `(tactic| first
    | exact te_var rfl | exact te_int | exact te_str | exact te_bl | exact te_non | exact ta_nil | exact to_none
    | apply to_some | apply ta_cons | apply te_op | apply te_cb | apply te_sl
    | apply tt_B | apply tt_test | walk_at "rv")
local macro_rules
  | `(tactic| walk_at "e") => `(tactic| repeat walk_at "e1")

variable {P : Program} {w : World} {K : PySem.W.Frag} {mg : Str → Option Value} {base : Heap}
theorem rise_len {l : List Int} {ts : List Int} (h : ∀ k ∈ l, k ∈ ts) : (rise l).length ≤ ts.length := nodup_le (rise_nodup l) fun k hk => h k (rise_mem.mp hk)
theorem str_app_len (a b : Str) : (a ++ b).length = a.length + b.length := by
  show (a.cps ++ b.cps).size = _
  rw [Array.size_append]
  rfl
theorem sc_join_done : FnScope ["book", "deed", "word", "t", "name", "other", "side", "one", "two", "parts", "made"] ["book", "deed"] (defScope (top 42)) := ⟨rfl, rfl, rfl, by decide +kernel, rfl, by decide +kernel, by decide +kernel⟩
abbrev Sp_join_done (K : PySem.W.Frag) : Sp := spF K (α := Book × Int × Str × Str) (fun z => Small z.1 ∧ Can z.1 (.join z.2.1 z.2.2.1 z.2.2.2)) (fun z => [.d (eB z.1), .d (eD (.join z.2.1 z.2.2.1 z.2.2.2))]) (fun z => .d (eB (z.1.dn (.join z.2.1 z.2.2.1 z.2.2.2))))
theorem kn_join_done (W : Wld K mg w) : Kn P w K mg base "join_done" ["book", "deed"] 4 (Sp_join_done K) := by
  refine kn_fun W.f_join_done sc_join_done (fun _ => rfl) (fun _ _ _ _ _ _ us hl => match us, hl with | [_, _], _ => rfl) fun f cdv A outer s H E hr => ⟨_, (pss_cons (ps_asg (pv 1) (pg_tupK (n := 4) (K := K) (by rfl) rfl (pgs_cons (pg_name (i := 2) sc_join_done.nd rfl (by first | exact .inl rfl | exact .inr rfl)) (pgs_cons (pg_name (i := 3) sc_join_done.nd rfl (by first | exact .inl rfl | exact .inr rfl)) (pgs_cons (pg_name (i := 4) sc_join_done.nd rfl (by first | exact .inl rfl | exact .inr rfl)) (pgs_cons (pg_name (i := 5) sc_join_done.nd rfl (by first | exact .inl rfl | exact .inr rfl)) pgs_nil))))))
    (pss_cons (ps_set (i := 6) sc_join_done.nd rfl (by first | exact .inl rfl | exact .inr rfl) (pe_knK (K := K) (by rfl) (kn_side_of W) hr (by decide) (by rfl) (pa_cons (pv 0) (pa_cons (pv 4) pa_nil))))
    (pss_cons (ps_if (PW.pt (pw_or (pt_cmpR (op_neUK (K := K) (by rfl) hr.units) (pe_knK (K := K) (by rfl) (kn_side_of W) hr (by decide) (by rfl) (pa_cons (pv 0) (pa_cons (pv 5) pa_nil))) (pv 6) (nomark _)) (pw_or1 (pt_cmpR (op_eqUK (K := K) (by rfl) hr.units) (pv 4) (pv 5) (nomark _))))) (pss_one ps_never) pss_nil)
    (pss_cons (ps_if (PW.pt (pw_or (pt_cmpR (op_neUK (K := K) (by rfl) hr.units) (pe_knK (K := K) (by rfl) (kn_link_of W) hr (by decide) (by rfl) (pa_cons (pv 0) (pa_cons (pv 4) pa_nil))) (pe_knK (K := K) (by rfl) (kn_link_of W) hr (by decide) (by rfl) (pa_cons (pv 0) (pa_cons (pv 5) pa_nil))) (nomark _)) (pw_or1 (pt_cmpR (op_neUK (K := K) (by rfl) hr.units) (pe_knK (K := K) (by rfl) (kn_is_alone W) hr (by decide) (by rfl) (pa_cons (pv 0) (pa_cons (pv 4) pa_nil))) (pe_knK (K := K) (by rfl) (kn_is_alone W) hr (by decide) (by rfl) (pa_cons (pv 0) (pa_cons (pv 5) pa_nil))) (nomark _))))) (pss_one ps_never) pss_nil)
    (pss_cons (ps_par (i := 7) (j := 8) (by rfl) sc_join_done.nd rfl rfl (by decide) rfl rfl (pa_cons (pe_knK (K := K) (by rfl) (kn_part_named W) hr (by decide) (by rfl) (pa_cons (pv 0) (pa_cons (pv 4) pa_nil))) (pa_cons (pe_knK (K := K) (by rfl) (kn_part_named W) hr (by decide) (by rfl) (pa_cons (pv 0) (pa_cons (pv 5) pa_nil))) pa_nil)) (by rfl))
    (pss_cons (ps_set (i := 9) sc_join_done.nd rfl (by first | exact .inl rfl | exact .inr rfl) (pe_knK (K := K) (by rfl) (kn_parts_changed W) hr (by decide) (by rfl) (pa_cons (pe_ix (ix_seqK (K := K) (by rfl)) (pv 0) (pv 6) (fun _ _ => rfl)) (pa_cons (pe_tup (pa_cons (pv 4) (pa_cons (pe_op (op_addUK (K := K) (by rfl)) (pe_ix (ix_seqK (K := K) (by rfl)) (pv 7) pe_int (fun _ _ => rfl)) (pe_ix (ix_seqK (K := K) (by rfl)) (pv 8) pe_int (fun _ _ => rfl))) (pa_cons (pe_knK (K := K) (by rfl) (kn_rising_with W) hr (by decide) (by rfl) (pa_cons (pe_ix (ix_seqK (K := K) (by rfl)) (pv 7) pe_int (fun _ _ => rfl)) (pa_cons (pe_ix (ix_seqK (K := K) (by rfl)) (pv 8) pe_int (fun _ _ => rfl)) pa_nil))) pa_nil)))) pa_nil))))
    (pss_cons (ps_set (i := 10) sc_join_done.nd rfl (by first | exact .inl rfl | exact .inr rfl) (pe_knK (K := K) (by rfl) (kn_with_side W) hr (by decide) (by rfl) (pa_cons (pv 0) (pa_cons (pv 6) (pa_cons (pe_knK (K := K) (by rfl) (kn_parts_without W) hr (by decide) (by rfl) (pa_cons (pv 9) (pa_cons (pv 5) pa_nil))) pa_nil)))))
    (pss_one (ps_ret (pe_op (op_addUK (K := K) (by rfl)) (pe_slice (sl_UK (K := K) (by rfl)) (pv 10) po_none (po_some pe_int)) (pe_tup (pa_cons (pe_knK (K := K) (by rfl) (kn_links_fewer W) hr (by decide) (by rfl) (pa_cons (pe_ix (ix_seqK (K := K) (by rfl)) (pv 0) pe_int (fun _ _ => rfl)) (pa_cons (pv 6) (pa_cons (pv 5) pa_nil)))) (pa_cons (pe_knK (K := K) (by rfl) (kn_names_without W) hr (by decide) (by rfl) (pa_cons (pe_ix (ix_seqK (K := K) (by rfl)) (pv 0) pe_int (fun _ _ => rfl)) (pa_cons (pv 5) pa_nil))) pa_nil))))))))))))), fun M z hz => ?_⟩
  obtain ⟨b, t, n, o⟩ := z
  obtain ⟨hs, hn, ho, hsd, hne, hlk, hz, ⟨ts, h1, h2, h3, h4⟩⟩ : Small b ∧ b.has n = true ∧ b.has o = true ∧ b.sd o = b.sd n ∧ n ≠ o ∧ b.lk n = b.lk o ∧ (n ∈ b.z ↔ o ∈ b.z) ∧ Few b t := hz
  obtain ⟨hp, hpm, hpn⟩ := Book.pt_ok hs hn
  obtain ⟨hq, hqm, hqn⟩ := Book.pt_ok hs ho
  have hx := hp.x
  have hy := hq.x
  have hmx := hp.m
  have hmy := hq.m
  refine ts_unp (is := [2, 3, 4, 5]) rfl (te_var rfl) rfl rfl ?_
  refine ts_asg (te_callF (b, n) (ta_cons (te_var rfl) (ta_cons (te_var rfl) ta_nil)) ⟨hs, hn⟩ rfl rfl) ?_ rfl
  refine ts_skip (tt_or (a := false) (b := false) (tt_test (te_is (te_op (te_callF (b, o) (ta_cons (te_var rfl) (ta_cons (te_var rfl) ta_nil)) ⟨hs, ho⟩ rfl rfl) (te_var rfl) rv_neInt) ?_)) fun _ => tt_test (te_is (te_op (te_var rfl) (te_var rfl) rv_eqStr) (by rw [decide_eq_false hne]))) ?_
  · simp only; rw [hsd]; simp
  refine ts_skip (tt_or (a := false) (b := false) (tt_test (te_is (te_op (te_callF (b, n) (ta_cons (te_var rfl) (ta_cons (te_var rfl) ta_nil)) ⟨hs, hn⟩ rfl rfl) (te_callF (b, o) (ta_cons (te_var rfl) (ta_cons (te_var rfl) ta_nil)) ⟨hs, ho⟩ rfl rfl) (rv_neS rfl rfl (shp_oL fun l e => hs.lk l (Book.lk_mem e).1) (shp_oL fun l e => hs.lk l (Book.lk_mem e).1))) ?_)) fun _ => tt_test (te_is (te_op (te_callF (b, n) (ta_cons (te_var rfl) (ta_cons (te_var rfl) ta_nil)) trivial rfl rfl) (te_callF (b, o) (ta_cons (te_var rfl) (ta_cons (te_var rfl) ta_nil)) trivial rfl rfl) rv_neBl) ?_)) ?_
  · simp only
    rw [hlk]
    cases h : b.lk o with
    | none => rfl
    | some l => rw [show oL (some l) = eL l from rfl, show PyData.eqv (eL l) (eL l) = true from Enc.rfl' l]; rfl
  · simp [hz]
  refine ts_par (ta_cons (te_callF (b, n) (ta_cons (te_var rfl) (ta_cons (te_var rfl) ta_nil)) ⟨hs, hn⟩ rfl rfl) (ta_cons (te_callF (b, o) (ta_cons (te_var rfl) (ta_cons (te_var rfl) ta_nil)) ⟨hs, ho⟩ rfl rfl) ta_nil)) ?_ rfl rfl
  have hsl := hs.side (b.sd n)
  refine ts_asg (te_callF (b.side (b.sd n), ⟨n, (b.pt n).x ++ (b.pt o).x, rise ((b.pt n).m ++ (b.pt o).m)⟩) (ta_cons (te_op (te_var rfl) (te_var rfl) (rv_ixT at_side)) (ta_cons (te_tup (ds := [.str n, .str ((b.pt n).x ++ (b.pt o).x), eIs (rise ((b.pt n).m ++ (b.pt o).m))]) (ta_cons (te_var rfl) (ta_cons (te_op (te_op (te_var rfl) te_int (rv_ixT rfl)) (te_op (te_var rfl) te_int (rv_ixT rfl)) (rv_addS (show (b.pt n).x.length + (b.pt o).x.length ≤ 100000 by omega))) (ta_cons (te_callF ((b.pt n).m, (b.pt o).m) (ta_cons (te_op (te_var rfl) te_int (rv_ixT rfl)) (ta_cons (te_op (te_var rfl) te_int (rv_ixT rfl)) ta_nil)) ⟨by simp only [List.length_append]; omega, ts, h1, fun k hk => ?_⟩ rfl rfl) ta_nil))) (Nat.le_of_ble_eq_true rfl)) ta_nil)) (Nat.le_trans hsl (by decide)) rfl rfl) ?_ rfl
  · rcases List.mem_append.mp hk with h | h
    · exact h3 _ _ hpm k h
    · exact h3 _ _ hqm k h
  refine ts_asg (te_callF (b, b.sd n, _) (ta_cons (te_var rfl) (ta_cons (te_var rfl) (ta_cons (te_callF (chgP (b.side (b.sd n)) ⟨n, (b.pt n).x ++ (b.pt o).x, rise ((b.pt n).m ++ (b.pt o).m)⟩, o) (ta_cons (te_var rfl) (ta_cons (te_var rfl) ta_nil)) (by show (chgP _ _).length ≤ 1000; rw [chgP_le]; omega) rfl rfl) ta_nil))) trivial rfl rfl) ?_ rfl
  exact ts_ret (te_op (te_sl (te_var rfl) to_none (to_some te_int) rsl_T) (te_tup (ds := [_, _]) (ta_cons (te_callF (b.k, b.sd n, o) (ta_cons (te_op (te_var rfl) te_int (rv_ixT rfl)) (ta_cons (te_var rfl) (ta_cons (te_var rfl) ta_nil))) ⟨Nat.le_trans hs.k (by decide), hs.lk⟩ rfl rfl) (ta_cons (te_callF (b.z, o) (ta_cons (te_op (te_var rfl) te_int (rv_ixT rfl)) (ta_cons (te_var rfl) ta_nil)) (Nat.le_trans hs.z (by decide)) rfl rfl) ta_nil)) (Nat.le_of_ble_eq_true rfl)) (rv_addT (Nat.le_of_ble_eq_true rfl))) rfl
theorem eqv_ints_self (l : List Int) : PyData.eqv (.list (l.map PyData.int)) (.list (l.map PyData.int)) = true := by
  have e : PyData.eqvAll (l.map PyData.int) (l.map PyData.int) = true := eqvAll_self (β := Int) l
  rw [PyData.eqv]
  exact e
theorem rep_one {α : Type} (k : Nat) (x : α) : (List.replicate k [x]).flatten = List.replicate k x := by
  induction k with
  | zero => rfl
  | succ k ih => rw [List.replicate_succ, List.flatten_cons, ih]; rfl
theorem sc_link_done : FnScope ["book", "deed", "word", "t", "ones", "others", "sides", "link", "name"] ["book", "deed"] (defScope (top 47)) := ⟨rfl, rfl, rfl, by decide +kernel, rfl, by decide +kernel, by decide +kernel⟩
abbrev Sp_link_done (K : PySem.W.Frag) : Sp := spF K (α := Book × Int × List Str × List Str) (fun z => Small z.1 ∧ Can z.1 (.link z.2.1 z.2.2.1 z.2.2.2)) (fun z => [.d (eB z.1), .d (eD (.link z.2.1 z.2.2.1 z.2.2.2))]) (fun z => .d (eB (z.1.dn (.link z.2.1 z.2.2.1 z.2.2.2))))
theorem kn_link_done (W : Wld K mg w) : Kn P w K mg base "link_done" ["book", "deed"] 5 (Sp_link_done K) := by
  refine kn_fun W.f_link_done sc_link_done (fun _ => rfl) (fun _ _ _ _ _ _ us hl => match us, hl with | [_, _], _ => rfl) fun f cdv A outer s H E hr => ⟨_, (pss_cons (ps_asg (pv 1) (pg_tupK (n := 4) (K := K) (by rfl) rfl (pgs_cons (pg_name (i := 2) sc_link_done.nd rfl (by first | exact .inl rfl | exact .inr rfl)) (pgs_cons (pg_name (i := 3) sc_link_done.nd rfl (by first | exact .inl rfl | exact .inr rfl)) (pgs_cons (pg_name (i := 4) sc_link_done.nd rfl (by first | exact .inl rfl | exact .inr rfl)) (pgs_cons (pg_name (i := 5) sc_link_done.nd rfl (by first | exact .inl rfl | exact .inr rfl)) pgs_nil))))))
    (pss_cons (ps_setLc (i := 6) (own := [("name", 8)]) rfl sc_link_done.nd rfl rfl (sw_true rfl rfl rfl (by decide +kernel)) (pi_tupK (K := K) (by rfl) (pe_op (op_addUK (K := K) (by rfl)) (pv 4) (pv 5))) (blkOk_by (N := ["book", "deed", "word", "t", "ones", "others", "sides", "link", "name"]) (sc := defScope (top 47)) (by decide +kernel)) (fun _ _ _ _ _ => (pg_name (i := 8) sc_link_done.nd rfl (by first | exact .inl rfl | exact .inr rfl))) (fun _ _ _ _ _ => pts_nil) (fun _ _ _ _ _ => (pe_knK (K := K) (by rfl) (kn_side_of W) hr (by decide) (by rfl) (pa_cons (pv 0) (pa_cons (pv 8) pa_nil)))))
    (pss_cons (ps_if (pt_cmpR (op_neUK (K := K) (by rfl) hr.units) (pv 6) (pe_op (op_addUK (K := K) (by rfl)) (pe_op op_mulU (pe_lst (pa_cons pe_int pa_nil)) (pe_callB (call_lenUK (K := K) (by rfl)) (by rfl) W.b_len (by decide +kernel) (pa_cons (pv 4) pa_nil))) (pe_op op_mulU (pe_lst (pa_cons pe_int pa_nil)) (pe_callB (call_lenUK (K := K) (by rfl)) (by rfl) W.b_len (by decide +kernel) (pa_cons (pv 5) pa_nil)))) (nomark _)) (pss_one ps_never) pss_nil)
    (pss_cons (ps_if (pt_val (pe_callB (cr_anyK (K := K) (by rfl) rfl) (by rfl) W.b_any (by decide +kernel) (pa_cons (pe_lc (own := [("name", 8)]) rfl sc_link_done.nd (pi_tupK (K := K) (by rfl) (pe_op (op_addUK (K := K) (by rfl)) (pv 4) (pv 5))) (blkOk_by (N := ["book", "deed", "word", "t", "ones", "others", "sides", "link", "name"]) (sc := defScope (top 47)) (by decide +kernel)) (fun _ _ _ _ _ => (pg_name (i := 8) sc_link_done.nd rfl (by first | exact .inl rfl | exact .inr rfl))) (fun _ _ _ _ _ => pts_nil) (fun _ _ _ _ _ => (pe_or (pe_cmpR op_notNo (pe_knK (K := K) (by rfl) (kn_link_of W) hr (by decide) (by rfl) (pa_cons (pv 0) (pa_cons (pv 8) pa_nil))) pe_non (nomark _)) (pe_one (pe_knK (K := K) (by rfl) (kn_is_alone W) hr (by decide) (by rfl) (pa_cons (pv 0) (pa_cons (pv 8) pa_nil))))))) pa_nil))) (pss_one ps_never) pss_nil)
    (pss_cons (ps_set (i := 7) sc_link_done.nd rfl (by first | exact .inl rfl | exact .inr rfl) (pe_tup (pa_cons (pe_callTy (call_tupleUK (K := K) (by rfl)) (by rfl) W.b_tuple (by decide +kernel) (pa_cons (pe_callB (cr_sortUK (K := K) (w := w) (by rfl) (by rfl) hr.u70 rfl) (by rfl) W.b_sorted (by decide +kernel) (pa_cons (pv 4) pa_nil)) pa_nil)) (pa_cons (pe_callTy (call_tupleUK (K := K) (by rfl)) (by rfl) W.b_tuple (by decide +kernel) (pa_cons (pe_callB (cr_sortUK (K := K) (w := w) (by rfl) (by rfl) hr.u70 rfl) (by rfl) W.b_sorted (by decide +kernel) (pa_cons (pv 5) pa_nil)) pa_nil)) (pa_cons (pv 3) (pa_cons (pe_tup (pa_cons (pe_tup pa_nil) (pa_cons (pe_tup pa_nil) pa_nil))) pa_nil))))))
    (pss_one (ps_ret (pe_op (op_addUK (K := K) (by rfl)) (pe_slice (sl_UK (K := K) (by rfl)) (pv 0) po_none (po_some pe_int)) (pe_tup (pa_cons (pe_knK (K := K) (by rfl) (kn_links_exchanged W) hr (by decide) (by rfl) (pa_cons (pe_ix (ix_seqK (K := K) (by rfl)) (pv 0) pe_int (fun _ _ => rfl)) (pa_cons pe_non (pa_cons (pv 7) pa_nil)))) (pa_cons (pe_ix (ix_seqK (K := K) (by rfl)) (pv 0) pe_int (fun _ _ => rfl)) pa_nil))))))))))), fun M z hz => ?_⟩
  obtain ⟨b, t, a, c⟩ := z
  obtain ⟨hs, ha, hc, hal, hcl⟩ : Small b ∧ (∀ n ∈ a, b.has n = true ∧ b.sd n = false ∧ b.lk n = none ∧ n ∉ b.z) ∧ (∀ n ∈ c, b.has n = true ∧ b.sd n = true ∧ b.lk n = none ∧ n ∉ b.z) ∧ a.length ≤ 100 ∧ c.length ≤ 100 := hz
  have all : ∀ n ∈ a ++ c, b.has n = true ∧ b.lk n = none ∧ n ∉ b.z := fun n h => by
    rcases List.mem_append.mp h with h | h
    · exact ⟨(ha n h).1, (ha n h).2.2⟩
    · exact ⟨(hc n h).1, (hc n h).2.2⟩
  have esd : (a ++ c).map (fun n => (sI (b.sd n) : Int)) = List.replicate a.length 0 ++ List.replicate c.length 1 := by
    rw [List.map_append]
    congr 1
    · rw [List.eq_replicate_iff]
      exact ⟨List.length_map .., fun x hx => by obtain ⟨n, hn, rfl⟩ := List.mem_map.mp hx; rw [(ha n hn).2.1]; rfl⟩
    · rw [List.eq_replicate_iff]
      exact ⟨List.length_map .., fun x hx => by obtain ⟨n, hn, rfl⟩ := List.mem_map.mp hx; rw [(hc n hn).2.1]; rfl⟩
  refine ts_unp (is := [2, 3, 4, 5]) rfl (te_var rfl) rfl rfl ?_
  refine ts_asg (s := .o (((a ++ c).map fun n => (sI (b.sd n) : Int)).map PyData.int)) (te_is (te_lc0 (α := Str) (enc := fun n => .d (.str n)) (l := a ++ c) (fun n => .int (sI (b.sd n))) (ti_tc (ti_tupE (te_is (te_op (te_var rfl) (te_var rfl) (rv_addT ?_)) (by rw [List.map_append])))) (by rw [List.length_append]; omega) (by simp) fun n hn => ⟨_, tg_name, te_callF (b, n) (ta_cons (te_var rfl) (ta_cons (te_var rfl) ta_nil)) ⟨hs, (all n hn).1⟩ rfl rfl⟩) (by rw [List.map_map]; rfl)) ?_ rfl
  · rw [List.length_map, List.length_map]; show a.length + c.length ≤ 10000; omega
  have rep : ∀ (k : Nat) (x : Int), (List.replicate k [PyData.int x]).flatten = (List.replicate k x).map PyData.int := fun k x => by rw [rep_one, List.map_replicate]
  refine ts_skip (tt_B (te_is (te_op (te_var rfl) (te_op (te_is (te_op (te_lst (ds := [.int 0]) (ta_cons te_int ta_nil) (Nat.le_of_ble_eq_true rfl)) (te_cb (ta_cons (te_var rfl) ta_nil) rc_lenT) (rv_rep (k := (a.map PyData.str).length) rfl ?_ ?_)) (s2 := .o ((List.replicate a.length (0 : Int)).map PyData.int)) ?_) (te_is (te_op (te_lst (ds := [.int 1]) (ta_cons te_int ta_nil) (Nat.le_of_ble_eq_true rfl)) (te_cb (ta_cons (te_var rfl) ta_nil) rc_lenT) (rv_rep (k := (c.map PyData.str).length) rfl ?_ ?_)) (s2 := .o ((List.replicate c.length (1 : Int)).map PyData.int)) ?_) (rv_addL rfl rfl ?_)) (rv_neS (m := 1) rfl rfl (shp_lst (shp_ints _)) ?_)) ?_)) ?_
  · simp; omega
  · simp; omega
  · rw [List.length_map, rep]
  · simp; omega
  · simp; omega
  · rw [List.length_map, rep]
  · simp; omega
  · rw [← List.map_append]
    exact shp_lst (shp_ints _)
  · rw [← List.map_append, esd, eqv_ints_self]
    rfl
  refine ts_skip (tt_B (te_is (te_cb (ta_cons (te_is (te_lc0 (α := Str) (enc := fun n => .d (.str n)) (l := a ++ c) (fun _ => .bool false) (ti_tc (ti_tupE (te_is (te_op (te_var rfl) (te_var rfl) (rv_addT ?_)) (by rw [List.map_append])))) (by rw [List.length_append]; omega) (by simp) fun n hn => ⟨_, tg_name, te_or (a := false) (b := false) (te_is (te_op (te_callF (b, n) (ta_cons (te_var rfl) (ta_cons (te_var rfl) ta_nil)) ⟨hs, (all n hn).1⟩ rfl rfl) te_non rv_notN) ?_) fun _ => te_is (te_callF (b, n) (ta_cons (te_var rfl) (ta_cons (te_var rfl) ta_nil)) trivial rfl rfl) ?_⟩) (s2 := .o (((a ++ c).map fun _ => false).map PyData.bool)) (by rw [List.map_map]; rfl)) ta_nil) (rc_any rfl)) ?_)) ?_
  · rw [List.length_map, List.length_map]; show a.length + c.length ≤ 10000; omega
  · simp only
    rw [(all n hn).2.1]
    rfl
  · simp only
    rw [decide_eq_false (all n hn).2.2]
  · rw [List.any_map]
    simp
  refine ts_asg (s := .d (eL ⟨sortE a, sortE c, t, [], []⟩)) (te_tup (ds := [eNs (sortE a), eNs (sortE c), .int t, .tuple [eIs [], eIs []]]) (ta_cons (te_is (te_cb (ta_cons (te_cb (ta_cons (te_var rfl) ta_nil) (rc_sortT (sob_strs a))) ta_nil) (rc_tupleL rfl)) (by rw [srt_strs])) (ta_cons (te_is (te_cb (ta_cons (te_cb (ta_cons (te_var rfl) ta_nil) (rc_sortT (sob_strs c))) ta_nil) (rc_tupleL rfl)) (by rw [srt_strs])) (ta_cons (te_var rfl) (ta_cons (te_tup (ds := [eIs [], eIs []]) (ta_cons (te_tup (ds := []) ta_nil (Nat.le_of_ble_eq_true rfl)) (ta_cons (te_tup (ds := []) ta_nil (Nat.le_of_ble_eq_true rfl)) ta_nil)) (Nat.le_of_ble_eq_true rfl)) ta_nil)))) (Nat.le_of_ble_eq_true rfl)) ?_ rfl
  exact ts_ret (te_op (te_sl (te_var rfl) to_none (to_some te_int) rsl_T) (te_tup (ds := [_, _]) (ta_cons (te_callF (b.k, none, some ⟨sortE a, sortE c, t, [], []⟩) (ta_cons (te_op (te_var rfl) te_int (rv_ixT rfl)) (ta_cons te_non (ta_cons (te_var rfl) ta_nil))) ⟨Nat.le_trans hs.k (by decide), hs.lk, fun l e => nomatch e⟩ rfl rfl) (ta_cons (te_op (te_var rfl) te_int (rv_ixT rfl)) ta_nil)) (Nat.le_of_ble_eq_true rfl)) (rv_addT (Nat.le_of_ble_eq_true rfl))) rfl
end Tw
namespace Tw
open PySem PySem.Spec PyProof.Rows L2
local macro_rules
  | `(tactic| walk_at "rv") => `(tactic| first
    | exact rv_ixT rfl | exact rv_addI | exact rv_sub | exact rv_ixL rfl rfl | exact rv_ixM rfl
    | exact rsl_T | exact rsl_L rfl
    | exact rv_inStrL rfl | exact rv_inStrT | exact rv_ninStrL rfl | exact rv_ninIntL rfl | exact rv_eqStr | exact rv_neStr | exact rv_eqInt | exact rv_neInt | exact rv_eqBl | exact rv_neBl
    | exact rv_lt | exact rv_gt | exact rv_ge | exact rv_leI | exact rv_leS | exact rv_isN | exact rv_notN
    | exact rc_lenT | exact rc_lenL rfl | exact rc_intB | exact rc_listT | exact rc_listL rfl | exact rc_tupleL rfl | exact rc_tupleT)
local macro_rules
  | `(tactic| walk_at "e1") => `(tactic| first
    | exact te_var rfl | exact te_int | exact te_str | exact te_bl | exact te_non | exact ta_nil | exact to_none
    | apply to_some | apply ta_cons | apply te_op | apply te_cb | apply te_sl
    | apply tt_B | apply tt_test | walk_at "rv")
local macro_rules
  | `(tactic| walk_at "e") => `(tactic| repeat walk_at "e1")

variable {P : Program} {w : World} {K : PySem.W.Frag} {mg : Str → Option Value} {base : Heap}
theorem sc_done : FnScope ["book", "deed", "doer"] ["book", "deed"] (defScope (top 54)) := ⟨rfl, rfl, rfl, by decide +kernel, rfl, by decide +kernel, by decide +kernel⟩
theorem Kn.held {x : Str} {ps : List Str} {j k : Nat} {sp : Sp} {f : Addr} (h : Kn P w K mg base x ps j sp) (hm : mg x = some (.ref f)) (hj : j ≤ k) : Held P w K mg base k f sp := by
  obtain ⟨f', fd, F, hm', hk, hb⟩ := h.ex
  rw [hm] at hm'
  cases hm'
  exact ⟨fd, ps, F.mono hj, hk, hb⟩
abbrev Sp_done (K : PySem.W.Frag) : Sp := spF K (α := Book × Deed) (fun z => Small z.1 ∧ Can z.1 z.2) (fun z => [.d (eB z.1), .d (eD z.2)]) (fun z => .d (eB (z.1.dn z.2)))
theorem kn_done (W : Wld K mg w) : Kn P w K mg base "done" ["book", "deed"] 6 (Sp_done K) := by
  obtain ⟨D, es, n, hD, kd, hk⟩ := W.tab
  refine kn_fun W.f_done sc_done (fun _ => rfl) (fun _ _ _ _ _ _ us hl => match us, hl with | [_, _], _ => rfl) fun f cdv A outer s H E hr => ⟨_, (pss_cons (ps_set (i := 2) sc_done.nd rfl (by first | exact .inl rfl | exact .inr rfl) (pe_ix (ix_kd (K := K) (d := D) (by rfl) kd) (pe_glob (v := .ref D) (by rfl) hD rfl) (pe_ix (ix_seqK (K := K) (by rfl)) (pv 1) pe_int (fun _ _ => rfl)) (fun _ _ => rfl)))
    (pss_one (ps_ret (pe_callH (K := K) (i := 2) (by rfl) hr rfl (by first | exact .inl rfl | exact .inr rfl) (pa_cons (pv 0) (pa_cons (pv 1) pa_nil)))))), fun M z hz => ?_⟩
  obtain ⟨b, d⟩ := z
  obtain ⟨hs, hc⟩ : Small b ∧ Can b d := hz
  have go : ∀ {q : Str × Str} {g : Addr} {te : TE} {α : Type} {Pre : α → Prop} {args : α → List Sv} {res : α → Sv} (x : α) {j : Nat}, PySem.W.nsIn K D q.1 = some (some (.ref g)) → mg q.2 = some (.ref g) → Kn P w K mg base q.2 ["book", "deed"] j (spF K Pre args res) → j ≤ 5 → Pre x → args x = [.d (eB b), .d (eD d)] → res x = .d (eB (b.dn d)) →
      Te K M te [some (.d (eB b)), some (.d (eD d)), none] (.d (.str q.1)) → Ts K M (tSeq (tAsg (tOp (rKd K D) (tC (.ref D)) te) (gName 2)) (tRet (tCallH P w K mg base 5 2 (tCons (tVar 0) (tCons (tVar 1) tNil))))) [some (.d (eB b)), some (.d (eD d)), none] (fun _ => Sv.d (eB (b.dn d)) = .d .none) (fun r' => r' = .d (eB (b.dn d))) := fun {q g te α Pre args res} x {j} h1 h2 h3 h4 h5 h6 h7 h8 => by
    refine ts_asg (te_op te_ref h8 (rv_kd h1)) ?_ rfl
    refine ts_ret (te_is (te_callH x rfl (h3.held h2 h4) (ta_cons (te_var rfl) (ta_cons (te_var rfl) ta_nil)) h5 (by rw [h6]; rfl) (by rw [h7]; rfl)) h7) rfl
  cases d with
  | put t s h n x => obtain ⟨g, h1, h2⟩ := hk ("put", "put_done") (by simp); exact go (q := ("put", "put_done")) (b, t, s, h, n, x) h2 h1 (kn_put_done W) (by decide) ⟨hs, hc⟩ rfl rfl (te_op (te_var rfl) te_int (rv_ixT rfl))
  | take t n => obtain ⟨g, h1, h2⟩ := hk ("take", "take_done") (by simp); exact go (q := ("take", "take_done")) (b, t, n) h2 h1 (kn_take_done W) (by decide) ⟨hs, hc⟩ rfl rfl (te_op (te_var rfl) te_int (rv_ixT rfl))
  | part t n i m => obtain ⟨g, h1, h2⟩ := hk ("part", "part_done") (by simp); exact go (q := ("part", "part_done")) (b, t, n, i, m) h2 h1 (kn_part_done W) (by decide) ⟨hs, hc⟩ rfl rfl (te_op (te_var rfl) te_int (rv_ixT rfl))
  | join t n o => obtain ⟨g, h1, h2⟩ := hk ("join", "join_done") (by simp); exact go (q := ("join", "join_done")) (b, t, n, o) h2 h1 (kn_join_done W) (by decide) ⟨hs, hc⟩ rfl rfl (te_op (te_var rfl) te_int (rv_ixT rfl))
  | move t n h => obtain ⟨g, h1, h2⟩ := hk ("move", "move_done") (by simp); exact go (q := ("move", "move_done")) (b, t, n, h) h2 h1 (kn_move_done W) (by decide) ⟨hs, hc⟩ rfl rfl (te_op (te_var rfl) te_int (rv_ixT rfl))
  | change t n x => obtain ⟨g, h1, h2⟩ := hk ("change", "change_done") (by simp); exact go (q := ("change", "change_done")) (b, t, n, x) h2 h1 (kn_change_done W) (by decide) ⟨hs, hc⟩ rfl rfl (te_op (te_var rfl) te_int (rv_ixT rfl))
  | word t n i o => obtain ⟨g, h1, h2⟩ := hk ("word", "word_done") (by simp); exact go (q := ("word", "word_done")) (b, t, n, i, o) h2 h1 (kn_word_done W) (by decide) ⟨hs, hc⟩ rfl rfl (te_op (te_var rfl) te_int (rv_ixT rfl))
  | link t a c => obtain ⟨g, h1, h2⟩ := hk ("link", "link_done") (by simp); exact go (q := ("link", "link_done")) (b, t, a, c) h2 h1 (kn_link_done W) (by decide) ⟨hs, hc⟩ rfl rfl (te_op (te_var rfl) te_int (rv_ixT rfl))
  | loose t n => obtain ⟨g, h1, h2⟩ := hk ("loose", "loose_done") (by simp); exact go (q := ("loose", "loose_done")) (b, t, n) h2 h1 (kn_loose_done W) (by decide) ⟨hs, hc⟩ rfl rfl (te_op (te_var rfl) te_int (rv_ixT rfl))
  | step t n => obtain ⟨g, h1, h2⟩ := hk ("step", "step_done") (by simp); exact go (q := ("step", "step_done")) (b, t, n) h2 h1 (kn_step_done W) (by decide) ⟨hs, hc⟩ rfl rfl (te_op (te_var rfl) te_int (rv_ixT rfl))
  | alone t n => obtain ⟨g, h1, h2⟩ := hk ("alone", "alone_done") (by simp); exact go (q := ("alone", "alone_done")) (b, t, n) h2 h1 (kn_alone_done W) (by decide) ⟨hs, hc⟩ rfl rfl (te_op (te_var rfl) te_int (rv_ixT rfl))
  | lack t n => obtain ⟨g, h1, h2⟩ := hk ("lack", "lack_done") (by simp); exact go (q := ("lack", "lack_done")) (b, t, n) h2 h1 (kn_lack_done W) (by decide) ⟨hs, hc⟩ rfl rfl (te_op (te_var rfl) te_int (rv_ixT rfl))
end Tw
namespace Tw
open PySem PySem.Spec PyProof.Rows L2
local macro_rules
  | `(tactic| walk_at "rv") => `(tactic| first
    | exact rv_ixT rfl | exact rv_addI | exact rv_sub | exact rv_ixL rfl rfl | exact rv_ixM rfl
    | exact rsl_T | exact rsl_L rfl
    | exact rv_inStrL rfl | exact rv_inStrT | exact rv_ninStrL rfl | exact rv_ninIntL rfl | exact rv_eqStr | exact rv_neStr | exact rv_eqInt | exact rv_neInt | exact rv_eqBl | exact rv_neBl
    | exact rv_lt | exact rv_gt | exact rv_ge | exact rv_leI | exact rv_leS | exact rv_isN | exact rv_notN
    | exact rc_lenT | exact rc_lenL rfl | exact rc_intB | exact rc_listT | exact rc_listL rfl | exact rc_tupleL rfl | exact rc_tupleT)
local macro_rules
  | `(tactic| walk_at "e1") => `(tactic| first
    | exact te_var rfl | exact te_int | exact te_str | exact te_bl | exact te_non | exact ta_nil | exact to_none
    | apply to_some | apply ta_cons | apply te_op | apply te_cb | apply te_sl
    | apply tt_B | apply tt_test | walk_at "rv")
local macro_rules
  | `(tactic| walk_at "e") => `(tactic| repeat walk_at "e1")

variable {P : Program} {w : World} {K : PySem.W.Frag} {mg : Str → Option Value} {base : Heap}
/-- numbers as they are drawn -/
def NumsOk (ns : List Int) : Prop := ∀ k ∈ ns, 0 ≤ k ∧ k < 2147483648
theorem sc_law_mixed : FnScope ["_law_cell", "_law_many", "_law_at", "_law_found", "_law_k"] ["_law_cell", "_law_many"] (defScope (top 56)) := ⟨rfl, rfl, rfl, by decide +kernel, rfl, by decide +kernel, by decide +kernel⟩
abbrev Sp_law_mixed (K : PySem.W.Frag) : Sp := spG K (α := Int × Int) (fun z => 0 ≤ z.2 ∧ z.2 ≤ 1500) (fun z => [.d (.int z.1), .d (.int z.2)]) (fun z s => ∃ ns : List Int, s = .o (ns.map PyData.int) ∧ (ns.length : Int) = z.2 ∧ NumsOk ns)
theorem kn_law_mixed (W : Wld K mg w) : Kn P w K mg base "_law_mixed" ["_law_cell", "_law_many"] 1 (Sp_law_mixed K) := by
  refine kn_gun W.f_law_mixed sc_law_mixed (fun _ => rfl) (fun _ _ _ _ _ _ us hl => match us, hl with | [_, _], _ => rfl) fun f cdv A outer s H E hr => ⟨_, (pss_cons (ps_set (i := 2) sc_law_mixed.nd rfl (by first | exact .inl rfl | exact .inr rfl) (pe_op op_modI (pv 0) pe_int))
    (pss_cons (ps_set (i := 3) sc_law_mixed.nd rfl (by first | exact .inl rfl | exact .inr rfl) (pe_lst pa_nil))
    (pss_cons (ps_for PassesOwn.never rfl (pi_range1 (by rfl) W.b_range (pa_cons (pv 1) pa_nil)) (pg_name (i := 4) sc_law_mixed.nd rfl (by first | exact .inl rfl | exact .inr rfl)) (pss_cons (ps_set (i := 2) sc_law_mixed.nd rfl (by first | exact .inl rfl | exact .inr rfl) (pe_op op_modI (pe_op (op_addUK (K := K) (by rfl)) (pe_op (op_addUK (K := K) (by rfl)) (pe_op op_mulU (pv 2) pe_int) (pe_op op_mulU (pe_op op_mulU pe_int (pv 4)) (pv 4))) pe_int) pe_int))
    (pss_one (ps_expr (pe_bmK (K := K) (by rfl) PySem.F.plainAttrs_list PySem.F.slot_list_append PySem.F.type_list_append mt_append (pv 3) (pa_cons (pe_op op_divI (pe_op op_modI (pe_op (op_addUK (K := K) (by rfl)) (pe_op (op_addUK (K := K) (by rfl)) (pe_op op_mulU (pv 2) (pv 2)) (pe_op op_mulU pe_int (pv 2))) (pv 4)) pe_int) pe_int) pa_nil))))))
    (pss_one (ps_ret (pv 3)))))), fun M z hz => ?_⟩
  obtain ⟨c, m⟩ := z
  obtain ⟨h0, h1⟩ : 0 ≤ m ∧ m ≤ 1500 := hz
  refine ts_asg (te_op (te_var rfl) te_int (rv_mod (by decide))) ?_ rfl
  refine ts_new ?_
  refine ts_forS (α := Nat) (enc := fun i => .d (.int (i : Nat))) (l := List.range m.toNat) (js := [4]) (fun i γ => ∃ (at_ : Int) (ns : List Int) (x : Option Sv), 0 ≤ at_ ∧ at_ < 2147483647 ∧ ns.length = i ∧ NumsOk ns ∧ γ = [some (.d (.int c)), some (.d (.int m)), some (.d (.int at_)), some (.u (ns.map PyData.int)), x]) (ti_rng1 (ta_cons (te_var rfl) ta_nil) (by omega) (by omega)) ⟨c % 2147483647, [], none, by omega, by omega, rfl, (fun k h => by cases h), rfl⟩ ?_ ?_
  · rintro i a γ1 hi ⟨at_, ns, x, a0, a1, hl, hn, rfl⟩
    obtain ⟨hil, rfl⟩ := List.getElem?_eq_some_iff.mp hi
    rw [List.length_range] at hil
    rw [List.getElem_range]
    have hik : (i : Int) < 1500 := by omega
    refine ⟨_, tg_name, ts_asg (te_op (te_op (te_op (te_op (te_var rfl) te_int (rv_mulI (.inr (by decide)))) (te_op (te_op te_int (te_var rfl) (rv_mulI (.inl (by decide)))) (te_var rfl) (rv_mulI (.inr (by omega)))) rv_addI) te_int rv_addI) te_int (rv_mod (by decide))) ?_ rfl⟩
    generalize hb : (at_ * 48271 + 7 * (i : Int) * (i : Int) + 11) % 2147483629 = at2
    have b0 : 0 ≤ at2 ∧ at2 < 2147483629 := by omega
    refine ts_app rfl (te_op (te_op (te_op (te_op (te_op (te_var rfl) (te_var rfl) (rv_mulI (.inl (by omega)))) (te_op te_int (te_var rfl) (rv_mulI (.inl (by decide)))) rv_addI) (te_var rfl) rv_addI) te_int (rv_mod (by decide))) te_int (rv_div (by decide) (by decide))) (by rw [List.length_map]; omega) ?_
    generalize at2 * at2 = sq
    refine ⟨at2, ns ++ [(sq + 3 * at2 + i) % 2147483587 / 7], some (.d (.int (i : Nat))), b0.1, by omega, by rw [List.length_append, hl]; rfl, fun k hk => ?_, ?_⟩
    · rcases List.mem_append.mp hk with h | h
      · exact hn k h
      · simp at h
        omega
    · rw [List.map_append]
      rfl
  · rintro γ1 ⟨at_, ns, x, a0, a1, hl, hn, rfl⟩
    refine ts_ret (te_varU rfl) ⟨ns, rfl, ?_, hn⟩
    rw [List.length_range] at hl
    show (ns.length : Int) = m
    omega
theorem sc_law_numbers : FnScope ["_law_script", "_law_many", "_law_found", "_law_cell", "_law_left", "_law_k"] ["_law_script", "_law_many"] (defScope (top 57)) := ⟨rfl, rfl, rfl, by decide +kernel, rfl, by decide +kernel, by decide +kernel⟩
abbrev Sp_law_numbers (K : PySem.W.Frag) : Sp := spG K (α := List Int × Unit) (fun z => z.1.length ≤ 63) (fun z => [.q (z.1.map PyData.int), .d (.int 1500)]) (fun z s => ∃ ns : List Int, s = .o (ns.map PyData.int) ∧ ns.length = 1500 ∧ NumsOk ns)
theorem kn_law_numbers (W : Wld K mg w) : Kn P w K mg base "_law_numbers" ["_law_script", "_law_many"] 2 (Sp_law_numbers K) := by
  refine kn_gun W.f_law_numbers sc_law_numbers (fun _ => rfl) (fun _ _ _ _ _ _ us hl => match us, hl with | [_, _], _ => rfl) fun f cdv A outer s H E hr => ⟨_, (pss_cons (ps_set (i := 2) sc_law_numbers.nd rfl (by first | exact .inl rfl | exact .inr rfl) (pe_lst pa_nil))
    (pss_cons (ps_for PassesOwn.never rfl (pi_listK (K := K) (by rfl) (pe_slice (sl_UK (K := K) (by rfl)) (pv 0) po_none (po_some pe_int))) (pg_name (i := 3) sc_law_numbers.nd rfl (by first | exact .inl rfl | exact .inr rfl)) (pss_cons (ps_if (pt_cmpR op_ltI (pv 3) (pe_op op_powI pe_int pe_int) (nomark _)) (pss_cons (ps_expr (pe_bmK (K := K) (by rfl) PySem.F.plainAttrs_list PySem.F.slot_list_extend PySem.F.type_list_extend mt_extend (pv 2) (pa_cons (pe_knK (K := K) (by rfl) (kn_law_mixed W) hr (by decide) (by rfl) (pa_cons (pv 3) (pa_cons pe_int pa_nil))) pa_nil)))
    (pss_one ps_continue)) pss_nil)
    (pss_cons (ps_set (i := 4) sc_law_numbers.nd rfl (by first | exact .inl rfl | exact .inr rfl) (pv 3))
    (pss_one (ps_for PassesOwn.never rfl (pi_range1 (by rfl) W.b_range (pa_cons pe_int pa_nil)) (pg_name (i := 5) sc_law_numbers.nd rfl (by first | exact .inl rfl | exact .inr rfl)) (pss_one (ps_if (pt_cmpR op_gtI (pv 4) pe_int (nomark _)) (pss_cons (ps_expr (pe_bmK (K := K) (by rfl) PySem.F.plainAttrs_list PySem.F.slot_list_append PySem.F.type_list_append mt_append (pv 2) (pa_cons (pe_op op_modI (pv 4) pe_int) pa_nil)))
    (pss_one (ps_set (i := 4) sc_law_numbers.nd rfl (by first | exact .inl rfl | exact .inr rfl) (pe_op op_divI (pv 4) pe_int)))) pss_nil)))))))
    (pss_cons (ps_set (i := 2) sc_law_numbers.nd rfl (by first | exact .inl rfl | exact .inr rfl) (pe_slice (sl_UK (K := K) (by rfl)) (pv 2) po_none (po_some (pv 1))))
    (pss_one (ps_ret (pe_op (op_addUK (K := K) (by rfl)) (pv 2) (pe_knK (K := K) (by rfl) (kn_law_mixed W) hr (by decide) (by rfl) (pa_cons (pe_op (op_addUK (K := K) (by rfl)) (pe_callB (cr_sumK (K := K) (by rfl) rfl) (by rfl) W.b_sum (by decide +kernel) (pa_cons (pe_slice (sl_UK (K := K) (by rfl)) (pv 0) po_none (po_some pe_int)) pa_nil)) (pe_callB (call_lenUK (K := K) (by rfl)) (by rfl) W.b_len (by decide +kernel) (pa_cons (pv 0) pa_nil))) (pa_cons (pe_op op_subI (pv 1) (pe_callB (call_lenUK (K := K) (by rfl)) (by rfl) W.b_len (by decide +kernel) (pa_cons (pv 2) pa_nil))) pa_nil))))))))), fun M z hz => ?_⟩
  obtain ⟨sc, _⟩ := z
  have hz' : sc.length ≤ 63 := hz
  have hcut : cutD (sc.map PyData.int) none (some 63) = sc.map PyData.int := cutD_whole ⟨rfl, by show min 63 (sc.map PyData.int).length = _; rw [List.length_map]; omega⟩
  refine ts_new (ts_seq (N' := fun γ => ∃ ns x y v, ns.length ≤ 5040 ∧ NumsOk ns ∧ γ = [some (.q (sc.map PyData.int)), some (.d (.int 1500)), some (.u (ns.map PyData.int)), x, y, v]) ?_ ?_)
  · refine ts_forF (α := Int) (enc := PyData.int) (l := sc) (js := [3]) (fun i γ => ∃ (ns : List Int) (x y v : Option PyData), ns.length ≤ 80 * i ∧ NumsOk ns ∧ γ = [some (.q (sc.map PyData.int)), some (.d (.int 1500)), some (.u (ns.map PyData.int)), x.map Sv.d, y.map Sv.d, v.map Sv.d]) ?_ ⟨[], none, none, none, by simp, (fun k h => by cases h), rfl⟩ ?_ ?_ ?_ ?_
    · exact tf_of (te_is (te_sl (te_var rfl) to_none (to_some te_int) rsl_Q) (by rw [hcut]))
    · rintro i γ1 ⟨ns, x, y, v, _, _, rfl⟩ j s hj
      match j, hj with
      | 0, hj => cases hj; rfl
      | 1, hj => cases hj; rfl
      | 2, hj => cases hj; rfl
      | 3, hj => cases hj; cases x <;> rfl
      | 4, hj => cases hj; cases y <;> rfl
      | 5, hj => cases hj; cases v <;> rfl
      | j + 6, hj => simp at hj
    · rintro i c γ1 hi ⟨ns, x, y, v, hl, hn, rfl⟩
      have hi63 : i < 63 := by have := (List.getElem?_eq_some_iff.mp hi).1; omega
      refine ⟨_, tg_name, tsc_ifS (b := decide (c < 10 ^ (18 : Int).toNat)) ?_ (fun e => ?_) fun e => ?_⟩
      · apply tt_test
        exact te_op (te_var rfl) (te_op te_int te_int (rv_pow (by unfold CPow; decide))) rv_lt
      · refine tsc_cont (ts_extLP rfl (tp_callG (P := fun s => ∃ ns : List Int, s = .o (ns.map PyData.int) ∧ (ns.length : Int) = 8 ∧ NumsOk ns) (tpa_of (ta_cons (te_var rfl) (ta_cons te_int ta_nil))) (fun ss e => ⟨(c, 8), (by show (0 : Int) ≤ 8 ∧ (8 : Int) ≤ 1500; decide), by rw [e]; rfl, rfl⟩) fun s ⟨ns, e, _⟩ => by rw [e]; rfl) ?_)
        rintro s ⟨ms, rfl, hml, hmn⟩
        refine ⟨ms.map PyData.int, rfl, by rw [List.length_map, List.length_map]; omega, ns ++ ms, some (.int c), y, v, by rw [List.length_append]; omega, fun k hk => ?_, ?_⟩
        · rcases List.mem_append.mp hk with h | h
          · exact hn k h
          · exact hmn k h
        · rw [List.map_append]
          cases y <;> cases v <;> rfl
      · refine tsc_of (ts_seq (ts_next (N := fun γ => γ = [some (.q (sc.map PyData.int)), some (.d (.int 1500)), some (.u (ns.map PyData.int)), some (.d (.int c)), y.map Sv.d, v.map Sv.d]) rfl) ?_)
        rintro _ rfl
        refine ts_asg (te_var rfl) ?_ rfl
        refine ts_for (α := Nat) (enc := fun i => .d (.int (i : Nat))) (l := List.range (80 : Int).toNat) (js := [5]) (fun j γ => ∃ (ms : List Int) (left : Int) (v : Option PyData), ms.length ≤ 80 * i + j ∧ NumsOk ms ∧ γ = [some (.q (sc.map PyData.int)), some (.d (.int 1500)), some (.u (ms.map PyData.int)), some (.d (.int c)), some (.d (.int left)), v.map Sv.d]) (ti_rng1 (ta_cons te_int ta_nil) (by decide) (by decide)) ⟨ns, c, v, by omega, hn, by cases y <;> rfl⟩ ?_ ?_
        · rintro j a γ2 hj ⟨ms, left, v, hml, hmn, rfl⟩
          obtain ⟨hjl, rfl⟩ := List.getElem?_eq_some_iff.mp hj
          rw [List.length_range] at hjl
          rw [List.getElem_range]
          have hj80 : j < 80 := hjl
          refine ⟨_, tg_name, ts_if (b := decide (0 < left)) ?_ (fun e => ?_) fun e => ?_⟩
          · apply tt_test
            exact te_op (te_var rfl) te_int rv_gt
          · refine ts_appS rfl (te_op (te_var rfl) te_int (rv_mod (by decide))) (by rw [List.length_map]; omega) ?_
            refine ts_asg1 (te_op (te_var rfl) te_int (rv_div (by decide) (by decide))) ⟨ms ++ [left % 10007], left / 10007, some (.int (j : Nat)), by rw [List.length_append]; simp only [List.length_cons, List.length_nil]; omega, fun k hk => ?_, ?_⟩ rfl
            · rcases List.mem_append.mp hk with h | h
              · exact hmn k h
              · simp at h
                omega
            · rw [List.map_append]
              rfl
          · exact ts_next ⟨ms, left, some (.int (j : Nat)), by omega, hmn, rfl⟩
        · rintro γ2 ⟨ms, left, v, hml, hmn, rfl⟩
          exact ⟨ms, some (.int c), some (.int left), v, by rw [List.length_range] at hml; have : (80 : Int).toNat = 80 := rfl; omega, hmn, rfl⟩
    · rintro s ⟨ns, rfl, _⟩
      rfl
    · rintro γ1 ⟨ns, x, y, v, hl, hn, rfl⟩
      exact ⟨ns, _, _, _, by omega, hn, rfl⟩
  · rintro γ1 ⟨ns, x, y, v, hl, hn, rfl⟩
    refine ts_asg (s := .o ((ns.take 1500).map PyData.int)) (te_is (te_sl (te_var rfl) to_none (to_some (te_var rfl)) (rsl_L rfl)) ?_) ?_ rfl
    · unfold cutD
      rw [List.length_map, List.map_take]
      show Sv.o (((ns.map PyData.int).drop 0).take (min 1500 ns.length - 0)) = _
      rw [List.drop_zero, Nat.sub_zero]
      congr 1
      by_cases h : ns.length ≤ 1500
      · rw [Nat.min_eq_right h, List.take_of_length_le (by rw [List.length_map]; omega), List.take_of_length_le (by rw [List.length_map]; omega)]
      · rw [Nat.min_eq_left (by omega)]
    have htl : (ns.take 1500).length ≤ 1500 := by rw [List.length_take]; omega
    refine ts_retP (P := fun s => ∃ ns : List Int, s = .o (ns.map PyData.int) ∧ ns.length = 1500 ∧ NumsOk ns) (tp_op (te_tp (te_var rfl)) (P2 := fun s => ∃ ms : List Int, s = .o (ms.map PyData.int) ∧ (ms.length : Int) = 1500 - (((ns.take 1500).map PyData.int).length : Nat) ∧ NumsOk ms) (fun s1 _ => ?_) ?_) fun s h => h
    · refine tp_callG (tpa_of (ta_cons (te_op (te_cb (ta_cons (te_is (te_sl (te_var rfl) to_none (to_some te_int) rsl_Q) (s2 := .o (sc.map PyData.int)) (by rw [hcut])) ta_nil) (rc_sumL rfl)) (te_cb (ta_cons (te_var rfl) ta_nil) rc_lenQ) rv_addI) (ta_cons (te_op (te_var rfl) (te_cb (ta_cons (te_var rfl) ta_nil) (rc_lenL rfl)) rv_sub) ta_nil))) (fun ss e => ⟨(sc.sum + (sc.map PyData.int).length, 1500 - (((ns.take 1500).map PyData.int).length : Nat)), ⟨?_, ?_⟩, by rw [e]; rfl, rfl⟩) fun s ⟨ns, e, _⟩ => by rw [e]; rfl
      · show (0 : Int) ≤ 1500 - (((ns.take 1500).map PyData.int).length : Nat); rw [List.length_map]; omega
      · show 1500 - (((ns.take 1500).map PyData.int).length : Int) ≤ (1500 : Int); omega
    · rintro s1 s2 rfl ⟨ms, rfl, hml, hmn⟩
      rw [List.length_map] at hml
      refine ⟨_, ⟨ns.take 1500 ++ ms, rfl, by rw [List.length_append]; omega, fun k hk => ?_⟩, ?_⟩
      · rcases List.mem_append.mp hk with h | h
        · exact hn k (List.mem_of_mem_take h)
        · exact hmn k h
      · rw [List.map_append]
        exact rv_addL rfl rfl (by rw [List.length_map, List.length_map]; omega)
end Tw
namespace Tw
open PySem PySem.Spec PyProof.Rows L2
def rGetL (K : PySem.W.Frag) : V → V → Hp → VK → Prop := fun o i H Q => ∃ p xs k v, o = .ref p ∧ i = .int k ∧ 0 ≤ k ∧ SqL K H p xs ∧ atI xs k = some v ∧ Q v H
theorem get_listK {X : Cx} {K : PySem.W.Frag} (h : X.K = K) : PGet X (rGetL K) := by
  subst h
  intro pins s σ H o i ov iv Q I ro ri hw
  obtain ⟨p, xs, k, z, rfl, rfl, h0, hq, he, q⟩ := hw
  obtain rfl : ov = Value.ref p := ro
  obtain ⟨t, rfl⟩ := ri
  obtain ⟨its, r, pl, hz⟩ := I.list hq
  obtain ⟨j, h1, h2, h3, h4, h5⟩ := atI_get he
  obtain ⟨w, ew, rw'⟩ := r.get h2
  have hl := r.length
  have hn := line63
  have hj : k.toNat = j := by
    rw [seqIndex_of h0 h5] at h1
    exact Option.some.inj h1
  exact wpAny_getItem_list pl.isList h0 (by omega) (by rw [hj]; simpa using ew) ⟨z, H, I, rw', q⟩
section
variable {K : PySem.W.Frag} {M : Addr → Prop} {γ : G} {te : TE} {s : Sv} {tz : TS} {N : G → Prop} {R : Sv → Prop}
theorem box_at {H0 H : Hp} {b : Addr} (e : Xs M H0 H) (m : M b) : ∃ (p : Addr) (ns : List Int) (i x : Int), ¬ M p ∧ H0 p ≠ none ∧ H b = some (.lst [.ref p, .int i, .int x]) ∧ H p = some (.lst (ns.map V.int)) ∧ ns.length = 1500 ∧ (∀ k ∈ ns, 0 ≤ k ∧ k < 2147483648) ∧ 0 ≤ i ∧ 0 ≤ x ∧ x < 2147483648 := by
  obtain ⟨p, n, h⟩ := e.ok0 b m
  obtain ⟨ns, i, x, h1, h2, h3⟩ := e.e.b b p m n h
  exact ⟨p, ns, i, x, n, h.p, h1, h2, h3⟩
theorem tp_box0 {i : Nat} (h : γ[i]? = some (some .b)) : Tp K M (tOp (rIx K) (tVar i) (tC (.int 0))) γ (fun s => ∃ ns : List Int, s = .l (ns.map PyData.int) ∧ ns.length = 1500 ∧ ∀ k ∈ ns, 0 ≤ k ∧ k < 2147483648) := fun H0 σ H e0 E Q q => by
  obtain ⟨v, hv, b, rfl, m⟩ := E.get i _ h
  obtain ⟨p, ns, k, x, nm, h0, h1, h2, h3, h4, _⟩ := box_at e0 m
  exact ⟨_, hv, .inl ⟨b, _, 0, .ref p, rfl, rfl, .inl (.inl h1), rfl, q _ _ H ⟨ns, rfl, h3, h4⟩ (Xm.refl H) ⟨p, _, rfl, nm, h0, h2, dats_int⟩⟩⟩
theorem tp_box1 {i : Nat} (h : γ[i]? = some (some .b)) : Tp K M (tOp (rIx K) (tVar i) (tC (.int 1))) γ (fun s => ∃ k : Int, s = .d (.int k) ∧ 0 ≤ k) := fun H0 σ H e0 E Q q => by
  obtain ⟨v, hv, b, rfl, m⟩ := E.get i _ h
  obtain ⟨p, ns, k, x, nm, h0, h1, h2, h3, h4, h5, _⟩ := box_at e0 m
  exact ⟨_, hv, .inl ⟨b, _, 1, .int k, rfl, rfl, .inl (.inl h1), rfl, q _ _ H ⟨k, rfl, h5⟩ (Xm.refl H) (Dat.int k)⟩⟩
theorem tp_box2 {i : Nat} (h : γ[i]? = some (some .b)) : Tp K M (tOp (rIx K) (tVar i) (tC (.int 2))) γ (fun s => ∃ k : Int, s = .d (.int k) ∧ 0 ≤ k ∧ k < 2147483648) := fun H0 σ H e0 E Q q => by
  obtain ⟨v, hv, b, rfl, m⟩ := E.get i _ h
  obtain ⟨p, ns, k, x, nm, h0, h1, h2, h3, h4, h5, h6, h7⟩ := box_at e0 m
  exact ⟨_, hv, .inl ⟨b, _, 2, .int x, rfl, rfl, .inl (.inl h1), rfl, q _ _ H ⟨x, rfl, h6, h7⟩ (Xm.refl H) (Dat.int x)⟩⟩
theorem box_xm {H : Hp} {b p : Addr} {ns : List Int} {i x i' x' : Int} (m : M b) (h1 : H b = some (.lst [.ref p, .int i, .int x])) (h2 : H p = some (.lst (ns.map V.int))) (h3 : ns.length = 1500) (h4 : ∀ k ∈ ns, 0 ≤ k ∧ k < 2147483648) (hi : 0 ≤ i') (hx : 0 ≤ x' ∧ x' < 2147483648) (nm : ¬ M p) :
    Xm M H (upd H b (.lst [.ref p, .int i', .int x'])) where
  k := fun a o na h => by rw [upd_ne (fun e => by subst e; exact na m)]; exact h
  t := kp_lst h1
  b := fun c q mc nq hb => by
    have nq' : q ≠ b := fun e => by subst e; exact nq m
    by_cases e : c = b
    · subst e
      obtain ⟨ns', i2, x2, b1, b2, b3, b4, _⟩ := hb
      exact ⟨ns', i', x', by rw [h1] at b1; cases b1; exact upd_same, by rw [upd_ne nq']; exact b2, b3, b4, hi, hx.1, hx.2⟩
    · exact hb.of fun a o r h => by
        rcases r with r | r
        · subst r; rw [upd_ne e]; exact h
        · subst r; rw [upd_ne nq']; exact h
/-- box[1] += 1 -/
theorem ts_tick {i : Nat} (h : γ[i]? = some (some .b)) (k : Ts K M tz γ N R) : Ts K M (tSeq (tAugS (tVar i) (tC (.int 1)) (tC (.int 1)) (rGetL K) (ipI fun a b => a + b) rSetL) tz) γ N R := fun H0 σ H D e0 E n r => by
  obtain ⟨v, hv, b, rfl, m⟩ := E.get i _ h
  obtain ⟨p, ns, j, x, nm, h0, h1, h2, h3, h4, h5, h6, h7⟩ := box_at e0 m
  have e1 : Xm M H (upd H b (.lst [.ref p, .int (j + 1), .int x])) := box_xm m h1 h2 h3 h4 (by omega) ⟨h6, h7⟩ nm
  exact ⟨_, hv, b, _, 1, .int j, rfl, rfl, by decide, .inl (.inl h1), rfl, j, 1, rfl, rfl, b, _, 1, 1, rfl, rfl, h1, rfl, k H0 σ _ D (e0.trans e1) (E.ex e1) (fun γ2 σ2 H2 a b c d => n γ2 σ2 H2 a b ((kp_ex e1).trans c) d) r⟩
/-- box[2] = a number -/
theorem ts_box2 {i : Nat} {P : Sv → Prop} (h : γ[i]? = some (some .b)) (hx : Tp K M te γ P) (hP : ∀ s, P s → ∃ k : Int, s = .d (.int k) ∧ 0 ≤ k ∧ k < 2147483648) (k : Ts K M tz γ N R) : Ts K M (tSeq (tAsg te (gSub (tVar i) (tC (.int 2)) rSetL)) tz) γ N R := fun H0 σ H D e0 E n r => by
  refine hx H0 σ H e0 E _ fun v s H1 hp e1 hv => ?_
  obtain ⟨kx, rfl, k0, k1⟩ := hP s hp
  cases hv
  have e01 := e0.trans e1
  obtain ⟨v, hv, b, rfl, m⟩ := E.get i _ h
  obtain ⟨p, ns, j, x, nm, h0, h1, h2, h3, h4, h5, h6, h7⟩ := box_at e01 m
  have e2 : Xm M H1 (upd H1 b (.lst [.ref p, .int j, .int kx])) := box_xm m h1 h2 h3 h4 h5 ⟨k0, k1⟩ nm
  exact ⟨_, hv, b, _, 2, 2, rfl, rfl, h1, rfl, k H0 σ _ D (e01.trans e2) ((E.ex e1).ex e2) (fun γ2 σ2 H2 a b c d => n γ2 σ2 H2 a b (((kp_ex e1).trans (kp_ex e2)).trans c) d) r⟩
theorem ts_forRP {ta : TA} {g : TG} {tu : TS} {Pn : Int → Prop} (h : Tpa K M ta γ (fun ss => ∃ n, ss = [.d (.int n)] ∧ Pn n)) (k : ∀ n, Pn n → Ts K M (tSeq (tFor (iRng1 (tCons (tC (.int n)) tNil)) g tu) tz) γ N R) : Ts K M (tSeq (tFor (iRng1 ta) g tu) tz) γ N R := fun H0 σ H D e0 E n r =>
  h H0 σ H e0 E _ fun vs ss H1 hp e1 hv => by
    obtain ⟨m, rfl, hm⟩ := hp
    cases hv with
    | cons a b =>
      cases b
      cases a
      have := k m hm H0 σ H1 D (e0.trans e1) (E.ex e1) (fun γ2 σ2 H2 a b c d => n γ2 σ2 H2 a b ((kp_ex e1).trans c) d) r
      obtain ⟨m', e, b1, b2, q⟩ := this
      cases e
      exact ⟨m, rfl, b1, b2, q⟩
end
end Tw
namespace Tw
open PySem PySem.Spec PyProof.Rows L2
local macro_rules
  | `(tactic| walk_at "rv") => `(tactic| first
    | exact rv_ixT rfl | exact rv_addI | exact rv_sub | exact rv_ixL rfl rfl | exact rv_ixM rfl
    | exact rsl_T | exact rsl_L rfl
    | exact rv_inStrL rfl | exact rv_inStrT | exact rv_ninStrL rfl | exact rv_ninIntL rfl | exact rv_eqStr | exact rv_neStr | exact rv_eqInt | exact rv_neInt | exact rv_eqBl | exact rv_neBl
    | exact rv_lt | exact rv_gt | exact rv_ge | exact rv_leI | exact rv_leS | exact rv_isN | exact rv_notN
    | exact rc_lenT | exact rc_lenL rfl | exact rc_intB | exact rc_listT | exact rc_listL rfl | exact rc_tupleL rfl | exact rc_tupleT)
local macro_rules
  | `(tactic| walk_at "e1") => `(tactic| first
    | exact te_var rfl | exact te_int | exact te_str | exact te_bl | exact te_non | exact ta_nil | exact to_none
    | apply to_some | apply ta_cons | apply te_op | apply te_cb | apply te_sl
    | apply tt_B | apply tt_test | walk_at "rv")
local macro_rules
  | `(tactic| walk_at "e") => `(tactic| repeat walk_at "e1")

variable {P : Program} {w : World} {K : PySem.W.Frag} {mg : Str → Option Value} {base : Heap}
theorem cutD_len (ds : List PyData) (lo hi : Option Int) : (cutD ds lo hi).length ≤ ds.length := by
  unfold cutD
  rw [List.length_take, List.length_drop]
  omega
def sg (c : Nat) : Str := ⟨#[c]⟩
def letters : Str := "bazqmxyc"
def pool75 : List Str := (["longname", "longnamf", "abc"] : List Str) ++ letters.cps.toList.map sg ++ letters.cps.toList.flatMap fun a => letters.cps.toList.map fun b => sg a ++ sg b
theorem pool_len : pool75.length = 75 := by decide +kernel
def poolAt (x : Int) : List Str := pool75.drop (x % 75).toNat ++ pool75.take (x % 75).toNat
theorem sc_law_pool : FnScope ["_law_x", "_law_letters", "_law_pool_here", "_law_one", "_law_other"] ["_law_x"] (defScope (top 59)) := ⟨rfl, rfl, rfl, by decide +kernel, rfl, by decide +kernel, by decide +kernel⟩
abbrev Sp_law_pool (K : PySem.W.Frag) : Sp := spF K (α := Int) (fun x => 0 ≤ x) (fun x => [.d (.int x)]) (fun x => .o ((poolAt x).map PyData.str))
theorem kn_law_pool (W : Wld K mg w) : Kn P w K mg base "_law_pool" ["_law_x"] 1 (Sp_law_pool K) := by
  refine kn_fun W.f_law_pool sc_law_pool (fun _ => rfl) (fun _ _ _ _ _ _ us hl => match us, hl with | [_], _ => rfl) fun f cdv A outer s H E hr => ⟨_, (pss_cons (ps_set (i := 1) sc_law_pool.nd rfl (by first | exact .inl rfl | exact .inr rfl) pe_str)
    (pss_cons (ps_set (i := 2) sc_law_pool.nd rfl (by first | exact .inl rfl | exact .inr rfl) (pe_op (op_addUK (K := K) (by rfl)) (pe_lst (pa_cons pe_str (pa_cons pe_str (pa_cons pe_str pa_nil)))) (pe_callTy (call_listUK (K := K) (by rfl) rfl) (by rfl) W.b_list (by decide +kernel) (pa_cons (pv 1) pa_nil))))
    (pss_cons (ps_for PassesOwn.never rfl (pi_str (pv 1)) (pg_name (i := 3) sc_law_pool.nd rfl (by first | exact .inl rfl | exact .inr rfl)) (pss_one (ps_set (i := 2) sc_law_pool.nd rfl (by first | exact .inl rfl | exact .inr rfl) (pe_op (op_addUK (K := K) (by rfl)) (pv 2) (pe_lc (own := [("_law_other", 4)]) rfl sc_law_pool.nd (pi_str (pv 1)) (blkOk_by (N := ["_law_x", "_law_letters", "_law_pool_here", "_law_one", "_law_other"]) (sc := defScope (top 59)) (by decide +kernel)) (fun _ _ _ _ _ => (pg_name (i := 4) sc_law_pool.nd rfl (by first | exact .inl rfl | exact .inr rfl))) (fun _ _ _ _ _ => pts_nil) (fun _ _ _ _ _ => (pe_op (op_addUK (K := K) (by rfl)) (pv 3) (pv 4))))))))
    (pss_one (ps_ret (pe_op (op_addUK (K := K) (by rfl)) (pe_slice (sl_UK (K := K) (by rfl)) (pv 2) (po_some (pe_op op_modI (pv 0) pe_int)) po_none) (pe_slice (sl_UK (K := K) (by rfl)) (pv 2) po_none (po_some (pe_op op_modI (pv 0) pe_int))))))))), fun M z hz => ?_⟩
  have hz' : 0 ≤ z := hz
  refine ts_asg te_str ?_ rfl
  refine ts_asg (s := .o (((["longname", "longnamf", "abc"] : List Str) ++ letters.cps.toList.map sg).map PyData.str)) (te_is (te_op (te_lst (ds := (["longname", "longnamf", "abc"] : List Str).map PyData.str) (ta_cons te_str (ta_cons te_str (ta_cons te_str ta_nil))) (Nat.le_of_ble_eq_true rfl)) (te_cb (ta_cons (te_var rfl) ta_nil) (rc_listS (by decide))) (rv_addL rfl rfl (by decide))) (by rw [List.map_append, List.map_map]; rfl)) ?_ rfl
  refine ts_forS (α := Nat) (enc := fun c => .d (.str ⟨#[c]⟩)) (l := letters.cps.toList) (js := [3]) (fun i γ => ∃ x y, γ = [some (.d (.int z)), some (.d (.str letters)), some (.o (((["longname", "longnamf", "abc"] : List Str) ++ letters.cps.toList.map sg ++ (letters.cps.toList.take i).flatMap fun a => letters.cps.toList.map fun b => sg a ++ sg b).map PyData.str)), x, y]) (ti_str (te_var rfl)) ⟨none, none, by simp; rfl⟩ ?_ ?_
  · rintro i a γ1 hi ⟨x, y, rfl⟩
    have hil : i < 8 := (List.getElem?_eq_some_iff.mp hi).1
    refine ⟨_, tg_name, ts_asg1 (s := .o (((["longname", "longnamf", "abc"] : List Str) ++ letters.cps.toList.map sg ++ (letters.cps.toList.take (i + 1)).flatMap fun a => letters.cps.toList.map fun b => sg a ++ sg b).map PyData.str)) (te_is (te_op (te_var rfl) (te_lc0 (α := Nat) (enc := fun c => .d (.str ⟨#[c]⟩)) (l := letters.cps.toList) (fun b => .str (sg a ++ sg b)) (ti_tc (ti_str (te_var rfl))) (by decide) (by simp) fun b hb => ⟨_, tg_name, te_op (te_var rfl) (te_var rfl) (rv_addS (show 1 + 1 ≤ 100000 by decide))⟩) (rv_addL rfl rfl ?_)) ?_) ⟨_, _, rfl⟩ rfl⟩
    · rw [List.length_map, List.length_map, List.length_append, List.length_append]
      have h1 := flatMap_le (f := fun a => letters.cps.toList.map fun b => sg a ++ sg b) (l := letters.cps.toList.take i) (n := 8) fun _ _ => by rw [List.length_map]; decide
      have h2 : (letters.cps.toList.take i).length ≤ 8 := by rw [List.length_take]; exact Nat.le_trans (Nat.min_le_right _ _) (by decide)
      have h3 : (letters.cps.toList.map sg).length = 8 := rfl
      have h4 : letters.cps.toList.length = 8 := rfl
      have h5 : (["longname", "longnamf", "abc"] : List Str).length = 3 := rfl
      omega
    · rw [List.take_succ, hi, List.flatMap_append, ← List.append_assoc, List.map_append (l₂ := List.flatMap _ _)]
      simp
  · rintro γ1 ⟨x, y, rfl⟩
    rw [List.take_length]
    have hm : 0 ≤ z % 75 ∧ z % 75 < 75 := by omega
    have hl := pool_len
    refine ts_ret (te_is (te_op (te_sl (te_var rfl) (to_some (te_op (te_var rfl) te_int (rv_mod (by decide)))) to_none (rsl_L rfl)) (te_sl (te_var rfl) to_none (to_some (te_op (te_var rfl) te_int (rv_mod (by decide)))) (rsl_L rfl)) (rv_addL rfl rfl ?_)) ?_) rfl
    · have hp : (pool75.map PyData.str).length = 75 := by rw [List.length_map, hl]
      have h1 := cutD_len (pool75.map PyData.str) (some (z % 75)) none
      have h2 := cutD_len (pool75.map PyData.str) none (some (z % 75))
      exact Nat.le_trans (Nat.add_le_add h1 h2) (by omega)
    · show Sv.o (cutD (pool75.map PyData.str) (some (z % 75)) none ++ cutD (pool75.map PyData.str) none (some (z % 75))) = Sv.o ((poolAt z).map PyData.str)
      unfold cutD poolAt
      have e1 : HT.sIx (pool75.map PyData.str).length 0 (some (z % 75)) = (z % 75).toNat := by
        show (if z % 75 < 0 then _ else min (z % 75).toNat (pool75.map PyData.str).length) = _
        rw [if_neg (by omega), List.length_map, hl]
        omega
      have e2 : HT.sIx (pool75.map PyData.str).length (pool75.map PyData.str).length (some (z % 75)) = (z % 75).toNat := by
        show (if z % 75 < 0 then _ else min (z % 75).toNat (pool75.map PyData.str).length) = _
        rw [if_neg (by omega), List.length_map, hl]
        omega
      rw [e1, e2, HT.sIx_none, HT.sIx_none, List.map_append, List.map_drop, List.map_take, List.drop_zero, Nat.sub_zero]
      congr 2
      rw [List.take_of_length_le (by rw [List.length_drop]; omega)]
theorem sc_law_next : FnScope ["_law_box"] ["_law_box"] (defScope (top 58)) := ⟨rfl, rfl, rfl, by decide +kernel, rfl, by decide +kernel, by decide +kernel⟩
abbrev Sp_law_next (K : PySem.W.Frag) : Sp := spG K (α := Unit) (fun _ => True) (fun _ => [.b]) (fun _ s => ∃ k : Int, s = .d (.int k) ∧ 0 ≤ k ∧ k < 2147483648)
theorem kn_law_next (W : Wld K mg w) : Kn P w K mg base "_law_next" ["_law_box"] 1 (Sp_law_next K) := by
  refine kn_gun W.f_law_next sc_law_next (fun _ => rfl) (fun _ _ _ _ _ _ us hl => match us, hl with | [_], _ => rfl) fun f cdv A outer s H E hr => ⟨_, (pss_cons (ps_augS (pv 0) pe_int (get_listK (K := K) (by rfl)) pe_int ip_add set_list)
    (pss_one (ps_ret (pe_ix (ix_seqK (K := K) (by rfl)) (pe_ix (ix_seqK (K := K) (by rfl)) (pv 0) pe_int (fun _ _ => rfl)) (pe_op op_modI (pe_op op_subI (pe_ix (ix_seqK (K := K) (by rfl)) (pv 0) pe_int (fun _ _ => rfl)) pe_int) (pe_callB (call_lenUK (K := K) (by rfl)) (by rfl) W.b_len (by decide +kernel) (pa_cons (pe_ix (ix_seqK (K := K) (by rfl)) (pv 0) pe_int (fun _ _ => rfl)) pa_nil))) (fun _ _ => rfl))))), fun M z hz => ?_⟩
  refine ts_tick rfl ?_
  refine ts_retP (P := fun s => ∃ k : Int, s = .d (.int k) ∧ 0 ≤ k ∧ k < 2147483648) (tp_op (tp_box0 rfl) (P2 := fun s => ∃ k : Int, s = .d (.int k) ∧ 0 ≤ k ∧ k < 1500) (fun s1 h1 => ?_) ?_) fun s h => h
  · refine tp_op (P1 := fun s => ∃ k : Int, s = .d (.int k)) (tp_op (tp_box1 rfl) (fun s _ => te_tp te_int) ?_) (P2 := fun s => s = .d (.int (1500 : Nat))) (fun s _ => tp_cb (tpa_cons (Pt := fun ss => ∃ ns : List Int, ss = [.l (ns.map PyData.int)] ∧ ns.length = 1500) (tp_box0 rfl) (fun s _ => tpa_nil) ?_) ?_) ?_
    · rintro s1 s2 ⟨k, rfl, hk⟩ rfl
      exact ⟨_, ⟨k - 1, rfl⟩, rv_sub⟩
    · rintro s ss ⟨ns, rfl, hl, _⟩ rfl
      exact ⟨ns, rfl, hl⟩
    · rintro ss ⟨ns, rfl, hl⟩
      exact ⟨_, rfl, te_isRc (rc_lenL rfl) (by rw [List.length_map, hl])⟩
    · rintro s1 s2 ⟨k, rfl⟩ rfl
      exact ⟨_, ⟨k % 1500, rfl, by omega, by omega⟩, rv_mod (by decide)⟩
  · rintro s1 s2 ⟨ns, rfl, hl, hn⟩ ⟨k, rfl, hk, hk2⟩
    have hlt : k.toNat < ns.length := by omega
    have e : (ns.map PyData.int)[k.toNat]? = some (.int ns[k.toNat]) := by rw [List.getElem?_map, List.getElem?_eq_getElem hlt]; rfl
    have := hn _ (List.getElem_mem hlt)
    refine ⟨_, ⟨ns[k.toNat], rfl, this⟩, rv_ixL rfl ?_⟩
    have := at_nat e
    rwa [Int.toNat_of_nonneg hk] at this
theorem tp_next {M : Addr → Prop} {γ : G} {i : Nat} (h : γ[i]? = some (some .b)) : Tp K M (tCall (Sp_law_next K) [] E0 (tCons (tVar i) tNil)) γ (fun s => ∃ k : Int, s = .d (.int k) ∧ 0 ≤ k ∧ k < 2147483648) :=
  tp_callG (tpa_of (ta_cons (te_var h) ta_nil)) (fun ss e => ⟨(), trivial, by rw [e]; rfl, rfl⟩) fun s ⟨k, e, _⟩ => by rw [e]; rfl
theorem atI_of {α : Type} {xs : List α} {k : Int} (h : 0 ≤ k) (h2 : k < xs.length) : ∃ x, xs[k.toNat]? = some x ∧ atI xs k = some x := by
  have hlt : k.toNat < xs.length := by omega
  refine ⟨_, List.getElem?_eq_getElem hlt, ?_⟩
  have := at_nat (List.getElem?_eq_getElem hlt)
  rwa [Int.toNat_of_nonneg h] at this
theorem sc_law_one_of : FnScope ["_law_box", "_law_some"] ["_law_box", "_law_some"] (defScope (top 77)) := ⟨rfl, rfl, rfl, by decide +kernel, rfl, by decide +kernel, by decide +kernel⟩
abbrev Sp_law_one_of (K : PySem.W.Frag) : Sp := spG K (α := List PyData) (fun ds => ds ≠ [] ∧ ds.length ≤ 50000) (fun ds => [.b, .l ds]) (fun ds s => ∃ d ∈ ds, s = .d d)
theorem kn_law_one_of (W : Wld K mg w) : Kn P w K mg base "_law_one_of" ["_law_box", "_law_some"] 2 (Sp_law_one_of K) := by
  refine kn_gun W.f_law_one_of sc_law_one_of (fun _ => rfl) (fun _ _ _ _ _ _ us hl => match us, hl with | [_, _], _ => rfl) fun f cdv A outer s H E hr => ⟨_, (pss_one (ps_ret (pe_ix (ix_seqK (K := K) (by rfl)) (pv 1) (pe_op op_modI (pe_knK (K := K) (by rfl) (kn_law_next W) hr (by decide) (by rfl) (pa_cons (pv 0) pa_nil)) (pe_callB (call_lenUK (K := K) (by rfl)) (by rfl) W.b_len (by decide +kernel) (pa_cons (pv 1) pa_nil))) (fun _ _ => rfl)))), fun M z hz => ?_⟩
  obtain ⟨hne, hl⟩ := hz
  have hpos : 0 < z.length := List.length_pos_iff.mpr hne
  refine ts_retP (P := fun s => ∃ d ∈ z, s = .d d) (tp_op (te_tp (te_var rfl)) (P2 := fun s => ∃ k : Int, s = .d (.int k) ∧ 0 ≤ k ∧ k < z.length) (fun s1 _ => tp_op (tp_next rfl) (fun s _ => te_tp (te_cb (ta_cons (te_var rfl) ta_nil) (rc_lenL rfl))) ?_) ?_) fun s h => h
  · rintro s1 s2 ⟨k, rfl, hk⟩ rfl
    exact ⟨_, ⟨k % (z.length : Int), rfl, Int.emod_nonneg _ (by omega), Int.emod_lt_of_pos _ (by omega)⟩, rv_mod (by omega)⟩
  · rintro s1 s2 rfl ⟨k, rfl, h0, h1⟩
    obtain ⟨d, e1, e2⟩ := atI_of h0 h1
    exact ⟨_, ⟨d, List.mem_of_getElem? e1, rfl⟩, rv_ixL rfl e2⟩
theorem sc_law_moment : FnScope ["_law_box", "_law_x"] ["_law_box"] (defScope (top 60)) := ⟨rfl, rfl, rfl, by decide +kernel, rfl, by decide +kernel, by decide +kernel⟩
abbrev Sp_law_moment (K : PySem.W.Frag) : Sp := spG K (α := Unit) (fun _ => True) (fun _ => [.b]) (fun _ s => ∃ t : Int, s = .d (.int t))
theorem kn_law_moment (W : Wld K mg w) : Kn P w K mg base "_law_moment" ["_law_box"] 2 (Sp_law_moment K) := by
  refine kn_gun W.f_law_moment sc_law_moment (fun _ => rfl) (fun _ _ _ _ _ _ us hl => match us, hl with | [_], _ => rfl) fun f cdv A outer s H E hr => ⟨_, (pss_cons (ps_set (i := 1) sc_law_moment.nd rfl (by first | exact .inl rfl | exact .inr rfl) (pe_knK (K := K) (by rfl) (kn_law_next W) hr (by decide) (by rfl) (pa_cons (pv 0) pa_nil)))
    (pss_one (ps_ret (pe_ix (ix_seqK (K := K) (by rfl)) (pe_lst (pa_cons (pe_op op_modI (pe_op op_divI (pv 1) pe_int) pe_int) (pa_cons (pe_op op_modI (pe_op op_divI (pv 1) pe_int) pe_int) (pa_cons (pe_op op_modI (pe_op op_divI (pv 1) pe_int) pe_int) (pa_cons (pe_op op_subI (pe_op op_powI pe_int pe_int) (pe_op op_modI (pe_op op_divI (pv 1) pe_int) pe_int)) (pa_cons (pe_op op_modI (pe_op op_mulU (pe_op op_divI (pv 1) pe_int) pe_int) (pe_op op_powI pe_int pe_int)) pa_nil)))))) (pe_op op_modI (pv 1) pe_int) (fun _ _ => rfl))))), fun M z hz => ?_⟩
  refine ts_asgP (tp_next rfl) ?_
  rintro s ⟨x, rfl, h0, h1⟩
  refine ⟨rfl, ?_⟩
  have d5 : ∀ {γ : G}, γ[1]? = some (some (.d (.int x))) → Te K M (tOp rDivI (tVar 1) (tC (.int 5))) γ (.d (.int (x / 5))) := fun h => te_op (te_var h) te_int (rv_div (by decide) (by decide))
  refine ts_retP (P := fun s => ∃ t : Int, s = .d (.int t)) (tp_op (te_tp (te_lst (ds := [.int (x / 5 % 7), .int (x / 5 % 4), .int (x / 5 % 40), .int (10 ^ (12 : Int).toNat - x / 5 % 5), .int (x / 5 * 99990001 % 10 ^ (12 : Int).toNat)]) (ta_cons (te_op (d5 rfl) te_int (rv_mod (by decide))) (ta_cons (te_op (d5 rfl) te_int (rv_mod (by decide))) (ta_cons (te_op (d5 rfl) te_int (rv_mod (by decide))) (ta_cons (te_op (te_op te_int te_int (rv_pow (by unfold CPow; decide))) (te_op (d5 rfl) te_int (rv_mod (by decide))) rv_sub) (ta_cons (te_op (te_op (d5 rfl) te_int (rv_mulI (.inr (by decide)))) (te_op te_int te_int (rv_pow (by unfold CPow; decide))) (rv_mod (by decide))) ta_nil))))) (Nat.le_of_ble_eq_true rfl))) (fun s _ => te_tp (te_op (te_var rfl) te_int (rv_mod (by decide)))) ?_) fun s h => h
  rintro s1 s2 rfl rfl
  obtain ⟨d, e1, e2⟩ := atI_of (xs := [PyData.int (x / 5 % 7), .int (x / 5 % 4), .int (x / 5 % 40), .int (10 ^ (12 : Int).toNat - x / 5 % 5), .int (x / 5 * 99990001 % 10 ^ (12 : Int).toNat)]) (k := x % 5) (by omega) (by simp; omega)
  have hm := List.mem_of_getElem? e1
  have : ∃ t : Int, d = .int t := by
    simp only [List.mem_cons, List.not_mem_nil, or_false] at hm
    rcases hm with h | h | h | h | h <;> exact ⟨_, h⟩
  obtain ⟨t, rfl⟩ := this
  exact ⟨_, ⟨t, rfl⟩, rv_ixL rfl e2⟩
end Tw
namespace Tw
open PySem PySem.Spec PyProof.Rows L2
local macro_rules
  | `(tactic| walk_at "rv") => `(tactic| first
    | exact rv_ixT rfl | exact rv_addI | exact rv_sub | exact rv_ixL rfl rfl | exact rv_ixM rfl
    | exact rsl_T | exact rsl_L rfl
    | exact rv_inStrL rfl | exact rv_inStrT | exact rv_ninStrL rfl | exact rv_ninIntL rfl | exact rv_eqStr | exact rv_neStr | exact rv_eqInt | exact rv_neInt | exact rv_eqBl | exact rv_neBl
    | exact rv_lt | exact rv_gt | exact rv_ge | exact rv_leI | exact rv_leS | exact rv_isN | exact rv_notN
    | exact rc_lenT | exact rc_lenL rfl | exact rc_intB | exact rc_listT | exact rc_listL rfl | exact rc_tupleL rfl | exact rc_tupleT)
local macro_rules
  | `(tactic| walk_at "e1") => `(tactic| first
    | exact te_var rfl | exact te_int | exact te_str | exact te_bl | exact te_non | exact ta_nil | exact to_none
    | apply to_some | apply ta_cons | apply te_op | apply te_cb | apply te_sl
    | apply tt_B | apply tt_test | walk_at "rv")
local macro_rules
  | `(tactic| walk_at "e") => `(tactic| repeat walk_at "e1")

variable {P : Program} {w : World} {K : PySem.W.Frag} {mg : Str → Option Value} {base : Heap}
theorem strs_at {ns : List Str} {k : Int} {m : Nat} (h0 : 0 ≤ k) (h1 : k < ns.length) (hm : ∀ n ∈ ns, n.length ≤ m) : ∃ n : Str, n ∈ ns ∧ n.length ≤ m ∧ atI (ns.map PyData.str) k = some (.str n) := by
  obtain ⟨d, e1, e2⟩ := atI_of (xs := ns.map PyData.str) h0 (by rw [List.length_map]; exact h1)
  obtain ⟨n, e3, rfl⟩ := get_map e1
  exact ⟨n, List.mem_of_getElem? e3, hm n (List.mem_of_getElem? e3), e2⟩
def wordsT : List Str := ["one", "two", "Two", "a1", "three", "x", "0", "", "nine9"]
def marksT : List Str := [" ", ", ", ". ", "\n", "? ", "-", ""]
theorem str_len_app (a b : Str) : (a ++ b).length = a.length + b.length := by
  show (a.cps ++ b.cps).size = _
  rw [Array.size_append]
  rfl
theorem sc_law_text : FnScope ["_law_box", "_law_words", "_law_marks", "_law_text_here", "_law_k", "_law_x"] ["_law_box"] (defScope (top 61)) := ⟨rfl, rfl, rfl, by decide +kernel, rfl, by decide +kernel, by decide +kernel⟩
abbrev Sp_law_text (K : PySem.W.Frag) : Sp := spG K (α := Unit) (fun _ => True) (fun _ => [.b]) (fun _ s => ∃ x : Str, s = .d (.str x) ∧ x.length ≤ 63)
theorem kn_law_text (W : Wld K mg w) : Kn P w K mg base "_law_text" ["_law_box"] 3 (Sp_law_text K) := by
  refine kn_gun W.f_law_text sc_law_text (fun _ => rfl) (fun _ _ _ _ _ _ us hl => match us, hl with | [_], _ => rfl) fun f cdv A outer s H E hr => ⟨_, (pss_cons (ps_set (i := 1) sc_law_text.nd rfl (by first | exact .inl rfl | exact .inr rfl) (pe_lst (pa_cons pe_str (pa_cons pe_str (pa_cons pe_str (pa_cons pe_str (pa_cons pe_str (pa_cons pe_str (pa_cons pe_str (pa_cons pe_str (pa_cons pe_str pa_nil)))))))))))
    (pss_cons (ps_set (i := 2) sc_law_text.nd rfl (by first | exact .inl rfl | exact .inr rfl) (pe_lst (pa_cons pe_str (pa_cons pe_str (pa_cons pe_str (pa_cons pe_str (pa_cons pe_str (pa_cons pe_str (pa_cons pe_str pa_nil)))))))))
    (pss_cons (ps_set (i := 3) sc_law_text.nd rfl (by first | exact .inl rfl | exact .inr rfl) pe_str)
    (pss_cons (ps_for PassesOwn.never rfl (pi_range1 (by rfl) W.b_range (pa_cons (pe_ix (ix_seqK (K := K) (by rfl)) (pe_lst (pa_cons pe_int (pa_cons pe_int (pa_cons pe_int (pa_cons pe_int (pa_cons pe_int (pa_cons pe_int (pa_cons pe_int (pa_cons pe_int pa_nil))))))))) (pe_op op_modI (pe_knK (K := K) (by rfl) (kn_law_next W) hr (by decide) (by rfl) (pa_cons (pv 0) pa_nil)) pe_int) (fun _ _ => rfl)) pa_nil)) (pg_name (i := 4) sc_law_text.nd rfl (by first | exact .inl rfl | exact .inr rfl)) (pss_cons (ps_set (i := 5) sc_law_text.nd rfl (by first | exact .inl rfl | exact .inr rfl) (pe_knK (K := K) (by rfl) (kn_law_next W) hr (by decide) (by rfl) (pa_cons (pv 0) pa_nil)))
    (pss_one (ps_set (i := 3) sc_law_text.nd rfl (by first | exact .inl rfl | exact .inr rfl) (pe_op (op_addUK (K := K) (by rfl)) (pe_op (op_addUK (K := K) (by rfl)) (pv 3) (pe_ix (ix_seqK (K := K) (by rfl)) (pv 1) (pe_op op_modI (pv 5) pe_int) (fun _ _ => rfl))) (pe_ix (ix_seqK (K := K) (by rfl)) (pv 2) (pe_op op_modI (pe_op op_divI (pv 5) pe_int) pe_int) (fun _ _ => rfl)))))))
    (pss_one (ps_ret (pv 3))))))), fun M z hz => ?_⟩
  refine ts_asg (s := .o (wordsT.map PyData.str)) (te_lst (ds := wordsT.map PyData.str) (ta_cons te_str (ta_cons te_str (ta_cons te_str (ta_cons te_str (ta_cons te_str (ta_cons te_str (ta_cons te_str (ta_cons te_str (ta_cons te_str ta_nil))))))))) (Nat.le_of_ble_eq_true rfl)) ?_ rfl
  refine ts_asg (s := .o (marksT.map PyData.str)) (te_lst (ds := marksT.map PyData.str) (ta_cons te_str (ta_cons te_str (ta_cons te_str (ta_cons te_str (ta_cons te_str (ta_cons te_str (ta_cons te_str ta_nil))))))) (Nat.le_of_ble_eq_true rfl)) ?_ rfl
  refine ts_asg te_str ?_ rfl
  refine ts_forRP (Pn := fun n => 0 ≤ n ∧ n ≤ 9) (tpa_cons (P1 := fun s => ∃ n : Int, s = .d (.int n) ∧ 0 ≤ n ∧ n ≤ 9) (tp_op (te_tp (te_lst (ds := [.int 0, .int 1, .int 2, .int 3, .int 4, .int 1, .int 2, .int 9]) (ta_cons te_int (ta_cons te_int (ta_cons te_int (ta_cons te_int (ta_cons te_int (ta_cons te_int (ta_cons te_int (ta_cons te_int ta_nil)))))))) (Nat.le_of_ble_eq_true rfl))) (P2 := fun s => ∃ k : Int, s = .d (.int k) ∧ 0 ≤ k ∧ k < 8) (fun s _ => tp_op (tp_next rfl) (fun s _ => te_tp te_int) ?_) ?_) (fun s _ => tpa_nil) ?_) ?_
  · rintro s1 s2 ⟨k, rfl, h0, h1⟩ rfl
    exact ⟨_, ⟨k % 8, rfl, by omega, by omega⟩, rv_mod (by decide)⟩
  · rintro s1 s2 rfl ⟨k, rfl, h0, h1⟩
    obtain ⟨d, e1, e2⟩ := atI_of (xs := [PyData.int 0, .int 1, .int 2, .int 3, .int 4, .int 1, .int 2, .int 9]) h0 (by simp; omega)
    have hm := List.mem_of_getElem? e1
    have : ∃ t : Int, d = .int t ∧ 0 ≤ t ∧ t ≤ 9 := by
      simp only [List.mem_cons, List.not_mem_nil, or_false] at hm
      rcases hm with h | h | h | h | h | h | h | h <;> exact ⟨_, h, by decide, by decide⟩
    obtain ⟨t, rfl, ht⟩ := this
    exact ⟨_, ⟨t, rfl, ht⟩, rv_ixL rfl e2⟩
  · rintro s ss ⟨n, rfl, hn⟩ rfl
    exact ⟨n, rfl, hn⟩
  rintro n ⟨hn0, hn9⟩
  refine ts_forS (α := Nat) (enc := fun i => .d (.int (i : Nat))) (l := List.range n.toNat) (js := [4]) (fun i γ => ∃ (x : Str) (y z : Option Sv), x.length ≤ 7 * i ∧ γ = [some .b, some (.o (wordsT.map PyData.str)), some (.o (marksT.map PyData.str)), some (.d (.str x)), y, z]) (ti_rng1 (ta_cons te_int ta_nil) (by omega) (by omega)) ⟨"", none, none, by decide, rfl⟩ ?_ ?_
  · rintro i a γ1 hi ⟨x, y, z, hx, rfl⟩
    obtain ⟨hil, rfl⟩ := List.getElem?_eq_some_iff.mp hi
    rw [List.length_range] at hil
    refine ⟨_, tg_name, ts_asgP (tp_next rfl) ?_⟩
    rintro s ⟨k, rfl, h0, h1⟩
    refine ⟨rfl, ?_⟩
    obtain ⟨wd, _, hw, ew⟩ := strs_at (ns := wordsT) (k := k % 9) (m := 5) (by omega) (by show k % 9 < 9; omega) (by decide +kernel)
    obtain ⟨mk, _, hm, em⟩ := strs_at (ns := marksT) (k := k / 9 % 7) (m := 2) (by omega) (by show k / 9 % 7 < 7; omega) (by decide +kernel)
    refine ts_asg1 (te_op (te_op (te_var rfl) (te_op (te_var rfl) (te_op (te_var rfl) te_int (rv_mod (by decide))) (rv_ixL rfl ew)) (rv_addS (by omega))) (te_op (te_var rfl) (te_op (te_op (te_var rfl) te_int (rv_div (by decide) (by decide))) te_int (rv_mod (by decide))) (rv_ixL rfl em)) (rv_addS (by rw [str_len_app]; omega))) ⟨x ++ wd ++ mk, _, _, by rw [str_len_app, str_len_app]; omega, rfl⟩ rfl
  · rintro γ1 ⟨x, y, z, hx, rfl⟩
    rw [List.length_range] at hx
    exact ts_ret (te_var rfl) ⟨x, rfl, by omega⟩
theorem sc_law_some_deeds : FnScope ["_law_box", "_law_most", "_law_x"] ["_law_box", "_law_most"] (defScope (top 85)) := ⟨rfl, rfl, rfl, by decide +kernel, rfl, by decide +kernel, by decide +kernel⟩
abbrev Sp_law_some_deeds (K : PySem.W.Frag) : Sp := spG K (α := Unit) (fun _ => True) (fun _ => [.b, .d (.int 14)]) (fun _ s => ∃ k : Int, s = .d (.int k) ∧ 0 ≤ k ∧ k ≤ 14)
theorem kn_law_some_deeds (W : Wld K mg w) : Kn P w K mg base "_law_some_deeds" ["_law_box", "_law_most"] 2 (Sp_law_some_deeds K) := by
  refine kn_gun W.f_law_some_deeds sc_law_some_deeds (fun _ => rfl) (fun _ _ _ _ _ _ us hl => match us, hl with | [_, _], _ => rfl) fun f cdv A outer s H E hr => ⟨_, (pss_cons (ps_set (i := 2) sc_law_some_deeds.nd rfl (by first | exact .inl rfl | exact .inr rfl) (pe_knK (K := K) (by rfl) (kn_law_next W) hr (by decide) (by rfl) (pa_cons (pv 0) pa_nil)))
    (pss_one (ps_ret (pe_ix (ix_seqK (K := K) (by rfl)) (pe_lst (pa_cons (pe_op op_modI (pe_op op_divI (pv 2) pe_int) pe_int) (pa_cons (pe_op op_subI (pv 1) (pe_op op_modI (pe_op op_divI (pv 2) pe_int) pe_int)) pa_nil))) (pe_callTy (call_intU) (by rfl) W.b_int (by decide +kernel) (pa_cons (pe_cmpR (op_eqUK (K := K) (by rfl) hr.units) (pe_op op_modI (pv 2) pe_int) pe_int (nomark _)) pa_nil)) (fun _ _ => rfl))))), fun M z hz => ?_⟩
  refine ts_asgP (tp_next rfl) ?_
  rintro s ⟨x, rfl, h0, h1⟩
  refine ⟨rfl, ?_⟩
  have d8 : ∀ {γ : G}, γ[2]? = some (some (.d (.int x))) → Te K M (tOp rDivI (tVar 2) (tC (.int 8))) γ (.d (.int (x / 8))) := fun h => te_op (te_var h) te_int (rv_div (by decide) (by decide))
  refine ts_retP (P := fun s => ∃ k : Int, s = .d (.int k) ∧ 0 ≤ k ∧ k ≤ 14) (tp_op (te_tp (te_lst (ds := [.int (x / 8 % 7), .int (14 - x / 8 % 6)]) (ta_cons (te_op (d8 rfl) te_int (rv_mod (by decide))) (ta_cons (te_op (te_var rfl) (te_op (d8 rfl) te_int (rv_mod (by decide))) rv_sub) ta_nil)) (Nat.le_of_ble_eq_true rfl))) (fun s _ => te_tp (te_cb (ta_cons (te_op (te_op (te_var rfl) te_int (rv_mod (by decide))) te_int rv_eqInt) ta_nil) rc_intB)) ?_) fun s h => h
  rintro s1 s2 rfl rfl
  by_cases e : x % 8 = 5
  · rw [decide_eq_true e]
    exact ⟨_, ⟨14 - x / 8 % 6, rfl, by omega, by omega⟩, rv_ixL rfl rfl⟩
  · rw [decide_eq_false e]
    exact ⟨_, ⟨x / 8 % 7, rfl, by omega, by omega⟩, rv_ixL rfl rfl⟩
mutual
def smD : PyData → Bool
  | .none => true
  | .int _ => true
  | .str _ => true
  | .tuple ds => decide (ds.length ≤ 5000) && smAll ds
  | _ => false
def smAll : List PyData → Bool
  | [] => true
  | d :: ds => smD d && smAll ds
end
theorem smAll_iff : ∀ {ds : List PyData}, smAll ds = true ↔ ∀ d ∈ ds, smD d = true
  | [] => by simp [smAll]
  | d :: ds => by simp [smAll, smAll_iff (ds := ds)]
theorem depth_mem : ∀ {ds : List PyData} {d : PyData}, d ∈ ds → d.depth ≤ PyData.depthAll ds
  | e :: ds, d, h => by
    simp only [PyData.depthAll]
    rcases List.mem_cons.mp h with rfl | h
    · omega
    · have := depth_mem h
      omega
theorem sc_law_same : FnScope ["_law_found", "_law_due", "_law_one", "_law_other"] ["_law_found", "_law_due"] (defScope (top 62)) := ⟨rfl, rfl, rfl, by decide +kernel, rfl, by decide +kernel, by decide +kernel⟩
abbrev Sp_law_same (n : Nat) (K : PySem.W.Frag) : Sp := spF K (α := PyData) (fun d => smD d = true ∧ d.depth < n) (fun d => [.d d, .d d]) (fun _ => .d (.bool true))
theorem kn_same (W : Wld K mg w) (n : Nat) : Kn P w K mg base "_law_same" ["_law_found", "_law_due"] n (Sp_law_same n K) := by
  induction n with
  | zero =>
    obtain ⟨f, fd, F, hm⟩ := W.f_law_same
    have no : ∀ vs H Q E, ¬ Sp_law_same 0 K vs H Q E := fun vs H Q E h => by
      obtain ⟨_, _, _, _, _, ⟨z, hz, _⟩, _⟩ := h
      exact absurd hz.2 (Nat.not_lt_zero _)
    exact ⟨f, fd, ⟨fun vs H Q E h => (no vs H Q E h).elim, fun A outer s H args us vs Q E _ _ _ _ h => (no vs H Q E h).elim⟩, hm, F.kp, F.bindsN (fun _ _ _ _ _ _ us hl => match us, hl with | [_, _], _ => rfl)⟩
  | succ n ih =>
    have kn_law_same := fun _ : Wld K mg w => ih
    refine kn_fun W.f_law_same sc_law_same (fun _ => rfl) (fun _ _ _ _ _ _ us hl => match us, hl with | [_, _], _ => rfl) fun f cdv A outer s H E hr => ⟨_, (pss_cons (ps_if (pt_val (pe_callB (call_isiKK (K := K) (by rfl)) (by rfl) W.b_isinstance (by decide +kernel) (pa_cons (pv 1) (pa_cons (pe_bltn (v := .ty "tuple") (by rfl) W.b_tuple (by decide +kernel) rfl) pa_nil)))) (pss_cons (ps_if (PW.pt (pw_or (pt_not (pt_val (pe_callB (call_isiKK (K := K) (by rfl)) (by rfl) W.b_isinstance (by decide +kernel) (pa_cons (pv 0) (pa_cons (pe_bltn (v := .ty "tuple") (by rfl) W.b_tuple (by decide +kernel) rfl) pa_nil))))) (pw_or1 (pt_cmpR (op_neUK (K := K) (by rfl) hr.units) (pe_callB (call_lenUK (K := K) (by rfl)) (by rfl) W.b_len (by decide +kernel) (pa_cons (pv 0) pa_nil)) (pe_callB (call_lenUK (K := K) (by rfl)) (by rfl) W.b_len (by decide +kernel) (pa_cons (pv 1) pa_nil)) (nomark _))))) (pss_one (ps_ret pe_bl)) pss_nil)
    (pss_one (ps_ret (pe_callB (cr_allK (K := K) (by rfl) rfl) (by rfl) W.b_all (by decide +kernel) (pa_cons (pe_lc (own := [("_law_one", 2), ("_law_other", 3)]) rfl sc_law_same.nd (pi_zipK (K := K) (by rfl) (by rfl) W.b_zip (pa_cons (pv 0) (pa_cons (pv 1) pa_nil))) (blkOk_by (N := ["_law_found", "_law_due", "_law_one", "_law_other"]) (sc := defScope (top 62)) (by decide +kernel)) (fun _ _ _ _ _ => (pg_tupK (n := 2) (K := K) (by rfl) rfl (pgs_cons (pg_name (i := 2) sc_law_same.nd rfl (by first | exact .inl rfl | exact .inr rfl)) (pgs_cons (pg_name (i := 3) sc_law_same.nd rfl (by first | exact .inl rfl | exact .inr rfl)) pgs_nil)))) (fun _ _ _ _ _ => pts_nil) (fun _ _ _ _ _ => (pe_knK (K := K) (by rfl) (kn_law_same W) hr (Nat.le_refl _) (by rfl) (pa_cons (pv 2) (pa_cons (pv 3) pa_nil))))) pa_nil))))) pss_nil)
    (pss_cons (ps_if (pt_cmpR op_isNo (pv 1) pe_non (nomark _)) (pss_one (ps_ret (pe_cmpR op_isNo (pv 0) pe_non (nomark _)))) pss_nil)
    (pss_cons (ps_if (pt_val (pe_callB (call_isiKK (K := K) (by rfl)) (by rfl) W.b_isinstance (by decide +kernel) (pa_cons (pv 1) (pa_cons (pe_bltn (v := .ty "str") (by rfl) W.b_str (by decide +kernel) rfl) pa_nil)))) (pss_one (ps_ret (pe_and (pe_callB (call_isiKK (K := K) (by rfl)) (by rfl) W.b_isinstance (by decide +kernel) (pa_cons (pv 0) (pa_cons (pe_bltn (v := .ty "str") (by rfl) W.b_str (by decide +kernel) rfl) pa_nil))) (pe_one (pe_cmpR (op_eqUK (K := K) (by rfl) hr.units) (pv 0) (pv 1) (nomark _)))))) pss_nil)
    (pss_one (ps_ret (pe_and (pe_callB (call_isiKK (K := K) (by rfl)) (by rfl) W.b_isinstance (by decide +kernel) (pa_cons (pv 0) (pa_cons (pe_bltn (v := .ty "int") (by rfl) W.b_int (by decide +kernel) rfl) pa_nil))) (pe_and (pe_not (pe_callB (call_isiKK (K := K) (by rfl)) (by rfl) W.b_isinstance (by decide +kernel) (pa_cons (pv 0) (pa_cons (pe_bltn (v := .ty "bool") (by rfl) W.b_bool (by decide +kernel) rfl) pa_nil)))) (pe_one (pe_cmpR (op_eqUK (K := K) (by rfl) hr.units) (pv 0) (pv 1) (nomark _)))))))))), fun M z hz => ?_⟩
    obtain ⟨h1, h2⟩ := hz
    have isi : ∀ {γ : G} {i : Nat} {d : PyData} {c : String} {b : Bool}, γ[i]? = some (some (.d d)) → kitB (tyD d) c = some b → Te K M (tCB (rIsi K) (tCons (tVar i) (tCons (tC (.ty c)) tNil))) γ (.d (.bool b)) := fun h1 h2 => te_cb (ta_cons (te_var h1) (ta_cons te_ty ta_nil)) (rc_isi h2)
    cases z with
    | none =>
      refine ts_skip (tt_B (isi (b := false) rfl (by decide))) (ts_ifS (b := true) (tt_test (te_op (te_var rfl) te_non rv_isN)) (fun _ => ts_retS (te_op (te_var rfl) te_non rv_isN) rfl) fun e => nomatch e)
    | str x =>
      refine ts_skip (tt_B (isi (b := false) rfl (show kitB "str" "tuple" = some false by decide))) (ts_skip (tt_test (te_op (te_var rfl) te_non rv_isN)) (ts_ifS (b := true) (tt_B (isi (b := true) rfl (show kitB "str" "str" = some true by decide))) (fun _ => ts_retS (te_and (a := true) (b := true) (isi rfl (show kitB "str" "str" = some true by decide)) fun _ => te_is (te_op (te_var rfl) (te_var rfl) rv_eqStr) (by simp)) rfl) fun e => nomatch e))
    | int i =>
      refine ts_skip (tt_B (isi (b := false) rfl (show kitB "int" "tuple" = some false by decide))) (ts_skip (tt_test (te_op (te_var rfl) te_non rv_isN)) (ts_skip (tt_B (isi (b := false) rfl (show kitB "int" "str" = some false by decide))) (ts_ret (te_and (a := true) (b := true) (isi rfl (show kitB "int" "int" = some true by decide)) fun _ => te_and (a := true) (b := true) (te_not (a := false) (isi rfl (show kitB "int" "bool" = some false by decide))) fun _ => te_is (te_op (te_var rfl) (te_var rfl) rv_eqInt) (by simp)) rfl)))
    | tuple ds =>
      have h1' : decide (ds.length ≤ 5000) = true ∧ smAll ds = true := by rw [smD, Bool.and_eq_true] at h1; exact h1
      have hl := of_decide_eq_true h1'.1
      have hd : ∀ d ∈ ds, smD d = true ∧ d.depth < n := fun d hd => by
        have := depth_mem hd
        simp only [PyData.depth] at h2
        exact ⟨smAll_iff.mp h1'.2 d hd, by omega⟩
      have ez : ∀ l : List PyData, ((l.zip l).map fun p => Sv.d (.tuple [p.1, p.2])) = l.map fun d => Sv.d (.tuple [d, d]) := fun l => by
        induction l with
        | nil => rfl
        | cons a l ih => rw [List.zip_cons_cons, List.map_cons, List.map_cons, ih]
      refine ts_ifS (b := true) (tt_B (isi (b := true) rfl (show kitB "tuple" "tuple" = some true by decide))) (fun _ => ?_) fun e => nomatch e
      refine ts_seq (ts_seq (N' := fun γ => γ = [some (.d (.tuple ds)), some (.d (.tuple ds)), none, none]) (ts_skip1 (tt_or (a := false) (b := false) (tt_not (a := true) (tt_B (isi (b := true) rfl (show kitB "tuple" "tuple" = some true by decide)))) fun _ => tt_test (te_is (te_op (te_cb (ta_cons (te_var rfl) ta_nil) rc_lenT) (te_cb (ta_cons (te_var rfl) ta_nil) rc_lenT) rv_neInt) (by simp))) rfl) ?_) (N' := fun _ => False) fun _ h => h.elim
      rintro _ rfl
      refine ts_ret (te_is (te_cb (ta_cons (te_is (te_lc0 (α := PyData) (enc := fun d => .d (.tuple [d, d])) (l := ds) (fun _ => .bool true) (ti_tc (ti_is (ti_zip (ta_cons (te_var rfl) (ta_cons (te_var rfl) ta_nil)) rfl) (ez ds))) (by omega) (by simp) fun d hm => ⟨_, tg_tup (is := [2, 3]) (ds := [d, d]) rfl rfl rfl, te_callF d (ta_cons (te_var rfl) (ta_cons (te_var rfl) ta_nil)) (hd d hm) rfl rfl⟩) (s2 := .o ((ds.map fun _ => true).map PyData.bool)) (by rw [List.map_map]; rfl)) ta_nil) (rc_all rfl)) ?_) rfl
      rw [List.all_map]
      simp
    | bool b => cases h1
    | list ds => cases h1
    | dict ds => cases h1
def signsT : Str := "abcdefghijklmnopqrstuvwxyzABCDEFGHIJKLMNOPQRSTUVWXYZ0123456789"
theorem signs_small : ∀ c < 128, decide (c ∈ signsT.cps.toList) = isW c := by decide +kernel
theorem signs_lt : ∀ c ∈ signsT.cps.toList, c < 128 := by decide +kernel
theorem signs_mem (c : Nat) : decide (c ∈ signsT.cps.toList) = isW c := by
  by_cases h : c < 128
  · exact signs_small c h
  · have h1 : c ∉ signsT.cps.toList := fun hm => h (signs_lt c hm)
    rw [decide_eq_false h1]
    unfold isW
    simp
    omega
def wAt (x : Str) (i : Nat) : Bool := isW (x.cps.getD i 0)
def begs (x : Str) : List Nat := (List.range x.length).filter fun i => wAt x i && (decide (i = 0) || !wAt x (i - 1))
def wEnd (x : Str) (i : Nat) : Nat := i + ((x.cps.toList.drop i).takeWhile isW).length
theorem wEnd_step {x : Str} {i : Nat} (h : i < x.length) (hw : wAt x i = true) : wEnd x i = wEnd x (i + 1) := by
  unfold wEnd
  have hl : i < x.cps.toList.length := by rw [Array.length_toList]; exact h
  have e : x.cps.toList[i]'hl = x.cps.getD i 0 := by
    rw [Array.getElem_toList, Array.getD_eq_getD_getElem?, Array.getElem?_eq_getElem]
    rfl
  rw [List.drop_eq_getElem_cons hl, List.takeWhile_cons, e]
  have hw' : isW (x.cps.getD i 0) = true := hw
  rw [if_pos hw', List.length_cons]
  omega
theorem wEnd_stop {x : Str} {i : Nat} (h : i ≥ x.length ∨ wAt x i = false) : wEnd x i = i := by
  unfold wEnd
  by_cases hl : i < x.cps.toList.length
  · have hi : i < x.length := by rw [Array.length_toList] at hl; exact hl
    have hw : wAt x i = false := by
      rcases h with h | h
      · omega
      · exact h
    have e : x.cps.toList[i]'hl = x.cps.getD i 0 := by
      rw [Array.getElem_toList, Array.getD_eq_getD_getElem?, Array.getElem?_eq_getElem]
      rfl
    have hw' : isW (x.cps.getD i 0) = false := hw
    rw [List.drop_eq_getElem_cons hl, List.takeWhile_cons, e, if_neg (by rw [hw']; decide)]
    rfl
  · rw [List.drop_eq_nil_of_le (by omega)]
    rfl
theorem sign_at {x : Str} {i : Nat} (h : i < x.length) : atI x.cps.toList (i : Int) = some (x.cps.getD i 0) := by
  refine at_nat ?_
  have h' : i < x.cps.size := h
  rw [Array.getElem?_toList, Array.getElem?_eq_getElem h', Array.getD_eq_getD_getElem?, Array.getElem?_eq_getElem h']
  rfl
def wordedL (x : Str) (k : Nat) (o : Str) : Option Str := match (begs x)[k]? with
  | none => none
  | some p => some (cutS x none (some (p : Int)) ++ o ++ cutS x (some (wEnd x p : Int)) none)
def oS : Option Str → PyData
  | none => .none
  | some x => .str x
theorem sc_law_worded : FnScope ["_law_text_here", "_law_k", "_law_word", "_law_signs", "_law_begins", "_law_end", "_law_at", "_law_sign"] ["_law_text_here", "_law_k", "_law_word"] (defScope (top 74)) := ⟨rfl, rfl, rfl, by decide +kernel, rfl, by decide +kernel, by decide +kernel⟩
abbrev Sp_law_worded (K : PySem.W.Frag) : Sp := spF K (α := Str × Nat × Str) (fun z => z.1.length ≤ 9000 ∧ z.2.2.length ≤ 1000) (fun z => [.d (.str z.1), .d (.int z.2.1), .d (.str z.2.2)]) (fun z => .d (oS (wordedL z.1 z.2.1 z.2.2)))
theorem kn_law_worded (W : Wld K mg w) : Kn P w K mg base "_law_worded" ["_law_text_here", "_law_k", "_law_word"] 1 (Sp_law_worded K) := by
  refine kn_fun W.f_law_worded sc_law_worded (fun _ => rfl) (fun _ _ _ _ _ _ us hl => match us, hl with | [_, _, _], _ => rfl) fun f cdv A outer s H E hr => ⟨_, (pss_cons (ps_set (i := 3) sc_law_worded.nd rfl (by first | exact .inl rfl | exact .inr rfl) pe_str)
    (pss_cons (ps_setLc (i := 4) (own := [("_law_at", 6), ("_law_sign", 7)]) rfl sc_law_worded.nd rfl rfl (sw_true rfl rfl rfl (by decide +kernel)) (pi_enumS (by rfl) W.b_enumerate (pa_cons (pv 0) pa_nil)) (blkOk_by (N := ["_law_text_here", "_law_k", "_law_word", "_law_signs", "_law_begins", "_law_end", "_law_at", "_law_sign"]) (sc := defScope (top 74)) (by decide +kernel)) (fun _ _ _ _ _ => (pg_tupK (n := 2) (K := K) (by rfl) rfl (pgs_cons (pg_name (i := 6) sc_law_worded.nd rfl (by first | exact .inl rfl | exact .inr rfl)) (pgs_cons (pg_name (i := 7) sc_law_worded.nd rfl (by first | exact .inl rfl | exact .inr rfl)) pgs_nil)))) (fun _ _ _ _ _ => pts_one (PW.pt (pw_and (pt_cmpR (op_inUK (K := K) (by rfl) hr.u65) (pv 7) (pv 3) (by rfl)) (pw_and1 (PW.pt (pw_or (pt_cmpR (op_eqUK (K := K) (by rfl) hr.units) (pv 6) pe_int (nomark _)) (pw_or1 (pt_cmpR (op_notInUK (K := K) (by rfl) hr.u65) (pe_ix (ix_seqK (K := K) (by rfl)) (pv 0) (pe_op op_subI (pv 6) pe_int) (fun _ _ => rfl)) (pv 3) (by rfl))))))))) (fun _ _ _ _ _ => (pv 6)))
    (pss_cons (ps_if (pt_cmpR op_geI (pv 1) (pe_callB (call_lenUK (K := K) (by rfl)) (by rfl) W.b_len (by decide +kernel) (pa_cons (pv 4) pa_nil)) (nomark _)) (pss_one (ps_ret pe_non)) pss_nil)
    (pss_cons (ps_set (i := 5) sc_law_worded.nd rfl (by first | exact .inl rfl | exact .inr rfl) (pe_ix (ix_seqK (K := K) (by rfl)) (pv 4) (pv 1) (fun _ _ => rfl)))
    (pss_cons (ps_while PassesOwn.never (PW.pt (pw_and (pt_cmpR op_ltI (pv 5) (pe_callB (call_lenUK (K := K) (by rfl)) (by rfl) W.b_len (by decide +kernel) (pa_cons (pv 0) pa_nil)) (nomark _)) (pw_and1 (pt_cmpR (op_inUK (K := K) (by rfl) hr.u65) (pe_ix (ix_seqK (K := K) (by rfl)) (pv 0) (pv 5) (fun _ _ => rfl)) (pv 3) (by rfl))))) (pss_one (ps_set (i := 5) sc_law_worded.nd rfl (by first | exact .inl rfl | exact .inr rfl) (pe_op (op_addUK (K := K) (by rfl)) (pv 5) pe_int))))
    (pss_one (ps_ret (pe_op (op_addUK (K := K) (by rfl)) (pe_op (op_addUK (K := K) (by rfl)) (pe_slice (sl_UK (K := K) (by rfl)) (pv 0) po_none (po_some (pe_ix (ix_seqK (K := K) (by rfl)) (pv 4) (pv 1) (fun _ _ => rfl)))) (pv 2)) (pe_slice (sl_UK (K := K) (by rfl)) (pv 0) (po_some (pv 5)) po_none))))))))), fun M z hz => ?_⟩
  obtain ⟨x, k, o⟩ := z
  obtain ⟨hx, ho⟩ : x.length ≤ 9000 ∧ o.length ≤ 1000 := hz
  have hbl : (begs x).length ≤ 9000 := Nat.le_trans (List.length_filter_le _ _) (by rw [List.length_range]; exact hx)
  refine ts_asg (te_str (i := signsT)) ?_ rfl
  refine ts_asg (s := .o ((begs x).map fun i => PyData.int (i : Nat))) (te_lc (α := Nat) (enc := fun i => .d (.tuple [.int (i : Nat), .str ⟨#[x.cps.getD i 0]⟩])) (l := List.range x.length) (fun i => wAt x i && (decide (i = 0) || !wAt x (i - 1))) (fun i => .int (i : Nat)) (ti_tc (ti_enumS (ta_cons (te_var rfl) ta_nil))) (by rw [List.length_range]; omega) (by simp) fun i hi => ⟨_, tg_tup (is := [6, 7]) (ds := [.int (i : Nat), .str ⟨#[x.cps.getD i 0]⟩]) rfl rfl rfl, ?_, fun _ => te_var rfl⟩) ?_ rfl
  · have hi' := List.mem_range.mp hi
    refine tt_and (tt_test (te_is (te_op (te_var rfl) (te_var rfl) rv_inS) (by rw [signs_mem]; rfl))) fun _ => tt_or (tt_test (te_is (te_op (te_var rfl) te_int rv_eqInt) (by simp))) fun e => ?_
    have h0 : i ≠ 0 := of_decide_eq_false e
    have ei : (i : Int) - 1 = ((i - 1 : Nat) : Int) := by omega
    exact tt_test (te_is (te_op (te_op (te_var rfl) (te_op (te_var rfl) te_int rv_sub) (rv_ixS (show x.length ≤ 100000 by omega) (by rw [ei]; exact sign_at (show i - 1 < x.length by omega)))) (te_var rfl) rv_ninS) (by rw [signs_mem]; rfl))
  by_cases hk : k < (begs x).length
  · have hb : (begs x)[k]? = some (begs x)[k] := List.getElem?_eq_getElem hk
    generalize (begs x)[k] = p at hb
    have hat : atI ((begs x).map fun i => PyData.int (i : Nat)) (k : Int) = some (.int (p : Nat)) := at_nat (by rw [List.getElem?_map, hb]; rfl)
    have hp : p < x.length := by
      have := List.mem_of_getElem? hb
      exact List.mem_range.mp (List.mem_filter.mp this).1
    refine ts_skip (tt_test (te_is (te_op (te_var rfl) (te_cb (ta_cons (te_var rfl) ta_nil) (rc_lenL rfl)) rv_ge) ?_)) ?_
    · rw [List.length_map]
      exact congrArg (fun k => Sv.d (.bool k)) (decide_eq_false (show ¬ ((begs x).length : Int) ≤ (k : Int) by omega))
    refine ts_asg (te_op (te_var rfl) (te_var rfl) (rv_ixL rfl hat)) ?_ rfl
    refine ts_seq (N' := fun γ => γ = [some (.d (.str x)), some (.d (.int k)), some (.d (.str o)), some (.d (.str signsT)), some (.o ((begs x).map fun i => PyData.int (i : Nat))), some (.d (.int (wEnd x p : Nat))), none, none]) ?_ ?_
    · refine ts_while (fun m γ => m ≤ x.length ∧ wEnd x (x.length - m) = wEnd x p ∧ γ = [some (.d (.str x)), some (.d (.int k)), some (.d (.str o)), some (.d (.str signsT)), some (.o ((begs x).map fun i => PyData.int (i : Nat))), some (.d (.int ((x.length - m : Nat) : Int))), none, none]) (fun m => decide (x.length - m < x.length) && wAt x (x.length - m)) (n0 := x.length - p) ⟨Nat.sub_le _ _, by rw [show x.length - (x.length - p) = p by omega], by rw [show x.length - (x.length - p) = p by omega]; rfl⟩ ?_ ?_ ?_
      · rintro m γ1 ⟨h1, h2, rfl⟩
        refine tt_and (tt_test (te_is (te_op (te_var rfl) (te_cb (ta_cons (te_var rfl) ta_nil) (rc_lenS (show x.length ≤ 100000 by omega))) rv_lt) ?_)) fun e => ?_
        · exact congrArg (fun k => Sv.d (.bool k)) (decide_eq_decide.mpr (by omega))
        · have := of_decide_eq_true e
          exact tt_test (te_is (te_op (te_op (te_var rfl) (te_var rfl) (rv_ixS (show x.length ≤ 100000 by omega) (sign_at this))) (te_var rfl) rv_inS) (by rw [signs_mem]; rfl))
      · rintro m γ1 ⟨h1, h2, rfl⟩ hb
        rw [Bool.and_eq_true] at hb
        have h3 := of_decide_eq_true hb.1
        refine ts_asg1 (te_op (te_var rfl) te_int rv_addI) ⟨m - 1, by omega, by omega, ?_, ?_⟩ rfl
        · rw [show x.length - (m - 1) = x.length - m + 1 by omega, ← wEnd_step h3 hb.2, h2]
        · rw [show ((x.length - (m - 1) : Nat) : Int) = ((x.length - m : Nat) : Int) + 1 by omega]
          rfl
      · rintro m γ1 ⟨h1, h2, rfl⟩ hb
        rw [← h2, wEnd_stop]
        rw [Bool.and_eq_false_iff] at hb
        rcases hb with hb | hb
        · exact .inl (by have := of_decide_eq_false hb; omega)
        · exact .inr hb
    · rintro _ rfl
      have c1 := cutS_len x none (some (p : Int))
      have c2 := cutS_len x (some (wEnd x p : Int)) none
      refine ts_ret (te_op (te_op (te_sl (te_var rfl) to_none (to_some (te_op (te_var rfl) (te_var rfl) (rv_ixL rfl hat))) (rsl_S (show x.length ≤ 100000 by omega))) (te_var rfl) (rv_addS (show (cutS x none (some (p : Int))).length + o.length ≤ 100000 by omega))) (te_sl (te_var rfl) (to_some (te_var rfl)) to_none (rsl_S (show x.length ≤ 100000 by omega))) (rv_addS (by rw [str_len_app]; omega))) ?_
      show _ = Sv.d (oS (wordedL x k o))
      unfold wordedL
      rw [hb]
      rfl
  · refine ts_ifS (b := true) (tt_test (te_is (te_op (te_var rfl) (te_cb (ta_cons (te_var rfl) ta_nil) (rc_lenL rfl)) rv_ge) ?_)) (fun _ => ts_retS te_non ?_) fun e => nomatch e
    · rw [List.length_map]
      exact congrArg (fun k => Sv.d (.bool k)) (decide_eq_true (show ((begs x).length : Int) ≤ (k : Int) by omega))
    · show _ = Sv.d (oS (wordedL x k o))
      unfold wordedL
      rw [List.getElem?_eq_none (by omega)]
      rfl
end Tw
namespace Tw
open PySem PySem.Spec PyProof.Rows L2
local macro_rules
  | `(tactic| walk_at "rv") => `(tactic| first
    | exact rv_ixT rfl | exact rv_addI | exact rv_sub | exact rv_ixL rfl rfl | exact rv_ixM rfl
    | exact rsl_T | exact rsl_L rfl
    | exact rv_inStrL rfl | exact rv_inStrT | exact rv_ninStrL rfl | exact rv_ninIntL rfl | exact rv_eqStr | exact rv_neStr | exact rv_eqInt | exact rv_neInt | exact rv_eqBl | exact rv_neBl
    | exact rv_lt | exact rv_gt | exact rv_ge | exact rv_leI | exact rv_leS | exact rv_isN | exact rv_notN
    | exact rc_lenT | exact rc_lenL rfl | exact rc_intB | exact rc_listT | exact rc_listL rfl | exact rc_tupleL rfl | exact rc_tupleT)
local macro_rules
  | `(tactic| walk_at "e1") => `(tactic| first
    | exact te_var rfl | exact te_int | exact te_str | exact te_bl | exact te_non | exact ta_nil | exact to_none
    | apply to_some | apply ta_cons | apply te_op | apply te_cb | apply te_sl
    | apply tt_B | apply tt_test | walk_at "rv")
local macro_rules
  | `(tactic| walk_at "e") => `(tactic| repeat walk_at "e1")

section
variable {K : PySem.W.Frag} {M : Addr → Prop} {γ : G} {wi : TI} {g : TG} {tu tz : TS} {N : G → Prop} {R : Sv → Prop}
theorem ts_findT {α : Type} {enc : α → Sv} {l : List α} {js : List Nat} (f : α → Bool) (Fr : G → Prop) (hw : Ti K M wi γ (l.map enc)) (h0 : Fr γ) (hit : ∀ a γ1, l.find? f = some a → Fr γ1 → ∃ γ2, Tg K M g js γ1 (enc a) γ2 ∧ Ts K M tu γ2 (fun _ => False) R)
    (miss : ∀ a γ1, a ∈ l → f a = false → Fr γ1 → ∃ γ2, Tg K M g js γ1 (enc a) γ2 ∧ Ts K M tu γ2 Fr R) (hn : l.find? f = none → ∀ γ1, Fr γ1 → Ts K M tz γ1 N R) : Ts K M (tSeq (tFor wi g tu) tz) γ N R := by
  refine ts_forS (js := js) (fun i γ => Fr γ ∧ ∀ a ∈ l.take i, f a = false) hw ⟨h0, fun a h => by simp at h⟩ ?_ ?_
  · rintro i a γ1 hi ⟨h1, h2⟩
    cases hf : f a with
    | true =>
      obtain ⟨γ2, a1, a2⟩ := hit a γ1 (List.find?_eq_some_iff_append.mpr ⟨hf, l.take i, l.drop (i + 1), by
        obtain ⟨hl, rfl⟩ := List.getElem?_eq_some_iff.mp hi
        rw [List.getElem_cons_drop, List.take_append_drop], fun q hq => by rw [h2 q hq]; rfl⟩) h1
      exact ⟨γ2, a1, ts_mono a2 (fun _ z => z.elim) fun _ z => z⟩
    | false =>
      obtain ⟨γ2, a1, a2⟩ := miss a γ1 (List.mem_of_getElem? hi) hf h1
      refine ⟨γ2, a1, ts_mono a2 (fun γ2 z => ⟨z, fun q hq => ?_⟩) fun _ z => z⟩
      rw [List.take_succ, hi] at hq
      rcases List.mem_append.mp hq with h | h
      · exact h2 q h
      · simp at h
        subst h
        exact hf
  · rintro γ1 ⟨h1, h2⟩
    rw [List.take_length] at h2
    exact hn (List.find?_eq_none.mpr fun a ha => by rw [h2 a ha]; decide) γ1 h1
end
theorem eNs_app (a b : List Str) : PyData.tuple (a.map PyData.str ++ b.map PyData.str) = eNs (a ++ b) := by
  show _ = PyData.tuple ((a ++ b).map PyData.str)
  rw [List.map_append]
def Book.lkL (b : Book) (n : Str) : Option Link := b.k.find? fun l => decide (n ∈ l.a ++ l.b)
def Book.momsL (b : Book) (l : Link) (s : Bool) : List Int := l.lost (!s) ++ ((b.side (!s)).filter fun p => decide (p.n ∈ l.side (!s))).flatMap Part.m
def Book.stL (b : Book) (n : Str) : Stn :=
  if n ∈ b.z then .alone else match b.lkL n with
    | none => .lacking
    | some l => match leastI ((b.momsL l (decide (n ∈ l.b))).filter fun t => decide (l.t < t)) with
      | none => .step
      | some t => .stale t
def Book.rowL (b : Book) (s : Bool) : List (Str × Stn) := (b.side s).map fun p => (p.n, b.stL p.n)
theorem leE_int (a b : Int) : leE a b = decide (a ≤ b) := by
  have e : ∀ i : Int, PySem.W.keyToks (Enc.enc i) = [.inl i] := fun i => by show PySem.W.keyToks (.int i) = _; simp [PySem.W.keyToks]
  show (!(PyProof.Rows.lexLt PyProof.Rows.itemOrd (PySem.W.keyToks (Enc.enc b)) (PySem.W.keyToks (Enc.enc a)))) = _
  rw [e, e, PyProof.Rows.lex_cons]
  show (!(decide (b < a) || (!decide (a < b) && false))) = decide (a ≤ b)
  rw [Bool.eq_iff_iff]
  simp
theorem least_foldl : ∀ (l : List Int) (a : Int), (∀ k ∈ l, l.foldl min a ≤ k) ∧ l.foldl min a ≤ a ∧ (l.foldl min a = a ∨ l.foldl min a ∈ l)
  | [], a => ⟨(fun k h => by cases h), Int.le_refl _, .inl rfl⟩
  | b :: l, a => by
    obtain ⟨h1, h2, h3⟩ := least_foldl l (min a b)
    rw [List.foldl_cons]
    refine ⟨fun k hk => ?_, by omega, ?_⟩
    · rcases List.mem_cons.mp hk with rfl | hk
      · omega
      · exact h1 k hk
    · rcases h3 with h3 | h3
      · rw [h3]
        by_cases e : a ≤ b
        · exact .inl (by omega)
        · exact .inr (by rw [show min a b = b by omega]; exact List.mem_cons_self)
      · exact .inr (List.mem_cons_of_mem _ h3)
theorem leastI_iff {l : List Int} {t : Int} : leastI l = some t ↔ t ∈ l ∧ ∀ k ∈ l, t ≤ k := by
  cases l with
  | nil => simp [leastI]
  | cons a l =>
    obtain ⟨h1, h2, h3⟩ := least_foldl l a
    have hmem : l.foldl min a ∈ a :: l := by
      rcases h3 with h | h
      · rw [h]; exact List.mem_cons_self
      · exact List.mem_cons_of_mem _ h
    have hle : ∀ k ∈ a :: l, l.foldl min a ≤ k := fun k hk => by
      rcases List.mem_cons.mp hk with rfl | hk
      · exact h2
      · exact h1 k hk
    constructor
    · intro h
      cases h
      exact ⟨hmem, hle⟩
    · rintro ⟨h4, h5⟩
      have := hle t h4
      have := h5 _ hmem
      show some (l.foldl min a) = some t
      congr 1
      omega
theorem leastI_none {l : List Int} : leastI l = none ↔ l = [] := by cases l <;> simp [leastI]
theorem leastI_congr {l m : List Int} (h : ∀ k, k ∈ l ↔ k ∈ m) : leastI l = leastI m := by
  cases e : leastI m with
  | none =>
    rw [leastI_none] at e ⊢
    subst e
    exact List.eq_nil_iff_forall_not_mem.mpr fun k hk => by simpa using (h k).mp hk
  | some t =>
    rw [leastI_iff] at e ⊢
    exact ⟨(h t).mpr e.1, fun k hk => e.2 k ((h k).mp hk)⟩
theorem sorted_head (l : List Int) : (sortE l).head? = leastI l := by
  cases e : sortE l with
  | nil =>
    have : l = [] := List.eq_nil_of_length_eq_zero (by rw [← sortE_len l, e]; rfl)
    subst this
    rfl
  | cons a r =>
    refine (leastI_iff.mpr ⟨sortE_mem.mp (by rw [e]; exact List.mem_cons_self), fun k hk => ?_⟩).symm
    have hp := sortE_pw l
    rw [e, List.pairwise_cons] at hp
    have hk' : k ∈ a :: r := by rw [← e]; exact sortE_mem.mpr hk
    rcases List.mem_cons.mp hk' with rfl | hk'
    · exact Int.le_refl _
    · have := hp.1 k hk'
      rw [leE_int] at this
      exact of_decide_eq_true this
theorem sob_ints (l : List Int) : Sob (l.map PyData.int) := sob_map (β := Int) (.inr fun d h => by obtain ⟨q, _, rfl⟩ := List.mem_map.mp h; exact ⟨(fun z => nomatch z), (fun xs z => nomatch z)⟩) fun q _ => by
  show (PyData.int q).depth ≤ 60
  simp [PyData.depth]
theorem srt_ints (l : List Int) : srtD (l.map PyData.int) = (sortE l).map PyData.int := srtD_map (β := Int) l
theorem eqv_ints (a b : List Int) : PyData.eqv (.list (a.map PyData.int)) (.list (b.map PyData.int)) = decide (a = b) := by
  have h : PyData.eqv (.list (a.map PyData.int)) (.list (b.map PyData.int)) = PyData.eqvAll (a.map PyData.int) (b.map PyData.int) := by rw [PyData.eqv]
  have h2 : PyData.eqv (.tuple (a.map PyData.int)) (.tuple (b.map PyData.int)) = PyData.eqvAll (a.map PyData.int) (b.map PyData.int) := by rw [PyData.eqv]
  rw [h, ← h2]
  exact eqv_enc (β := List Int) a b
variable {P : Program} {w : World} {K : PySem.W.Frag} {mg : Str → Option Value} {base : Heap}
theorem sc_law_standing : FnScope ["_law_book", "_law_name", "_law_ones", "_law_others", "_law_told", "_law_lost", "_law_side_here", "_law_moments", "_law_part", "_law_later", "_law_moment_here"] ["_law_book", "_law_name"] (defScope (top 63)) := ⟨rfl, rfl, rfl, by decide +kernel, rfl, by decide +kernel, by decide +kernel⟩
abbrev Sp_law_standing (K : PySem.W.Frag) : Sp := spF K (α := Book × Str) (fun z => Small z.1) (fun z => [.d (eB z.1), .d (.str z.2)]) (fun z => .d (eSt (z.1.stL z.2)))
theorem kn_law_standing (W : Wld K mg w) : Kn P w K mg base "_law_standing" ["_law_book", "_law_name"] 1 (Sp_law_standing K) := by
  refine kn_fun W.f_law_standing sc_law_standing (fun _ => rfl) (fun _ _ _ _ _ _ us hl => match us, hl with | [_, _], _ => rfl) fun f cdv A outer s H E hr => ⟨_, (pss_cons (ps_if (pt_cmpR (op_inUK (K := K) (by rfl) hr.u65) (pv 1) (pe_ix (ix_seqK (K := K) (by rfl)) (pv 0) pe_int (fun _ _ => rfl)) (by rfl)) (pss_one (ps_ret (pe_tup (pa_cons pe_str pa_nil)))) pss_nil)
    (pss_cons (ps_for PassesOwn.never rfl (pi_tupK (K := K) (by rfl) (pe_ix (ix_seqK (K := K) (by rfl)) (pv 0) pe_int (fun _ _ => rfl))) (pg_tupK (n := 4) (K := K) (by rfl) rfl (pgs_cons (pg_name (i := 2) sc_law_standing.nd rfl (by first | exact .inl rfl | exact .inr rfl)) (pgs_cons (pg_name (i := 3) sc_law_standing.nd rfl (by first | exact .inl rfl | exact .inr rfl)) (pgs_cons (pg_name (i := 4) sc_law_standing.nd rfl (by first | exact .inl rfl | exact .inr rfl)) (pgs_cons (pg_name (i := 5) sc_law_standing.nd rfl (by first | exact .inl rfl | exact .inr rfl)) pgs_nil))))) (pss_one (ps_if (pt_cmpR (op_inUK (K := K) (by rfl) hr.u65) (pv 1) (pe_op (op_addUK (K := K) (by rfl)) (pv 2) (pv 3)) (by rfl)) (pss_cons (ps_set (i := 6) sc_law_standing.nd rfl (by first | exact .inl rfl | exact .inr rfl) (pe_callTy (call_intU) (by rfl) W.b_int (by decide +kernel) (pa_cons (pe_cmpR (op_inUK (K := K) (by rfl) hr.u65) (pv 1) (pv 3) (by rfl)) pa_nil)))
    (pss_cons (ps_set (i := 7) sc_law_standing.nd rfl (by first | exact .inl rfl | exact .inr rfl) (pe_callTy (call_listUK (K := K) (by rfl) rfl) (by rfl) W.b_list (by decide +kernel) (pa_cons (pe_ix (ix_seqK (K := K) (by rfl)) (pv 5) (pe_op op_subI pe_int (pv 6)) (fun _ _ => rfl)) pa_nil)))
    (pss_cons (ps_for PassesOwn.never rfl (pi_tupK (K := K) (by rfl) (pe_ix (ix_seqK (K := K) (by rfl)) (pv 0) (pe_op op_subI pe_int (pv 6)) (fun _ _ => rfl))) (pg_name (i := 8) sc_law_standing.nd rfl (by first | exact .inl rfl | exact .inr rfl)) (pss_one (ps_if (pt_cmpR (op_inUK (K := K) (by rfl) hr.u65) (pe_ix (ix_seqK (K := K) (by rfl)) (pv 8) pe_int (fun _ _ => rfl)) (pe_ix (ix_seqK (K := K) (by rfl)) (pe_lst (pa_cons (pv 3) (pa_cons (pv 2) pa_nil))) (pv 6) (fun _ _ => rfl)) (by rfl)) (pss_one (ps_set (i := 7) sc_law_standing.nd rfl (by first | exact .inl rfl | exact .inr rfl) (pe_op (op_addUK (K := K) (by rfl)) (pv 7) (pe_callTy (call_listUK (K := K) (by rfl) rfl) (by rfl) W.b_list (by decide +kernel) (pa_cons (pe_ix (ix_seqK (K := K) (by rfl)) (pv 8) pe_int (fun _ _ => rfl)) pa_nil))))) pss_nil)))
    (pss_cons (ps_set (i := 9) sc_law_standing.nd rfl (by first | exact .inl rfl | exact .inr rfl) (pe_callB (cr_sortUK (K := K) (w := w) (by rfl) (by rfl) hr.u70 rfl) (by rfl) W.b_sorted (by decide +kernel) (pa_cons (pe_lc (own := [("_law_moment_here", 10)]) rfl sc_law_standing.nd (pi_listK (K := K) (by rfl) (pv 7)) (blkOk_by (N := ["_law_book", "_law_name", "_law_ones", "_law_others", "_law_told", "_law_lost", "_law_side_here", "_law_moments", "_law_part", "_law_later", "_law_moment_here"]) (sc := defScope (top 63)) (by decide +kernel)) (fun _ _ _ _ _ => (pg_name (i := 10) sc_law_standing.nd rfl (by first | exact .inl rfl | exact .inr rfl))) (fun _ _ _ _ _ => pts_one (pt_cmpR op_gtI (pv 10) (pv 4) (nomark _))) (fun _ _ _ _ _ => (pv 10))) pa_nil)))
    (pss_cons (ps_if (pt_cmpR (op_eqUK (K := K) (by rfl) hr.units) (pv 9) (pe_lst pa_nil) (nomark _)) (pss_one (ps_ret (pe_tup (pa_cons pe_str pa_nil)))) pss_nil)
    (pss_one (ps_ret (pe_tup (pa_cons pe_str (pa_cons (pe_ix (ix_seqK (K := K) (by rfl)) (pv 9) pe_int (fun _ _ => rfl)) pa_nil)))))))))) pss_nil)))
    (pss_one (ps_ret (pe_tup (pa_cons pe_str pa_nil)))))), fun M z hz => ?_⟩
  obtain ⟨b, n⟩ := z
  have hs : Small b := hz
  refine ts_ifS (b := decide (n ∈ b.z)) (tt_B (te_op (te_var rfl) (te_op (te_var rfl) te_int (rv_ixT rfl)) rv_inStrT)) (fun e => ?_) fun e => ?_
  · refine ts_retS (te_tup (ds := [.str "alone"]) (ta_cons te_str ta_nil) (Nat.le_of_ble_eq_true rfl)) ?_
    show _ = Sv.d (eSt (b.stL n))
    unfold Book.stL
    rw [if_pos (of_decide_eq_true e)]
    rfl
  have e1 := of_decide_eq_false e
  refine ts_seq (ts_next (N := fun γ => γ = [some (.d (eB b)), some (.d (.str n)), none, none, none, none, none, none, none, none, none]) rfl) ?_
  rintro _ rfl
  refine ts_findT (α := Link) (enc := fun l => .d (eL l)) (l := b.k) (js := [2, 3, 4, 5]) (fun l => decide (n ∈ l.a ++ l.b)) (fun γ => ∃ x1 x2 x3 x4, γ = [some (.d (eB b)), some (.d (.str n)), x1, x2, x3, x4, none, none, none, none, none]) (ti_tupE (te_op (te_var rfl) te_int (rv_ixT rfl))) ⟨none, none, none, none, rfl⟩ ?_ ?_ ?_
  · rintro l γ1 hf ⟨x1, x2, x3, x4, rfl⟩
    have hm := List.mem_of_find?_eq_some hf
    have hl := hs.lk l hm
    refine ⟨_, tg_tup (is := [2, 3, 4, 5]) (ds := [eNs l.a, eNs l.b, .int l.t, .tuple [eIs l.la, eIs l.lb]]) rfl rfl rfl, ts_if (b := true) (tt_B (te_is (te_op (te_var rfl) (te_is (te_op (te_var rfl) (te_var rfl) (rv_addT ?_)) (s2 := .d (eNs (l.a ++ l.b))) (congrArg Sv.d (eNs_app _ _))) rv_inStrT) (by rw [List.find?_some hf]))) (fun _ => ?_) fun e => nomatch e⟩
    · rw [List.length_map, List.length_map]
      have := hl.a
      have := hl.b
      omega
    generalize hsd : decide (n ∈ l.b) = s
    refine ts_asg (s := .d (.int (sI s))) (te_is (te_cb (ta_cons (te_op (te_var rfl) (te_var rfl) rv_inStrT) ta_nil) rc_intB) (by rw [hsd])) ?_ rfl
    refine ts_asg (s := .o ((l.lost (!s)).map PyData.int)) (te_cb (ta_cons (te_op (te_var rfl) (te_is (te_op te_int (te_var rfl) rv_sub) (by rw [sI_not])) (rv_ixT at_llost)) ta_nil) rc_listT) ?_ rfl
    have hlen : ∀ i, (l.lost (!s) ++ (((b.side (!s)).take i).filter fun p => decide (p.n ∈ l.side (!s))).flatMap Part.m).length ≤ 6300 := fun i => by
      have h1 := hl.lost (!s)
      have h2 := flatMap_le (f := Part.m) (l := ((b.side (!s)).take i).filter fun p => decide (p.n ∈ l.side (!s))) (n := 62) fun p hp => (hs.ps (!s) p (List.mem_of_mem_take (List.mem_filter.mp hp).1)).m
      have h3 : (((b.side (!s)).take i).filter fun p => decide (p.n ∈ l.side (!s))).length ≤ 100 := Nat.le_trans (List.length_filter_le _ _) (by rw [List.length_take]; have := hs.side (!s); omega)
      have h4 := Nat.mul_le_mul_right 62 h3
      rw [List.length_append]
      omega
    refine ts_forS (α := Part) (enc := fun p => .d (eP p)) (l := b.side (!s)) (js := [8]) (fun i γ => ∃ y, γ = [some (.d (eB b)), some (.d (.str n)), some (.d (eNs l.a)), some (.d (eNs l.b)), some (.d (.int l.t)), some (.d (.tuple [eIs l.la, eIs l.lb])), some (.d (.int (sI s))), some (.o ((l.lost (!s) ++ (((b.side (!s)).take i).filter fun p => decide (p.n ∈ l.side (!s))).flatMap Part.m).map PyData.int)), y, none, none]) (ti_tupE (te_op (te_var rfl) (te_is (te_op te_int (te_var rfl) rv_sub) (by rw [sI_not])) (rv_ixT at_side))) ⟨none, by rw [List.take_zero, List.filter_nil, List.flatMap_nil, List.append_nil]; rfl⟩ ?_ ?_
    · rintro i p γ2 hi ⟨y, rfl⟩
      have hp := hs.ps (!s) p (List.mem_of_getElem? hi)
      have hh := hlen i
      refine ⟨_, tg_name, ts_if (b := decide (p.n ∈ l.side (!s))) (tt_B (te_op (te_op (te_var rfl) te_int (rv_ixT rfl)) (te_op (te_lst (ds := [eNs l.b, eNs l.a]) (ta_cons (te_var rfl) (ta_cons (te_var rfl) ta_nil)) (Nat.le_of_ble_eq_true rfl)) (te_var rfl) (rv_ixL rfl (d := eNs (l.side (!s))) (by cases s <;> rfl))) rv_inStrT)) (fun e => ?_) fun e => ?_⟩
      · refine ts_asg1 (s := .o ((l.lost (!s) ++ (((b.side (!s)).take (i + 1)).filter fun p => decide (p.n ∈ l.side (!s))).flatMap Part.m).map PyData.int)) (te_is (te_op (te_var rfl) (te_cb (ta_cons (te_op (te_var rfl) te_int (rv_ixT rfl)) ta_nil) rc_listT) (rv_addL rfl rfl ?_)) ?_) ⟨_, rfl⟩ rfl
        · rw [List.length_map, List.length_map]
          have := hp.m
          omega
        · rw [List.take_succ, hi, List.filter_append, List.flatMap_append, ← List.append_assoc, List.map_append (l₂ := List.flatMap _ _)]
          simp [of_decide_eq_true e]
      · refine ts_next ⟨some (.d (eP p)), ?_⟩
        rw [List.take_succ, hi, List.filter_append, List.flatMap_append, ← List.append_assoc]
        simp [of_decide_eq_false e]
    · rintro γ2 ⟨y, rfl⟩
      have hh := hlen (b.side (!s)).length
      rw [List.take_length] at hh ⊢
      refine ts_asg (s := .o ((sortE ((b.momsL l s).filter fun t => decide (l.t < t))).map PyData.int)) (te_is (te_cb (ta_cons (te_lc (α := Int) (enc := fun t => .d (.int t)) (l := b.momsL l s) (fun t => decide (l.t < t)) (fun t => .int t) (tc_listE (te_var rfl) rfl) (Nat.le_trans hh (by decide)) (by simp) fun t ht => ⟨_, tg_name, tt_test (te_op (te_var rfl) (te_var rfl) rv_gt), fun _ => te_var rfl⟩) ta_nil) (rc_sortL rfl (sob_ints _))) (by rw [← srt_ints])) ?_ rfl
      have hd := sorted_head ((b.momsL l s).filter fun t => decide (l.t < t))
      have est : b.stL n = match leastI ((b.momsL l s).filter fun t => decide (l.t < t)) with
          | none => .step
          | some t => .stale t := by
        unfold Book.stL Book.lkL
        rw [if_neg e1, hf]
        show (match leastI ((b.momsL l (decide (n ∈ l.b))).filter fun t => decide (l.t < t)) with
          | none => Stn.step
          | some t => .stale t) = _
        rw [hsd]
      show Ts K M _ _ _ (fun r' => r' = Sv.d (eSt (b.stL n)))
      generalize hq : sortE ((b.momsL l s).filter fun t => decide (l.t < t)) = q at hd
      rw [est, ← hd]
      cases q with
      | nil =>
        refine ts_ifS (b := true) (tt_test (te_is (te_op (te_var rfl) (te_lst (ds := ([] : List Int).map PyData.int) ta_nil (Nat.le_of_ble_eq_true rfl)) (rv_eqS (n := 1) (m := 1) rfl rfl (shp_lst (shp_ints _)) (shp_lst (shp_ints _)))) (by rw [eqv_ints]; rfl))) (fun _ => ts_retS (te_tup (ds := [.str "step"]) (ta_cons te_str ta_nil) (Nat.le_of_ble_eq_true rfl)) rfl) fun e => nomatch e
      | cons t r =>
        refine ts_skip (tt_test (te_is (te_op (te_var rfl) (te_lst (ds := ([] : List Int).map PyData.int) ta_nil (Nat.le_of_ble_eq_true rfl)) (rv_eqS (n := 1) (m := 1) rfl rfl (shp_lst (shp_ints _)) (shp_lst (shp_ints _)))) (by rw [eqv_ints]; rfl))) (ts_ret (te_tup (ds := [.str "stale", .int t]) (ta_cons te_str (ta_cons (te_op (te_var rfl) te_int (rv_ixL rfl (at_nat (i := 0) rfl))) ta_nil)) (Nat.le_of_ble_eq_true rfl)) rfl)
  · rintro l γ1 hm hf ⟨x1, x2, x3, x4, rfl⟩
    have hl := hs.lk l hm
    refine ⟨_, tg_tup (is := [2, 3, 4, 5]) (ds := [eNs l.a, eNs l.b, .int l.t, .tuple [eIs l.la, eIs l.lb]]) rfl rfl rfl, ts_if (b := false) (tt_B (te_is (te_op (te_var rfl) (te_is (te_op (te_var rfl) (te_var rfl) (rv_addT ?_)) (s2 := .d (eNs (l.a ++ l.b))) (congrArg Sv.d (eNs_app _ _))) rv_inStrT) (by rw [hf]))) (fun e => nomatch e) fun _ => ts_next ⟨_, _, _, _, rfl⟩⟩
    rw [List.length_map, List.length_map]
    have := hl.a
    have := hl.b
    omega
  · rintro hf γ1 ⟨x1, x2, x3, x4, rfl⟩
    refine ts_ret (te_tup (ds := [.str "lacking"]) (ta_cons te_str ta_nil) (Nat.le_of_ble_eq_true rfl)) ?_
    show _ = Sv.d (eSt (b.stL n))
    unfold Book.stL Book.lkL
    rw [if_neg e1, hf]
    rfl
end Tw
namespace Tw
open PySem PySem.Spec PyProof.Rows L2
local macro_rules
  | `(tactic| walk_at "rv") => `(tactic| first
    | exact rv_ixT rfl | exact rv_addI | exact rv_sub | exact rv_ixL rfl rfl | exact rv_ixM rfl
    | exact rsl_T | exact rsl_L rfl
    | exact rv_inStrL rfl | exact rv_inStrT | exact rv_ninStrL rfl | exact rv_ninIntL rfl | exact rv_eqStr | exact rv_neStr | exact rv_eqInt | exact rv_neInt | exact rv_eqBl | exact rv_neBl
    | exact rv_lt | exact rv_gt | exact rv_ge | exact rv_leI | exact rv_leS | exact rv_isN | exact rv_notN
    | exact rc_lenT | exact rc_lenL rfl | exact rc_intB | exact rc_listT | exact rc_listL rfl | exact rc_tupleL rfl | exact rc_tupleT)
local macro_rules
  | `(tactic| walk_at "e1") => `(tactic| first
    | exact te_var rfl | exact te_int | exact te_str | exact te_bl | exact te_non | exact ta_nil | exact to_none
    | apply to_some | apply ta_cons | apply te_op | apply te_cb | apply te_sl
    | apply tt_B | apply tt_test | walk_at "rv")
local macro_rules
  | `(tactic| walk_at "e") => `(tactic| repeat walk_at "e1")

variable {P : Program} {w : World} {K : PySem.W.Frag} {mg : Str → Option Value} {base : Heap}
theorem sc_law_standings : FnScope ["_law_book", "_law_rows", "_law_parts", "_law_part"] ["_law_book"] (defScope (top 64)) := ⟨rfl, rfl, rfl, by decide +kernel, rfl, by decide +kernel, by decide +kernel⟩
abbrev Sp_law_standings (K : PySem.W.Frag) : Sp := spF K (α := Book) (fun b => Small b) (fun b => [.d (eB b)]) (fun b => .d (.tuple [eRow (b.rowL false), eRow (b.rowL true)]))
theorem kn_law_standings (W : Wld K mg w) : Kn P w K mg base "_law_standings" ["_law_book"] 2 (Sp_law_standings K) := by
  refine kn_fun W.f_law_standings sc_law_standings (fun _ => rfl) (fun _ _ _ _ _ _ us hl => match us, hl with | [_], _ => rfl) fun f cdv A outer s H E hr => ⟨_, (pss_cons (ps_setLc (i := 1) (own := [("_law_parts", 2)]) rfl sc_law_standings.nd rfl rfl (sw_true rfl rfl rfl (by decide +kernel)) (pi_tupK (K := K) (by rfl) (pe_slice (sl_UK (K := K) (by rfl)) (pv 0) po_none (po_some pe_int))) (blkOk_by (N := ["_law_book", "_law_rows", "_law_parts", "_law_part"]) (sc := defScope (top 64)) (by decide +kernel)) (fun _ _ _ _ _ => (pg_name (i := 2) sc_law_standings.nd rfl (by first | exact .inl rfl | exact .inr rfl))) (fun _ _ _ _ _ => pts_nil) (fun _ _ _ _ _ => (pe_callTy (call_tupleUK (K := K) (by rfl)) (by rfl) W.b_tuple (by decide +kernel) (pa_cons (pe_lc (own := [("_law_part", 3)]) rfl sc_law_standings.nd (pi_tupK (K := K) (by rfl) (pv 2)) (blkOk_by (by kernel_rfl)) (fun _ _ _ _ _ => (pg_name (i := 3) sc_law_standings.nd rfl (by first | exact .inl rfl | exact .inr rfl))) (fun _ _ _ _ _ => pts_nil) (fun _ _ _ _ _ => (pe_tup (pa_cons (pe_ix (ix_seqK (K := K) (by rfl)) (pv 3) pe_int (fun _ _ => rfl)) (pa_cons (pe_knK (K := K) (by rfl) (kn_law_standing W) hr (by decide) (by rfl) (pa_cons (pv 0) (pa_cons (pe_ix (ix_seqK (K := K) (by rfl)) (pv 3) pe_int (fun _ _ => rfl)) pa_nil))) pa_nil))))) pa_nil))))
    (pss_one (ps_ret (pe_tup (pa_cons (pe_ix (ix_seqK (K := K) (by rfl)) (pv 1) pe_int (fun _ _ => rfl)) (pa_cons (pe_ix (ix_seqK (K := K) (by rfl)) (pv 1) pe_int (fun _ _ => rfl)) pa_nil)))))), fun M z hz => ?_⟩
  have hs : Small z := hz
  refine ts_asg (te_lc0 (α := Bool) (enc := fun s => .d (ePs (z.side s))) (l := [false, true]) (fun s => eRow (z.rowL s)) ?_ (by decide) (by simp) fun s _ => ⟨_, tg_name, ?_⟩) ?_ rfl
  · refine ti_tc (ti_is (ti_tup (te_sl (te_var rfl) to_none (to_some te_int) rsl_T)) rfl)
  · refine te_cb (ta_cons (te_lc0 (α := Part) (enc := fun p => .d (eP p)) (l := z.side s) (fun p => .tuple [.str p.n, eSt (z.stL p.n)]) (ti_tc (ti_tupE (te_var rfl))) (Nat.le_trans (hs.side s) (by decide)) (by simp) fun p hp => ⟨_, tg_name, ?_⟩) ta_nil) (te_isRc (rc_tupleL rfl) (by simp [Book.rowL, Function.comp_def]))
    exact te_tup (ds := [.str p.n, eSt (z.stL p.n)]) (ta_cons (te_op (te_var rfl) te_int (rv_ixT rfl)) (ta_cons (te_callF (z, p.n) (ta_cons (te_var rfl) (ta_cons (te_op (te_var rfl) te_int (rv_ixT rfl)) ta_nil)) hs rfl rfl) ta_nil)) (Nat.le_of_ble_eq_true rfl)
  · exact ts_ret (te_tup (ds := [eRow (z.rowL false), eRow (z.rowL true)]) (ta_cons (te_op (te_var rfl) te_int (rv_ixL rfl rfl)) (ta_cons (te_op (te_var rfl) te_int (rv_ixL rfl rfl)) ta_nil)) (Nat.le_of_ble_eq_true rfl)) rfl
theorem sc_law_lacking : FnScope ["_law_book", "_law_rows", "_law_found", "_law_row", "_law_name", "_law_standing_here"] ["_law_book"] (defScope (top 65)) := ⟨rfl, rfl, rfl, by decide +kernel, rfl, by decide +kernel, by decide +kernel⟩
abbrev Sp_law_lacking (K : PySem.W.Frag) : Sp := spF K (α := Book) (fun b => Small b) (fun b => [.d (eB b)]) (fun b => .d (.tuple [eNs (((b.rowL false).filter fun q => decide (q.2 = .lacking)).map Prod.fst), eNs (((b.rowL true).filter fun q => decide (q.2 = .lacking)).map Prod.fst)]))
theorem kn_law_lacking (W : Wld K mg w) : Kn P w K mg base "_law_lacking" ["_law_book"] 3 (Sp_law_lacking K) := by
  refine kn_fun W.f_law_lacking sc_law_lacking (fun _ => rfl) (fun _ _ _ _ _ _ us hl => match us, hl with | [_], _ => rfl) fun f cdv A outer s H E hr => ⟨_, (pss_cons (ps_set (i := 1) sc_law_lacking.nd rfl (by first | exact .inl rfl | exact .inr rfl) (pe_knK (K := K) (by rfl) (kn_law_standings W) hr (by decide) (by rfl) (pa_cons (pv 0) pa_nil)))
    (pss_cons (ps_setLc (i := 2) (own := [("_law_row", 3)]) rfl sc_law_lacking.nd rfl rfl (sw_true rfl rfl rfl (by decide +kernel)) (pi_tupK (K := K) (by rfl) (pv 1)) (blkOk_by (N := ["_law_book", "_law_rows", "_law_found", "_law_row", "_law_name", "_law_standing_here"]) (sc := defScope (top 65)) (by decide +kernel)) (fun _ _ _ _ _ => (pg_name (i := 3) sc_law_lacking.nd rfl (by first | exact .inl rfl | exact .inr rfl))) (fun _ _ _ _ _ => pts_nil) (fun _ _ _ _ _ => (pe_callTy (call_tupleUK (K := K) (by rfl)) (by rfl) W.b_tuple (by decide +kernel) (pa_cons (pe_lc (own := [("_law_name", 4), ("_law_standing_here", 5)]) rfl sc_law_lacking.nd (pi_tupK (K := K) (by rfl) (pv 3)) (blkOk_by (by kernel_rfl)) (fun _ _ _ _ _ => (pg_tupK (n := 2) (K := K) (by rfl) rfl (pgs_cons (pg_name (i := 4) sc_law_lacking.nd rfl (by first | exact .inl rfl | exact .inr rfl)) (pgs_cons (pg_name (i := 5) sc_law_lacking.nd rfl (by first | exact .inl rfl | exact .inr rfl)) pgs_nil)))) (fun _ _ _ _ _ => pts_one (pt_cmpR (op_eqUK (K := K) (by rfl) hr.units) (pv 5) (pe_tup (pa_cons pe_str pa_nil)) (nomark _))) (fun _ _ _ _ _ => (pv 4))) pa_nil))))
    (pss_one (ps_ret (pe_tup (pa_cons (pe_ix (ix_seqK (K := K) (by rfl)) (pv 2) pe_int (fun _ _ => rfl)) (pa_cons (pe_ix (ix_seqK (K := K) (by rfl)) (pv 2) pe_int (fun _ _ => rfl)) pa_nil))))))), fun M z hz => ?_⟩
  have hs : Small z := hz
  refine ts_asg (te_callF z (ta_cons (te_var rfl) ta_nil) hs rfl rfl) ?_ rfl
  refine ts_asg (te_lc0 (α := Bool) (enc := fun s => .d (eRow (z.rowL s))) (l := [false, true]) (fun s => eNs (((z.rowL s).filter fun q => decide (q.2 = .lacking)).map Prod.fst)) ?_ (by decide) (by simp) fun s _ => ⟨_, tg_name, ?_⟩) ?_ rfl
  · refine ti_tc (ti_is (ti_tup (te_var rfl)) rfl)
  · refine te_cb (ta_cons (te_lc (α := Str × Stn) (enc := fun q => .d (.tuple [.str q.1, eSt q.2])) (l := z.rowL s) (fun q => decide (q.2 = .lacking)) (fun q => .str q.1) (ti_tc (ti_tupE (te_var rfl))) ?_ (by simp) fun q hq => ⟨_, tg_tup (is := [4, 5]) (ds := [.str q.1, eSt q.2]) rfl rfl rfl, ?_, fun _ => te_var rfl⟩) ta_nil) (te_isRc (rc_tupleL rfl) (by simp [Function.comp_def]))
    · simp only [Book.rowL, List.length_map]
      exact Nat.le_trans (hs.side s) (by decide)
    · apply tt_B
      exact te_is (te_op (te_var rfl) (te_tup (ds := [.str "lacking"]) (ta_cons te_str ta_nil) (by decide)) (rv_eqS rfl rfl (shp_st q.2) (shp_st .lacking))) (by rw [show PyData.tuple [.str "lacking"] = eSt .lacking from rfl, eqv_st])
  · exact ts_ret (te_tup (ds := [_, _]) (ta_cons (te_op (te_var rfl) te_int (rv_ixL rfl rfl)) (ta_cons (te_op (te_var rfl) te_int (rv_ixL rfl rfl)) ta_nil)) (Nat.le_of_ble_eq_true rfl)) rfl
def oldsOf (r : List (Str × Stn)) : List (Int × Str) := (r.filter fun q => q.2.old.isSome).map fun q => (q.2.old.getD 0, q.1)
theorem olds_of (b : Book) : b.olds = oldsOf (b.row false ++ b.row true) := rfl
theorem rowL_le {b : Book} (hs : Small b) : (b.rowL false ++ b.rowL true).length ≤ 200 := by
  have h1 := hs.l
  have h2 := hs.r
  simp only [List.length_append, Book.rowL, List.length_map, Book.side]
  omega
theorem sc_law_stale : FnScope ["_law_book", "_law_rows", "_law_found", "_law_name", "_law_standing_here", "_law_since"] ["_law_book"] (defScope (top 66)) := ⟨rfl, rfl, rfl, by decide +kernel, rfl, by decide +kernel, by decide +kernel⟩
abbrev Sp_law_stale (K : PySem.W.Frag) : Sp := spF K (α := Book) (fun b => Small b) (fun b => [.d (eB b)]) (fun b => .d (.tuple ((sortE (oldsOf (b.rowL false ++ b.rowL true))).map fun q => .tuple [.str q.2, .int q.1])))
theorem kn_law_stale (W : Wld K mg w) : Kn P w K mg base "_law_stale" ["_law_book"] 3 (Sp_law_stale K) := by
  refine kn_fun W.f_law_stale sc_law_stale (fun _ => rfl) (fun _ _ _ _ _ _ us hl => match us, hl with | [_], _ => rfl) fun f cdv A outer s H E hr => ⟨_, (pss_cons (ps_set (i := 1) sc_law_stale.nd rfl (by first | exact .inl rfl | exact .inr rfl) (pe_knK (K := K) (by rfl) (kn_law_standings W) hr (by decide) (by rfl) (pa_cons (pv 0) pa_nil)))
    (pss_cons (ps_setLc (i := 2) (own := [("_law_name", 3), ("_law_standing_here", 4)]) rfl sc_law_stale.nd rfl rfl (sw_true rfl rfl rfl (by decide +kernel)) (pi_tupK (K := K) (by rfl) (pe_op (op_addUK (K := K) (by rfl)) (pe_ix (ix_seqK (K := K) (by rfl)) (pv 1) pe_int (fun _ _ => rfl)) (pe_ix (ix_seqK (K := K) (by rfl)) (pv 1) pe_int (fun _ _ => rfl)))) (blkOk_by (N := ["_law_book", "_law_rows", "_law_found", "_law_name", "_law_standing_here", "_law_since"]) (sc := defScope (top 66)) (by decide +kernel)) (fun _ _ _ _ _ => (pg_tupK (n := 2) (K := K) (by rfl) rfl (pgs_cons (pg_name (i := 3) sc_law_stale.nd rfl (by first | exact .inl rfl | exact .inr rfl)) (pgs_cons (pg_name (i := 4) sc_law_stale.nd rfl (by first | exact .inl rfl | exact .inr rfl)) pgs_nil)))) (fun _ _ _ _ _ => pts_one (pt_cmpR (op_eqUK (K := K) (by rfl) hr.units) (pe_ix (ix_seqK (K := K) (by rfl)) (pv 4) pe_int (fun _ _ => rfl)) pe_str (nomark _))) (fun _ _ _ _ _ => (pe_tup (pa_cons (pe_ix (ix_seqK (K := K) (by rfl)) (pv 4) pe_int (fun _ _ => rfl)) (pa_cons (pv 3) pa_nil)))))
    (pss_one (ps_ret (pe_callTy (call_tupleUK (K := K) (by rfl)) (by rfl) W.b_tuple (by decide +kernel) (pa_cons (pe_lc (own := [("_law_since", 5), ("_law_name", 3)]) rfl sc_law_stale.nd (pi_listK (K := K) (by rfl) (pe_callB (cr_sortUK (K := K) (w := w) (by rfl) (by rfl) hr.u70 rfl) (by rfl) W.b_sorted (by decide +kernel) (pa_cons (pv 2) pa_nil))) (blkOk_by (N := ["_law_book", "_law_rows", "_law_found", "_law_name", "_law_standing_here", "_law_since"]) (sc := defScope (top 66)) (by decide +kernel)) (fun _ _ _ _ _ => (pg_tupK (n := 2) (K := K) (by rfl) rfl (pgs_cons (pg_name (i := 5) sc_law_stale.nd rfl (by first | exact .inl rfl | exact .inr rfl)) (pgs_cons (pg_name (i := 3) sc_law_stale.nd rfl (by first | exact .inl rfl | exact .inr rfl)) pgs_nil)))) (fun _ _ _ _ _ => pts_nil) (fun _ _ _ _ _ => (pe_tup (pa_cons (pv 3) (pa_cons (pv 5) pa_nil))))) pa_nil)))))), fun M z hz => ?_⟩
  have hs : Small z := hz
  have hle := rowL_le hs
  refine ts_asg (te_callF z (ta_cons (te_var rfl) ta_nil) hs rfl rfl) ?_ rfl
  refine ts_asg (te_is (te_lc (α := Str × Stn) (enc := fun q => .d (.tuple [.str q.1, eSt q.2])) (l := z.rowL false ++ z.rowL true) (fun q => q.2.old.isSome) (fun q => .tuple [.int (q.2.old.getD 0), .str q.1]) (ti_tc (ti_tupE (te_is (te_op (te_op (te_var rfl) te_int (rv_ixT rfl)) (te_op (te_var rfl) te_int (rv_ixT rfl)) (rv_addT ?_)) (by rw [List.map_append])))) (by omega) (by simp) fun q hq => ⟨_, tg_tup (is := [3, 4]) (ds := [.str q.1, eSt q.2]) rfl rfl rfl, ?_, fun e => ?_⟩) (s2 := .o ((oldsOf (z.rowL false ++ z.rowL true)).map Enc.enc)) ?_) ?_ rfl
  · simp only [List.length_append] at hle
    simp only [List.length_map]
    omega
  · apply tt_B
    refine te_is (te_op (te_op (te_var rfl) te_int (rv_st0 q.2)) te_str rv_eqStr) ?_
    cases q.2 <;> simp [Stn.old, Stn.nm] <;> decide
  · obtain ⟨n, x⟩ := q
    cases x with
    | stale t => exact te_tup (ds := [_, _]) (ta_cons (te_op (te_var rfl) te_int (rv_st1 t)) (ta_cons (te_var rfl) ta_nil)) (Nat.le_of_ble_eq_true rfl)
    | alone => cases e
    | lacking => cases e
    | step => cases e
  · unfold oldsOf
    rw [List.map_map]
    rfl
  refine ts_ret (te_cb (ta_cons (te_lc0 (α := Int × Str) (enc := fun q => .d (Enc.enc q)) (l := sortE (oldsOf (z.rowL false ++ z.rowL true))) (fun q => .tuple [.str q.2, .int q.1]) (tc_listE (te_cb (ta_cons (te_var rfl) ta_nil) (rc_sortL rfl (sob_pairs _))) (by rw [srtD_map]; rfl)) ?_ (by simp) fun q hq => ⟨_, tg_tup (is := [5, 3]) (ds := [.int q.1, .str q.2]) rfl rfl rfl, te_tup (ds := [_, _]) (ta_cons (te_var rfl) (ta_cons (te_var rfl) ta_nil)) (Nat.le_of_ble_eq_true rfl)⟩) ta_nil) (rc_tupleL rfl)) rfl
  rw [sortE_len]
  unfold oldsOf
  rw [List.length_map]
  exact Nat.le_trans (List.length_filter_le _ _) (by omega)
theorem sm_str (n : Str) : smD (.str n) = true := by simp [smD]
theorem sm_int (n : Int) : smD (.int n) = true := by simp [smD]
theorem sm_tup {ds : List PyData} (h1 : ds.length ≤ 5000) (h : ∀ d ∈ ds, smD d = true) : smD (.tuple ds) = true := by
  rw [smD, Bool.and_eq_true]
  exact ⟨decide_eq_true h1, smAll_iff.mpr h⟩
theorem dp_tup {ds : List PyData} {n : Nat} (h : ∀ d ∈ ds, d.depth ≤ n) : (PyData.tuple ds).depth ≤ n + 1 := by
  have : PyData.depthAll ds ≤ n := by
    induction ds with
    | nil => simp [PyData.depthAll]
    | cons d ds ih =>
      have h1 := h d List.mem_cons_self
      have h2 := ih fun e he => h e (List.mem_cons_of_mem _ he)
      simp only [PyData.depthAll]
      omega
  simp only [PyData.depth]
  omega
theorem dp_st (x : Stn) : (eSt x).depth ≤ 1 := (shp_st x).d
theorem sm_st (x : Stn) : smD (eSt x) = true := by
  cases x <;> simp [eSt, smD, smAll]
theorem sm_row {r : List (Str × Stn)} (h : r.length ≤ 5000) : smD (eRow r) = true ∧ (eRow r).depth ≤ 3 := by
  refine ⟨sm_tup (by rw [List.length_map]; exact h) fun d hd => ?_, dp_tup fun d hd => ?_⟩
  · obtain ⟨q, _, rfl⟩ := List.mem_map.mp hd
    exact sm_tup (Nat.le_of_ble_eq_true rfl) fun d hd => by
      simp only [List.mem_cons, List.not_mem_nil, or_false] at hd
      rcases hd with rfl | rfl
      · exact sm_str _
      · exact sm_st _
  · obtain ⟨q, _, rfl⟩ := List.mem_map.mp hd
    exact dp_tup fun d hd => by
      simp only [List.mem_cons, List.not_mem_nil, or_false] at hd
      rcases hd with rfl | rfl
      · simp [PyData.depth]
      · exact dp_st _
theorem kn_law_same (W : Wld K mg w) : Kn P w K mg base "_law_same" ["_law_found", "_law_due"] 8 (Sp_law_same 8 K) := kn_same W 8
theorem mem_fine (x : Stn) : memD (eSt x) [eSt .step, eSt .alone] = x.fine := by
  unfold memD
  rw [List.any_cons, List.any_cons, List.any_nil, eqv_st, eqv_st]
  cases x <;> rfl
theorem sc_law_right : FnScope ["_law_book", "_law_rows", "_law_due", "_law_found", "_law_name", "_law_standing_here"] ["_law_book"] (defScope (top 86)) := ⟨rfl, rfl, rfl, by decide +kernel, rfl, by decide +kernel, by decide +kernel⟩
abbrev Sp_law_right (K : PySem.W.Frag) : Sp := spF K (α := Book) (fun b => Small b ∧ Closed b ∧ ∀ s, b.rowL s = b.row s) (fun b => [.d (eB b)]) (fun _ => .d (.bool true))
theorem kn_law_right (W : Wld K mg w) : Kn P w K mg base "_law_right" ["_law_book"] 9 (Sp_law_right K) := by
  refine kn_fun W.f_law_right sc_law_right (fun _ => rfl) (fun _ _ _ _ _ _ us hl => match us, hl with | [_], _ => rfl) fun f cdv A outer s H E hr => ⟨_, (pss_cons (ps_set (i := 1) sc_law_right.nd rfl (by first | exact .inl rfl | exact .inr rfl) (pe_knK (K := K) (by rfl) (kn_law_standings W) hr (by decide) (by rfl) (pa_cons (pv 0) pa_nil)))
    (pss_cons (ps_if (PW.pt (pw_or (pt_not (pt_val (pe_knK (K := K) (by rfl) (kn_law_same W) hr (by decide) (by rfl) (pa_cons (pe_knK (K := K) (by rfl) (kn_states W) hr (by decide) (by rfl) (pa_cons (pv 0) pa_nil)) (pa_cons (pv 1) pa_nil))))) (pw_or1 (pt_not (pt_val (pe_knK (K := K) (by rfl) (kn_law_same W) hr (by decide) (by rfl) (pa_cons (pe_knK (K := K) (by rfl) (kn_stale W) hr (by decide) (by rfl) (pa_cons (pv 0) pa_nil)) (pa_cons (pe_knK (K := K) (by rfl) (kn_law_stale W) hr (by decide) (by rfl) (pa_cons (pv 0) pa_nil)) pa_nil)))))))) (pss_one (ps_ret pe_bl)) pss_nil)
    (pss_cons (ps_set (i := 2) sc_law_right.nd rfl (by first | exact .inl rfl | exact .inr rfl) (pe_callB (cr_allK (K := K) (by rfl) rfl) (by rfl) W.b_all (by decide +kernel) (pa_cons (pe_lc (own := [("_law_name", 4), ("_law_standing_here", 5)]) rfl sc_law_right.nd (pi_tupK (K := K) (by rfl) (pe_op (op_addUK (K := K) (by rfl)) (pe_ix (ix_seqK (K := K) (by rfl)) (pv 1) pe_int (fun _ _ => rfl)) (pe_ix (ix_seqK (K := K) (by rfl)) (pv 1) pe_int (fun _ _ => rfl)))) (blkOk_by (N := ["_law_book", "_law_rows", "_law_due", "_law_found", "_law_name", "_law_standing_here"]) (sc := defScope (top 86)) (by decide +kernel)) (fun _ _ _ _ _ => (pg_tupK (n := 2) (K := K) (by rfl) rfl (pgs_cons (pg_name (i := 4) sc_law_right.nd rfl (by first | exact .inl rfl | exact .inr rfl)) (pgs_cons (pg_name (i := 5) sc_law_right.nd rfl (by first | exact .inl rfl | exact .inr rfl)) pgs_nil)))) (fun _ _ _ _ _ => pts_nil) (fun _ _ _ _ _ => (pe_cmpR (op_inUK (K := K) (by rfl) hr.u65) (pv 5) (pe_lst (pa_cons (pe_tup (pa_cons pe_str pa_nil)) (pa_cons (pe_tup (pa_cons pe_str pa_nil)) pa_nil))) (by rfl)))) pa_nil)))
    (pss_cons (ps_set (i := 3) sc_law_right.nd rfl (by first | exact .inl rfl | exact .inr rfl) (pe_knK (K := K) (by rfl) (kn_in_step W) hr (by decide) (by rfl) (pa_cons (pv 0) pa_nil)))
    (pss_one (ps_ret (pe_and (pe_knK (K := K) (by rfl) (kn_law_same W) hr (by decide) (by rfl) (pa_cons (pe_knK (K := K) (by rfl) (kn_lacking W) hr (by decide) (by rfl) (pa_cons (pv 0) pa_nil)) (pa_cons (pe_knK (K := K) (by rfl) (kn_law_lacking W) hr (by decide) (by rfl) (pa_cons (pv 0) pa_nil)) pa_nil))) (pe_and (pe_callB (call_isiKK (K := K) (by rfl)) (by rfl) W.b_isinstance (by decide +kernel) (pa_cons (pv 3) (pa_cons (pe_bltn (v := .ty "bool") (by rfl) W.b_bool (by decide +kernel) rfl) pa_nil))) (pe_one (pe_cmpR (op_eqUK (K := K) (by rfl) hr.units) (pv 3) (pv 2) (nomark _))))))))))), fun M z hz => ?_⟩
  obtain ⟨hs, hc, hr⟩ := hz
  have hle := row_le hs
  have hrow : ∀ s, (z.row s).length ≤ 100 := fun s => by simp only [Book.row, List.length_map]; exact hs.side s
  have sameOk : ∀ {M : Addr → Prop} {γ : G} {ta tb : TE} {d : PyData}, Te K M ta γ (.d d) → Te K M tb γ (.d d) → smD d = true → d.depth < 8 → Te K M (tCall (Sp_law_same 8 K) [] E0 (tCons ta (tCons tb tNil))) γ (.d (.bool true)) := fun h1 h2 h3 h4 => te_callF _ (ta_cons h1 (ta_cons h2 ta_nil)) ⟨h3, h4⟩ rfl rfl
  refine ts_asg (te_callF z (ta_cons (te_var rfl) ta_nil) hs rfl rfl) ?_ rfl
  show Ts K M _ [some (.d (eB z)), some (.d (.tuple [eRow (z.rowL false), eRow (z.rowL true)])), none, none, none, none] _ _
  rw [hr false, hr true]
  refine ts_skip (tt_or (a := false) (b := false) (tt_not (a := true) (tt_B (sameOk (te_callF z (ta_cons (te_var rfl) ta_nil) ⟨hs, hc⟩ rfl rfl) (te_var rfl) ?_ ?_))) fun _ => tt_not (a := true) (tt_B (sameOk (te_callF z (ta_cons (te_var rfl) ta_nil) ⟨hs, hc⟩ rfl rfl) (te_is (te_callF z (ta_cons (te_var rfl) ta_nil) hs rfl rfl) (by rw [hr false, hr true, ← olds_of])) ?_ ?_))) ?_
  · exact sm_tup (Nat.le_of_ble_eq_true rfl) fun d hd => by
      simp only [List.mem_cons, List.not_mem_nil, or_false] at hd
      rcases hd with rfl | rfl
      · exact (sm_row (Nat.le_trans (hrow false) (by decide))).1
      · exact (sm_row (Nat.le_trans (hrow true) (by decide))).1
  · have : (PyData.tuple [eRow (z.row false), eRow (z.row true)]).depth ≤ 4 := dp_tup fun d hd => by
      simp only [List.mem_cons, List.not_mem_nil, or_false] at hd
      rcases hd with rfl | rfl
      · exact (sm_row (Nat.le_trans (hrow false) (by decide))).2
      · exact (sm_row (Nat.le_trans (hrow true) (by decide))).2
    exact Nat.lt_of_le_of_lt this (by decide)
  · have hl : (sortE z.olds).length ≤ 200 := by
      rw [sortE_len]
      unfold Book.olds
      rw [List.length_map]
      exact Nat.le_trans (List.length_filter_le _ _) hle
    refine sm_tup (by rw [List.length_map]; omega) fun d hd => ?_
    obtain ⟨q, _, rfl⟩ := List.mem_map.mp hd
    exact sm_tup (Nat.le_of_ble_eq_true rfl) fun d hd => by
      simp only [List.mem_cons, List.not_mem_nil, or_false] at hd
      rcases hd with rfl | rfl
      · exact sm_str _
      · exact sm_int _
  · have : (PyData.tuple ((sortE z.olds).map fun q => PyData.tuple [.str q.2, .int q.1])).depth ≤ 2 := dp_tup fun d hd => by
      obtain ⟨q, _, rfl⟩ := List.mem_map.mp hd
      exact dp_tup fun d hd => by
        simp only [List.mem_cons, List.not_mem_nil, or_false] at hd
        rcases hd with rfl | rfl <;> simp [PyData.depth]
    exact Nat.lt_of_le_of_lt this (by decide)
  refine ts_asg (s := .d (.bool ((z.row false ++ z.row true).all fun q => q.2.fine))) (te_is (te_cb (ta_cons (te_is (te_lc0 (α := Str × Stn) (enc := fun q => .d (.tuple [.str q.1, eSt q.2])) (l := z.row false ++ z.row true) (fun q => .bool q.2.fine) (ti_tc (ti_tupE (te_is (te_op (te_op (te_var rfl) te_int (rv_ixT rfl)) (te_op (te_var rfl) te_int (rv_ixT rfl)) (rv_addT ?_)) (by rw [List.map_append])))) (by omega) (by simp) fun q hq => ⟨_, tg_tup (is := [4, 5]) (ds := [.str q.1, eSt q.2]) rfl rfl rfl, ?_⟩) (s2 := .o (((z.row false ++ z.row true).map fun q => q.2.fine).map PyData.bool)) (by rw [List.map_map]; rfl)) ta_nil) (rc_all rfl)) (by rw [List.all_map]; rfl)) ?_ rfl
  · simp only [List.length_append] at hle
    simp only [List.length_map]
    omega
  · refine te_is (te_op (te_var rfl) (te_lst (ds := [eSt .step, eSt .alone]) (ta_cons (te_tup (ds := [.str "step"]) (ta_cons te_str ta_nil) (by decide)) (ta_cons (te_tup (ds := [.str "alone"]) (ta_cons te_str ta_nil) (by decide)) ta_nil)) (Nat.le_of_ble_eq_true rfl)) (rv_inD rfl ((shp_st q.2).ok (by decide)) ((shp_lst (n := 1) fun d hd => ?_).ok (by decide)))) (by rw [mem_fine])
    simp only [List.mem_cons, List.not_mem_nil, or_false] at hd
    rcases hd with rfl | rfl
    · exact shp_st _
    · exact shp_st _
  refine ts_asg (te_callF z (ta_cons (te_var rfl) ta_nil) ⟨hs, hc⟩ rfl rfl) ?_ rfl
  refine ts_ret (te_and (a := true) (b := true) (sameOk (te_callF z (ta_cons (te_var rfl) ta_nil) ⟨hs, hc⟩ rfl rfl) (te_is (te_callF z (ta_cons (te_var rfl) ta_nil) hs rfl rfl) (by rw [hr false, hr true])) ?_ ?_) fun _ => te_and (a := true) (b := true) (te_cb (ta_cons (te_var rfl) (ta_cons te_ty ta_nil)) (rc_isi (show kitB "bool" "bool" = some true by decide))) fun _ => te_is (te_op (te_var rfl) (te_var rfl) rv_eqBl) (by simp)) rfl
  · exact sm_tup (Nat.le_of_ble_eq_true rfl) fun d hd => by
      simp only [List.mem_cons, List.not_mem_nil, or_false] at hd
      have key : ∀ s, smD (eNs (((z.row s).filter fun q => decide (q.2 = .lacking)).map Prod.fst)) = true := fun s => sm_tup (by
        rw [List.length_map, List.length_map]
        exact Nat.le_trans (List.length_filter_le _ _) (Nat.le_trans (hrow s) (by decide))) fun d hd => by
          obtain ⟨n, _, rfl⟩ := List.mem_map.mp hd
          exact sm_str n
      rcases hd with rfl | rfl
      · exact key false
      · exact key true
  · have key : ∀ l : List Str, (eNs l).depth ≤ 1 := fun l => dp_tup fun d hd => by
      obtain ⟨n, _, rfl⟩ := List.mem_map.mp hd
      simp [PyData.depth]
    have : (PyData.tuple [eNs (((z.row false).filter fun q => decide (q.2 = .lacking)).map Prod.fst), eNs (((z.row true).filter fun q => decide (q.2 = .lacking)).map Prod.fst)]).depth ≤ 2 := dp_tup fun d hd => by
      simp only [List.mem_cons, List.not_mem_nil, or_false] at hd
      rcases hd with rfl | rfl
      · exact key _
      · exact key _
    exact Nat.lt_of_le_of_lt this (by decide)
end Tw
namespace Tw
open PySem PySem.Spec PyProof.Rows L2
structure RW where
  s0 : List Str
  s1 : List Str
  tx : List (Str × Str)
  mo : List (Str × List Int)
  al : List Str
  ks : List Link
def RW.side (W : RW) : Bool → List Str
  | false => W.s0
  | true => W.s1
def RW.withSide (W : RW) : Bool → List Str → RW
  | false, ns => { W with s0 := ns }
  | true, ns => { W with s1 := ns }
abbrev mS (ns : List Str) : MD := mL (ns.map PyData.str)
abbrev mI (ns : List Int) : MD := mL (ns.map PyData.int)
abbrev kT (l : Link) : MD := .l [.l [mS l.a, mS l.b], .d (.int l.t), .l [mI l.la, mI l.lb]]
def wK : List Str := ["sides", "text", "moments", "alone", "links"]
abbrev wT (W : RW) : MD := .k wK [.l [mS W.s0, mS W.s1], .k (W.tx.map Prod.fst) (W.tx.map fun q => .d (.str q.2)), .k (W.mo.map Prod.fst) (W.mo.map fun q => mI q.2), mS W.al, .l (W.ks.map kT)]
theorem wK_nd : wK.Nodup := by decide
theorem lookup_at {α : Type} : ∀ {l : List (Str × α)} {n : Str} {x : α}, l.lookup n = some x → ∃ i : Nat, l[i]? = some (n, x)
  | [], _, _, h => by cases h
  | (k, y) :: l, n, x, h => by
    rw [List.lookup_cons] at h
    cases e : (n == k) with
    | true =>
      rw [e] at h
      cases h
      exact ⟨0, by rw [eq_of_beq e]; rfl⟩
    | false =>
      rw [e] at h
      obtain ⟨i, hi⟩ := lookup_at h
      exact ⟨i + 1, by simpa using hi⟩
section
variable {K : PySem.W.Frag} {M : Addr → Prop} {γ : G} {ta tb te : TE} {s : Sv} {tu tz : TS} {N : G → Prop} {R : Sv → Prop} {W : RW} {i : Nat} {n : Str}
theorem te_sides (h : γ[i]? = some (some (.m (wT W)))) : Te K M (tDGet (tVar i) (tC (.str "sides"))) γ (.m (.l [mS W.s0, mS W.s1])) := te_dget (te_var h) te_str (i := 0) rfl rfl wK_nd
theorem te_text (h : γ[i]? = some (some (.m (wT W)))) : Te K M (tDGet (tVar i) (tC (.str "text"))) γ (.m (.k (W.tx.map Prod.fst) (W.tx.map fun q => .d (.str q.2)))) := te_dget (te_var h) te_str (i := 1) rfl rfl wK_nd
theorem te_moms (h : γ[i]? = some (some (.m (wT W)))) : Te K M (tDGet (tVar i) (tC (.str "moments"))) γ (.m (.k (W.mo.map Prod.fst) (W.mo.map fun q => mI q.2))) := te_dget (te_var h) te_str (i := 2) rfl rfl wK_nd
theorem te_alone (h : γ[i]? = some (some (.m (wT W)))) : Te K M (tDGet (tVar i) (tC (.str "alone"))) γ (.l (W.al.map PyData.str)) := te_ml (te_dget (te_var h) te_str (i := 3) rfl rfl wK_nd)
theorem te_links (h : γ[i]? = some (some (.m (wT W)))) : Te K M (tDGet (tVar i) (tC (.str "links"))) γ (.m (.l (W.ks.map kT))) := te_dget (te_var h) te_str (i := 4) rfl rfl wK_nd
theorem te_sideB {b : Bool} (h : γ[i]? = some (some (.m (wT W)))) (hb : Te K M tb γ (.d (.int (sI b)))) : Te K M (tOp (rIx K) (tDGet (tVar i) (tC (.str "sides"))) tb) γ (.l ((W.side b).map PyData.str)) := te_ml (te_op (te_sides h) hb (rv_ixM (by cases b <;> rfl)))
theorem te_txt {x : Str} (h : γ[i]? = some (some (.m (wT W)))) (hb : Te K M tb γ (.d (.str n))) (hn : (W.tx.map Prod.fst).Nodup) (hx : W.tx.lookup n = some x) : Te K M (tDGet (tDGet (tVar i) (tC (.str "text"))) tb) γ (.d (.str x)) := by
  obtain ⟨j, hj⟩ := lookup_at hx
  exact te_md (te_dget (te_text h) hb (i := j) (by rw [List.getElem?_map, hj]; rfl) (by rw [List.getElem?_map, hj]; rfl) hn)
theorem te_mom {ms : List Int} (h : γ[i]? = some (some (.m (wT W)))) (hb : Te K M tb γ (.d (.str n))) (hn : (W.mo.map Prod.fst).Nodup) (hx : W.mo.lookup n = some ms) : Te K M (tDGet (tDGet (tVar i) (tC (.str "moments"))) tb) γ (.l (ms.map PyData.int)) := by
  obtain ⟨j, hj⟩ := lookup_at hx
  exact te_ml (te_dget (te_moms h) hb (i := j) (by rw [List.getElem?_map, hj]; rfl) (by rw [List.getElem?_map, hj]; rfl) hn)
/-- for at, x in enumerate(an old list of trees) -/
theorem ts_enumT {ts : List MD} {j k : Nat} (I : Nat → G → Prop) (hw : Te K M ta γ (.m (.l ts))) (h0 : I 0 γ)
    (hs : ∀ (i : Nat) (t : MD) (γ1 : G), ts[i]? = some t → I i γ1 → Ts K M tu ((γ1.set j (some (.d (.int (i : Nat))))).set k (some (.m t))) (I (i + 1)) R) (hd : ∀ γ1, I ts.length γ1 → Ts K M tz γ1 N R) : Ts K M (tSeq (tFor (iEnum K (tCons ta tNil)) (gTup K 2 (gCons (gName j) (gCons (gName k) gNil))) tu) tz) γ N R :=
  ts_seq (N' := I ts.length) (fun H0 σ H D e0 E n r => hw H0 σ H e0 E _ fun v H1 e1 hv => by
    have hv' : Md K (fun p => ¬ M p ∧ H0 p ≠ none) H1 v (.l ts) := hv
    cases hv' with
    | @l p xs _ hm hp hx =>
      have st : ∀ H', Xs M H0 H' → H' p = some (.lst xs) := fun H' x => old_stays (e0.trans e1).e hm.1 hm.2 hp x.e
      have len := hx.len
      refine ⟨p, xs, rfl, .inl (.inl hp), ?_⟩
      refine ⟨fun i m σ' H' => m = ts.length - i ∧ i ≤ ts.length ∧ ∃ γ1, I i γ1 ∧ Xs M H0 H' ∧ Kp H1 H' ∧ En K M H0 H' σ' γ1, ⟨_, rfl, Nat.zero_le _, γ, h0, e0.trans e1, Kp.refl _, E.ex e1⟩, ?_⟩
      rintro i m σ' H' ⟨rfl, hi, γ1, hI, e2, k2, E2⟩
      by_cases hl : i < ts.length
      · refine .inr ⟨⟨xs, xs[i]'(by omega), .inl (.inl (st H' e2)), List.getElem?_eq_getElem _⟩, fun σ2 H2 => ∃ γ3, I (i + 1) γ3 ∧ Xs M H0 H2 ∧ Kp H1 H2 ∧ En K M H0 H2 σ2 γ3, fun σ2 H2 ⟨γ3, a, b, c, d⟩ => ⟨ts.length - (i + 1), by omega, rfl, hl, γ3, a, b, c, d⟩, fun v H2 hy => ?_⟩
        obtain ⟨T, x, rfl, hT, rfl, hy⟩ := hy
        have hxi := hy xs (.inl (.inl (st H' e2)))
        obtain ⟨t, ht, hxt⟩ := hx.get' hxi
        have eT : Xm M H' (upd H' T (.tup [.int (i : Nat), x])) := Xm.new hT
        refine ⟨T, _, rfl, .inl (.inl upd_same), rfl, _, _, rfl, _, _, rfl, rfl, ?_⟩
        have E3 := ((E2.ex eT).set (i := j) (v := .int (i : Nat)) (s := .d (.int (i : Nat))) (Dat.int _) rfl).set (i := k) (v := x) (s := .m t) (Md.kp (k2.trans eT.t) (fun p o c g => ⟨c, eT.k _ _ c.1 (old_stays (e0.trans e1).e c.1 c.2 g e2.e)⟩) hxt) rfl
        exact hs i t γ1 ht hI H0 _ _ _ (e2.trans eT) E3 (fun γ3 σ4 H4 a b c d => ⟨γ3, a, b, (k2.trans eT.t).trans c, d⟩) r
      · have e : i = ts.length := by omega
        subst e
        exact .inl ⟨⟨xs, .inl (.inl (st H' e2)), by omega⟩, n γ1 σ' H' hI e2 ((kp_ex e1).trans k2) E2⟩) hd
/-- names, told, lost = a link's list -/
theorem tg_lnk {a c : List MD} {x : PyData} {i j k : Nat} : Tg K M (gLst K 3 (gCons (gName i) (gCons (gName j) (gCons (gName k) gNil)))) [i, j, k] γ (.m (.l [.l a, .d x, .l c])) (((γ.set i (some (.m (.l a)))).set j (some (.d x))).set k (some (.m (.l c)))) := fun H0 σ H v e0 E hv Q q => by
  have hv' : Md K (fun p => ¬ M p ∧ H0 p ≠ none) H v (.l [.l a, .d x, .l c]) := hv
  cases hv' with
  | l hm hp hx =>
    cases hx with
    | cons h1 hx =>
      cases hx with
      | cons h2 hx =>
        cases hx with
        | cons h3 hx =>
          cases hx
          cases h2 with
          | d h2 =>
            refine ⟨_, _, rfl, .inl (.inl hp), rfl, _, _, rfl, _, _, rfl, _, _, rfl, rfl, ?_⟩
            refine q _ (((E.set (s := .m (.l a)) h1 rfl).set (s := .d x) h2 rfl).set (s := .m (.l c)) h3 rfl) fun vs hj => ?_
            rw [wipe_set (hj k (by simp)), wipe_set (hj j (by simp)), wipe_set (hj i (by simp))]
end
def RW.at? (W : RW) (n : Str) : Option Nat := W.ks.findIdx? fun l => decide (n ∈ l.a ++ l.b)
def RW.sdOf (W : RW) (n : Str) : Bool := decide (n ∈ W.s1)
def RW.lone (W : RW) (s : Bool) : List Str := (W.side s).filter fun n => !decide (n ∈ W.al) && (W.at? n).isNone
def RW.alike (W : RW) (n : Str) : List Str := let ns := (W.side (W.sdOf n)).filter fun o => !decide (o = n)
  if (W.at? n).isSome then ns.filter fun o => decide (W.at? o = W.at? n) else if n ∈ W.al then ns.filter fun o => decide (o ∈ W.al) else ns.filter fun o => decide (o ∈ W.lone (W.sdOf n))
def RW.txt (W : RW) (n : Str) : Str := (W.tx.lookup n).getD ""
def RW.mom (W : RW) (n : Str) : List Int := (W.mo.lookup n).getD []
abbrev srtL (l : Link) : Link := ⟨sortE l.a, sortE l.b, l.t, sortE l.la, sortE l.lb⟩
def RW.part (W : RW) (n : Str) : Part := ⟨n, W.txt n, sortE (W.mom n)⟩
def RW.book (W : RW) : Book := ⟨W.s0.map W.part, W.s1.map W.part, sortE (W.ks.map srtL), sortE W.al⟩
structure WOk (W : RW) : Prop where
  kt : (W.tx.map Prod.fst).Nodup
  km : (W.mo.map Prod.fst).Nodup
  tx : ∀ s, ∀ n ∈ W.side s, n ∈ W.tx.map Prod.fst
  mo : ∀ s, ∀ n ∈ W.side s, n ∈ W.mo.map Prod.fst
  ls : ∀ s, (W.side s).length ≤ 100
  lt : W.tx.length ≤ 71
  la : W.al.length ≤ 100
  lk : W.ks.length ≤ 100
  ka : ∀ l ∈ W.ks, l.a.length ≤ 100 ∧ l.b.length ≤ 100 ∧ l.la.length ≤ 62 ∧ l.lb.length ≤ 62
  xl : ∀ q ∈ W.tx, q.2.length ≤ 9000
  ml : ∀ q ∈ W.mo, q.2.length ≤ 62
  nk : ∀ s, ∀ n ∈ W.side s, nOk n
  ak : ∀ n ∈ W.al, nOk n
theorem lookup_mem {α : Type} : ∀ {l : List (Str × α)} {n : Str}, n ∈ l.map Prod.fst → ∃ x, l.lookup n = some x ∧ (n, x) ∈ l
  | (k, y) :: l, n, h => by
    rw [List.lookup_cons]
    by_cases e : n = k
    · subst e
      exact ⟨y, by simp, List.mem_cons_self⟩
    · have : (n == k) = false := beq_eq_false_iff_ne.mpr e
      rw [this]
      rcases List.mem_cons.mp h with h | h
      · exact absurd h e
      · obtain ⟨x, h1, h2⟩ := lookup_mem h
        exact ⟨x, h1, List.mem_cons_of_mem _ h2⟩
theorem WOk.txt {W : RW} (h : WOk W) {n : Str} {s : Bool} (hn : n ∈ W.side s) : W.tx.lookup n = some (W.txt n) ∧ (W.txt n).length ≤ 9000 := by
  obtain ⟨x, h1, h2⟩ := lookup_mem (h.tx s n hn)
  unfold RW.txt
  rw [h1]
  exact ⟨rfl, h.xl _ h2⟩
theorem WOk.mom {W : RW} (h : WOk W) {n : Str} {s : Bool} (hn : n ∈ W.side s) : W.mo.lookup n = some (W.mom n) ∧ (W.mom n).length ≤ 62 := by
  obtain ⟨x, h1, h2⟩ := lookup_mem (h.mo s n hn)
  unfold RW.mom
  rw [h1]
  exact ⟨rfl, h.ml _ h2⟩
end Tw
namespace Tw
open PySem PySem.Spec PyProof.Rows L2
local macro_rules
  | `(tactic| walk_at "rv") => `(tactic| first
    | exact rv_ixT rfl | exact rv_addI | exact rv_sub | exact rv_ixL rfl rfl | exact rv_ixM rfl
    | exact rsl_T | exact rsl_L rfl
    | exact rv_inStrL rfl | exact rv_inStrT | exact rv_ninStrL rfl | exact rv_ninIntL rfl | exact rv_eqStr | exact rv_neStr | exact rv_eqInt | exact rv_neInt | exact rv_eqBl | exact rv_neBl
    | exact rv_lt | exact rv_gt | exact rv_ge | exact rv_leI | exact rv_leS | exact rv_isN | exact rv_notN
    | exact rc_lenT | exact rc_lenL rfl | exact rc_intB | exact rc_listT | exact rc_listL rfl | exact rc_tupleL rfl | exact rc_tupleT)
local macro_rules
  | `(tactic| walk_at "e1") => `(tactic| first
    | exact te_var rfl | exact te_int | exact te_str | exact te_bl | exact te_non | exact ta_nil | exact to_none
    | apply to_some | apply ta_cons | apply te_op | apply te_cb | apply te_sl
    | apply tt_B | apply tt_test | walk_at "rv")
local macro_rules
  | `(tactic| walk_at "e") => `(tactic| repeat walk_at "e1")

variable {P : Program} {w : World} {K : PySem.W.Frag} {mg : Str → Option Value} {base : Heap}
theorem sc_law_side : FnScope ["_law_world_here", "_law_name"] ["_law_world_here", "_law_name"] (defScope (top 69)) := ⟨rfl, rfl, rfl, by decide +kernel, rfl, by decide +kernel, by decide +kernel⟩
abbrev Sp_law_side (K : PySem.W.Frag) : Sp := spF K (α := RW × Str) (fun _ => True) (fun z => [.m (wT z.1), .d (.str z.2)]) (fun z => .d (.int (sI (z.1.sdOf z.2))))
theorem kn_law_side (W : Wld K mg w) : Kn P w K mg base "_law_side" ["_law_world_here", "_law_name"] 1 (Sp_law_side K) := by
  refine kn_fun W.f_law_side sc_law_side (fun _ => rfl) (fun _ _ _ _ _ _ us hl => match us, hl with | [_, _], _ => rfl) fun f cdv A outer s H E hr => ⟨_, (pss_one (ps_ret (pe_callTy (call_intU) (by rfl) W.b_int (by decide +kernel) (pa_cons (pe_cmpR (op_inUK (K := K) (by rfl) hr.u65) (pv 1) (pe_ix (ix_seqK (K := K) (by rfl)) (pe_dget (hu_of hr) (pv 0) pe_str (fun _ _ => rfl)) pe_int (fun _ _ => rfl)) (by rfl)) pa_nil)))), fun M z hz => ?_⟩
  obtain ⟨W0, n⟩ := z
  exact ts_ret (te_cb (ta_cons (te_op (te_var rfl) (te_sideB (b := true) rfl te_int) (rv_inStrL rfl)) ta_nil) rc_intB) rfl
def KOk (W : RW) : Prop := ∀ l ∈ W.ks, l.a.length ≤ 100 ∧ l.b.length ≤ 100 ∧ l.la.length ≤ 62 ∧ l.lb.length ≤ 62
def oA : Option Nat → PyData
  | none => .none
  | some i => .int i
theorem sc_law_link_at : FnScope ["_law_world_here", "_law_name", "_law_at", "_law_link"] ["_law_world_here", "_law_name"] (defScope (top 70)) := ⟨rfl, rfl, rfl, by decide +kernel, rfl, by decide +kernel, by decide +kernel⟩
abbrev Sp_law_link_at (K : PySem.W.Frag) : Sp := spF K (α := RW × Str) (fun z => KOk z.1) (fun z => [.m (wT z.1), .d (.str z.2)]) (fun z => .d (oA (z.1.at? z.2)))
theorem kn_law_link_at (W : Wld K mg w) : Kn P w K mg base "_law_link_at" ["_law_world_here", "_law_name"] 1 (Sp_law_link_at K) := by
  refine kn_fun W.f_law_link_at sc_law_link_at (fun _ => rfl) (fun _ _ _ _ _ _ us hl => match us, hl with | [_, _], _ => rfl) fun f cdv A outer s H E hr => ⟨_, (pss_cons (ps_for PassesOwn.never rfl (pi_enumK (K := K) (by rfl) (by rfl) W.b_enumerate (pa_cons (pe_dget (hu_of hr) (pv 0) pe_str (fun _ _ => rfl)) pa_nil)) (pg_tupK (n := 2) (K := K) (by rfl) rfl (pgs_cons (pg_name (i := 2) sc_law_link_at.nd rfl (by first | exact .inl rfl | exact .inr rfl)) (pgs_cons (pg_name (i := 3) sc_law_link_at.nd rfl (by first | exact .inl rfl | exact .inr rfl)) pgs_nil))) (pss_one (ps_if (pt_cmpR (op_inUK (K := K) (by rfl) hr.u65) (pv 1) (pe_op (op_addUK (K := K) (by rfl)) (pe_ix (ix_seqK (K := K) (by rfl)) (pe_ix (ix_seqK (K := K) (by rfl)) (pv 3) pe_int (fun _ _ => rfl)) pe_int (fun _ _ => rfl)) (pe_ix (ix_seqK (K := K) (by rfl)) (pe_ix (ix_seqK (K := K) (by rfl)) (pv 3) pe_int (fun _ _ => rfl)) pe_int (fun _ _ => rfl))) (by rfl)) (pss_one (ps_ret (pv 2))) pss_nil)))
    (pss_one (ps_ret pe_non))), fun M z hz => ?_⟩
  obtain ⟨W0, n⟩ := z
  have hW : KOk W0 := hz
  refine ts_enumT (fun i γ => (∃ x y, γ = [some (.m (wT W0)), some (.d (.str n)), x, y]) ∧ ∀ l ∈ W0.ks.take i, n ∉ l.a ++ l.b) (te_links rfl) ⟨⟨none, none, rfl⟩, fun l h => by simp at h⟩ ?_ ?_
  · rintro i t γ1 hi ⟨⟨x, y, rfl⟩, h1⟩
    obtain ⟨l, hl, rfl⟩ := get_map hi
    have hlm := List.mem_of_getElem? hl
    have hk := hW l hlm
    have tin : Te K M (tOp (rInU K) (tVar 1) (tOp (rAddU K) (tOp (rIx K) (tOp (rIx K) (tVar 3) (tC (.int 0))) (tC (.int 0))) (tOp (rIx K) (tOp (rIx K) (tVar 3) (tC (.int 0))) (tC (.int 1))))) [some (.m (wT W0)), some (.d (.str n)), some (.d (.int (i : Nat))), some (.m (kT l))] (.d (.bool (decide (n ∈ l.a ++ l.b)))) :=
      te_op (te_var rfl) (te_is (te_op (te_ml (te_op (te_op (te_var rfl) te_int (rv_ixM rfl)) te_int (rv_ixM rfl))) (te_ml (te_op (te_op (te_var rfl) te_int (rv_ixM rfl)) te_int (rv_ixM rfl))) (rv_addL rfl rfl (by rw [List.length_map, List.length_map]; omega))) (s2 := .o ((l.a ++ l.b).map PyData.str)) (by rw [List.map_append])) (rv_inStrL rfl)
    refine ts_if (tt_B tin) (fun e => ts_ret (te_var rfl) ?_) fun e => ts_next ⟨⟨_, _, rfl⟩, fun l' hl' => ?_⟩
    · have : W0.at? n = some i := by
        unfold RW.at?
        rw [List.findIdx?_eq_some_iff_getElem]
        obtain ⟨hil, rfl⟩ := List.getElem?_eq_some_iff.mp hl
        refine ⟨hil, e, fun j hj => ?_⟩
        have hjl : j < W0.ks.length := Nat.lt_trans hj hil
        have hm : W0.ks[j] ∈ W0.ks.take i := List.mem_of_getElem? (i := j) (by rw [List.getElem?_take_of_lt hj, List.getElem?_eq_getElem hjl])
        have := h1 _ hm
        simpa using this
      show _ = Sv.d (oA (W0.at? n))
      rw [this]
      rfl
    · rw [List.take_succ, hl] at hl'
      rcases List.mem_append.mp hl' with h | h
      · exact h1 l' h
      · simp at h
        subst h
        exact of_decide_eq_false e
  · rintro γ1 ⟨⟨x, y, rfl⟩, h1⟩
    rw [List.length_map, List.take_length] at h1
    have : W0.at? n = none := by
      unfold RW.at?
      rw [List.findIdx?_eq_none_iff]
      intro l hl
      simpa using h1 l hl
    refine ts_ret te_non ?_
    show _ = Sv.d (oA (W0.at? n))
    rw [this]
    rfl
theorem isNo_oA (o : Option Nat) : isNoD (oA o) = o.isNone := by cases o <;> rfl
theorem sc_law_lone : FnScope ["_law_world_here", "_law_side_here", "_law_name"] ["_law_world_here", "_law_side_here"] (defScope (top 79)) := ⟨rfl, rfl, rfl, by decide +kernel, rfl, by decide +kernel, by decide +kernel⟩
abbrev Sp_law_lone (K : PySem.W.Frag) : Sp := spF K (α := RW × Bool) (fun z => WOk z.1) (fun z => [.m (wT z.1), .d (.int (sI z.2))]) (fun z => .o ((z.1.lone z.2).map PyData.str))
theorem kn_law_lone (W : Wld K mg w) : Kn P w K mg base "_law_lone" ["_law_world_here", "_law_side_here"] 2 (Sp_law_lone K) := by
  refine kn_fun W.f_law_lone sc_law_lone (fun _ => rfl) (fun _ _ _ _ _ _ us hl => match us, hl with | [_, _], _ => rfl) fun f cdv A outer s H E hr => ⟨_, (pss_one (ps_ret (pe_lc (own := [("_law_name", 2)]) rfl sc_law_lone.nd (pi_listK (K := K) (by rfl) (pe_ix (ix_seqK (K := K) (by rfl)) (pe_dget (hu_of hr) (pv 0) pe_str (fun _ _ => rfl)) (pv 1) (fun _ _ => rfl))) (blkOk_by (N := ["_law_world_here", "_law_side_here", "_law_name"]) (sc := defScope (top 79)) (by decide +kernel)) (fun _ _ _ _ _ => (pg_name (i := 2) sc_law_lone.nd rfl (by first | exact .inl rfl | exact .inr rfl))) (fun _ _ _ _ _ => pts_one (PW.pt (pw_and (pt_cmpR (op_notInUK (K := K) (by rfl) hr.u65) (pv 2) (pe_dget (hu_of hr) (pv 0) pe_str (fun _ _ => rfl)) (by rfl)) (pw_and1 (pt_cmpR op_isNo (pe_knK (K := K) (by rfl) (kn_law_link_at W) hr (by decide) (by rfl) (pa_cons (pv 0) (pa_cons (pv 2) pa_nil))) pe_non (nomark _)))))) (fun _ _ _ _ _ => (pv 2))))), fun M z hz => ?_⟩
  obtain ⟨W0, s⟩ := z
  have hW : WOk W0 := hz
  have := hW.ls s
  refine ts_ret (te_lc (α := Str) (enc := fun n => .d (.str n)) (l := W0.side s) (fun n => !decide (n ∈ W0.al) && (W0.at? n).isNone) PyData.str (tc_listE (te_sideB rfl (te_var rfl)) rfl) (by omega) (by simp) fun n hn => ⟨_, tg_name, tt_and (tt_test (te_op (te_var rfl) (te_alone rfl) (rv_ninStrL rfl))) fun _ => tt_test (te_is (te_op (te_callF (W0, n) (ta_cons (te_var rfl) (ta_cons (te_var rfl) ta_nil)) hW.ka rfl rfl) te_non rv_isN) (by rw [isNo_oA])), fun _ => te_var rfl⟩) rfl
theorem rv_eqA {M : Addr → Prop} (a b : Option Nat) : Rv K M (rEqU K) (.d (oA a)) (.d (oA b)) (.d (.bool (decide (a = b)))) := by
  have sh : ∀ o : Option Nat, Shp 0 (oA o) := fun o => by cases o; exact shp_non; exact shp_int
  have h := rv_eqS (K := K) (M := M) (s1 := .d (oA a)) (s2 := .d (oA b)) rfl rfl (sh a) (sh b)
  have e : PyData.eqv (oA a) (oA b) = decide (a = b) := by
    cases a <;> cases b <;> simp [oA, PyData.eqv]
    rw [Bool.eq_iff_iff]
    simp
    omega
  rwa [e] at h
theorem sc_law_alike : FnScope ["_law_world_here", "_law_name", "_law_names", "_law_one"] ["_law_world_here", "_law_name"] (defScope (top 80)) := ⟨rfl, rfl, rfl, by decide +kernel, rfl, by decide +kernel, by decide +kernel⟩
abbrev Sp_law_alike (K : PySem.W.Frag) : Sp := spF K (α := RW × Str) (fun z => WOk z.1) (fun z => [.m (wT z.1), .d (.str z.2)]) (fun z => .o ((z.1.alike z.2).map PyData.str))
theorem kn_law_alike (W : Wld K mg w) : Kn P w K mg base "_law_alike" ["_law_world_here", "_law_name"] 3 (Sp_law_alike K) := by
  refine kn_fun W.f_law_alike sc_law_alike (fun _ => rfl) (fun _ _ _ _ _ _ us hl => match us, hl with | [_, _], _ => rfl) fun f cdv A outer s H E hr => ⟨_, (pss_cons (ps_setLc (i := 2) (own := [("_law_one", 3)]) rfl sc_law_alike.nd rfl rfl (sw_true rfl rfl rfl (by decide +kernel)) (pi_listK (K := K) (by rfl) (pe_ix (ix_seqK (K := K) (by rfl)) (pe_dget (hu_of hr) (pv 0) pe_str (fun _ _ => rfl)) (pe_knK (K := K) (by rfl) (kn_law_side W) hr (by decide) (by rfl) (pa_cons (pv 0) (pa_cons (pv 1) pa_nil))) (fun _ _ => rfl))) (blkOk_by (N := ["_law_world_here", "_law_name", "_law_names", "_law_one"]) (sc := defScope (top 80)) (by decide +kernel)) (fun _ _ _ _ _ => (pg_name (i := 3) sc_law_alike.nd rfl (by first | exact .inl rfl | exact .inr rfl))) (fun _ _ _ _ _ => pts_one (pt_cmpR (op_neUK (K := K) (by rfl) hr.units) (pv 3) (pv 1) (nomark _))) (fun _ _ _ _ _ => (pv 3)))
    (pss_cons (ps_if (pt_cmpR op_notNo (pe_knK (K := K) (by rfl) (kn_law_link_at W) hr (by decide) (by rfl) (pa_cons (pv 0) (pa_cons (pv 1) pa_nil))) pe_non (nomark _)) (pss_one (ps_ret (pe_lc (own := [("_law_one", 3)]) rfl sc_law_alike.nd (pi_listK (K := K) (by rfl) (pv 2)) (blkOk_by (N := ["_law_world_here", "_law_name", "_law_names", "_law_one"]) (sc := defScope (top 80)) (by decide +kernel)) (fun _ _ _ _ _ => (pg_name (i := 3) sc_law_alike.nd rfl (by first | exact .inl rfl | exact .inr rfl))) (fun _ _ _ _ _ => pts_one (pt_cmpR (op_eqUK (K := K) (by rfl) hr.units) (pe_knK (K := K) (by rfl) (kn_law_link_at W) hr (by decide) (by rfl) (pa_cons (pv 0) (pa_cons (pv 3) pa_nil))) (pe_knK (K := K) (by rfl) (kn_law_link_at W) hr (by decide) (by rfl) (pa_cons (pv 0) (pa_cons (pv 1) pa_nil))) (nomark _))) (fun _ _ _ _ _ => (pv 3))))) pss_nil)
    (pss_cons (ps_if (pt_cmpR (op_inUK (K := K) (by rfl) hr.u65) (pv 1) (pe_dget (hu_of hr) (pv 0) pe_str (fun _ _ => rfl)) (by rfl)) (pss_one (ps_ret (pe_lc (own := [("_law_one", 3)]) rfl sc_law_alike.nd (pi_listK (K := K) (by rfl) (pv 2)) (blkOk_by (N := ["_law_world_here", "_law_name", "_law_names", "_law_one"]) (sc := defScope (top 80)) (by decide +kernel)) (fun _ _ _ _ _ => (pg_name (i := 3) sc_law_alike.nd rfl (by first | exact .inl rfl | exact .inr rfl))) (fun _ _ _ _ _ => pts_one (pt_cmpR (op_inUK (K := K) (by rfl) hr.u65) (pv 3) (pe_dget (hu_of hr) (pv 0) pe_str (fun _ _ => rfl)) (by rfl))) (fun _ _ _ _ _ => (pv 3))))) pss_nil)
    (pss_one (ps_ret (pe_lc (own := [("_law_one", 3)]) rfl sc_law_alike.nd (pi_listK (K := K) (by rfl) (pv 2)) (blkOk_by (N := ["_law_world_here", "_law_name", "_law_names", "_law_one"]) (sc := defScope (top 80)) (by decide +kernel)) (fun _ _ _ _ _ => (pg_name (i := 3) sc_law_alike.nd rfl (by first | exact .inl rfl | exact .inr rfl))) (fun _ _ _ _ _ => pts_one (pt_cmpR (op_inUK (K := K) (by rfl) hr.u65) (pv 3) (pe_knK (K := K) (by rfl) (kn_law_lone W) hr (by decide) (by rfl) (pa_cons (pv 0) (pa_cons (pe_knK (K := K) (by rfl) (kn_law_side W) hr (by decide) (by rfl) (pa_cons (pv 0) (pa_cons (pv 1) pa_nil))) pa_nil))) (by rfl))) (fun _ _ _ _ _ => (pv 3)))))))), fun M z hz => ?_⟩
  obtain ⟨W0, n⟩ := z
  have hW : WOk W0 := hz
  have hl := hW.ls (W0.sdOf n)
  have hl2 : ((W0.side (W0.sdOf n)).filter fun o => !decide (o = n)).length ≤ 100 := Nat.le_trans (List.length_filter_le _ _) hl
  refine ts_asg (te_lc (α := Str) (enc := fun n => .d (.str n)) (l := W0.side (W0.sdOf n)) (fun o => !decide (o = n)) PyData.str (tc_listE (te_sideB rfl (te_callF (W0, n) (ta_cons (te_var rfl) (ta_cons (te_var rfl) ta_nil)) trivial rfl rfl)) rfl) (by omega) (by simp) fun o ho => ⟨_, tg_name, tt_test (te_op (te_var rfl) (te_var rfl) rv_neStr), fun _ => te_var rfl⟩) ?_ rfl
  refine ts_ifS (b := (W0.at? n).isSome) (tt_test (te_is (te_op (te_callF (W0, n) (ta_cons (te_var rfl) (ta_cons (te_var rfl) ta_nil)) hW.ka rfl rfl) te_non rv_notN) (by rw [isNo_oA]; simp))) (fun e => ?_) fun e => ?_
  · refine ts_retS (te_lc (α := Str) (enc := fun n => .d (.str n)) (l := (W0.side (W0.sdOf n)).filter fun o => !decide (o = n)) (fun o => decide (W0.at? o = W0.at? n)) PyData.str (tc_listE (te_var rfl) rfl) (by omega) (by simp) fun o ho => ⟨_, tg_name, tt_test (te_op (te_callF (W0, o) (ta_cons (te_var rfl) (ta_cons (te_var rfl) ta_nil)) hW.ka rfl rfl) (te_callF (W0, n) (ta_cons (te_var rfl) (ta_cons (te_var rfl) ta_nil)) hW.ka rfl rfl) (rv_eqA _ _)), fun _ => te_var rfl⟩) ?_
    show _ = Sv.o ((W0.alike n).map PyData.str)
    unfold RW.alike
    simp only [if_pos e]
  refine ts_seq (ts_next (N := fun γ => γ = [some (.m (wT W0)), some (.d (.str n)), some (.o (((W0.side (W0.sdOf n)).filter fun o => !decide (o = n)).map PyData.str)), none]) rfl) ?_
  rintro _ rfl
  refine ts_ifS (b := decide (n ∈ W0.al)) (tt_test (te_op (te_var rfl) (te_alone rfl) (rv_inStrL rfl))) (fun e2 => ?_) fun e2 => ?_
  · refine ts_retS (te_lc (α := Str) (enc := fun n => .d (.str n)) (l := (W0.side (W0.sdOf n)).filter fun o => !decide (o = n)) (fun o => decide (o ∈ W0.al)) PyData.str (tc_listE (te_var rfl) rfl) (by omega) (by simp) fun o ho => ⟨_, tg_name, tt_test (te_op (te_var rfl) (te_alone rfl) (rv_inStrL rfl)), fun _ => te_var rfl⟩) ?_
    show _ = Sv.o ((W0.alike n).map PyData.str)
    unfold RW.alike
    simp only [if_neg (show ¬ (W0.at? n).isSome = true by rw [e]; decide), if_pos (of_decide_eq_true e2)]
  refine ts_seq (ts_next (N := fun γ => γ = [some (.m (wT W0)), some (.d (.str n)), some (.o (((W0.side (W0.sdOf n)).filter fun o => !decide (o = n)).map PyData.str)), none]) rfl) ?_
  rintro _ rfl
  refine ts_ret (te_lc (α := Str) (enc := fun n => .d (.str n)) (l := (W0.side (W0.sdOf n)).filter fun o => !decide (o = n)) (fun o => decide (o ∈ W0.lone (W0.sdOf n))) PyData.str (tc_listE (te_var rfl) rfl) (by omega) (by simp) fun o ho => ⟨_, tg_name, tt_test (te_op (te_var rfl) (te_callF (W0, W0.sdOf n) (ta_cons (te_var rfl) (ta_cons (te_callF (W0, n) (ta_cons (te_var rfl) (ta_cons (te_var rfl) ta_nil)) trivial rfl rfl) ta_nil)) hW rfl rfl) (rv_inStrL rfl)), fun _ => te_var rfl⟩) ?_
  show _ = Sv.o ((W0.alike n).map PyData.str)
  unfold RW.alike
  simp only [if_neg (show ¬ (W0.at? n).isSome = true by rw [e]; decide), if_neg (of_decide_eq_false e2)]
end Tw
namespace Tw
open PySem PySem.Spec PyProof.Rows L2
local macro_rules
  | `(tactic| walk_at "rv") => `(tactic| first
    | exact rv_ixT rfl | exact rv_addI | exact rv_sub | exact rv_ixL rfl rfl | exact rv_ixM rfl
    | exact rsl_T | exact rsl_L rfl
    | exact rv_inStrL rfl | exact rv_inStrT | exact rv_ninStrL rfl | exact rv_ninIntL rfl | exact rv_eqStr | exact rv_neStr | exact rv_eqInt | exact rv_neInt | exact rv_eqBl | exact rv_neBl
    | exact rv_lt | exact rv_gt | exact rv_ge | exact rv_leI | exact rv_leS | exact rv_isN | exact rv_notN
    | exact rc_lenT | exact rc_lenL rfl | exact rc_intB | exact rc_listT | exact rc_listL rfl | exact rc_tupleL rfl | exact rc_tupleT)
local macro_rules
  | `(tactic| walk_at "e1") => `(tactic| first
    | exact te_var rfl | exact te_int | exact te_str | exact te_bl | exact te_non | exact ta_nil | exact to_none
    | apply to_some | apply ta_cons | apply te_op | apply te_cb | apply te_sl
    | apply tt_B | apply tt_test | walk_at "rv")
local macro_rules
  | `(tactic| walk_at "e") => `(tactic| repeat walk_at "e1")

variable {P : Program} {w : World} {K : PySem.W.Frag} {mg : Str → Option Value} {base : Heap}
theorem sc_law_book_of : FnScope ["_law_world_here", "_law_rows", "_law_names", "_law_links", "_law_told", "_law_lost", "_law_gone_here", "_law_name"] ["_law_world_here"] (defScope (top 68)) := ⟨rfl, rfl, rfl, by decide +kernel, rfl, by decide +kernel, by decide +kernel⟩
abbrev Sp_law_book_of (K : PySem.W.Frag) : Sp := spF K (α := RW) (fun W => WOk W) (fun W => [.m (wT W)]) (fun W => .d (eB W.book))
theorem kn_law_book_of (W : Wld K mg w) : Kn P w K mg base "_law_book_of" ["_law_world_here"] 1 (Sp_law_book_of K) := by
  refine kn_fun W.f_law_book_of sc_law_book_of (fun _ => rfl) (fun _ _ _ _ _ _ us hl => match us, hl with | [_], _ => rfl) fun f cdv A outer s H E hr => ⟨_, (pss_cons (ps_set (i := 1) sc_law_book_of.nd rfl (by first | exact .inl rfl | exact .inr rfl) (pe_lst pa_nil))
    (pss_cons (ps_for PassesOwn.never rfl (pi_listK (K := K) (by rfl) (pe_dget (hu_of hr) (pv 0) pe_str (fun _ _ => rfl))) (pg_name (i := 2) sc_law_book_of.nd rfl (by first | exact .inl rfl | exact .inr rfl)) (pss_one (ps_expr (pe_bmK (K := K) (by rfl) PySem.F.plainAttrs_list PySem.F.slot_list_append PySem.F.type_list_append mt_append (pv 1) (pa_cons (pe_callTy (call_tupleUK (K := K) (by rfl)) (by rfl) W.b_tuple (by decide +kernel) (pa_cons (pe_lc (own := [("_law_name", 7)]) rfl sc_law_book_of.nd (pi_listK (K := K) (by rfl) (pv 2)) (blkOk_by (N := ["_law_world_here", "_law_rows", "_law_names", "_law_links", "_law_told", "_law_lost", "_law_gone_here", "_law_name"]) (sc := defScope (top 68)) (by decide +kernel)) (fun _ _ _ _ _ => (pg_name (i := 7) sc_law_book_of.nd rfl (by first | exact .inl rfl | exact .inr rfl))) (fun _ _ _ _ _ => pts_nil) (fun _ _ _ _ _ => (pe_tup (pa_cons (pv 7) (pa_cons (pe_dget (hu_of hr) (pe_dget (hu_of hr) (pv 0) pe_str (fun _ _ => rfl)) (pv 7) (fun _ _ => rfl)) (pa_cons (pe_callTy (call_tupleUK (K := K) (by rfl)) (by rfl) W.b_tuple (by decide +kernel) (pa_cons (pe_callB (cr_sortUK (K := K) (w := w) (by rfl) (by rfl) hr.u70 rfl) (by rfl) W.b_sorted (by decide +kernel) (pa_cons (pe_dget (hu_of hr) (pe_dget (hu_of hr) (pv 0) pe_str (fun _ _ => rfl)) (pv 7) (fun _ _ => rfl)) pa_nil)) pa_nil)) pa_nil)))))) pa_nil)) pa_nil)))))
    (pss_cons (ps_set (i := 3) sc_law_book_of.nd rfl (by first | exact .inl rfl | exact .inr rfl) (pe_lst pa_nil))
    (pss_cons (ps_for PassesOwn.never rfl (pi_listK (K := K) (by rfl) (pe_dget (hu_of hr) (pv 0) pe_str (fun _ _ => rfl))) (pg_lstK (n := 3) (K := K) (by rfl) rfl (pgs_cons (pg_name (i := 2) sc_law_book_of.nd rfl (by first | exact .inl rfl | exact .inr rfl)) (pgs_cons (pg_name (i := 4) sc_law_book_of.nd rfl (by first | exact .inl rfl | exact .inr rfl)) (pgs_cons (pg_name (i := 5) sc_law_book_of.nd rfl (by first | exact .inl rfl | exact .inr rfl)) pgs_nil)))) (pss_cons (ps_set (i := 6) sc_law_book_of.nd rfl (by first | exact .inl rfl | exact .inr rfl) (pe_tup (pa_cons (pe_callTy (call_tupleUK (K := K) (by rfl)) (by rfl) W.b_tuple (by decide +kernel) (pa_cons (pe_callB (cr_sortUK (K := K) (w := w) (by rfl) (by rfl) hr.u70 rfl) (by rfl) W.b_sorted (by decide +kernel) (pa_cons (pe_ix (ix_seqK (K := K) (by rfl)) (pv 5) pe_int (fun _ _ => rfl)) pa_nil)) pa_nil)) (pa_cons (pe_callTy (call_tupleUK (K := K) (by rfl)) (by rfl) W.b_tuple (by decide +kernel) (pa_cons (pe_callB (cr_sortUK (K := K) (w := w) (by rfl) (by rfl) hr.u70 rfl) (by rfl) W.b_sorted (by decide +kernel) (pa_cons (pe_ix (ix_seqK (K := K) (by rfl)) (pv 5) pe_int (fun _ _ => rfl)) pa_nil)) pa_nil)) pa_nil))))
    (pss_one (ps_expr (pe_bmK (K := K) (by rfl) PySem.F.plainAttrs_list PySem.F.slot_list_append PySem.F.type_list_append mt_append (pv 3) (pa_cons (pe_tup (pa_cons (pe_callTy (call_tupleUK (K := K) (by rfl)) (by rfl) W.b_tuple (by decide +kernel) (pa_cons (pe_callB (cr_sortUK (K := K) (w := w) (by rfl) (by rfl) hr.u70 rfl) (by rfl) W.b_sorted (by decide +kernel) (pa_cons (pe_ix (ix_seqK (K := K) (by rfl)) (pv 2) pe_int (fun _ _ => rfl)) pa_nil)) pa_nil)) (pa_cons (pe_callTy (call_tupleUK (K := K) (by rfl)) (by rfl) W.b_tuple (by decide +kernel) (pa_cons (pe_callB (cr_sortUK (K := K) (w := w) (by rfl) (by rfl) hr.u70 rfl) (by rfl) W.b_sorted (by decide +kernel) (pa_cons (pe_ix (ix_seqK (K := K) (by rfl)) (pv 2) pe_int (fun _ _ => rfl)) pa_nil)) pa_nil)) (pa_cons (pv 4) (pa_cons (pv 6) pa_nil))))) pa_nil))))))
    (pss_one (ps_ret (pe_tup (pa_cons (pe_ix (ix_seqK (K := K) (by rfl)) (pv 1) pe_int (fun _ _ => rfl)) (pa_cons (pe_ix (ix_seqK (K := K) (by rfl)) (pv 1) pe_int (fun _ _ => rfl)) (pa_cons (pe_callTy (call_tupleUK (K := K) (by rfl)) (by rfl) W.b_tuple (by decide +kernel) (pa_cons (pe_callB (cr_sortUK (K := K) (w := w) (by rfl) (by rfl) hr.u70 rfl) (by rfl) W.b_sorted (by decide +kernel) (pa_cons (pv 3) pa_nil)) pa_nil)) (pa_cons (pe_callTy (call_tupleUK (K := K) (by rfl)) (by rfl) W.b_tuple (by decide +kernel) (pa_cons (pe_callB (cr_sortUK (K := K) (w := w) (by rfl) (by rfl) hr.u70 rfl) (by rfl) W.b_sorted (by decide +kernel) (pa_cons (pe_dget (hu_of hr) (pv 0) pe_str (fun _ _ => rfl)) pa_nil)) pa_nil)) pa_nil))))))))))), fun M z hz => ?_⟩
  have hW : WOk z := hz
  refine ts_new ?_
  refine ts_forS (α := Bool) (enc := fun s => .m (mS (z.side s))) (l := [false, true]) (js := [2]) (fun i γ => ∃ x, γ = [some (.m (wT z)), some (.u ((([false, true].take i).map fun s => ePs ((z.side s).map z.part)))), x, none, none, none, none, none]) (ti_is (ti_tree (te_sides rfl)) rfl) ⟨none, rfl⟩ ?_ ?_
  · rintro i s γ1 hi ⟨x, rfl⟩
    have hl := hW.ls s
    refine ⟨_, tg_name, ts_app (d := ePs ((z.side s).map z.part)) rfl (te_cb (ta_cons (te_lc0 (α := Str) (enc := fun n => .d (.str n)) (l := z.side s) (fun n => eP (z.part n)) (tc_listE (te_ml (te_var rfl)) rfl) (by omega) (by simp) fun n hn => ⟨_, tg_name, ?_⟩) ta_nil) (te_isRc (rc_tupleL rfl) (by show _ = Sv.d (.tuple (((z.side s).map z.part).map eP)); rw [List.map_map]; rfl))) ?_ ⟨some (.m (mS (z.side s))), ?_⟩⟩
    · exact te_tup (ds := [.str n, .str (z.txt n), eIs (sortE (z.mom n))]) (ta_cons (te_var rfl) (ta_cons (te_txt rfl (te_var rfl) hW.kt (hW.txt hn).1) (ta_cons (te_cb (ta_cons (te_cb (ta_cons (te_mom rfl (te_var rfl) hW.km (hW.mom hn).1) ta_nil) (rc_sortL rfl (sob_ints _))) ta_nil) (te_isRc (rc_tupleL rfl) (by rw [srt_ints]))) ta_nil))) (Nat.le_of_ble_eq_true rfl)
    · rw [List.length_map, List.length_take]
      simp
      omega
    · rw [List.take_succ, hi, List.map_append]
      rfl
  rintro γ1 ⟨x, rfl⟩
  refine ts_new ?_
  refine ts_forS (α := Link) (enc := fun l => .m (kT l)) (l := z.ks) (js := [2, 4, 5]) (fun i γ => ∃ x y u v, γ = [some (.m (wT z)), some (.u [ePs (z.s0.map z.part), ePs (z.s1.map z.part)]), x, some (.u ((z.ks.take i).map fun l => eL (srtL l))), y, u, v, none]) (ti_is (ti_tree (te_links rfl)) (by rw [List.map_map]; rfl)) ⟨x, none, none, none, rfl⟩ ?_ ?_
  · rintro i l γ1 hi ⟨x, y, u, v, rfl⟩
    have hk := hW.lk
    refine ⟨_, tg_lnk, ts_asg (s := .d (.tuple [eIs (sortE l.la), eIs (sortE l.lb)])) (te_tup (ds := [eIs (sortE l.la), eIs (sortE l.lb)]) (ta_cons (te_cb (ta_cons (te_cb (ta_cons (te_ml (te_op (te_var rfl) te_int (rv_ixM rfl))) ta_nil) (rc_sortL rfl (sob_ints _))) ta_nil) (te_isRc (rc_tupleL rfl) (by rw [srt_ints]))) (ta_cons (te_cb (ta_cons (te_cb (ta_cons (te_ml (te_op (te_var rfl) te_int (rv_ixM rfl))) ta_nil) (rc_sortL rfl (sob_ints _))) ta_nil) (te_isRc (rc_tupleL rfl) (by rw [srt_ints]))) ta_nil)) (Nat.le_of_ble_eq_true rfl)) ?_ rfl⟩
    refine ts_app (d := eL (srtL l)) rfl (te_tup (ds := [eNs (sortE l.a), eNs (sortE l.b), .int l.t, .tuple [eIs (sortE l.la), eIs (sortE l.lb)]]) (ta_cons (te_cb (ta_cons (te_cb (ta_cons (te_ml (te_op (te_var rfl) te_int (rv_ixM rfl))) ta_nil) (rc_sortL rfl (sob_strs _))) ta_nil) (te_isRc (rc_tupleL rfl) (by rw [srt_strs]))) (ta_cons (te_cb (ta_cons (te_cb (ta_cons (te_ml (te_op (te_var rfl) te_int (rv_ixM rfl))) ta_nil) (rc_sortL rfl (sob_strs _))) ta_nil) (te_isRc (rc_tupleL rfl) (by rw [srt_strs]))) (ta_cons (te_var rfl) (ta_cons (te_var rfl) ta_nil)))) (Nat.le_of_ble_eq_true rfl)) ?_ ?_
    · rw [List.length_map, List.length_take]
      omega
    · rw [List.take_succ, hi, List.map_append]
      exact ⟨_, _, _, _, rfl⟩
  · rintro γ1 ⟨x, y, u, v, rfl⟩
    rw [List.take_length]
    refine ts_ret (te_tup (ds := [ePs (z.s0.map z.part), ePs (z.s1.map z.part), eLs (sortE (z.ks.map srtL)), eNs (sortE z.al)]) (ta_cons (te_op (te_var rfl) te_int (rv_ixL rfl rfl)) (ta_cons (te_op (te_var rfl) te_int (rv_ixL rfl rfl)) (ta_cons (te_cb (ta_cons (te_cb (ta_cons (te_var rfl) ta_nil) (rc_sortL (ds := (z.ks.map srtL).map eL) (by rw [List.map_map]; rfl) (sob_links _))) ta_nil) (te_isRc (rc_tupleL rfl) (by rw [srt_links]))) (ta_cons (te_cb (ta_cons (te_cb (ta_cons (te_alone rfl) ta_nil) (rc_sortL rfl (sob_strs _))) ta_nil) (te_isRc (rc_tupleL rfl) (by rw [srt_strs]))) ta_nil)))) (Nat.le_of_ble_eq_true rfl)) rfl
end Tw
namespace Tw
open PySem PySem.Spec PyProof.Rows L2
local macro_rules
  | `(tactic| walk_at "rv") => `(tactic| first
    | exact rv_ixT rfl | exact rv_addI | exact rv_sub | exact rv_ixL rfl rfl | exact rv_ixM rfl
    | exact rsl_T | exact rsl_L rfl
    | exact rv_inStrL rfl | exact rv_inStrT | exact rv_ninStrL rfl | exact rv_ninIntL rfl | exact rv_eqStr | exact rv_neStr | exact rv_eqInt | exact rv_neInt | exact rv_eqBl | exact rv_neBl
    | exact rv_lt | exact rv_gt | exact rv_ge | exact rv_leI | exact rv_leS | exact rv_isN | exact rv_notN
    | exact rc_lenT | exact rc_lenL rfl | exact rc_intB | exact rc_listT | exact rc_listL rfl | exact rc_tupleL rfl | exact rc_tupleT)
local macro_rules
  | `(tactic| walk_at "e1") => `(tactic| first
    | exact te_var rfl | exact te_int | exact te_str | exact te_bl | exact te_non | exact ta_nil | exact to_none
    | apply to_some | apply ta_cons | apply te_op | apply te_cb | apply te_sl
    | apply tt_B | apply tt_test | walk_at "rv")
local macro_rules
  | `(tactic| walk_at "e") => `(tactic| repeat walk_at "e1")

section
variable {K : PySem.W.Frag} {M : Addr → Prop} {γ : G} {te : TE} {tr : TA} {s : Sv} {P : Sv → Prop} {Ps : List Sv → Prop}
theorem tpa_det (h : Te K M te γ s) (k : Tpa K M tr γ Ps) : Tpa K M (tCons te tr) γ (fun ss => ∃ r, ss = s :: r ∧ Ps r) := tpa_cons (te_tp h) (fun _ _ => k) fun s' r e hr => ⟨r, by rw [e], hr⟩
theorem tpa_nd (h : Tp K M te γ P) (k : Tpa K M tr γ Ps) : Tpa K M (tCons te tr) γ (fun ss => ∃ s r, ss = s :: r ∧ P s ∧ Ps r) := tpa_cons h (fun _ _ => k) fun s' r e hr => ⟨s', r, rfl, e, hr⟩
end
theorem nd_sub {α : Type} [DecidableEq α] : ∀ {l ts : List α}, l.Nodup → (∀ k ∈ l, k ∈ ts) → l.length ≤ ts.length
  | [], _, _, _ => Nat.zero_le _
  | a :: l, ts, hn, hs => by
    rw [List.nodup_cons] at hn
    have ha := hs a List.mem_cons_self
    have h := nd_sub (ts := ts.erase a) hn.2 fun k hk => (List.mem_erase_of_ne (fun e => by subst e; exact hn.1 hk)).mpr (hs k (List.mem_cons_of_mem _ hk))
    rw [List.length_erase_of_mem ha] at h
    have : 0 < ts.length := List.length_pos_of_mem ha
    rw [List.length_cons]
    omega
theorem filter_out {α : Type} [DecidableEq α] (l ts : List α) (hn : l.Nodup) : l.length ≤ (l.filter fun k => !decide (k ∈ ts)).length + ts.length := by
  have h1 : (l.filter fun k => decide (k ∈ ts)).length ≤ ts.length := nd_sub (hn.sublist List.filter_sublist) fun k hk => of_decide_eq_true (List.mem_filter.mp hk).2
  have h2 : (l.filter fun k => decide (k ∈ ts)).length + (l.filter fun k => !decide (k ∈ ts)).length = l.length := by
    clear hn h1
    induction l with
    | nil => rfl
    | cons a l ih =>
      by_cases e : a ∈ ts
      · rw [List.filter_cons_of_pos (by simpa using e), List.filter_cons_of_neg (by simpa using e), List.length_cons, List.length_cons]; omega
      · rw [List.filter_cons_of_neg (by simpa using e), List.filter_cons_of_pos (by simpa using e), List.length_cons, List.length_cons]; omega
  omega
theorem pool_nd : pool75.Nodup := by decide +kernel
theorem poolAt_perm (x : Int) : (poolAt x).Perm pool75 := by
  unfold poolAt
  exact List.perm_append_comm.trans (by rw [List.take_append_drop])
def RW.keys (W : RW) : List Str := W.tx.map Prod.fst
variable {P : Program} {w : World} {K : PySem.W.Frag} {mg : Str → Option Value} {base : Heap}
theorem sc_law_fresh : FnScope ["_law_world_here", "_law_box", "_law_some", "_law_name"] ["_law_world_here", "_law_box"] (defScope (top 78)) := ⟨rfl, rfl, rfl, by decide +kernel, rfl, by decide +kernel, by decide +kernel⟩
abbrev Sp_law_fresh (K : PySem.W.Frag) : Sp := spG K (α := RW) (fun W => WOk W) (fun W => [.m (wT W), .b]) (fun W s => ∃ n ∈ pool75, n ∉ W.keys ∧ s = .d (.str n))
theorem kn_law_fresh (W : Wld K mg w) : Kn P w K mg base "_law_fresh" ["_law_world_here", "_law_box"] 2 (Sp_law_fresh K) := by
  refine kn_gun W.f_law_fresh sc_law_fresh (fun _ => rfl) (fun _ _ _ _ _ _ us hl => match us, hl with | [_, _], _ => rfl) fun f cdv A outer s H E hr => ⟨_, (pss_cons (ps_setLc (i := 2) (own := [("_law_name", 3)]) rfl sc_law_fresh.nd rfl rfl (sw_true rfl rfl rfl (by decide +kernel)) (pi_listK (K := K) (by rfl) (pe_knK (K := K) (by rfl) (kn_law_pool W) hr (by decide) (by rfl) (pa_cons (pe_ix (ix_seqK (K := K) (by rfl)) (pv 1) pe_int (fun _ _ => rfl)) pa_nil))) (blkOk_by (N := ["_law_world_here", "_law_box", "_law_some", "_law_name"]) (sc := defScope (top 78)) (by decide +kernel)) (fun _ _ _ _ _ => (pg_name (i := 3) sc_law_fresh.nd rfl (by first | exact .inl rfl | exact .inr rfl))) (fun _ _ _ _ _ => pts_one (pt_cmp (pc_dnotin (hu_of hr) (pv 3) (pe_dget (hu_of hr) (pv 0) pe_str (fun _ _ => rfl))))) (fun _ _ _ _ _ => (pv 3)))
    (pss_one (ps_ret (pe_ix (ix_seqK (K := K) (by rfl)) (pv 2) (pe_op op_modI (pe_knK (K := K) (by rfl) (kn_law_next W) hr (by decide) (by rfl) (pa_cons (pv 1) pa_nil)) pe_int) (fun _ _ => rfl))))), fun M z hz => ?_⟩
  have hW : WOk z := hz
  refine ts_asgP (tp_lcL (α := Str) (enc := PyData.str) (js := [3]) (P := fun l => l.Perm pool75) (fun n => !decide (n ∈ z.keys)) PyData.str (tp_callP (P := fun s => ∃ l : List Str, l.Perm pool75 ∧ s.lst? = some (l.map PyData.str)) (tpa_nd (tp_box2 rfl) tpa_nil) ?_) (fun l hl => by rw [hl.length_eq, pool_len]; decide) (by simp) fun l hl n hn => ⟨_, tg_name, tt_test (te_dnin (te_var rfl) (te_text rfl) hW.kt (by simp [RW.keys])), fun _ => te_var rfl⟩) ?_
  · rintro ss ⟨s, r, rfl, ⟨k, rfl, h0, h1⟩, rfl⟩
    exact ⟨_, ⟨poolAt k, poolAt_perm k, rfl⟩, rfl, ⟨k, h0, rfl, rfl⟩⟩
  · rintro s ⟨l, hl, rfl⟩
    refine ⟨rfl, ?_⟩
    have hlen : 4 ≤ (l.filter fun n => !decide (n ∈ z.keys)).length := by
      have h1 := filter_out l z.keys (hl.nodup_iff.mpr pool_nd)
      have h2 : z.keys.length ≤ 71 := by unfold RW.keys; rw [List.length_map]; exact hW.lt
      rw [hl.length_eq, pool_len] at h1
      omega
    refine ts_retP (P := fun s => ∃ n ∈ pool75, n ∉ z.keys ∧ s = .d (.str n)) (tp_op (te_tp (te_var rfl)) (P2 := fun s => ∃ k : Int, s = .d (.int k) ∧ 0 ≤ k ∧ k < 4) (fun s _ => tp_op (tp_next rfl) (fun s _ => te_tp te_int) ?_) ?_) fun s h => h
    · rintro s1 s2 ⟨k, rfl, h0, h1⟩ rfl
      exact ⟨_, ⟨k % 4, rfl, by omega, by omega⟩, rv_mod (by decide)⟩
    · rintro s1 s2 rfl ⟨k, rfl, h0, h1⟩
      obtain ⟨d, e1, e2⟩ := atI_of (xs := (l.filter fun n => !decide (n ∈ z.keys)).map PyData.str) h0 (by rw [List.length_map]; omega)
      obtain ⟨n, e3, rfl⟩ := get_map e1
      have hm := List.mem_filter.mp (List.mem_of_getElem? e3)
      exact ⟨_, ⟨n, hl.mem_iff.mp hm.1, by simpa using hm.2, rfl⟩, rv_ixL rfl e2⟩
/-- a part of a row, turned -/
structure PieceOk (ns p : List Str) : Prop where
  ne : p ≠ []
  nd : ns.Nodup → p.Nodup
  sub : ∀ n ∈ p, n ∈ ns
  le : p.length ≤ 8
/-- a deed that may be drawn -/
def RW.names (W : RW) : List Str := W.s0 ++ W.s1
def Drawn (W : RW) : Deed → Prop
  | .put _ s h n x => (h = "" ∨ h ∈ W.side s) ∧ n ∈ pool75 ∧ n ∉ W.keys ∧ x.length ≤ 63
  | .take _ n => n ∈ W.names
  | .part _ n i m => n ∈ W.names ∧ 1 ≤ i ∧ i < (W.txt n).length ∧ m ∈ pool75 ∧ m ∉ W.keys
  | .join _ n o => n ∈ W.names ∧ o ∈ W.alike n
  | .move _ n h => n ∈ W.names ∧ (h = "" ∨ (h ∈ W.side (W.sdOf n) ∧ h ≠ n))
  | .change _ n x => n ∈ W.names ∧ x.length ≤ 63
  | .word _ n i o => n ∈ W.names ∧ (wordedL (W.txt n) i "").isSome = true ∧ o ∈ (["new", "7", "One"] : List Str)
  | .link _ a c => PieceOk (W.lone false) a ∧ PieceOk (W.lone true) c
  | .loose _ n => n ∈ W.names ∧ (W.at? n).isSome = true
  | .step _ n => n ∈ W.names ∧ (W.at? n).isSome = true
  | .alone _ n => n ∈ W.lone false ++ W.lone true
  | .lack _ n => n ∈ W.al
theorem tp_oneOf {M : Addr → Prop} {γ : G} {i : Nat} {te : TE} {s : Sv} {ds : List PyData} (h : γ[i]? = some (some .b)) (ht : Te K M te γ s) (hs : s.weak = .l ds) (hn : ds ≠ []) (hl : ds.length ≤ 50000) : Tp K M (tCall (Sp_law_one_of K) [] E0 (tCons (tVar i) (tCons te tNil))) γ (fun s => ∃ d ∈ ds, s = .d d) :=
  tp_callG (tpa_of (ta_cons (te_var h) (ta_cons ht ta_nil))) (fun ss e => ⟨ds, ⟨hn, hl⟩, by rw [e]; show [Sv.b, s.weak] = _; rw [hs], rfl⟩) fun s ⟨d, _, e⟩ => by rw [e]; rfl
theorem tp_text {M : Addr → Prop} {γ : G} {i : Nat} (h : γ[i]? = some (some .b)) : Tp K M (tCall (Sp_law_text K) [] E0 (tCons (tVar i) tNil)) γ (fun s => ∃ x : Str, s = .d (.str x) ∧ x.length ≤ 63) :=
  tp_callG (tpa_of (ta_cons (te_var h) ta_nil)) (fun ss e => ⟨(), trivial, by rw [e]; rfl, rfl⟩) fun s ⟨k, e, _⟩ => by rw [e]; rfl
theorem tp_fresh {M : Addr → Prop} {γ : G} {i j : Nat} {W0 : RW} (h0 : γ[j]? = some (some (.m (wT W0)))) (h : γ[i]? = some (some .b)) (hW : WOk W0) : Tp K M (tCall (Sp_law_fresh K) [] E0 (tCons (tVar j) (tCons (tVar i) tNil))) γ (fun s => ∃ n ∈ pool75, n ∉ W0.keys ∧ s = .d (.str n)) :=
  tp_callG (tpa_of (ta_cons (te_var h0) (ta_cons (te_var h) ta_nil))) (fun ss e => ⟨W0, hW, by rw [e]; rfl, rfl⟩) fun s ⟨k, _, _, e⟩ => by rw [e]; rfl
theorem sc_law_put : FnScope ["_law_world_here", "_law_box", "_law_t", "_law_side_here", "_law_behind_here"] ["_law_world_here", "_law_box", "_law_t"] (defScope (top 81)) := ⟨rfl, rfl, rfl, by decide +kernel, rfl, by decide +kernel, by decide +kernel⟩
abbrev Sp_law_put (K : PySem.W.Frag) : Sp := spG K (α := RW × Int) (fun z => WOk z.1) (fun z => [.m (wT z.1), .b, .d (.int z.2)]) (fun z s => ∃ d : Deed, s = .d (eD d) ∧ Drawn z.1 d)
theorem kn_law_put (W : Wld K mg w) : Kn P w K mg base "_law_put" ["_law_world_here", "_law_box", "_law_t"] 4 (Sp_law_put K) := by
  refine kn_gun W.f_law_put sc_law_put (fun _ => rfl) (fun _ _ _ _ _ _ us hl => match us, hl with | [_, _, _], _ => rfl) fun f cdv A outer s H E hr => ⟨_, (pss_cons (ps_set (i := 3) sc_law_put.nd rfl (by first | exact .inl rfl | exact .inr rfl) (pe_op op_modI (pe_knK (K := K) (by rfl) (kn_law_next W) hr (by decide) (by rfl) (pa_cons (pv 1) pa_nil)) pe_int))
    (pss_cons (ps_set (i := 4) sc_law_put.nd rfl (by first | exact .inl rfl | exact .inr rfl) (pe_knK (K := K) (by rfl) (kn_law_one_of W) hr (by decide) (by rfl) (pa_cons (pv 1) (pa_cons (pe_op (op_addUK (K := K) (by rfl)) (pe_lst (pa_cons pe_str pa_nil)) (pe_ix (ix_seqK (K := K) (by rfl)) (pe_dget (hu_of hr) (pv 0) pe_str (fun _ _ => rfl)) (pv 3) (fun _ _ => rfl))) pa_nil))))
    (pss_one (ps_ret (pe_tup (pa_cons pe_str (pa_cons (pv 2) (pa_cons (pv 3) (pa_cons (pv 4) (pa_cons (pe_knK (K := K) (by rfl) (kn_law_fresh W) hr (by decide) (by rfl) (pa_cons (pv 0) (pa_cons (pv 1) pa_nil))) (pa_cons (pe_knK (K := K) (by rfl) (kn_law_text W) hr (by decide) (by rfl) (pa_cons (pv 1) pa_nil)) pa_nil))))))))))), fun M z hz => ?_⟩
  obtain ⟨W0, t⟩ := z
  have hW : WOk W0 := hz
  refine ts_asgP (P := fun s => ∃ b : Bool, s = .d (.int (sI b))) (tp_op (tp_next rfl) (fun s _ => te_tp te_int) ?_) ?_
  · rintro s1 s2 ⟨k, rfl, h0, h1⟩ rfl
    refine ⟨_, ?_, rv_mod (by decide)⟩
    by_cases e : k % 2 = 1
    · exact ⟨true, by rw [e]; rfl⟩
    · exact ⟨false, by rw [show k % 2 = 0 by omega]; rfl⟩
  rintro s ⟨b, rfl⟩
  refine ⟨rfl, ?_⟩
  have hl := hW.ls b
  refine ts_asgP (tp_oneOf (ds := ((("" : Str) :: W0.side b)).map PyData.str) rfl (te_op (te_lst (ds := [.str ""]) (ta_cons te_str ta_nil) (Nat.le_of_ble_eq_true rfl)) (te_sideB rfl (te_var rfl)) (rv_addL rfl rfl (by rw [List.length_map]; simp only [List.length_cons, List.length_nil]; omega))) rfl (fun h => nomatch h) (by rw [List.length_map, List.length_cons]; omega)) ?_
  rintro s ⟨d, hd, rfl⟩
  obtain ⟨h, hh, rfl⟩ := List.mem_map.mp hd
  refine ⟨rfl, ts_retP (P := fun s => ∃ d : Deed, s = .d (eD d) ∧ Drawn W0 d) (tp_tup (tpa_det te_str (tpa_det (te_var rfl) (tpa_det (te_var rfl) (tpa_det (te_var rfl) (tpa_nd (tp_fresh rfl rfl hW) (tpa_nd (tp_text rfl) tpa_nil)))))) ?_) fun s h => h⟩
  rintro ss ⟨r1, rfl, r2, rfl, r3, rfl, r4, rfl, s5, r5, rfl, ⟨n, hn, hk, rfl⟩, s6, r6, rfl, ⟨x, rfl, hx⟩, rfl⟩
  exact ⟨[.str "put", .int t, .int (sI b), .str h, .str n, .str x], rfl, ⟨.put t b h n x, rfl, (List.mem_cons.mp hh), hn, hk, hx⟩, (Nat.le_of_ble_eq_true rfl)⟩
theorem eqv_strsL (a b : List Str) : PyData.eqv (.list (a.map PyData.str)) (.list (b.map PyData.str)) = decide (a = b) := by
  have h : PyData.eqv (.list (a.map PyData.str)) (.list (b.map PyData.str)) = PyData.eqvAll (a.map PyData.str) (b.map PyData.str) := by rw [PyData.eqv]
  have h2 : PyData.eqv (.tuple (a.map PyData.str)) (.tuple (b.map PyData.str)) = PyData.eqvAll (a.map PyData.str) (b.map PyData.str) := by rw [PyData.eqv]
  rw [h, ← h2]
  exact eqv_enc (β := List Str) a b
theorem rv_eqNil {M : Addr → Prop} {s1 s2 : Sv} {ns : List Str} (h1 : s1.lst? = some (ns.map PyData.str)) (h1' : s1.dat? = some (.list (ns.map PyData.str))) (h2 : s2.dat? = some (.list (([] : List Str).map PyData.str))) (hn : ∀ n ∈ ns, nOk n) : Rv K M (rEqU K) s1 s2 (.d (.bool (decide (ns = [])))) := eqv_strsL ns [] ▸ rv_eqS (n := 1) (m := 1) h1' h2 (shp_lst (shp_strs hn)) (shp_lst fun d hd => by cases hd)
theorem lone_sub {W0 : RW} {s : Bool} {n : Str} (h : n ∈ W0.lone s) : n ∈ W0.side s := (List.mem_filter.mp h).1
theorem piece_of (ns : List Str) (t k : Nat) (ht : t < ns.length) (hk : 1 ≤ k ∧ k ≤ 8) : PieceOk ns ((ns.drop t ++ ns.take t).take k) where
  ne := fun e => by
    have := congrArg List.length e
    rw [List.length_take, List.length_append, List.length_drop, List.length_take] at this
    simp only [List.length_nil] at this
    omega
  nd := fun h => by
    have hp : (ns.drop t ++ ns.take t).Perm ns := List.perm_append_comm.trans (by rw [List.take_append_drop])
    exact (hp.nodup_iff.mpr h).sublist (List.take_sublist _ _)
  sub := fun n hn => by
    have hp : (ns.drop t ++ ns.take t).Perm ns := List.perm_append_comm.trans (by rw [List.take_append_drop])
    exact hp.mem_iff.mp (List.mem_of_mem_take hn)
  le := by rw [List.length_take]; omega
theorem cut_from {ds : List PyData} {t : Nat} (h : t ≤ ds.length) : cutD ds (some (t : Int)) none = ds.drop t := by
  unfold cutD
  rw [HT.sIx_nat, HT.sIx_none, Nat.min_eq_left h, List.take_of_length_le (by rw [List.length_drop]; omega)]
theorem cut_to {ds : List PyData} {t : Nat} : cutD ds none (some (t : Int)) = ds.take t := by
  unfold cutD
  rw [HT.sIx_nat, HT.sIx_none, List.drop_zero, Nat.sub_zero]
  by_cases h : t ≤ ds.length
  · rw [Nat.min_eq_left h]
  · rw [Nat.min_eq_right (by omega), List.take_length, List.take_of_length_le (by omega)]
theorem sc_law_link_deed : FnScope ["_law_world_here", "_law_box", "_law_t", "_law_rows", "_law_told", "_law_names", "_law_x", "_law_turn"] ["_law_world_here", "_law_box", "_law_t"] (defScope (top 82)) := ⟨rfl, rfl, rfl, by decide +kernel, rfl, by decide +kernel, by decide +kernel⟩
abbrev Sp_law_link_deed (K : PySem.W.Frag) : Sp := spG K (α := RW × Int) (fun z => WOk z.1) (fun z => [.m (wT z.1), .b, .d (.int z.2)]) (fun z s => s = .d .none ∨ ∃ d : Deed, s = .d (eD d) ∧ Drawn z.1 d)
theorem kn_law_link_deed (W : Wld K mg w) : Kn P w K mg base "_law_link_deed" ["_law_world_here", "_law_box", "_law_t"] 3 (Sp_law_link_deed K) := by
  refine kn_gun W.f_law_link_deed sc_law_link_deed (fun _ => rfl) (fun _ _ _ _ _ _ us hl => match us, hl with | [_, _, _], _ => rfl) fun f cdv A outer s H E hr => ⟨_, (pss_cons (ps_set (i := 3) sc_law_link_deed.nd rfl (by first | exact .inl rfl | exact .inr rfl) (pe_lst (pa_cons (pe_knK (K := K) (by rfl) (kn_law_lone W) hr (by decide) (by rfl) (pa_cons (pv 0) (pa_cons pe_int pa_nil))) (pa_cons (pe_knK (K := K) (by rfl) (kn_law_lone W) hr (by decide) (by rfl) (pa_cons (pv 0) (pa_cons pe_int pa_nil))) pa_nil))))
    (pss_cons (ps_if (PW.pt (pw_or (pt_cmpR (op_eqUK (K := K) (by rfl) hr.units) (pe_ix (ix_seqK (K := K) (by rfl)) (pv 3) pe_int (fun _ _ => rfl)) (pe_lst pa_nil) (nomark _)) (pw_or1 (pt_cmpR (op_eqUK (K := K) (by rfl) hr.units) (pe_ix (ix_seqK (K := K) (by rfl)) (pv 3) pe_int (fun _ _ => rfl)) (pe_lst pa_nil) (nomark _))))) (pss_one (ps_ret pe_non)) pss_nil)
    (pss_cons (ps_set (i := 4) sc_law_link_deed.nd rfl (by first | exact .inl rfl | exact .inr rfl) (pe_lst pa_nil))
    (pss_cons (ps_for PassesOwn.never rfl (pi_listK (K := K) (by rfl) (pv 3)) (pg_name (i := 5) sc_law_link_deed.nd rfl (by first | exact .inl rfl | exact .inr rfl)) (pss_cons (ps_set (i := 6) sc_law_link_deed.nd rfl (by first | exact .inl rfl | exact .inr rfl) (pe_knK (K := K) (by rfl) (kn_law_next W) hr (by decide) (by rfl) (pa_cons (pv 1) pa_nil)))
    (pss_cons (ps_set (i := 7) sc_law_link_deed.nd rfl (by first | exact .inl rfl | exact .inr rfl) (pe_op op_modI (pv 6) (pe_callB (call_lenUK (K := K) (by rfl)) (by rfl) W.b_len (by decide +kernel) (pa_cons (pv 5) pa_nil))))
    (pss_one (ps_expr (pe_bmK (K := K) (by rfl) PySem.F.plainAttrs_list PySem.F.slot_list_append PySem.F.type_list_append mt_append (pv 4) (pa_cons (pe_callTy (call_tupleUK (K := K) (by rfl)) (by rfl) W.b_tuple (by decide +kernel) (pa_cons (pe_slice (sl_UK (K := K) (by rfl)) (pe_op (op_addUK (K := K) (by rfl)) (pe_slice (sl_UK (K := K) (by rfl)) (pv 5) (po_some (pv 7)) po_none) (pe_slice (sl_UK (K := K) (by rfl)) (pv 5) po_none (po_some (pv 7)))) po_none (po_some (pe_ix (ix_seqK (K := K) (by rfl)) (pe_lst (pa_cons pe_int (pa_cons pe_int (pa_cons pe_int (pa_cons pe_int (pa_cons pe_int (pa_cons pe_int (pa_cons pe_int (pa_cons pe_int pa_nil))))))))) (pe_op op_modI (pe_op op_divI (pv 6) pe_int) pe_int) (fun _ _ => rfl)))) pa_nil)) pa_nil)))))))
    (pss_one (ps_ret (pe_tup (pa_cons pe_str (pa_cons (pv 2) (pa_cons (pe_ix (ix_seqK (K := K) (by rfl)) (pv 4) pe_int (fun _ _ => rfl)) (pa_cons (pe_ix (ix_seqK (K := K) (by rfl)) (pv 4) pe_int (fun _ _ => rfl)) pa_nil))))))))))), fun M z hz => ?_⟩
  obtain ⟨W0, t⟩ := z
  have hW : WOk W0 := hz
  have hlone : ∀ s, (W0.lone s).length ≤ 100 := fun s => Nat.le_trans (List.length_filter_le _ _) (hW.ls s)
  have hnok : ∀ s, ∀ n ∈ W0.lone s, nOk n := fun s n hn => hW.nk s n (lone_sub hn)
  refine ts_mono (N := fun _ => False) ?_ (fun _ h => h.elim) fun _ h => h
  refine ts_asg (s := .n (.l [mS (W0.lone false), mS (W0.lone true)])) (te_lstT (ts := [mS (W0.lone false), mS (W0.lone true)]) (ta_cons (te_tree (te_callF (W0, false) (ta_cons (te_var rfl) (ta_cons te_int ta_nil)) hW rfl rfl) rfl) (ta_cons (te_tree (te_callF (W0, true) (ta_cons (te_var rfl) (ta_cons te_int ta_nil)) hW rfl rfl) rfl) ta_nil)) (Nat.le_of_ble_eq_true rfl)) ?_ rfl
  refine ts_old (fun s h => ?_) (fun γ' h => h.elim) ?_
  · rcases h with rfl | ⟨d, rfl, _⟩ <;> rfl
  show Ts K M _ [some (.m (wT W0)), some .b, some (.d (.int t)), some (.m (.l [mS (W0.lone false), mS (W0.lone true)])), none, none, none, none] _ _
  refine ts_ifS (b := decide (W0.lone false = []) || decide (W0.lone true = [])) (tt_or (tt_test (te_op (te_ml (te_op (te_var rfl) te_int (rv_ixM rfl))) (te_lst (ds := []) ta_nil (Nat.le_of_ble_eq_true rfl)) (rv_eqNil rfl rfl rfl (hnok false)))) fun _ => tt_test (te_op (te_ml (te_op (te_var rfl) te_int (rv_ixM rfl))) (te_lst (ds := []) ta_nil (Nat.le_of_ble_eq_true rfl)) (rv_eqNil rfl rfl rfl (hnok true)))) (fun _ => ts_retS te_non (.inl rfl)) fun e => ?_
  have hne : ∀ s, W0.lone s ≠ [] := fun s => by
    rw [Bool.or_eq_false_iff] at e
    cases s with
    | false => exact of_decide_eq_false e.1
    | true => exact of_decide_eq_false e.2
  refine ts_seq (ts_next (N := fun γ => γ = [some (.m (wT W0)), some .b, some (.d (.int t)), some (.m (.l [mS (W0.lone false), mS (W0.lone true)])), none, none, none, none]) rfl) ?_
  rintro _ rfl
  refine ts_new ?_
  refine ts_forS (α := Bool) (enc := fun s => .m (mS (W0.lone s))) (l := [false, true]) (js := [5]) (fun i γ => ∃ (ps : List (List Str)) (x y u : Option Sv), ps.length = i ∧ (∀ (j : Nat) (p : List Str), ps[j]? = some p → PieceOk (W0.lone (decide (j = 1))) p) ∧ γ = [some (.m (wT W0)), some .b, some (.d (.int t)), some (.m (.l [mS (W0.lone false), mS (W0.lone true)])), some (.u (ps.map eNs)), x, y, u]) (ti_is (ti_tree (te_var rfl)) rfl) ⟨[], none, none, none, rfl, fun j p h => by simp at h, rfl⟩ ?_ ?_
  · rintro i s γ1 hi ⟨ps, x, y, u, hpl, hps, rfl⟩
    have his : decide (i = 1) = s := by
      match i, hi with
      | 0, hi => cases hi; rfl
      | 1, hi => cases hi; rfl
      | i + 2, hi => simp at hi
    have hi2 : i < 2 := (List.getElem?_eq_some_iff.mp hi).1
    have hpos : 0 < (W0.lone s).length := List.length_pos_iff.mpr (hne s)
    have hls := hlone s
    refine ⟨_, tg_name, ts_asgP (tp_next rfl) ?_⟩
    rintro s0 ⟨k, rfl, h0, h1⟩
    refine ⟨rfl, ?_⟩
    refine ts_asg (te_op (te_var rfl) (te_cb (ta_cons (te_ml (te_var rfl)) ta_nil) (rc_lenL rfl)) (rv_mod (by rw [List.length_map]; omega))) ?_ rfl
    rw [List.length_map]
    obtain ⟨tn, htn, htl⟩ : ∃ tn : Nat, k % ((W0.lone s).length : Nat) = (tn : Int) ∧ tn < (W0.lone s).length := ⟨(k % ((W0.lone s).length : Nat)).toNat, by
      have := Int.emod_nonneg k (show ((W0.lone s).length : Int) ≠ 0 by omega)
      omega, by
      have := Int.emod_nonneg k (show ((W0.lone s).length : Int) ≠ 0 by omega)
      have := Int.emod_lt_of_pos k (show (0 : Int) < ((W0.lone s).length : Int) by omega)
      omega⟩
    rw [htn]
    obtain ⟨d, e1, e2⟩ := atI_of (xs := [PyData.int 1, .int 2, .int 1, .int 3, .int 1, .int 8, .int 2, .int 1]) (k := k / 7 % 8) (by omega) (by simp; omega)
    have hm := List.mem_of_getElem? e1
    obtain ⟨q, rfl, hq⟩ : ∃ q : Nat, d = .int q ∧ 1 ≤ q ∧ q ≤ 8 := by
      simp only [List.mem_cons, List.not_mem_nil, or_false] at hm
      rcases hm with h | h | h | h | h | h | h | h
      · exact ⟨1, h, by decide⟩
      · exact ⟨2, h, by decide⟩
      · exact ⟨1, h, by decide⟩
      · exact ⟨3, h, by decide⟩
      · exact ⟨1, h, by decide⟩
      · exact ⟨8, h, by decide⟩
      · exact ⟨2, h, by decide⟩
      · exact ⟨1, h, by decide⟩
    have hpc := piece_of (W0.lone s) tn q htl hq
    refine ts_app (d := eNs (((W0.lone s).drop tn ++ (W0.lone s).take tn).take q)) rfl (te_cb (ta_cons (te_is (te_sl (te_op (te_sl (te_ml (te_var rfl)) (to_some (te_var rfl)) to_none (rsl_L rfl)) (te_sl (te_ml (te_var rfl)) to_none (to_some (te_var rfl)) (rsl_L rfl)) (rv_addL rfl rfl ?_)) to_none (to_some (te_op (te_lst (ds := [.int 1, .int 2, .int 1, .int 3, .int 1, .int 8, .int 2, .int 1]) (ta_cons te_int (ta_cons te_int (ta_cons te_int (ta_cons te_int (ta_cons te_int (ta_cons te_int (ta_cons te_int (ta_cons te_int ta_nil)))))))) (Nat.le_of_ble_eq_true rfl)) (te_op (te_op (te_var rfl) te_int (rv_div (by decide) (by decide))) te_int (rv_mod (by decide))) (rv_ixL rfl e2))) (rsl_L rfl)) (s2 := .o ((((W0.lone s).drop tn ++ (W0.lone s).take tn).take q).map PyData.str)) ?_) ta_nil) (rc_tupleL rfl)) ?_ ⟨ps ++ [((W0.lone s).drop tn ++ (W0.lone s).take tn).take q], _, _, _, by rw [List.length_append, hpl]; rfl, fun j p hp => ?_, by rw [List.map_append]; rfl⟩
    · have c1 := cutD_len ((W0.lone s).map PyData.str) (some (tn : Int)) none
      have c2 := cutD_len ((W0.lone s).map PyData.str) none (some (tn : Int))
      rw [List.length_map] at c1 c2
      omega
    · rw [cut_to, cut_from (by rw [List.length_map]; omega), cut_to, List.map_take, List.map_append, List.map_drop, List.map_take]
    · rw [List.length_map]
      omega
    · rw [List.getElem?_append] at hp
      split at hp
      · exact hps j p hp
      · have hj : j = i := by
          have := (List.getElem?_eq_some_iff.mp hp).1
          simp at this
          omega
        subst hj
        rw [hpl, Nat.sub_self] at hp
        cases hp
        rw [his]
        exact hpc
  · rintro γ1 ⟨ps, x, y, u, hpl, hps, rfl⟩
    match ps, hpl with
    | [a, c], _ =>
      refine ts_ret (te_tup (ds := [.str "link", .int t, eNs a, eNs c]) (ta_cons te_str (ta_cons (te_var rfl) (ta_cons (te_op (te_var rfl) te_int (rv_ixL rfl rfl)) (ta_cons (te_op (te_var rfl) te_int (rv_ixL rfl rfl)) ta_nil)))) (Nat.le_of_ble_eq_true rfl)) (.inr ⟨.link t a c, rfl, hps 0 a rfl, hps 1 c rfl⟩)
end Tw
namespace Tw
open PySem PySem.Spec PyProof.Rows L2
local macro_rules
  | `(tactic| walk_at "rv") => `(tactic| first
    | exact rv_ixT rfl | exact rv_addI | exact rv_sub | exact rv_ixL rfl rfl | exact rv_ixM rfl
    | exact rsl_T | exact rsl_L rfl
    | exact rv_inStrL rfl | exact rv_inStrT | exact rv_ninStrL rfl | exact rv_ninIntL rfl | exact rv_eqStr | exact rv_neStr | exact rv_eqInt | exact rv_neInt | exact rv_eqBl | exact rv_neBl
    | exact rv_lt | exact rv_gt | exact rv_ge | exact rv_leI | exact rv_leS | exact rv_isN | exact rv_notN
    | exact rc_lenT | exact rc_lenL rfl | exact rc_intB | exact rc_listT | exact rc_listL rfl | exact rc_tupleL rfl | exact rc_tupleT)
local macro_rules
  | `(tactic| walk_at "e1") => `(tactic| first
    | exact te_var rfl | exact te_int | exact te_str | exact te_bl | exact te_non | exact ta_nil | exact to_none
    | apply to_some | apply ta_cons | apply te_op | apply te_cb | apply te_sl
    | apply tt_B | apply tt_test | walk_at "rv")
local macro_rules
  | `(tactic| walk_at "e") => `(tactic| repeat walk_at "e1")

variable {P : Program} {w : World} {K : PySem.W.Frag} {mg : Str → Option Value} {base : Heap}
def namedW : List Str := ["take", "part", "join", "move", "change", "word", "step", "loose", "alone", "lack"]
def RW.cands (W : RW) (v : Str) : List Str :=
  if v = "word" then W.names.filter fun n => (wordedL (W.txt n) 0 "").isSome else
  if v = "join" then W.names.filter fun n => !decide (W.alike n = []) else
  if v = "part" then W.names.filter fun n => decide ((1 : Int) < (W.txt n).length) else
  if v = "lack" then W.al else
  if v = "alone" then W.lone false ++ W.lone true else
  if v ∈ (["loose", "step"] : List Str) then W.names.filter fun n => (W.at? n).isSome else W.names
theorem rv_neNil {M : Addr → Prop} {s1 s2 : Sv} {ns : List Str} (h1 : s1.lst? = some (ns.map PyData.str)) (h1' : s1.dat? = some (.list (ns.map PyData.str))) (h2 : s2.dat? = some (.list (([] : List Str).map PyData.str))) (hn : ∀ n ∈ ns, nOk n) : Rv K M (rNeU K) s1 s2 (.d (.bool (!decide (ns = [])))) := eqv_strsL ns [] ▸ rv_neS (n := 1) (m := 1) h1' h2 (shp_lst (shp_strs hn)) (shp_lst fun d hd => by cases hd)
theorem lst_dat {s : Sv} {ns : List Str} (h : s.lst? = some (ns.map PyData.str)) (hu : s.isU = false) : s.dat? = some (.list (ns.map PyData.str)) := by
  cases s <;> simp [Sv.lst?, Sv.dat?, Sv.isU] at * <;> exact h
theorem lst_weak {s : Sv} {ds : List PyData} (h : s.lst? = some ds) : s.weak = .l ds := by
  cases s <;> simp [Sv.lst?, Sv.weak] at * <;> exact h
theorem sc_law_named_deed : FnScope ["_law_world_here", "_law_box", "_law_word", "_law_t", "_law_names", "_law_some", "_law_name", "_law_row", "_law_places", "_law_one", "_law_k"] ["_law_world_here", "_law_box", "_law_word", "_law_t"] (defScope (top 83)) := ⟨rfl, rfl, rfl, by decide +kernel, rfl, by decide +kernel, by decide +kernel⟩
abbrev Sp_law_named_deed (K : PySem.W.Frag) : Sp := spG K (α := RW × Str × Int) (fun z => WOk z.1 ∧ z.2.1 ∈ namedW) (fun z => [.m (wT z.1), .b, .d (.str z.2.1), .d (.int z.2.2)]) (fun z s => s = .d .none ∨ ∃ d : Deed, s = .d (eD d) ∧ Drawn z.1 d)
theorem kn_law_named_deed (W : Wld K mg w) : Kn P w K mg base "_law_named_deed" ["_law_world_here", "_law_box", "_law_word", "_law_t"] 5 (Sp_law_named_deed K) := by
  refine kn_gun W.f_law_named_deed sc_law_named_deed (fun _ => rfl) (fun _ _ _ _ _ _ us hl => match us, hl with | [_, _, _, _], _ => rfl) fun f cdv A outer s H E hr => ⟨_, (pss_cons (ps_set (i := 4) sc_law_named_deed.nd rfl (by first | exact .inl rfl | exact .inr rfl) (pe_op (op_addUK (K := K) (by rfl)) (pe_ix (ix_seqK (K := K) (by rfl)) (pe_dget (hu_of hr) (pv 0) pe_str (fun _ _ => rfl)) pe_int (fun _ _ => rfl)) (pe_ix (ix_seqK (K := K) (by rfl)) (pe_dget (hu_of hr) (pv 0) pe_str (fun _ _ => rfl)) pe_int (fun _ _ => rfl))))
    (pss_cons (ps_set (i := 5) sc_law_named_deed.nd rfl (by first | exact .inl rfl | exact .inr rfl) (pv 4))
    (pss_cons (ps_if (pt_cmpR (op_inUK (K := K) (by rfl) hr.u65) (pv 2) (pe_tup (pa_cons pe_str (pa_cons pe_str pa_nil))) (by rfl)) (pss_one (ps_setLc (i := 5) (own := [("_law_name", 6)]) rfl sc_law_named_deed.nd rfl rfl (sw_true rfl rfl rfl (by decide +kernel)) (pi_listK (K := K) (by rfl) (pv 4)) (blkOk_by (N := ["_law_world_here", "_law_box", "_law_word", "_law_t", "_law_names", "_law_some", "_law_name", "_law_row", "_law_places", "_law_one", "_law_k"]) (sc := defScope (top 83)) (by decide +kernel)) (fun _ _ _ _ _ => (pg_name (i := 6) sc_law_named_deed.nd rfl (by first | exact .inl rfl | exact .inr rfl))) (fun _ _ _ _ _ => pts_one (pt_cmpR op_notNo (pe_knK (K := K) (by rfl) (kn_law_link_at W) hr (by decide) (by rfl) (pa_cons (pv 0) (pa_cons (pv 6) pa_nil))) pe_non (nomark _))) (fun _ _ _ _ _ => (pv 6)))) pss_nil)
    (pss_cons (ps_if (pt_cmpR (op_eqUK (K := K) (by rfl) hr.units) (pv 2) pe_str (nomark _)) (pss_one (ps_set (i := 5) sc_law_named_deed.nd rfl (by first | exact .inl rfl | exact .inr rfl) (pe_op (op_addUK (K := K) (by rfl)) (pe_knK (K := K) (by rfl) (kn_law_lone W) hr (by decide) (by rfl) (pa_cons (pv 0) (pa_cons pe_int pa_nil))) (pe_knK (K := K) (by rfl) (kn_law_lone W) hr (by decide) (by rfl) (pa_cons (pv 0) (pa_cons pe_int pa_nil)))))) pss_nil)
    (pss_cons (ps_if (pt_cmpR (op_eqUK (K := K) (by rfl) hr.units) (pv 2) pe_str (nomark _)) (pss_one (ps_set (i := 5) sc_law_named_deed.nd rfl (by first | exact .inl rfl | exact .inr rfl) (pe_dget (hu_of hr) (pv 0) pe_str (fun _ _ => rfl)))) pss_nil)
    (pss_cons (ps_if (pt_cmpR (op_eqUK (K := K) (by rfl) hr.units) (pv 2) pe_str (nomark _)) (pss_one (ps_setLc (i := 5) (own := [("_law_name", 6)]) rfl sc_law_named_deed.nd rfl rfl (sw_true rfl rfl rfl (by decide +kernel)) (pi_listK (K := K) (by rfl) (pv 4)) (blkOk_by (N := ["_law_world_here", "_law_box", "_law_word", "_law_t", "_law_names", "_law_some", "_law_name", "_law_row", "_law_places", "_law_one", "_law_k"]) (sc := defScope (top 83)) (by decide +kernel)) (fun _ _ _ _ _ => (pg_name (i := 6) sc_law_named_deed.nd rfl (by first | exact .inl rfl | exact .inr rfl))) (fun _ _ _ _ _ => pts_one (pt_cmpR op_gtI (pe_callB (call_lenUK (K := K) (by rfl)) (by rfl) W.b_len (by decide +kernel) (pa_cons (pe_dget (hu_of hr) (pe_dget (hu_of hr) (pv 0) pe_str (fun _ _ => rfl)) (pv 6) (fun _ _ => rfl)) pa_nil)) pe_int (nomark _))) (fun _ _ _ _ _ => (pv 6)))) pss_nil)
    (pss_cons (ps_if (pt_cmpR (op_eqUK (K := K) (by rfl) hr.units) (pv 2) pe_str (nomark _)) (pss_one (ps_setLc (i := 5) (own := [("_law_name", 6)]) rfl sc_law_named_deed.nd rfl rfl (sw_true rfl rfl rfl (by decide +kernel)) (pi_listK (K := K) (by rfl) (pv 4)) (blkOk_by (N := ["_law_world_here", "_law_box", "_law_word", "_law_t", "_law_names", "_law_some", "_law_name", "_law_row", "_law_places", "_law_one", "_law_k"]) (sc := defScope (top 83)) (by decide +kernel)) (fun _ _ _ _ _ => (pg_name (i := 6) sc_law_named_deed.nd rfl (by first | exact .inl rfl | exact .inr rfl))) (fun _ _ _ _ _ => pts_one (pt_cmpR (op_neUK (K := K) (by rfl) hr.units) (pe_knK (K := K) (by rfl) (kn_law_alike W) hr (by decide) (by rfl) (pa_cons (pv 0) (pa_cons (pv 6) pa_nil))) (pe_lst pa_nil) (nomark _))) (fun _ _ _ _ _ => (pv 6)))) pss_nil)
    (pss_cons (ps_if (pt_cmpR (op_eqUK (K := K) (by rfl) hr.units) (pv 2) pe_str (nomark _)) (pss_one (ps_setLc (i := 5) (own := [("_law_name", 6)]) rfl sc_law_named_deed.nd rfl rfl (sw_true rfl rfl rfl (by decide +kernel)) (pi_listK (K := K) (by rfl) (pv 4)) (blkOk_by (N := ["_law_world_here", "_law_box", "_law_word", "_law_t", "_law_names", "_law_some", "_law_name", "_law_row", "_law_places", "_law_one", "_law_k"]) (sc := defScope (top 83)) (by decide +kernel)) (fun _ _ _ _ _ => (pg_name (i := 6) sc_law_named_deed.nd rfl (by first | exact .inl rfl | exact .inr rfl))) (fun _ _ _ _ _ => pts_one (pt_cmpR op_notNo (pe_knK (K := K) (by rfl) (kn_law_worded W) hr (by decide) (by rfl) (pa_cons (pe_dget (hu_of hr) (pe_dget (hu_of hr) (pv 0) pe_str (fun _ _ => rfl)) (pv 6) (fun _ _ => rfl)) (pa_cons pe_int (pa_cons pe_str pa_nil)))) pe_non (nomark _))) (fun _ _ _ _ _ => (pv 6)))) pss_nil)
    (pss_cons (ps_if (pt_cmpR (op_eqUK (K := K) (by rfl) hr.units) (pv 5) (pe_lst pa_nil) (nomark _)) (pss_one (ps_ret pe_non)) pss_nil)
    (pss_cons (ps_set (i := 6) sc_law_named_deed.nd rfl (by first | exact .inl rfl | exact .inr rfl) (pe_knK (K := K) (by rfl) (kn_law_one_of W) hr (by decide) (by rfl) (pa_cons (pv 1) (pa_cons (pv 5) pa_nil))))
    (pss_cons (ps_if (pt_cmpR (op_eqUK (K := K) (by rfl) hr.units) (pv 2) pe_str (nomark _)) (pss_one (ps_ret (pe_tup (pa_cons (pv 2) (pa_cons (pv 3) (pa_cons (pv 6) (pa_cons (pe_op (op_addUK (K := K) (by rfl)) pe_int (pe_op op_modI (pe_knK (K := K) (by rfl) (kn_law_next W) hr (by decide) (by rfl) (pa_cons (pv 1) pa_nil)) (pe_op op_subI (pe_callB (call_lenUK (K := K) (by rfl)) (by rfl) W.b_len (by decide +kernel) (pa_cons (pe_dget (hu_of hr) (pe_dget (hu_of hr) (pv 0) pe_str (fun _ _ => rfl)) (pv 6) (fun _ _ => rfl)) pa_nil)) pe_int))) (pa_cons (pe_knK (K := K) (by rfl) (kn_law_fresh W) hr (by decide) (by rfl) (pa_cons (pv 0) (pa_cons (pv 1) pa_nil))) pa_nil)))))))) pss_nil)
    (pss_cons (ps_if (pt_cmpR (op_eqUK (K := K) (by rfl) hr.units) (pv 2) pe_str (nomark _)) (pss_one (ps_ret (pe_tup (pa_cons (pv 2) (pa_cons (pv 3) (pa_cons (pv 6) (pa_cons (pe_knK (K := K) (by rfl) (kn_law_one_of W) hr (by decide) (by rfl) (pa_cons (pv 1) (pa_cons (pe_knK (K := K) (by rfl) (kn_law_alike W) hr (by decide) (by rfl) (pa_cons (pv 0) (pa_cons (pv 6) pa_nil))) pa_nil))) pa_nil))))))) pss_nil)
    (pss_cons (ps_if (pt_cmpR (op_eqUK (K := K) (by rfl) hr.units) (pv 2) pe_str (nomark _)) (pss_cons (ps_set (i := 7) sc_law_named_deed.nd rfl (by first | exact .inl rfl | exact .inr rfl) (pe_ix (ix_seqK (K := K) (by rfl)) (pe_dget (hu_of hr) (pv 0) pe_str (fun _ _ => rfl)) (pe_knK (K := K) (by rfl) (kn_law_side W) hr (by decide) (by rfl) (pa_cons (pv 0) (pa_cons (pv 6) pa_nil))) (fun _ _ => rfl)))
    (pss_one (ps_ret (pe_tup (pa_cons (pv 2) (pa_cons (pv 3) (pa_cons (pv 6) (pa_cons (pe_knK (K := K) (by rfl) (kn_law_one_of W) hr (by decide) (by rfl) (pa_cons (pv 1) (pa_cons (pe_op (op_addUK (K := K) (by rfl)) (pe_lst (pa_cons pe_str pa_nil)) (pe_lc (own := [("_law_one", 9)]) rfl sc_law_named_deed.nd (pi_listK (K := K) (by rfl) (pv 7)) (blkOk_by (N := ["_law_world_here", "_law_box", "_law_word", "_law_t", "_law_names", "_law_some", "_law_name", "_law_row", "_law_places", "_law_one", "_law_k"]) (sc := defScope (top 83)) (by decide +kernel)) (fun _ _ _ _ _ => (pg_name (i := 9) sc_law_named_deed.nd rfl (by first | exact .inl rfl | exact .inr rfl))) (fun _ _ _ _ _ => pts_one (pt_cmpR (op_neUK (K := K) (by rfl) hr.units) (pv 9) (pv 6) (nomark _))) (fun _ _ _ _ _ => (pv 9)))) pa_nil))) pa_nil)))))))) pss_nil)
    (pss_cons (ps_if (pt_cmpR (op_eqUK (K := K) (by rfl) hr.units) (pv 2) pe_str (nomark _)) (pss_one (ps_ret (pe_tup (pa_cons (pv 2) (pa_cons (pv 3) (pa_cons (pv 6) (pa_cons (pe_knK (K := K) (by rfl) (kn_law_text W) hr (by decide) (by rfl) (pa_cons (pv 1) pa_nil)) pa_nil))))))) pss_nil)
    (pss_cons (ps_if (pt_cmpR (op_eqUK (K := K) (by rfl) hr.units) (pv 2) pe_str (nomark _)) (pss_cons (ps_setLc (i := 8) (own := [("_law_k", 10)]) rfl sc_law_named_deed.nd rfl rfl (sw_true rfl rfl rfl (by decide +kernel)) (pi_range1 (by rfl) W.b_range (pa_cons pe_int pa_nil)) (blkOk_by (N := ["_law_world_here", "_law_box", "_law_word", "_law_t", "_law_names", "_law_some", "_law_name", "_law_row", "_law_places", "_law_one", "_law_k"]) (sc := defScope (top 83)) (by decide +kernel)) (fun _ _ _ _ _ => (pg_name (i := 10) sc_law_named_deed.nd rfl (by first | exact .inl rfl | exact .inr rfl))) (fun _ _ _ _ _ => pts_one (pt_cmpR op_notNo (pe_knK (K := K) (by rfl) (kn_law_worded W) hr (by decide) (by rfl) (pa_cons (pe_dget (hu_of hr) (pe_dget (hu_of hr) (pv 0) pe_str (fun _ _ => rfl)) (pv 6) (fun _ _ => rfl)) (pa_cons (pv 10) (pa_cons pe_str pa_nil)))) pe_non (nomark _))) (fun _ _ _ _ _ => (pv 10)))
    (pss_one (ps_ret (pe_tup (pa_cons (pv 2) (pa_cons (pv 3) (pa_cons (pv 6) (pa_cons (pe_knK (K := K) (by rfl) (kn_law_one_of W) hr (by decide) (by rfl) (pa_cons (pv 1) (pa_cons (pv 8) pa_nil))) (pa_cons (pe_knK (K := K) (by rfl) (kn_law_one_of W) hr (by decide) (by rfl) (pa_cons (pv 1) (pa_cons (pe_lst (pa_cons pe_str (pa_cons pe_str (pa_cons pe_str pa_nil)))) pa_nil))) pa_nil))))))))) pss_nil)
    (pss_one (ps_ret (pe_tup (pa_cons (pv 2) (pa_cons (pv 3) (pa_cons (pv 6) pa_nil))))))))))))))))))))), fun M z hz => ?_⟩
  obtain ⟨W0, v, t⟩ := z
  obtain ⟨hW, hv⟩ : WOk W0 ∧ v ∈ namedW := hz
  have hside : ∀ n ∈ W0.names, ∃ s, n ∈ W0.side s := fun n hn => by
    rcases List.mem_append.mp hn with h | h
    · exact ⟨false, h⟩
    · exact ⟨true, h⟩
  have hnl : W0.names.length ≤ 200 := by
    have h1 := hW.ls false
    have h2 := hW.ls true
    unfold RW.names
    rw [List.length_append]
    simp only [RW.side] at h1 h2
    omega
  have hnok : ∀ n ∈ W0.names, nOk n := fun n hn => by
    obtain ⟨s, hs⟩ := hside n hn
    exact hW.nk s n hs
  have htx : ∀ n ∈ W0.names, W0.tx.lookup n = some (W0.txt n) ∧ (W0.txt n).length ≤ 9000 := fun n hn => by
    obtain ⟨s, hs⟩ := hside n hn
    exact hW.txt hs
  have hsub : ∀ n ∈ W0.cands v, (n ∈ W0.names ∨ n ∈ W0.al) := fun n hn => by
    unfold RW.cands at hn
    split at hn
    · exact .inl (List.mem_filter.mp hn).1
    split at hn
    · exact .inl (List.mem_filter.mp hn).1
    split at hn
    · exact .inl (List.mem_filter.mp hn).1
    split at hn
    · exact .inr hn
    split at hn
    · rcases List.mem_append.mp hn with h | h
      · exact .inl (List.mem_append_left _ (lone_sub h))
      · exact .inl (List.mem_append_right _ (lone_sub h))
    split at hn
    · exact .inl (List.mem_filter.mp hn).1
    · exact .inl hn
  have hcok : ∀ n ∈ W0.cands v, nOk n := fun n hn => by
    rcases hsub n hn with h | h
    · exact hnok n h
    · exact hW.ak n h
  have hlone : ∀ s, (W0.lone s).length ≤ 100 := fun s => Nat.le_trans (List.length_filter_le _ _) (hW.ls s)
  have hcl : (W0.cands v).length ≤ 400 := by
    unfold RW.cands
    have h1 := hlone false
    have h2 := hlone true
    have h3 := hW.la
    split
    · exact Nat.le_trans (List.length_filter_le _ _) (by omega)
    split
    · exact Nat.le_trans (List.length_filter_le _ _) (by omega)
    split
    · exact Nat.le_trans (List.length_filter_le _ _) (by omega)
    split
    · omega
    split
    · rw [List.length_append]; omega
    split
    · exact Nat.le_trans (List.length_filter_le _ _) (by omega)
    · omega
  have isNo_oS : ∀ o : Option Str, isNoD (oS o) = o.isNone := fun o => by cases o <;> rfl
  let Gm : Sv → G := fun s5 => [some (.m (wT W0)), some .b, some (.d (.str v)), some (.d (.int t)), some (.o (W0.names.map PyData.str)), some s5, none, none, none, none, none]
  refine ts_mono (N := fun _ => False) ?_ (fun _ h => h.elim) fun _ h => h
  refine ts_asg (s := .o (W0.names.map PyData.str)) (te_is (te_op (te_sideB (b := false) rfl te_int) (te_sideB (b := true) rfl te_int) (rv_addL rfl rfl ?_)) (by unfold RW.names; rw [List.map_append]; rfl)) ?_ rfl
  · unfold RW.names at hnl
    rw [List.length_append] at hnl
    rw [List.length_map, List.length_map]
    show W0.s0.length + W0.s1.length ≤ 50000
    omega
  refine ts_asg (te_var rfl) ?_ rfl
  refine ts_seq (N' := fun γ => ∃ s5 : Sv, s5.lst? = some ((if v ∈ (["loose", "step"] : List Str) then W0.names.filter fun n => (W0.at? n).isSome else W0.names).map PyData.str) ∧ s5.isU = false ∧ γ = Gm s5) ?_ ?_
  · refine ts_if (b := decide (v ∈ (["loose", "step"] : List Str))) (tt_test (te_op (te_var rfl) (te_tup (ds := (["loose", "step"] : List Str).map PyData.str) (ta_cons te_str (ta_cons te_str ta_nil)) (Nat.le_of_ble_eq_true rfl)) rv_inStrT)) (fun e => ?_) fun e => ?_
    · refine ts_asg1 (s := .o ((W0.names.filter fun n => (W0.at? n).isSome).map PyData.str)) (te_lc (α := Str) (enc := fun n => .d (.str n)) (l := W0.names) (fun n => (W0.at? n).isSome) PyData.str (tc_listE (te_var rfl) rfl) (by omega) (by simp) fun n hn => ⟨_, tg_name, tt_test (te_is (te_op (te_callF (W0, n) (ta_cons (te_var rfl) (ta_cons (te_var rfl) ta_nil)) hW.ka rfl rfl) te_non rv_notN) (by rw [isNo_oA]; simp)), fun _ => te_var rfl⟩) ⟨_, by rw [if_pos (of_decide_eq_true e)]; rfl, rfl, rfl⟩ rfl
    · exact ts_next ⟨.o (W0.names.map PyData.str), by rw [if_neg (of_decide_eq_false e)]; rfl, rfl, rfl⟩
  rintro _ ⟨s5, h5, u5, rfl⟩
  generalize hC1 : (if v ∈ (["loose", "step"] : List Str) then W0.names.filter fun n => (W0.at? n).isSome else W0.names) = C1 at h5
  refine ts_seq (N' := fun γ => ∃ s5 : Sv, s5.lst? = some ((if v = "alone" then W0.lone false ++ W0.lone true else C1).map PyData.str) ∧ s5.isU = false ∧ γ = Gm s5) ?_ ?_
  · refine ts_if (b := decide (v = "alone")) (tt_test (te_op (te_var rfl) te_str rv_eqStr)) (fun e => ?_) fun e => ?_
    · have h1 := hlone false
      have h2 := hlone true
      refine ts_asg1 (s := .o ((W0.lone false ++ W0.lone true).map PyData.str)) (te_is (te_op (te_callF (W0, false) (ta_cons (te_var rfl) (ta_cons te_int ta_nil)) hW rfl rfl) (te_callF (W0, true) (ta_cons (te_var rfl) (ta_cons te_int ta_nil)) hW rfl rfl) (rv_addL rfl rfl (by rw [List.length_map, List.length_map]; simp only; omega))) (by rw [List.map_append])) ⟨_, by rw [if_pos (of_decide_eq_true e)]; rfl, rfl, rfl⟩ rfl
    · exact ts_next ⟨s5, by rw [if_neg (of_decide_eq_false e)]; exact h5, u5, rfl⟩
  clear h5 u5 s5
  rintro _ ⟨s5, h5, u5, rfl⟩
  generalize hC2 : (if v = "alone" then W0.lone false ++ W0.lone true else C1) = C2 at h5
  refine ts_seq (N' := fun γ => ∃ s5 : Sv, s5.lst? = some ((if v = "lack" then W0.al else C2).map PyData.str) ∧ s5.isU = false ∧ γ = Gm s5) ?_ ?_
  · refine ts_if (b := decide (v = "lack")) (tt_test (te_op (te_var rfl) te_str rv_eqStr)) (fun e => ?_) fun e => ?_
    · exact ts_asg1 (te_alone rfl) ⟨.l (W0.al.map PyData.str), by rw [if_pos (of_decide_eq_true e)]; rfl, rfl, rfl⟩ rfl
    · exact ts_next ⟨s5, by rw [if_neg (of_decide_eq_false e)]; exact h5, u5, rfl⟩
  clear h5 u5 s5
  rintro _ ⟨s5, h5, u5, rfl⟩
  generalize hC3 : (if v = "lack" then W0.al else C2) = C3 at h5
  refine ts_seq (N' := fun γ => ∃ s5 : Sv, s5.lst? = some ((if v = "part" then W0.names.filter fun n => decide ((1 : Int) < (W0.txt n).length) else C3).map PyData.str) ∧ s5.isU = false ∧ γ = Gm s5) ?_ ?_
  · refine ts_if (b := decide (v = "part")) (tt_test (te_op (te_var rfl) te_str rv_eqStr)) (fun e => ?_) fun e => ?_
    · exact ts_asg1 (s := .o ((W0.names.filter fun n => decide ((1 : Int) < (W0.txt n).length)).map PyData.str)) (te_lc (α := Str) (enc := fun n => .d (.str n)) (l := W0.names) (fun n => decide ((1 : Int) < (W0.txt n).length)) PyData.str (tc_listE (te_var rfl) rfl) (by omega) (by simp) fun n hn => ⟨_, tg_name, tt_test (te_op (te_cb (ta_cons (te_txt rfl (te_var rfl) hW.kt (htx n hn).1) ta_nil) (rc_lenS (Nat.le_trans (htx n hn).2 (by decide)))) te_int rv_gt), fun _ => te_var rfl⟩) ⟨_, by rw [if_pos (of_decide_eq_true e)]; rfl, rfl, rfl⟩ rfl
    · exact ts_next ⟨s5, by rw [if_neg (of_decide_eq_false e)]; exact h5, u5, rfl⟩
  clear h5 u5 s5
  rintro _ ⟨s5, h5, u5, rfl⟩
  generalize hC4 : (if v = "part" then W0.names.filter fun n => decide ((1 : Int) < (W0.txt n).length) else C3) = C4 at h5
  refine ts_seq (N' := fun γ => ∃ s5 : Sv, s5.lst? = some ((if v = "join" then W0.names.filter fun n => !decide (W0.alike n = []) else C4).map PyData.str) ∧ s5.isU = false ∧ γ = Gm s5) ?_ ?_
  · refine ts_if (b := decide (v = "join")) (tt_test (te_op (te_var rfl) te_str rv_eqStr)) (fun e => ?_) fun e => ?_
    · refine ts_asg1 (s := .o ((W0.names.filter fun n => !decide (W0.alike n = [])).map PyData.str)) (te_lc (α := Str) (enc := fun n => .d (.str n)) (l := W0.names) (fun n => !decide (W0.alike n = [])) PyData.str (tc_listE (te_var rfl) rfl) (by omega) (by simp) fun n hn => ⟨_, tg_name, tt_test (te_op (te_callF (W0, n) (ta_cons (te_var rfl) (ta_cons (te_var rfl) ta_nil)) hW rfl rfl) (te_lst (ds := []) ta_nil (Nat.le_of_ble_eq_true rfl)) (rv_neNil rfl rfl rfl fun o ho => ?_)), fun _ => te_var rfl⟩) ⟨_, by rw [if_pos (of_decide_eq_true e)]; rfl, rfl, rfl⟩ rfl
      have ho' : o ∈ W0.side (W0.sdOf n) := by
        unfold RW.alike at ho
        simp only at ho
        split at ho
        · exact (List.mem_filter.mp (List.mem_filter.mp ho).1).1
        split at ho
        · exact (List.mem_filter.mp (List.mem_filter.mp ho).1).1
        · exact (List.mem_filter.mp (List.mem_filter.mp ho).1).1
      exact hW.nk _ o ho'
    · exact ts_next ⟨s5, by rw [if_neg (of_decide_eq_false e)]; exact h5, u5, rfl⟩
  clear h5 u5 s5
  rintro _ ⟨s5, h5, u5, rfl⟩
  generalize hC5 : (if v = "join" then W0.names.filter fun n => !decide (W0.alike n = []) else C4) = C5 at h5
  have hC6 : (if v = "word" then W0.names.filter fun n => (wordedL (W0.txt n) 0 "").isSome else C5) = W0.cands v := by
    unfold RW.cands
    rw [← hC5, ← hC4, ← hC3, ← hC2, ← hC1]
  refine ts_seq (N' := fun γ => ∃ s5 : Sv, s5.lst? = some ((W0.cands v).map PyData.str) ∧ s5.isU = false ∧ γ = Gm s5) ?_ ?_
  · rw [← hC6]
    refine ts_if (b := decide (v = "word")) (tt_test (te_op (te_var rfl) te_str rv_eqStr)) (fun e => ?_) fun e => ?_
    · exact ts_asg1 (s := .o ((W0.names.filter fun n => (wordedL (W0.txt n) 0 "").isSome).map PyData.str)) (te_lc (α := Str) (enc := fun n => .d (.str n)) (l := W0.names) (fun n => (wordedL (W0.txt n) 0 "").isSome) PyData.str (tc_listE (te_var rfl) rfl) (by omega) (by simp) fun n hn => ⟨_, tg_name, tt_test (te_is (te_op (te_callF ((W0.txt n, 0, "") : Str × Nat × Str) (ta_cons (te_txt rfl (te_var rfl) hW.kt (htx n hn).1) (ta_cons te_int (ta_cons te_str ta_nil))) ⟨(htx n hn).2, show ("" : Str).length ≤ 1000 by decide⟩ rfl rfl) te_non rv_notN) (by rw [isNo_oS]; simp)), fun _ => te_var rfl⟩) ⟨_, by rw [if_pos (of_decide_eq_true e)]; rfl, rfl, rfl⟩ rfl
    · exact ts_next ⟨s5, by rw [if_neg (of_decide_eq_false e)]; exact h5, u5, rfl⟩
  clear h5 u5 s5
  rintro _ ⟨s5, h5, u5, rfl⟩
  refine ts_ifS (b := decide (W0.cands v = [])) (tt_test (te_op (te_var rfl) (te_lst (ds := []) ta_nil (Nat.le_of_ble_eq_true rfl)) (rv_eqNil h5 (lst_dat h5 u5) rfl hcok))) (fun _ => ts_retS te_non (.inl rfl)) fun e => ?_
  have hne := of_decide_eq_false e
  refine ts_seq (ts_next (N := fun γ => γ = Gm s5) rfl) ?_
  rintro _ rfl
  refine ts_asgP (tp_oneOf rfl (te_var rfl) (lst_weak h5) (fun h => hne (List.map_eq_nil_iff.mp h)) (by rw [List.length_map]; omega)) ?_
  rintro s ⟨d, hd, rfl⟩
  obtain ⟨n, hn, rfl⟩ := List.mem_map.mp hd
  refine ⟨rfl, ?_⟩
  have fin : ∀ d : Deed, Drawn W0 d → (Sv.d (eD d) = .d .none ∨ ∃ d' : Deed, Sv.d (eD d) = .d (eD d') ∧ Drawn W0 d') := fun d h => .inr ⟨d, rfl, h⟩
  refine ts_ifS (b := decide (v = "part")) (tt_test (te_op (te_var rfl) te_str rv_eqStr)) (fun e => ?_) fun ep => ?_
  · have ev := of_decide_eq_true e
    subst ev
    have hc := List.mem_filter.mp (show n ∈ W0.names.filter fun n => decide ((1 : Int) < (W0.txt n).length) from hn)
    have h1 := of_decide_eq_true hc.2
    have hx := htx n hc.1
    refine ts_retSP (tp_tup (P := fun s => ∃ d : Deed, s = .d (eD d) ∧ Drawn W0 d) (tpa_det (te_var rfl) (tpa_det (te_var rfl) (tpa_det (te_var rfl) (tpa_nd (P := fun s => ∃ i : Nat, s = .d (.int i) ∧ 1 ≤ i ∧ i < (W0.txt n).length) (tp_op (te_tp te_int) (P2 := fun s => ∃ k : Int, s = .d (.int k) ∧ 0 ≤ k ∧ k < (W0.txt n).length - 1) (fun s _ => tp_op (tp_next rfl) (fun s _ => te_tp (te_op (te_cb (ta_cons (te_txt rfl (te_var rfl) hW.kt hx.1) ta_nil) (rc_lenS (Nat.le_trans hx.2 (by decide)))) te_int rv_sub)) ?_) ?_) (tpa_nd (tp_fresh rfl rfl hW) tpa_nil))))) ?_) fun s h => .inr h
    · rintro s1 s2 ⟨k, rfl, k0, _⟩ rfl
      exact ⟨_, ⟨k % ((W0.txt n).length - 1 : Int), rfl, Int.emod_nonneg _ (by omega), Int.emod_lt_of_pos _ (by omega)⟩, rv_mod (by omega)⟩
    · rintro s1 s2 rfl ⟨k, rfl, k0, k1⟩
      exact ⟨_, ⟨(1 + k).toNat, by rw [Int.toNat_of_nonneg (by omega)], by omega, by omega⟩, rv_addI⟩
    · rintro ss ⟨r1, rfl, r2, rfl, r3, rfl, s4, r4, rfl, ⟨i, rfl, i1, i2⟩, s6, r5, rfl, ⟨m, hm, hmk, rfl⟩, rfl⟩
      exact ⟨[.str "part", .int t, .str n, .int i, .str m], rfl, ⟨.part t n i m, rfl, hc.1, i1, i2, hm, hmk⟩, (Nat.le_of_ble_eq_true rfl)⟩
  refine ts_seq (ts_next (N := fun γ => γ = (Gm s5).set 6 (some (.d (.str n)))) rfl) ?_
  rintro _ rfl
  refine ts_ifS (b := decide (v = "join")) (tt_test (te_op (te_var rfl) te_str rv_eqStr)) (fun e => ?_) fun ej => ?_
  · have ev := of_decide_eq_true e
    subst ev
    have hc := List.mem_filter.mp (show n ∈ W0.names.filter fun n => !decide (W0.alike n = []) from hn)
    have h1 : W0.alike n ≠ [] := by simpa using hc.2
    have hal : (W0.alike n).length ≤ 100 := by
      have : ∀ o ∈ W0.alike n, True := fun _ _ => trivial
      have h2 := hW.ls (W0.sdOf n)
      unfold RW.alike
      simp only
      split
      · exact Nat.le_trans (List.length_filter_le _ _) (Nat.le_trans (List.length_filter_le _ _) h2)
      split
      · exact Nat.le_trans (List.length_filter_le _ _) (Nat.le_trans (List.length_filter_le _ _) h2)
      · exact Nat.le_trans (List.length_filter_le _ _) (Nat.le_trans (List.length_filter_le _ _) h2)
    refine ts_retSP (tp_tup (P := fun s => ∃ d : Deed, s = .d (eD d) ∧ Drawn W0 d) (tpa_det (te_var rfl) (tpa_det (te_var rfl) (tpa_det (te_var rfl) (tpa_nd (tp_oneOf rfl (te_callF (W0, n) (ta_cons (te_var rfl) (ta_cons (te_var rfl) ta_nil)) hW rfl rfl) rfl (fun h => h1 (List.map_eq_nil_iff.mp h)) (by rw [List.length_map]; show (W0.alike n).length ≤ 50000; omega)) tpa_nil)))) ?_) fun s h => .inr h
    rintro ss ⟨r1, rfl, r2, rfl, r3, rfl, s4, r4, rfl, ⟨d, hd, rfl⟩, rfl⟩
    obtain ⟨o, ho, rfl⟩ := List.mem_map.mp hd
    exact ⟨[.str "join", .int t, .str n, .str o], rfl, ⟨.join t n o, rfl, hc.1, ho⟩, (Nat.le_of_ble_eq_true rfl)⟩
  refine ts_seq (ts_next (N := fun γ => γ = (Gm s5).set 6 (some (.d (.str n)))) rfl) ?_
  rintro _ rfl
  refine ts_ifS (b := decide (v = "move")) (tt_test (te_op (te_var rfl) te_str rv_eqStr)) (fun e => ?_) fun em => ?_
  · have ev := of_decide_eq_true e
    subst ev
    have hc : n ∈ W0.names := hn
    have h2 := hW.ls (W0.sdOf n)
    have h3 : ((W0.side (W0.sdOf n)).filter fun o => !decide (o = n)).length ≤ 100 := Nat.le_trans (List.length_filter_le _ _) h2
    refine ts_seq (N' := fun _ => False) (ts_asg (te_sideB rfl (te_callF (W0, n) (ta_cons (te_var rfl) (ta_cons (te_var rfl) ta_nil)) trivial rfl rfl)) (ts_retP (tp_tup (P := fun s => ∃ d : Deed, s = .d (eD d) ∧ Drawn W0 d) (tpa_det (te_var rfl) (tpa_det (te_var rfl) (tpa_det (te_var rfl) (tpa_nd (tp_oneOf (ds := ((("" : Str) :: ((W0.side (W0.sdOf n)).filter fun o => !decide (o = n)))).map PyData.str) rfl (te_op (te_lst (ds := [.str ""]) (ta_cons te_str ta_nil) (Nat.le_of_ble_eq_true rfl)) (te_lc (α := Str) (enc := fun n => .d (.str n)) (l := W0.side (W0.sdOf n)) (fun o => !decide (o = n)) PyData.str (tc_listE (te_var rfl) rfl) (by omega) (by simp) fun o ho => ⟨_, tg_name, tt_test (te_op (te_var rfl) (te_var rfl) rv_neStr), fun _ => te_var rfl⟩) (rv_addL rfl rfl (by rw [List.length_map]; simp only [List.length_cons, List.length_nil]; omega))) rfl (fun h => nomatch h) (by rw [List.length_map, List.length_cons]; omega)) tpa_nil)))) ?_) fun s h => .inr h) rfl) fun _ h => h.elim
    rintro ss ⟨r1, rfl, r2, rfl, r3, rfl, s4, r4, rfl, ⟨d, hd, rfl⟩, rfl⟩
    obtain ⟨o, ho, rfl⟩ := List.mem_map.mp hd
    refine ⟨[.str "move", .int t, .str n, .str o], rfl, ⟨.move t n o, rfl, hc, ?_⟩, (Nat.le_of_ble_eq_true rfl)⟩
    rcases List.mem_cons.mp ho with h | h
    · exact .inl h
    · have := List.mem_filter.mp h
      exact .inr ⟨this.1, by simpa using this.2⟩
  refine ts_seq (ts_next (N := fun γ => γ = (Gm s5).set 6 (some (.d (.str n)))) rfl) ?_
  rintro _ rfl
  refine ts_ifS (b := decide (v = "change")) (tt_test (te_op (te_var rfl) te_str rv_eqStr)) (fun e => ?_) fun ec => ?_
  · have ev := of_decide_eq_true e
    subst ev
    have hc : n ∈ W0.names := hn
    refine ts_retSP (tp_tup (P := fun s => ∃ d : Deed, s = .d (eD d) ∧ Drawn W0 d) (tpa_det (te_var rfl) (tpa_det (te_var rfl) (tpa_det (te_var rfl) (tpa_nd (tp_text rfl) tpa_nil)))) ?_) fun s h => .inr h
    rintro ss ⟨r1, rfl, r2, rfl, r3, rfl, s4, r4, rfl, ⟨x, rfl, hx⟩, rfl⟩
    exact ⟨[.str "change", .int t, .str n, .str x], rfl, ⟨.change t n x, rfl, hc, hx⟩, (Nat.le_of_ble_eq_true rfl)⟩
  refine ts_seq (ts_next (N := fun γ => γ = (Gm s5).set 6 (some (.d (.str n)))) rfl) ?_
  rintro _ rfl
  refine ts_ifS (b := decide (v = "word")) (tt_test (te_op (te_var rfl) te_str rv_eqStr)) (fun e => ?_) fun ew => ?_
  · have ev := of_decide_eq_true e
    subst ev
    have hc := List.mem_filter.mp (show n ∈ W0.names.filter fun n => (wordedL (W0.txt n) 0 "").isSome from hn)
    have hx := htx n hc.1
    refine ts_seq (N' := fun _ => False) (ts_asg (s := .o (((List.range 60).filter fun i => (wordedL (W0.txt n) i "").isSome).map fun i => PyData.int (i : Nat))) (te_lc (α := Nat) (enc := fun i => .d (.int (i : Nat))) (l := List.range (60 : Int).toNat) (fun i => (wordedL (W0.txt n) i "").isSome) (fun i => .int (i : Nat)) (ti_tc (ti_rng1 (ta_cons te_int ta_nil) (by decide) (by decide))) (by decide) (by simp) fun i hi => ⟨_, tg_name, tt_test (te_is (te_op (te_callF ((W0.txt n, i, "") : Str × Nat × Str) (ta_cons (te_txt rfl (te_var rfl) hW.kt hx.1) (ta_cons (te_var rfl) (ta_cons te_str ta_nil))) ⟨hx.2, show ("" : Str).length ≤ 1000 by decide⟩ rfl rfl) te_non rv_notN) (by rw [isNo_oS]; simp)), fun _ => te_var rfl⟩) (ts_retP (tp_tup (P := fun s => ∃ d : Deed, s = .d (eD d) ∧ Drawn W0 d) (tpa_det (te_var rfl) (tpa_det (te_var rfl) (tpa_det (te_var rfl) (tpa_nd (tp_oneOf rfl (te_var rfl) rfl ?_ ?_) (tpa_nd (tp_oneOf (ds := (["new", "7", "One"] : List Str).map PyData.str) rfl (te_lst (ds := (["new", "7", "One"] : List Str).map PyData.str) (ta_cons te_str (ta_cons te_str (ta_cons te_str ta_nil))) (Nat.le_of_ble_eq_true rfl)) rfl (fun h => nomatch h) (by decide)) tpa_nil))))) ?_) fun s h => .inr h) rfl) fun _ h => h.elim
    · intro h
      have h0 : 0 ∈ (List.range 60).filter fun i => (wordedL (W0.txt n) i "").isSome := List.mem_filter.mpr ⟨by decide, hc.2⟩
      rw [List.map_eq_nil_iff.mp h] at h0
      cases h0
    · rw [List.length_map]
      exact Nat.le_trans (List.length_filter_le _ _) (by decide)
    · rintro ss ⟨r1, rfl, r2, rfl, r3, rfl, s4, r4, rfl, ⟨d, hd, rfl⟩, s6, r5, rfl, ⟨d2, hd2, rfl⟩, rfl⟩
      obtain ⟨i, hi, rfl⟩ := List.mem_map.mp hd
      obtain ⟨o, ho, rfl⟩ := List.mem_map.mp hd2
      exact ⟨[.str "word", .int t, .str n, .int i, .str o], rfl, ⟨.word t n i o, rfl, hc.1, (List.mem_filter.mp hi).2, ho⟩, (Nat.le_of_ble_eq_true rfl)⟩
  refine ts_seq (ts_next (N := fun γ => γ = (Gm s5).set 6 (some (.d (.str n)))) rfl) ?_
  rintro _ rfl
  refine ts_ret (te_tup (ds := [.str v, .int t, .str n]) (ta_cons (te_var rfl) (ta_cons (te_var rfl) (ta_cons (te_var rfl) ta_nil))) (Nat.le_of_ble_eq_true rfl)) (.inr ?_)
  have e1 := of_decide_eq_false ep
  have e2 := of_decide_eq_false ej
  have e3 := of_decide_eq_false em
  have e4 := of_decide_eq_false ec
  have e5 := of_decide_eq_false ew
  simp only [namedW, List.mem_cons, List.not_mem_nil, or_false] at hv
  rcases hv with rfl | rfl | rfl | rfl | rfl | rfl | rfl | rfl | rfl | rfl
  · exact ⟨.take t n, rfl, hn⟩
  · exact absurd rfl e1
  · exact absurd rfl e2
  · exact absurd rfl e3
  · exact absurd rfl e4
  · exact absurd rfl e5
  · have := List.mem_filter.mp (show n ∈ W0.names.filter fun n => (W0.at? n).isSome from hn)
    exact ⟨.step t n, rfl, this.1, this.2⟩
  · have := List.mem_filter.mp (show n ∈ W0.names.filter fun n => (W0.at? n).isSome from hn)
    exact ⟨.loose t n, rfl, this.1, this.2⟩
  · exact ⟨.alone t n, rfl, hn⟩
  · exact ⟨.lack t n, rfl, hn⟩
def wordsD : List Str := ["put", "link", "take", "part", "join", "move", "change", "word", "link", "step", "loose", "alone", "lack", "put", "move", "change"]
theorem sc_law_deed : FnScope ["_law_world_here", "_law_box", "_law_words", "_law_word", "_law_t", "_law_deed_here"] ["_law_world_here", "_law_box"] (defScope (top 84)) := ⟨rfl, rfl, rfl, by decide +kernel, rfl, by decide +kernel, by decide +kernel⟩
abbrev Sp_law_deed (K : PySem.W.Frag) : Sp := spG K (α := RW) (fun W => WOk W) (fun W => [.m (wT W), .b]) (fun W s => ∃ d : Deed, s = .d (eD d) ∧ Drawn W d)
theorem kn_law_deed (W : Wld K mg w) : Kn P w K mg base "_law_deed" ["_law_world_here", "_law_box"] 6 (Sp_law_deed K) := by
  refine kn_gun W.f_law_deed sc_law_deed (fun _ => rfl) (fun _ _ _ _ _ _ us hl => match us, hl with | [_, _], _ => rfl) fun f cdv A outer s H E hr => ⟨_, (pss_cons (ps_set (i := 2) sc_law_deed.nd rfl (by first | exact .inl rfl | exact .inr rfl) (pe_lst (pa_cons pe_str (pa_cons pe_str (pa_cons pe_str (pa_cons pe_str (pa_cons pe_str (pa_cons pe_str (pa_cons pe_str (pa_cons pe_str (pa_cons pe_str (pa_cons pe_str (pa_cons pe_str (pa_cons pe_str (pa_cons pe_str pa_nil)))))))))))))))
    (pss_cons (ps_set (i := 3) sc_law_deed.nd rfl (by first | exact .inl rfl | exact .inr rfl) (pe_ix (ix_seqK (K := K) (by rfl)) (pe_op (op_addUK (K := K) (by rfl)) (pv 2) (pe_lst (pa_cons pe_str (pa_cons pe_str (pa_cons pe_str pa_nil))))) (pe_op op_modI (pe_knK (K := K) (by rfl) (kn_law_next W) hr (by decide) (by rfl) (pa_cons (pv 1) pa_nil)) pe_int) (fun _ _ => rfl)))
    (pss_cons (ps_set (i := 4) sc_law_deed.nd rfl (by first | exact .inl rfl | exact .inr rfl) (pe_knK (K := K) (by rfl) (kn_law_moment W) hr (by decide) (by rfl) (pa_cons (pv 1) pa_nil)))
    (pss_cons (ps_set (i := 5) sc_law_deed.nd rfl (by first | exact .inl rfl | exact .inr rfl) pe_non)
    (pss_cons (ps_if (pt_cmpR (op_eqUK (K := K) (by rfl) hr.units) (pv 3) pe_str (nomark _)) (pss_one (ps_set (i := 5) sc_law_deed.nd rfl (by first | exact .inl rfl | exact .inr rfl) (pe_knK (K := K) (by rfl) (kn_law_link_deed W) hr (by decide) (by rfl) (pa_cons (pv 0) (pa_cons (pv 1) (pa_cons (pv 4) pa_nil)))))) (pss_one (ps_if (pt_cmpR (op_neUK (K := K) (by rfl) hr.units) (pv 3) pe_str (nomark _)) (pss_one (ps_set (i := 5) sc_law_deed.nd rfl (by first | exact .inl rfl | exact .inr rfl) (pe_knK (K := K) (by rfl) (kn_law_named_deed W) hr (by decide) (by rfl) (pa_cons (pv 0) (pa_cons (pv 1) (pa_cons (pv 3) (pa_cons (pv 4) pa_nil))))))) pss_nil)))
    (pss_cons (ps_if (pt_cmpR op_isNo (pv 5) pe_non (nomark _)) (pss_one (ps_set (i := 5) sc_law_deed.nd rfl (by first | exact .inl rfl | exact .inr rfl) (pe_knK (K := K) (by rfl) (kn_law_put W) hr (by decide) (by rfl) (pa_cons (pv 0) (pa_cons (pv 1) (pa_cons (pv 4) pa_nil)))))) pss_nil)
    (pss_one (ps_ret (pv 5))))))))), fun M z hz => ?_⟩
  have hW : WOk z := hz
  refine ts_asg (s := .o ((["put", "link", "take", "part", "join", "move", "change", "word", "link", "step", "loose", "alone", "lack"] : List Str).map PyData.str)) (te_lst (ds := (["put", "link", "take", "part", "join", "move", "change", "word", "link", "step", "loose", "alone", "lack"] : List Str).map PyData.str) (ta_cons te_str (ta_cons te_str (ta_cons te_str (ta_cons te_str (ta_cons te_str (ta_cons te_str (ta_cons te_str (ta_cons te_str (ta_cons te_str (ta_cons te_str (ta_cons te_str (ta_cons te_str (ta_cons te_str ta_nil))))))))))))) (Nat.le_of_ble_eq_true rfl)) ?_ rfl
  refine ts_asgP (P := fun s => ∃ v : Str, s = .d (.str v) ∧ (v = "link" ∨ v = "put" ∨ v ∈ namedW)) (tp_op (te_tp (te_is (te_op (te_var rfl) (te_lst (ds := (["put", "move", "change"] : List Str).map PyData.str) (ta_cons te_str (ta_cons te_str (ta_cons te_str ta_nil))) (Nat.le_of_ble_eq_true rfl)) (rv_addL rfl rfl (Nat.le_of_ble_eq_true rfl))) (s2 := .o (wordsD.map PyData.str)) rfl)) (P2 := fun s => ∃ k : Int, s = .d (.int k) ∧ 0 ≤ k ∧ k < 16) (fun s _ => tp_op (tp_next rfl) (fun s _ => te_tp te_int) ?_) ?_) ?_
  · rintro s1 s2 ⟨k, rfl, h0, h1⟩ rfl
    exact ⟨_, ⟨k % 16, rfl, by omega, by omega⟩, rv_mod (by decide)⟩
  · rintro s1 s2 rfl ⟨k, rfl, h0, h1⟩
    obtain ⟨d, e1, e2⟩ := atI_of (xs := wordsD.map PyData.str) h0 (by rw [List.length_map]; exact h1)
    obtain ⟨v, e3, rfl⟩ := get_map e1
    have hm : ∀ v ∈ wordsD, v = "link" ∨ v = "put" ∨ v ∈ namedW := by decide +kernel
    exact ⟨_, ⟨v, rfl, hm v (List.mem_of_getElem? e3)⟩, rv_ixL rfl e2⟩
  rintro s ⟨v, rfl, hv⟩
  refine ⟨rfl, ts_asgP (P := fun s => ∃ t : Int, s = .d (.int t)) (tp_callG (tpa_of (ta_cons (te_var rfl) ta_nil)) (fun ss e => ⟨(), trivial, by rw [e]; rfl, rfl⟩) fun s ⟨k, e⟩ => by rw [e]; rfl) ?_⟩
  rintro s ⟨t, rfl⟩
  refine ⟨rfl, ts_asg te_non ?_ rfl⟩
  let Gm : Sv → G := fun s5 => [some (.m (wT z)), some .b, some (.o ((["put", "link", "take", "part", "join", "move", "change", "word", "link", "step", "loose", "alone", "lack"] : List Str).map PyData.str)), some (.d (.str v)), some (.d (.int t)), some s5]
  refine ts_seq (N' := fun γ => ∃ s5, (s5 = .d .none ∨ ∃ d : Deed, s5 = .d (eD d) ∧ Drawn z d) ∧ γ = Gm s5) ?_ ?_
  · refine ts_if (b := decide (v = "link")) (tt_test (te_op (te_var rfl) te_str rv_eqStr)) (fun e => ?_) fun e => ?_
    · refine ts_asg1P (tp_callG (P := fun s => s = .d .none ∨ ∃ d : Deed, s = .d (eD d) ∧ Drawn z d) (tpa_of (ta_cons (te_var rfl) (ta_cons (te_var rfl) (ta_cons (te_var rfl) ta_nil)))) (fun ss e => ⟨(z, t), hW, by rw [e]; rfl, rfl⟩) fun s h => ?_) fun s h => ⟨?_, s, h, rfl⟩
      · rcases h with rfl | ⟨d, rfl, _⟩ <;> rfl
      · rcases h with rfl | ⟨d, rfl, _⟩ <;> rfl
    · refine ts_if (b := !decide (v = "put")) (tt_test (te_op (te_var rfl) te_str rv_neStr)) (fun e2 => ?_) fun e2 => ts_next ⟨.d .none, .inl rfl, rfl⟩
      have hv2 : v ∈ namedW := by
        rcases hv with h | h | h
        · exact absurd h (of_decide_eq_false e)
        · rw [decide_eq_true h] at e2; cases e2
        · exact h
      refine ts_asg1P (tp_callG (P := fun s => s = .d .none ∨ ∃ d : Deed, s = .d (eD d) ∧ Drawn z d) (tpa_of (ta_cons (te_var rfl) (ta_cons (te_var rfl) (ta_cons (te_var rfl) (ta_cons (te_var rfl) ta_nil))))) (fun ss e => ⟨(z, v, t), ⟨hW, hv2⟩, by rw [e]; rfl, rfl⟩) fun s h => ?_) fun s h => ⟨?_, s, h, rfl⟩
      · rcases h with rfl | ⟨d, rfl, _⟩ <;> rfl
      · rcases h with rfl | ⟨d, rfl, _⟩ <;> rfl
  rintro _ ⟨s5, h5, rfl⟩
  refine ts_seq (N' := fun γ => ∃ d : Deed, Drawn z d ∧ γ = Gm (.d (eD d))) ?_ ?_
  · rcases h5 with rfl | ⟨d, rfl, hd⟩
    · refine ts_if (b := true) (tt_test (te_op (te_var rfl) te_non rv_isN)) (fun _ => ?_) fun e => nomatch e
      refine ts_asg1P (tp_callG (P := fun s => ∃ d : Deed, s = .d (eD d) ∧ Drawn z d) (tpa_of (ta_cons (te_var rfl) (ta_cons (te_var rfl) (ta_cons (te_var rfl) ta_nil)))) (fun ss e => ⟨(z, t), hW, by rw [e]; rfl, rfl⟩) fun s ⟨d, h, _⟩ => by rw [h]; rfl) ?_
      rintro s ⟨d, rfl, hd⟩
      exact ⟨rfl, d, hd, rfl⟩
    · have hno : isNoD (eD d) = false := by cases d <;> rfl
      exact ts_skip1 (tt_test (te_is (te_op (te_var rfl) te_non rv_isN) (by rw [hno]))) ⟨d, hd, rfl⟩
  rintro _ ⟨d, hd, rfl⟩
  exact ts_ret (te_var rfl) ⟨d, rfl, hd⟩
end Tw
namespace Tw
open PySem PySem.Spec PyProof.Rows L2
inductive Tag where
  | w | sd | s (b : Bool) | tx | mo | al | ks | m (n : Str) | r | p | q | n (p : Addr) (b : Bool) | l (q : Addr) (b : Bool)
abbrev Own := Addr → Option Tag
structure LAd where
  r : Addr
  p : Addr
  q : Addr
  n0 : Addr
  n1 : Addr
  l0 : Addr
  l1 : Addr
def LAd.n (d : LAd) : Bool → Addr
  | false => d.n0
  | true => d.n1
def LAd.l (d : LAd) : Bool → Addr
  | false => d.l0
  | true => d.l1
structure AW where
  w : Addr
  sd : Addr
  s0 : Addr
  s1 : Addr
  tx : Addr
  mo : Addr
  al : Addr
  ks : Addr
  S0 : List Str
  S1 : List Str
  TX : List (Str × Str)
  MO : List (Str × Addr × List Int)
  AL : List Str
  KS : List (LAd × Link)
def AW.s (A : AW) : Bool → Addr
  | false => A.s0
  | true => A.s1
def AW.S (A : AW) : Bool → List Str
  | false => A.S0
  | true => A.S1
def AW.setS (A : AW) (b : Bool) (ns : List Str) : AW := { A with S0 := bif b then A.S0 else ns, S1 := bif b then ns else A.S1 }
def AW.rw (A : AW) : RW := ⟨A.S0, A.S1, A.TX, A.MO.map fun q => (q.1, q.2.2), A.AL, A.KS.map Prod.snd⟩
structure Cell (own : Own) (H : Hp) (a : Addr) (t : Tag) (c : HO) : Prop where
  o : own a = some t
  h : H a = some c
structure LAt (own : Own) (H : Hp) (d : LAd) (k : Link) : Prop where
  r : Cell own H d.r .r (.lst [.ref d.p, .int k.t, .ref d.q])
  p : Cell own H d.p .p (.lst [.ref d.n0, .ref d.n1])
  q : Cell own H d.q .q (.lst [.ref d.l0, .ref d.l1])
  n0 : Cell own H d.n0 (.n d.p false) (.lst (k.a.map V.str))
  n1 : Cell own H d.n1 (.n d.p true) (.lst (k.b.map V.str))
  l0 : Cell own H d.l0 (.l d.q false) (.lst (k.la.map V.int))
  l1 : Cell own H d.l1 (.l d.q true) (.lst (k.lb.map V.int))
abbrev txD (l : List (Str × Str)) : HO := .dK (l.map fun q => (Sum.inr q.1, V.str q.2))
abbrev moD (l : List (Str × Addr × List Int)) : HO := .dK (l.map fun q => (Sum.inr q.1, V.ref q.2.1))
structure WAt (own : Own) (H : Hp) (A : AW) : Prop where
  w : Cell own H A.w .w (.dK (kvz wK [.ref A.sd, .ref A.tx, .ref A.mo, .ref A.al, .ref A.ks]))
  sd : Cell own H A.sd .sd (.lst [.ref A.s0, .ref A.s1])
  s0 : Cell own H A.s0 (.s false) (.lst (A.S0.map V.str))
  s1 : Cell own H A.s1 (.s true) (.lst (A.S1.map V.str))
  tx : Cell own H A.tx .tx (txD A.TX)
  mo : Cell own H A.mo .mo (moD A.MO)
  ms : ∀ q ∈ A.MO, Cell own H q.2.1 (.m q.1) (.lst (q.2.2.map V.int))
  al : Cell own H A.al .al (.lst (A.AL.map V.str))
  ks : Cell own H A.ks .ks (.lst (A.KS.map fun q => V.ref q.1.r))
  ls : ∀ q ∈ A.KS, LAt own H q.1 q.2
  nr : (A.KS.map fun q => q.1.r).Nodup
  np : (A.KS.map fun q => q.1.p).Nodup
  nq : (A.KS.map fun q => q.1.q).Nodup
  ex : ∀ a, own a ≠ none → H a ≠ none
theorem upd_ex {own : Own} {H : Hp} {a0 : Addr} {o : HO} (h : ∀ a, own a ≠ none → H a ≠ none) : ∀ a, own a ≠ none → upd H a0 o a ≠ none := fun a ha => by
  by_cases e : a = a0
  · subst e; rw [upd_same]; exact fun z => nomatch z
  · rw [upd_ne e]; exact h a ha
section
variable {own own' : Own} {H H' : Hp} {A : AW} {a a0 : Addr} {t t0 : Tag} {o o' : HO} {d : LAd} {k : Link}
theorem Cell.upd (h : Cell own H a t o) (h0 : own a0 = some t0) (ht : t ≠ t0) : Cell own (upd H a0 o') a t o := ⟨h.o, by rw [upd_ne (fun e => by subst e; rw [h.o] at h0; cases h0; exact ht rfl)]; exact h.h⟩
theorem Cell.ext (h : Cell own H a t o) (ho : ∀ a t, own a = some t → own' a = some t) (hh : ∀ a t o, own a = some t → H a = some o → H' a = some o) : Cell own' H' a t o := ⟨ho a t h.o, hh a t o h.o h.h⟩
theorem Cell.now (h : own a = some t) : Cell own (L2.upd H a o) a t o := ⟨h, upd_same⟩
structure Clean (t0 : Tag) (d : LAd) : Prop where
  r : t0 ≠ .r
  p : t0 ≠ .p
  q : t0 ≠ .q
  n : ∀ b, t0 ≠ .n d.p b
  l : ∀ b, t0 ≠ .l d.q b
theorem LAt.upd (h : LAt own H d k) (h0 : own a0 = some t0) (c : Clean t0 d) : LAt own (upd H a0 o') d k :=
  ⟨h.r.upd h0 (Ne.symm c.r), h.p.upd h0 (Ne.symm c.p), h.q.upd h0 (Ne.symm c.q), h.n0.upd h0 (Ne.symm (c.n _)), h.n1.upd h0 (Ne.symm (c.n _)), h.l0.upd h0 (Ne.symm (c.l _)), h.l1.upd h0 (Ne.symm (c.l _))⟩
theorem LAt.ext (h : LAt own H d k) (ho : ∀ a t, own a = some t → own' a = some t) (hh : ∀ a t o, own a = some t → H a = some o → H' a = some o) : LAt own' H' d k :=
  ⟨h.r.ext ho hh, h.p.ext ho hh, h.q.ext ho hh, h.n0.ext ho hh, h.n1.ext ho hh, h.l0.ext ho hh, h.l1.ext ho hh⟩
theorem WAt.ext (h : WAt own H A) (ho : ∀ a t, own a = some t → own' a = some t) (hh : ∀ a t o, own a = some t → H a = some o → H' a = some o) (hx : ∀ a, own' a ≠ none → H' a ≠ none) : WAt own' H' A :=
  ⟨h.w.ext ho hh, h.sd.ext ho hh, h.s0.ext ho hh, h.s1.ext ho hh, h.tx.ext ho hh, h.mo.ext ho hh, fun q hq => (h.ms q hq).ext ho hh, h.al.ext ho hh, h.ks.ext ho hh, fun q hq => (h.ls q hq).ext ho hh, h.nr, h.np, h.nq, hx⟩
theorem clean_of (h1 : t0 ≠ .r) (h2 : t0 ≠ .p) (h3 : t0 ≠ .q) (h4 : ∀ p b, t0 ≠ .n p b) (h5 : ∀ q b, t0 ≠ .l q b) : Clean t0 d := ⟨h1, h2, h3, fun b => h4 _ b, fun b => h5 _ b⟩
theorem WAt.cS (h : WAt own H A) (b : Bool) : Cell own H (A.s b) (.s b) (.lst ((A.S b).map V.str)) := by cases b; exact h.s0; exact h.s1
theorem WAt.cN (h : WAt own H A) {q : LAd × Link} (hq : q ∈ A.KS) (b : Bool) : Cell own H (q.1.n b) (.n q.1.p b) (.lst ((q.2.side b).map V.str)) := by cases b; exact (h.ls q hq).n0; exact (h.ls q hq).n1
theorem WAt.cL (h : WAt own H A) {q : LAd × Link} (hq : q ∈ A.KS) (b : Bool) : Cell own H (q.1.l b) (.l q.1.q b) (.lst ((q.2.lost b).map V.int)) := by cases b; exact (h.ls q hq).l0; exact (h.ls q hq).l1
theorem side_with (l : Link) (b : Bool) (ns : List Str) : (l.withSide b ns).side b = ns := by cases b <;> rfl
theorem lost_with (l : Link) (b : Bool) (ns : List Str) : (l.withSide b ns).lost b = l.lost b := by cases b <;> rfl
/-- a side -/
theorem WAt.upS (h : WAt own H A) (b : Bool) (ns : List Str) : WAt own (upd H (A.s b) (.lst (ns.map V.str))) (A.setS b ns) := by
  cases b with
  | false =>
    have h0 := h.s0.o
    exact ⟨h.w.upd h0 (fun e => nomatch e), h.sd.upd h0 (fun e => nomatch e), Cell.now h0, h.s1.upd h0 (fun e => nomatch e), h.tx.upd h0 (fun e => nomatch e), h.mo.upd h0 (fun e => nomatch e), fun q hq => (h.ms q hq).upd h0 (fun e => nomatch e), h.al.upd h0 (fun e => nomatch e), h.ks.upd h0 (fun e => nomatch e), fun q hq => (h.ls q hq).upd h0 (clean_of (fun e => nomatch e) (fun e => nomatch e) (fun e => nomatch e) (fun _ _ e => nomatch e) (fun _ _ e => nomatch e)), h.nr, h.np, h.nq, upd_ex h.ex⟩
  | true =>
    have h0 := h.s1.o
    exact ⟨h.w.upd h0 (fun e => nomatch e), h.sd.upd h0 (fun e => nomatch e), h.s0.upd h0 (fun e => nomatch e), Cell.now h0, h.tx.upd h0 (fun e => nomatch e), h.mo.upd h0 (fun e => nomatch e), fun q hq => (h.ms q hq).upd h0 (fun e => nomatch e), h.al.upd h0 (fun e => nomatch e), h.ks.upd h0 (fun e => nomatch e), fun q hq => (h.ls q hq).upd h0 (clean_of (fun e => nomatch e) (fun e => nomatch e) (fun e => nomatch e) (fun _ _ e => nomatch e) (fun _ _ e => nomatch e)), h.nr, h.np, h.nq, upd_ex h.ex⟩
theorem WAt.upAl (h : WAt own H A) (ns : List Str) : WAt own (upd H A.al (.lst (ns.map V.str))) { A with AL := ns } := by
  have h0 := h.al.o
  exact ⟨h.w.upd h0 (fun e => nomatch e), h.sd.upd h0 (fun e => nomatch e), h.s0.upd h0 (fun e => nomatch e), h.s1.upd h0 (fun e => nomatch e), h.tx.upd h0 (fun e => nomatch e), h.mo.upd h0 (fun e => nomatch e), fun q hq => (h.ms q hq).upd h0 (fun e => nomatch e), Cell.now h0, h.ks.upd h0 (fun e => nomatch e), fun q hq => (h.ls q hq).upd h0 (clean_of (fun e => nomatch e) (fun e => nomatch e) (fun e => nomatch e) (fun _ _ e => nomatch e) (fun _ _ e => nomatch e)), h.nr, h.np, h.nq, upd_ex h.ex⟩
theorem WAt.upTx (h : WAt own H A) (l : List (Str × Str)) : WAt own (upd H A.tx (txD l)) { A with TX := l } := by
  have h0 := h.tx.o
  exact ⟨h.w.upd h0 (fun e => nomatch e), h.sd.upd h0 (fun e => nomatch e), h.s0.upd h0 (fun e => nomatch e), h.s1.upd h0 (fun e => nomatch e), Cell.now h0, h.mo.upd h0 (fun e => nomatch e), fun q hq => (h.ms q hq).upd h0 (fun e => nomatch e), h.al.upd h0 (fun e => nomatch e), h.ks.upd h0 (fun e => nomatch e), fun q hq => (h.ls q hq).upd h0 (clean_of (fun e => nomatch e) (fun e => nomatch e) (fun e => nomatch e) (fun _ _ e => nomatch e) (fun _ _ e => nomatch e)), h.nr, h.np, h.nq, upd_ex h.ex⟩
/-- the moments: fewer; more -/
theorem WAt.upMo (h : WAt own H A) (l : List (Str × Addr × List Int)) (hl : ∀ q ∈ l, Cell own H q.2.1 (.m q.1) (.lst (q.2.2.map V.int))) : WAt own (upd H A.mo (moD l)) { A with MO := l } := by
  have h0 := h.mo.o
  exact ⟨h.w.upd h0 (fun e => nomatch e), h.sd.upd h0 (fun e => nomatch e), h.s0.upd h0 (fun e => nomatch e), h.s1.upd h0 (fun e => nomatch e), h.tx.upd h0 (fun e => nomatch e), Cell.now h0, fun q hq => (hl q hq).upd h0 (fun e => nomatch e), h.al.upd h0 (fun e => nomatch e), h.ks.upd h0 (fun e => nomatch e), fun q hq => (h.ls q hq).upd h0 (clean_of (fun e => nomatch e) (fun e => nomatch e) (fun e => nomatch e) (fun _ _ e => nomatch e) (fun _ _ e => nomatch e)), h.nr, h.np, h.nq, upd_ex h.ex⟩
def putM (l : List (Str × Addr × List Int)) (n : Str) (ms : List Int) : List (Str × Addr × List Int) := l.map fun q => if q.1 = n then (q.1, q.2.1, ms) else q
theorem putM_keys (l : List (Str × Addr × List Int)) (n : Str) (ms : List Int) : moD (putM l n ms) = moD l := by
  unfold moD putM
  rw [List.map_map]
  congr 1
  refine List.map_congr_left fun q _ => ?_
  simp only [Function.comp]
  split <;> rfl
/-- one part's moments -/
theorem WAt.upM (h : WAt own H A) {q : Str × Addr × List Int} (hq : q ∈ A.MO) (hk : (A.MO.map Prod.fst).Nodup) (ms : List Int) : WAt own (upd H q.2.1 (.lst (ms.map V.int))) { A with MO := putM A.MO q.1 ms } := by
  have h0 := (h.ms q hq).o
  refine ⟨h.w.upd h0 (fun e => nomatch e), h.sd.upd h0 (fun e => nomatch e), h.s0.upd h0 (fun e => nomatch e), h.s1.upd h0 (fun e => nomatch e), h.tx.upd h0 (fun e => nomatch e), ?_, fun q' hq' => ?_, h.al.upd h0 (fun e => nomatch e), h.ks.upd h0 (fun e => nomatch e), fun q hq => (h.ls q hq).upd h0 (clean_of (fun e => nomatch e) (fun e => nomatch e) (fun e => nomatch e) (fun _ _ e => nomatch e) (fun _ _ e => nomatch e)), h.nr, h.np, h.nq, upd_ex h.ex⟩
  · show Cell own _ A.mo .mo (moD (putM A.MO q.1 ms))
    rw [putM_keys]
    exact h.mo.upd h0 (fun e => nomatch e)
  · obtain ⟨q0, hq0, rfl⟩ := List.mem_map.mp hq'
    by_cases e : q0.1 = q.1
    · have : q0 = q := by
        obtain ⟨i, hi, rfl⟩ := List.mem_iff_getElem.mp hq
        obtain ⟨j, hj, rfl⟩ := List.mem_iff_getElem.mp hq0
        have hi' : i < (A.MO.map Prod.fst).length := by rw [List.length_map]; exact hi
        have hj' : j < (A.MO.map Prod.fst).length := by rw [List.length_map]; exact hj
        have : j = i := by
          refine (List.getElem?_inj hj' hk).mp ?_
          rw [List.getElem?_map, List.getElem?_map, List.getElem?_eq_getElem hi, List.getElem?_eq_getElem hj]
          exact congrArg some e
        subst this
        rfl
      subst this
      simp only [if_pos rfl]
      exact Cell.now h0
    · simp only [if_neg e]
      exact (h.ms q0 hq0).upd h0 (fun z => e (Tag.m.inj z))
/-- the links: fewer; more -/
theorem WAt.upKs (h : WAt own H A) (l : List (LAd × Link)) (hl : ∀ q ∈ l, LAt own H q.1 q.2) (nr : (l.map fun q => q.1.r).Nodup) (np : (l.map fun q => q.1.p).Nodup) (nq : (l.map fun q => q.1.q).Nodup) :
    WAt own (upd H A.ks (.lst (l.map fun q => V.ref q.1.r))) { A with KS := l } := by
  have h0 := h.ks.o
  exact ⟨h.w.upd h0 (fun e => nomatch e), h.sd.upd h0 (fun e => nomatch e), h.s0.upd h0 (fun e => nomatch e), h.s1.upd h0 (fun e => nomatch e), h.tx.upd h0 (fun e => nomatch e), h.mo.upd h0 (fun e => nomatch e), fun q hq => (h.ms q hq).upd h0 (fun e => nomatch e), h.al.upd h0 (fun e => nomatch e), Cell.now h0, fun q hq => (hl q hq).upd h0 (clean_of (fun e => nomatch e) (fun e => nomatch e) (fun e => nomatch e) (fun _ _ e => nomatch e) (fun _ _ e => nomatch e)), nr, np, nq, upd_ex h.ex⟩
theorem set_map {α β : Type} (f : α → β) {l : List α} {i : Nat} {x y : α} (hx : l[i]? = some x) (e : f y = f x) : (l.set i y).map f = l.map f := by
  apply List.ext_getElem?
  intro j
  rw [List.getElem?_map, List.getElem?_map]
  by_cases h : i = j
  · subst h
    rw [List.getElem?_set_self (List.getElem?_eq_some_iff.mp hx).1, hx]
    simp [e]
  · rw [List.getElem?_set_ne h]
theorem mem_set_iff {α : Type} {l : List α} {i : Nat} {y z : α} (h : z ∈ l.set i y) : z = y ∨ ∃ j, j ≠ i ∧ l[j]? = some z := by
  obtain ⟨j, hj⟩ := List.mem_iff_getElem?.mp h
  by_cases e : i = j
  · subst e
    by_cases hl : i < l.length
    · rw [List.getElem?_set_self hl] at hj
      exact .inl (Option.some.inj hj).symm
    · rw [List.getElem?_eq_none (by rw [List.length_set]; omega)] at hj
      cases hj
  · rw [List.getElem?_set_ne e] at hj
    exact .inr ⟨j, Ne.symm e, hj⟩
theorem nodup_ne {α β : Type} {f : α → β} {l : List α} (hn : (l.map f).Nodup) {i j : Nat} {x y : α} (hi : l[i]? = some x) (hj : l[j]? = some y) (ne : j ≠ i) : f y ≠ f x := fun e => by
  obtain ⟨h1, rfl⟩ := List.getElem?_eq_some_iff.mp hi
  obtain ⟨h2, rfl⟩ := List.getElem?_eq_some_iff.mp hj
  refine ne ((List.getElem?_inj (by rw [List.length_map]; exact h2) hn).mp ?_)
  rw [List.getElem?_map, List.getElem?_map, List.getElem?_eq_getElem h1, List.getElem?_eq_getElem h2]
  exact congrArg some e
/-- a link's names -/
theorem WAt.upN (h : WAt own H A) {i : Nat} {q : LAd × Link} (hq : A.KS[i]? = some q) (b : Bool) (ns : List Str) : WAt own (upd H (q.1.n b) (.lst (ns.map V.str))) { A with KS := A.KS.set i (q.1, q.2.withSide b ns) } := by
  have hl := h.ls q (List.mem_of_getElem? hq)
  have h0 : own (q.1.n b) = some (.n q.1.p b) := by cases b; exact hl.n0.o; exact hl.n1.o
  refine ⟨h.w.upd h0 (fun e => nomatch e), h.sd.upd h0 (fun e => nomatch e), h.s0.upd h0 (fun e => nomatch e), h.s1.upd h0 (fun e => nomatch e), h.tx.upd h0 (fun e => nomatch e), h.mo.upd h0 (fun e => nomatch e), fun q hq => (h.ms q hq).upd h0 (fun e => nomatch e), h.al.upd h0 (fun e => nomatch e), ?_, fun q' hq' => ?_, ?_, ?_, ?_, upd_ex h.ex⟩
  · show Cell own _ A.ks .ks (.lst ((A.KS.set i (q.1, q.2.withSide b ns)).map fun q => V.ref q.1.r))
    rw [set_map (fun q : LAd × Link => V.ref q.1.r) (y := (q.1, q.2.withSide b ns)) hq rfl]
    exact h.ks.upd h0 (fun e => nomatch e)
  · rcases mem_set_iff hq' with rfl | ⟨j, hj, hj2⟩
    · cases b with
      | false => exact ⟨hl.r.upd h0 (fun e => nomatch e), hl.p.upd h0 (fun e => nomatch e), hl.q.upd h0 (fun e => nomatch e), Cell.now h0, hl.n1.upd h0 (fun e => by cases e), hl.l0.upd h0 (fun e => nomatch e), hl.l1.upd h0 (fun e => nomatch e)⟩
      | true => exact ⟨hl.r.upd h0 (fun e => nomatch e), hl.p.upd h0 (fun e => nomatch e), hl.q.upd h0 (fun e => nomatch e), hl.n0.upd h0 (fun e => by cases e), Cell.now h0, hl.l0.upd h0 (fun e => nomatch e), hl.l1.upd h0 (fun e => nomatch e)⟩
    · have ne := nodup_ne (f := fun q : LAd × Link => q.1.p) h.np hq hj2 hj
      exact (h.ls q' (List.mem_of_getElem? hj2)).upd h0 ⟨(fun e => nomatch e), (fun e => nomatch e), (fun e => nomatch e), (fun b e => ne (Tag.n.inj e).1.symm), (fun b e => nomatch e)⟩
  · show ((A.KS.set i (q.1, q.2.withSide b ns)).map fun q => q.1.r).Nodup
    rw [set_map (fun q : LAd × Link => q.1.r) (y := (q.1, q.2.withSide b ns)) hq rfl]; exact h.nr
  · show ((A.KS.set i (q.1, q.2.withSide b ns)).map fun q => q.1.p).Nodup
    rw [set_map (fun q : LAd × Link => q.1.p) (y := (q.1, q.2.withSide b ns)) hq rfl]; exact h.np
  · show ((A.KS.set i (q.1, q.2.withSide b ns)).map fun q => q.1.q).Nodup
    rw [set_map (fun q : LAd × Link => q.1.q) (y := (q.1, q.2.withSide b ns)) hq rfl]; exact h.nq
/-- a link's moments lost -/
theorem WAt.upL (h : WAt own H A) {i : Nat} {q : LAd × Link} (hq : A.KS[i]? = some q) (b : Bool) (ms : List Int) : WAt own (upd H (q.1.l b) (.lst (ms.map V.int))) { A with KS := A.KS.set i (q.1, q.2.withLost b ms) } := by
  have hl := h.ls q (List.mem_of_getElem? hq)
  have h0 : own (q.1.l b) = some (.l q.1.q b) := by cases b; exact hl.l0.o; exact hl.l1.o
  refine ⟨h.w.upd h0 (fun e => nomatch e), h.sd.upd h0 (fun e => nomatch e), h.s0.upd h0 (fun e => nomatch e), h.s1.upd h0 (fun e => nomatch e), h.tx.upd h0 (fun e => nomatch e), h.mo.upd h0 (fun e => nomatch e), fun q hq => (h.ms q hq).upd h0 (fun e => nomatch e), h.al.upd h0 (fun e => nomatch e), ?_, fun q' hq' => ?_, ?_, ?_, ?_, upd_ex h.ex⟩
  · show Cell own _ A.ks .ks (.lst ((A.KS.set i (q.1, q.2.withLost b ms)).map fun q => V.ref q.1.r))
    rw [set_map (fun q : LAd × Link => V.ref q.1.r) (y := (q.1, q.2.withLost b ms)) hq rfl]
    exact h.ks.upd h0 (fun e => nomatch e)
  · rcases mem_set_iff hq' with rfl | ⟨j, hj, hj2⟩
    · cases b with
      | false => exact ⟨hl.r.upd h0 (fun e => nomatch e), hl.p.upd h0 (fun e => nomatch e), hl.q.upd h0 (fun e => nomatch e), hl.n0.upd h0 (fun e => nomatch e), hl.n1.upd h0 (fun e => nomatch e), Cell.now h0, hl.l1.upd h0 (fun e => by cases e)⟩
      | true => exact ⟨hl.r.upd h0 (fun e => nomatch e), hl.p.upd h0 (fun e => nomatch e), hl.q.upd h0 (fun e => nomatch e), hl.n0.upd h0 (fun e => nomatch e), hl.n1.upd h0 (fun e => nomatch e), hl.l0.upd h0 (fun e => by cases e), Cell.now h0⟩
    · have ne := nodup_ne (f := fun q : LAd × Link => q.1.q) h.nq hq hj2 hj
      exact (h.ls q' (List.mem_of_getElem? hj2)).upd h0 ⟨(fun e => nomatch e), (fun e => nomatch e), (fun e => nomatch e), (fun b e => nomatch e), (fun b e => ne (Tag.l.inj e).1.symm)⟩
  · show ((A.KS.set i (q.1, q.2.withLost b ms)).map fun q => q.1.r).Nodup
    rw [set_map (fun q : LAd × Link => q.1.r) (y := (q.1, q.2.withLost b ms)) hq rfl]; exact h.nr
  · show ((A.KS.set i (q.1, q.2.withLost b ms)).map fun q => q.1.p).Nodup
    rw [set_map (fun q : LAd × Link => q.1.p) (y := (q.1, q.2.withLost b ms)) hq rfl]; exact h.np
  · show ((A.KS.set i (q.1, q.2.withLost b ms)).map fun q => q.1.q).Nodup
    rw [set_map (fun q : LAd × Link => q.1.q) (y := (q.1, q.2.withLost b ms)) hq rfl]; exact h.nq
end
section
variable {K : PySem.W.Frag} {own : Own} {H : Hp} {A : AW} {C : Addr → Prop}
theorem md_lst {a : Addr} {t : Tag} {xs : List V} {ts : List MD} (h : Cell own H a t (.lst xs)) (hc : ∀ a t c, own a = some t → H a = some c → C a) (hx : Mds K C H xs ts) : Md K C H (.ref a) (.l ts) := .l (hc a t _ h.o h.h) h.h hx
theorem mds_strs : ∀ ns : List Str, Mds K C H (ns.map V.str) ((ns.map PyData.str).map MD.d)
  | [] => .nil
  | n :: ns => .cons (.d (.str n)) (mds_strs ns)
theorem mds_ints : ∀ ns : List Int, Mds K C H (ns.map V.int) ((ns.map PyData.int).map MD.d)
  | [] => .nil
  | n :: ns => .cons (.d (.int n)) (mds_ints ns)
theorem mds_map {α : Type} {f : α → V} {g : α → MD} : ∀ {l : List α}, (∀ x ∈ l, Md K C H (f x) (g x)) → Mds K C H (l.map f) (l.map g)
  | [], _ => .nil
  | a :: l, h => .cons (h a List.mem_cons_self) (mds_map fun x hx => h x (List.mem_cons_of_mem _ hx))
theorem md_link {d : LAd} {k : Link} (h : LAt own H d k) (hc : ∀ a t c, own a = some t → H a = some c → C a) : Md K C H (.ref d.r) (kT k) :=
  md_lst h.r hc (.cons (md_lst h.p hc (.cons (md_lst h.n0 hc (mds_strs _)) (.cons (md_lst h.n1 hc (mds_strs _)) .nil))) (.cons (.d (.int _)) (.cons (md_lst h.q hc (.cons (md_lst h.l0 hc (mds_ints _)) (.cons (md_lst h.l1 hc (mds_ints _)) .nil))) .nil)))
theorem kvz_map {α : Type} (f : α → Str) (g : α → V) (l : List α) : kvz (l.map f) (l.map g) = l.map fun x => (Sum.inr (f x), g x) := by
  unfold kvz
  rw [List.zip_map', List.map_map]
  rfl
theorem WAt.md (h : WAt own H A) (hc : ∀ a t c, own a = some t → H a = some c → C a) : Md K C H (.ref A.w) (wT A.rw) := by
  refine .k (xs := [.ref A.sd, .ref A.tx, .ref A.mo, .ref A.al, .ref A.ks]) (hc _ _ _ h.w.o h.w.h) h.w.h ?_
  refine .cons (md_lst h.sd hc (.cons (md_lst h.s0 hc (mds_strs _)) (.cons (md_lst h.s1 hc (mds_strs _)) .nil))) (.cons ?_ (.cons ?_ (.cons (md_lst h.al hc (mds_strs _)) (.cons (md_lst h.ks hc ?_) .nil))))
  · refine .k (xs := A.TX.map fun q => V.str q.2) (hc _ _ _ h.tx.o h.tx.h) (by rw [h.tx.h]; show some (txD A.TX) = some (.dK (kvz (A.TX.map Prod.fst) _)); rw [kvz_map]) (mds_map fun q _ => .d (.str _))
  · have e : A.rw.mo.map Prod.fst = A.MO.map Prod.fst := by show (A.MO.map fun q => (q.1, q.2.2)).map Prod.fst = _; rw [List.map_map]; rfl
    have e2 : (A.rw.mo.map fun q => mI q.2) = A.MO.map fun q => mI q.2.2 := by show (A.MO.map fun q => (q.1, q.2.2)).map _ = _; rw [List.map_map]; rfl
    rw [e, e2]
    refine .k (xs := A.MO.map fun q => V.ref q.2.1) (hc _ _ _ h.mo.o h.mo.h) (by rw [h.mo.h]; show some (moD A.MO) = some (.dK (kvz (A.MO.map Prod.fst) _)); rw [kvz_map]) (mds_map fun q hq => md_lst (h.ms q hq) hc (mds_ints _))
  · have e : A.rw.ks.map kT = A.KS.map fun q => kT q.2 := by show (A.KS.map Prod.snd).map kT = _; rw [List.map_map]; rfl
    rw [e]
    exact mds_map fun q hq => md_link (h.ls q hq) hc
end
end Tw
namespace Tw
open PySem PySem.Spec PyProof.Rows L2
def eqs (k : Str) (v : Value) : Bool := match v with
  | .str n _ => n.cps.toList == k.cps.toList
  | _ => false
theorem eqs_gives {k : Str} {t : Tok} : ∀ {us : List Value} {ns : List Str}, StrsAre us ns → ∀ y ∈ us, MeetsSeq.EqGives y (.str k t) (eqs k y)
  | _, _, .nil => fun y hy => by cases hy
  | _, _, .cons n t' h => fun y hy => by
    rcases List.mem_cons.mp hy with e | e
    · rw [e]
      exact SeqRoads2.EqGives.str n k t' t
    · exact eqs_gives h y e
theorem strs_get : ∀ {us : List Value} {ns : List Str}, StrsAre us ns → ∀ (j : Nat) (n : Str), ns[j]? = some n → ∃ t, us[j]? = some (.str n t)
  | _, _, .nil, j, n, h => by simp at h
  | _, _, .cons x t r, 0, n, h => by simp at h; subst h; exact ⟨t, rfl⟩
  | _, _, .cons x t r, j + 1, n, h => by
    obtain ⟨t2, h2⟩ := strs_get r j n (by simpa using h)
    exact ⟨t2, by simpa using h2⟩
theorem erase_mapS : ∀ (l : List Str) (j : Nat), (l.map V.str).eraseIdx j = (l.eraseIdx j).map V.str
  | [], j => by simp
  | a :: r, 0 => by simp
  | a :: r, j + 1 => by
    have ih := erase_mapS r j
    simp [ih]
theorem erase_at : ∀ {ns : List Str} {n : Str}, n ∈ ns → ∃ j : Nat, ns[j]? = some n ∧ (∀ m : Nat, m < j → ns[m]? ≠ some n) ∧ ns.eraseIdx j = ns.erase n
  | a :: ns, n, h => by
    by_cases e : a = n
    · subst e
      exact ⟨0, rfl, fun m hm => by omega, by simp⟩
    · have h' : n ∈ ns := by
        rcases List.mem_cons.mp h with h | h
        · exact absurd h.symm e
        · exact h
      obtain ⟨j, h1, h2, h3⟩ := erase_at h'
      refine ⟨j + 1, by simpa using h1, fun m hm => ?_, ?_⟩
      · cases m with
        | zero => simpa using e
        | succ m => simpa using h2 m (by omega)
      · rw [List.eraseIdx_cons_succ, h3, List.erase_cons_tail (by simpa using e)]
def rRemS : V → List V → Hp → VK → Prop := fun x xs H Q => ∃ (l : Addr) (ns : List Str) (n : Str), x = .ref l ∧ xs = [.str n] ∧ H l = some (.lst (ns.map V.str)) ∧ n ∈ ns ∧ Q .non (upd H l (.lst ((ns.erase n).map V.str)))
theorem mt_removeS {X : Cx} : MtM X "list.remove" rRemS := by
  intro pins s σ H x xs v us Q I rx rxs h
  obtain ⟨l, ns, k, rfl, rfl, hH, hk, q⟩ := h
  obtain ⟨j, hj, hno, her⟩ := erase_at hk
  obtain rfl : v = Value.ref l := rx
  obtain ⟨u, rfl, ru⟩ := rxs.one
  obtain ⟨t, rfl⟩ := ru
  obtain ⟨z, its, n, r, hl, e⟩ := I.lstM hH
  have hi := strs_of_vals r
  rw [List.length_map] at hl z
  have hjn : j < ns.length := (List.getElem?_eq_some_iff.mp hj).1
  have hjl : j < its.toArray.size := by rw [List.size_toArray]; omega
  refine call_meets PySem.F.slot_list_remove ⟨_, e, rfl⟩ PySem.F.entry_list_remove (PySem.F.args_list_remove_2 _ _)
    (MeetsSeq.list_remove l its.toArray n (.str k t) (eqs k) (fun y hy => eqs_gives hi y (by simpa using hy)) j hjl ?_ ?_ (by rw [List.size_toArray]; omega)) ⟨e, ?_⟩
  · obtain ⟨tj, hjt⟩ := strs_get hi j k hj
    obtain ⟨h1, h2⟩ := List.getElem?_eq_some_iff.mp hjt
    have e1 : its.toArray[j] = .str k tj := by simpa using h2
    rw [e1]
    exact beq_self_eq_true _
  · intro m hm hmj
    have hmn : m < ns.length := by omega
    obtain ⟨tm, hmt⟩ := strs_get hi m _ (List.getElem?_eq_getElem hmn)
    obtain ⟨h1, h2⟩ := List.getElem?_eq_some_iff.mp hmt
    have e1 : its.toArray[m] = .str ns[m] tm := by simpa using h2
    rw [e1]
    refine beq_eq_false_iff_ne.mpr fun e2 => hno m hmj ?_
    rw [List.getElem?_eq_getElem hmn]
    congr 1
    have h3 : ns[m].cps = k.cps := Array.toList_inj.mp e2
    cases hx : ns[m] with
    | mk c => rw [hx] at h3; cases k; simp only at h3; rw [h3]
  · have rr := r.eraseIdx j
    rw [erase_mapS, her] at rr
    refine ⟨.non, _, I.lset (its' := its.eraseIdx j) (t' := s.toks) hH e ?_ rr ?_, rfl, q⟩
    · show its.toArray.eraseIdxIfInBounds j = (its.eraseIdx j).toArray
      rw [List.eraseIdxIfInBounds_toArray]
    · have z2 := len_erase ns j
      rw [List.length_map, ← her]
      omega
abbrev M0 : Addr → Prop := fun _ => False
theorem xs0 (H : Hp) : Xs M0 H H := ⟨Xm.refl H, fun b m => m.elim⟩
theorem x0 {H H' : Hp} (e : Xm M0 H H') : ∀ a o, H a = some o → H' a = some o := fun a o h => e.k a o (fun m => m) h
structure Out (own own' : Own) (H H' : Hp) : Prop where
  t : Kp H H'
  k : ∀ a o, own a = none → H a = some o → H' a = some o ∧ own' a = none
theorem Out.refl {own : Own} {H : Hp} : Out own own H H := ⟨Kp.refl H, fun a o h1 h2 => ⟨h2, h1⟩⟩
theorem Out.trans {o1 o2 o3 : Own} {H1 H2 H3 : Hp} (a : Out o1 o2 H1 H2) (b : Out o2 o3 H2 H3) : Out o1 o3 H1 H3 := ⟨a.t.trans b.t, fun x o h1 h2 => by
  obtain ⟨h3, h4⟩ := a.k x o h1 h2
  exact b.k x o h4 h3⟩
theorem Out.ex {own : Own} {H H' : Hp} (e : Xm M0 H H') : Out own own H H' := ⟨e.t, fun a o h1 h2 => ⟨x0 e a o h2, h1⟩⟩
theorem Out.upd {own : Own} {H : Hp} {a : Addr} {t : Tag} {o o' : HO} (h : Cell own H a t o) (hk : Kp H (upd H a o')) : Out own own H (upd H a o') := ⟨hk, fun x u h1 h2 => ⟨by rw [upd_ne (fun e => by subst e; rw [h.o] at h1; cases h1)]; exact h2, h1⟩⟩
theorem WAt.exx {own : Own} {H H' : Hp} {A : AW} (h : WAt own H A) (e : Xm M0 H H') : WAt own H' A := h.ext (fun _ _ z => z) (fun a t o _ z => x0 e a o z) fun a ha e2 => by
  cases q : H a with
  | none => exact h.ex a ha q
  | some o => rw [x0 e a o q] at e2; cases e2
/-- slots that stand whatever changes -/
def DR (γ : G) : Prop := ∀ (i : Nat) (s : Sv), γ[i]? = some (some s) → (∃ d, s = .d d) ∨ ∃ a, s = .r a
section
variable {K : PySem.W.Frag} {own : Own} {H H' : Hp} {σ : L2.St} {γ : G} {A : AW} {s : Sv} {te ta tb to : TE} {tu tw tz : TS} {tt : TT} {N N' : G → AW → Prop} {R : AW → Prop} {i : Nat}
theorem DR.set (h : DR γ) (hs : (∃ d, s = .d d) ∨ ∃ a, s = .r a) : DR (γ.set i (some s)) := fun j t e => by
  by_cases hj : i = j
  · subst hj
    obtain ⟨e, _⟩ := get_set_eq e
    cases e
    exact hs
  · exact h j t (get_set_ne e hj)
theorem En.dr (hd : DR γ) (k : Kp H H') (h : En K M0 H H σ γ) : En K M0 H' H' σ γ := ⟨h.len, fun i s e => by
  obtain ⟨v, a, b⟩ := h.get i s e
  refine ⟨v, a, ?_⟩
  rcases hd i s e with ⟨d, rfl⟩ | ⟨p, rfl⟩
  · exact Dat.kp k b
  · exact b, fun i j ds es v n e1 _ _ => by
  rcases hd i _ e1 with ⟨d, h⟩ | ⟨p, h⟩ <;> cases h⟩
/-- with the world as a tree -/
abbrev gw (γ : G) (A : AW) : G := γ.set 0 (some (.m (wT A.rw)))
theorem En.gw (h0 : γ[0]? = some (some (.r A.w))) (hw : WAt own H A) (h : En K M0 H H σ γ) : En K M0 H H σ (gw γ A) := by
  obtain ⟨v, hv, rfl⟩ := h.get 0 _ h0
  have hσ : σ.set 0 (some (V.ref A.w)) = σ := by
    apply List.ext_getElem?
    intro j
    by_cases e : 0 = j
    · subst e
      rw [List.getElem?_set_self (List.getElem?_eq_some_iff.mp hv).1, hv]
    · rw [List.getElem?_set_ne e]
  have := h.set (i := 0) (v := .ref A.w) (s := .m (wT A.rw)) (hw.md (K := K) fun a t c ho hh => ⟨fun m => m, fun e => by rw [hh] at e; cases e⟩) rfl
  rwa [hσ] at this
/-- a statement of a def that changes the world -/
def Tw (K : PySem.W.Frag) (ts : TS) (γ : G) (A : AW) (N : G → AW → Prop) (R : AW → Prop) : Prop := DR γ → γ[0]? = some (some (.r A.w)) → ∀ own σ H D, En K M0 H H σ γ → WAt own H A →
  (∀ γ' own' A' σ' H', N γ' A' → Out own own' H H' → DR γ' → γ'[0]? = some (some (.r A'.w)) → En K M0 H' H' σ' γ' → WAt own' H' A' → D.nx σ' H') → (∀ own' A' H', R A' → Out own own' H H' → WAt own' H' A' → D.rt .non H') → ts D σ H
/-- an exact value, nothing laid -/
def Tx (K : PySem.W.Frag) (te : TE) (γ : G) (A : AW) (v : V) : Prop := ∀ own σ H, En K M0 H H σ γ → WAt own H A → ∀ Q : VK, Q v H → te σ H Q
theorem tx_ref {a : Addr} (h : γ[i]? = some (some (.r a))) : Tx K (tVar i) γ A (.ref a) := fun own σ H E w Q q => by
  obtain ⟨v, hv, rfl⟩ := E.get i _ h
  exact ⟨_, hv, q⟩
theorem tx_vint {k : Int} (h : γ[i]? = some (some (.d (.int k)))) : Tx K (tVar i) γ A (.int k) := fun own σ H E w Q q => by
  obtain ⟨v, hv, hd⟩ := E.get i _ h
  cases hd
  exact ⟨_, hv, q⟩
theorem tx_vstr {k : Str} (h : γ[i]? = some (some (.d (.str k)))) : Tx K (tVar i) γ A (.str k) := fun own σ H E w Q q => by
  obtain ⟨v, hv, hd⟩ := E.get i _ h
  cases hd
  exact ⟨_, hv, q⟩
theorem tx_int {k : Int} : Tx K (tC (.int k)) γ A (.int k) := fun own σ H E w Q q => q
theorem tx_str {k : Str} : Tx K (tC (.str k)) γ A (.str k) := fun own σ H E w Q q => q
theorem tx_key {j : Nat} {k : Str} {x : V} (h0 : γ[0]? = some (some (.r A.w))) (hk : wK[j]? = some k) (hx : [V.ref A.sd, .ref A.tx, .ref A.mo, .ref A.al, .ref A.ks][j]? = some x) : Tx K (tDGet (tVar 0) (tC (.str k))) γ A x := fun own σ H E w Q q => by
  obtain ⟨v, hv, rfl⟩ := E.get 0 _ h0
  exact ⟨_, hv, A.w, x, rfl, .inl ⟨_, Sum.inr k, .inl w.w.h, rfl, (valV_kvz hk hx wK_nd).symm⟩, q⟩
theorem tx_side {b : Bool} (h0 : γ[0]? = some (some (.r A.w))) (hb : Tx K tb γ A (.int (sI b))) : Tx K (tOp (rIx K) (tDGet (tVar 0) (tC (.str "sides"))) tb) γ A (.ref (A.s b)) := fun own σ H E w Q q =>
  tx_key (j := 0) h0 rfl rfl own σ H E w _ (hb own σ H E w _ (.inl ⟨A.sd, _, _, _, rfl, rfl, .inl (.inl w.sd.h), by cases b <;> rfl, q⟩))
theorem tx_mom {q0 : Str × Addr × List Int} (h0 : γ[0]? = some (some (.r A.w))) (hb : Tx K tb γ A (.str q0.1)) (hq : q0 ∈ A.MO) (hn : (A.MO.map Prod.fst).Nodup) : Tx K (tDGet (tDGet (tVar 0) (tC (.str "moments"))) tb) γ A (.ref q0.2.1) := fun own σ H E w Q q => by
  refine tx_key (j := 2) h0 rfl rfl own σ H E w _ (hb own σ H E w _ ⟨A.mo, .ref q0.2.1, rfl, .inl ⟨_, Sum.inr q0.1, .inl w.mo.h, rfl, ?_⟩, q⟩)
  rw [← kvz_map]
  obtain ⟨j, hj⟩ := List.mem_iff_getElem?.mp hq
  exact (valV_kvz (by rw [List.getElem?_map, hj]; rfl) (by rw [List.getElem?_map, hj]; rfl) hn).symm
theorem tx_link {j : Nat} {q0 : LAd × Link} (h0 : γ[0]? = some (some (.r A.w))) (hb : Tx K tb γ A (.int (j : Int))) (hq : A.KS[j]? = some q0) : Tx K (tOp (rIx K) (tDGet (tVar 0) (tC (.str "links"))) tb) γ A (.ref q0.1.r) := fun own σ H E w Q q =>
  tx_key (j := 4) h0 rfl rfl own σ H E w _ (hb own σ H E w _ (.inl ⟨A.ks, _, _, _, rfl, rfl, .inl (.inl w.ks.h), at_nat (by rw [List.getElem?_map, hq]; rfl), q⟩))
theorem tx_lnames {d : LAd} {k : Link} {b : Bool} (hto : Tx K to γ A (.ref d.p)) (hb : Tx K tb γ A (.int (sI b))) (hl : (d, k) ∈ A.KS) : Tx K (tOp (rIx K) to tb) γ A (.ref (d.n b)) := fun own σ H E w Q q =>
  hto own σ H E w _ (hb own σ H E w _ (.inl ⟨d.p, _, _, _, rfl, rfl, .inl (.inl (w.ls _ hl).p.h), by cases b <;> rfl, q⟩))
theorem tx_llost {d : LAd} {k : Link} {b : Bool} (hto : Tx K to γ A (.ref d.q)) (hb : Tx K tb γ A (.int (sI b))) (hl : (d, k) ∈ A.KS) : Tx K (tOp (rIx K) to tb) γ A (.ref (d.l b)) := fun own σ H E w Q q =>
  hto own σ H E w _ (hb own σ H E w _ (.inl ⟨d.q, _, _, _, rfl, rfl, .inl (.inl (w.ls _ hl).q.h), by cases b <;> rfl, q⟩))
theorem tx_lp {d : LAd} {k : Link} (hto : Tx K to γ A (.ref d.r)) (hl : (d, k) ∈ A.KS) : Tx K (tOp (rIx K) to (tC (.int 0))) γ A (.ref d.p) := fun own σ H E w Q q =>
  hto own σ H E w _ (.inl ⟨d.r, _, 0, .ref d.p, rfl, rfl, .inl (.inl (w.ls _ hl).r.h), rfl, q⟩)
theorem tw_seq (h1 : Tw K tu γ A N' R) (h2 : ∀ γ' A', N' γ' A' → Tw K tw γ' A' N R) : Tw K (tSeq tu tw) γ A N R := fun hd h0 own σ H D E w n r =>
  h1 hd h0 own σ H { D with nx := tw D } E w (fun γ' own' A' σ' H' hn o1 hd' h0' E' w' => h2 γ' A' hn hd' h0' own' σ' H' D E' w' (fun γ2 o2 A2 σ2 H2 a b c d e f => n γ2 o2 A2 σ2 H2 a (o1.trans b) c d e f) fun o2 A2 H2 a b c => r o2 A2 H2 a (o1.trans b) c) r
theorem tw_next (k : N γ A) : Tw K tNext γ A N R := fun hd h0 own σ H D E w n r => n γ own A σ H k Out.refl hd h0 E w
theorem tw_ret (k : R A) : Tw K tRetN γ A N R := fun hd h0 own σ H D E w n r => r own A H k Out.refl w
theorem tw_retS (k : R A) : Tw K (tSeq tRetN tz) γ A N R := fun hd h0 own σ H D E w n r => r own A H k Out.refl w
theorem tw_asg {d : PyData} (hi : i ≠ 0) (h : Te K M0 te (gw γ A) (.d d)) (k : N (γ.set i (some (.d d))) A) : Tw K (tAsg te (gName i)) γ A N R := fun hd h0 own σ H D E w n r =>
  h H σ H (xs0 H) (E.gw h0 w) _ fun v H1 e1 hv => n _ own A _ H1 k (Out.ex e1) (hd.set (.inl ⟨d, rfl⟩)) (by rw [List.getElem?_set_ne hi]; exact h0) ((E.dr hd e1.t).set hv rfl) (WAt.exx w e1)
theorem tw_asgS {d : PyData} (hi : i ≠ 0) (h : Te K M0 te (gw γ A) (.d d)) (k : Tw K tz (γ.set i (some (.d d))) A N R) : Tw K (tSeq (tAsg te (gName i)) tz) γ A N R := tw_seq (N' := fun γ' A' => γ' = γ.set i (some (.d d)) ∧ A' = A) (tw_asg hi h ⟨rfl, rfl⟩) (by rintro _ _ ⟨rfl, rfl⟩; exact k)
theorem tw_asgX {a : Addr} (hi : i ≠ 0) (h : Tx K te γ A (.ref a)) (k : Tw K tz (γ.set i (some (.r a))) A N R) : Tw K (tSeq (tAsg te (gName i)) tz) γ A N R := fun hd h0 own σ H D E w n r =>
  h own σ H E w _ (k (hd.set (.inr ⟨a, rfl⟩)) (by rw [List.getElem?_set_ne hi]; exact h0) own _ H D (E.set (s := .r a) rfl rfl) w n r)
theorem tw_if {b : Bool} (h : Tt K M0 tt (gw γ A) b) (h1 : b = true → Tw K tu γ A N R) (h2 : b = false → Tw K tw γ A N R) : Tw K (tIfS tt tu tw) γ A N R := fun hd h0 own σ H D E w n r => h H σ H (xs0 H) (E.gw h0 w) _ fun H1 e1 => by
  have o1 : Out own own H H1 := Out.ex e1
  cases b with
  | true => exact h1 rfl hd h0 own σ H1 D (E.dr hd e1.t) (WAt.exx w e1) (fun γ2 o2 A2 σ2 H2 a b c d e f => n γ2 o2 A2 σ2 H2 a (o1.trans b) c d e f) fun o2 A2 H2 a b c => r o2 A2 H2 a (o1.trans b) c
  | false => exact h2 rfl hd h0 own σ H1 D (E.dr hd e1.t) (WAt.exx w e1) (fun γ2 o2 A2 σ2 H2 a b c d e f => n γ2 o2 A2 σ2 H2 a (o1.trans b) c d e f) fun o2 A2 H2 a b c => r o2 A2 H2 a (o1.trans b) c
theorem tw_ifS {b : Bool} (h : Tt K M0 tt (gw γ A) b) (h1 : b = true → Tw K (tSeq tu tz) γ A N R) (h2 : b = false → Tw K (tSeq tw tz) γ A N R) : Tw K (tSeq (tIfS tt tu tw) tz) γ A N R := fun hd h0 own σ H D E w n r => h H σ H (xs0 H) (E.gw h0 w) _ fun H1 e1 => by
  have o1 : Out own own H H1 := Out.ex e1
  cases b with
  | true => exact h1 rfl hd h0 own σ H1 D (E.dr hd e1.t) (WAt.exx w e1) (fun γ2 o2 A2 σ2 H2 a b c d e f => n γ2 o2 A2 σ2 H2 a (o1.trans b) c d e f) fun o2 A2 H2 a b c => r o2 A2 H2 a (o1.trans b) c
  | false => exact h2 rfl hd h0 own σ H1 D (E.dr hd e1.t) (WAt.exx w e1) (fun γ2 o2 A2 σ2 H2 a b c d e f => n γ2 o2 A2 σ2 H2 a (o1.trans b) c d e f) fun o2 A2 H2 a b c => r o2 A2 H2 a (o1.trans b) c
/-- a list of the world is changed -/
theorem tw_done {own : Own} {H : Hp} {D : Ends} {a : Addr} {t : Tag} {xs ys : List V} {A' : AW} (hd : DR γ) (h0 : γ[0]? = some (some (.r A'.w))) (E : En K M0 H H σ γ) (n : ∀ γ' own' A' σ' H', N γ' A' → Out own own' H H' → DR γ' → γ'[0]? = some (some (.r A'.w)) → En K M0 H' H' σ' γ' → WAt own' H' A' → D.nx σ' H')
    (hc : Cell own H a t (.lst xs)) (up : WAt own (upd H a (.lst ys)) A') (k : N γ A') : D.nx σ (upd H a (.lst ys)) := n γ own A' σ _ k (Out.upd hc (kp_lst hc.h)) hd h0 (E.dr hd (kp_lst hc.h)) up
theorem tw_rem {a : Addr} {ns : List Str} {n : Str} {A' : AW} (hto : Tx K to γ A (.ref a)) (hte : Tx K te γ A (.str n)) (hc : ∀ own H, WAt own H A → ∃ t, Cell own H a t (.lst (ns.map V.str))) (hn : n ∈ ns) (up : ∀ own H, WAt own H A → WAt own (upd H a (.lst ((ns.erase n).map V.str))) A') (hA : A'.w = A.w) (k : N γ A') :
    Tw K (tDrop (tBM K "list" rRemS to (tCons te tNil))) γ A N R := fun hd h0 own σ H D E w n r => by
  obtain ⟨t, c⟩ := hc own H w
  exact hto own σ H E w _ ⟨.inl ⟨rfl, _, .inl (.inl c.h)⟩, hte own σ H E w _ ⟨a, ns, _, rfl, rfl, c.h, hn, tw_done hd (by rw [hA]; exact h0) E n c (up own H w) k⟩⟩
theorem tw_app {a : Addr} {xs : List V} {y : V} {A' : AW} (hto : Tx K to γ A (.ref a)) (hte : Tx K te γ A y) (hc : ∀ own H, WAt own H A → ∃ t, Cell own H a t (.lst xs)) (hz : xs.length ≤ 50000) (up : ∀ own H, WAt own H A → WAt own (upd H a (.lst (xs ++ [y]))) A') (hA : A'.w = A.w) (k : N γ A') :
    Tw K (tDrop (tBM K "list" rAppend to (tCons te tNil))) γ A N R := fun hd h0 own σ H D E w n r => by
  obtain ⟨t, c⟩ := hc own H w
  exact hto own σ H E w _ ⟨.inl ⟨rfl, _, .inl (.inl c.h)⟩, hte own σ H E w _ ⟨a, xs, _, rfl, rfl, c.h, Evl.sz_lt (by omega), tw_done hd (by rw [hA]; exact h0) E n c (up own H w) k⟩⟩
/-- promises of defs that change one list -/
def spL {α : Type} (Pre : α → Prop) (lst : α → List V) (args : α → List V) (res : α → List V) : Sp := fun vs H Q _ => ∃ z p, Pre z ∧ vs = .ref p :: args z ∧ H p = some (.lst (lst z)) ∧ ∀ H1, Xm M0 H H1 → Q .non (upd H1 p (.lst (res z)))
def Txa (K : PySem.W.Frag) (ta : TA) (γ : G) (A : AW) (vs : List V) : Prop := ∀ own σ H, En K M0 H H σ γ → WAt own H A → ∀ Q : List V → Hp → Prop, Q vs H → ta σ H Q
theorem txa_nil : Txa K tNil γ A [] := fun own σ H E w Q q => q
theorem txa_cons {tr : TA} {v : V} {vs : List V} (h : Tx K te γ A v) (k : Txa K tr γ A vs) : Txa K (tCons te tr) γ A (v :: vs) := fun own σ H E w Q q => h own σ H E w _ (k own σ H E w _ q)
theorem tw_callL {α : Type} {Pre : α → Prop} {lst args res : α → List V} {ta : TA} {E0' : XK} {a : Addr} {A' : AW} (z : α) (ha : Txa K ta γ A (.ref a :: args z)) (hp : Pre z) (hc : ∀ own H, WAt own H A → ∃ t, Cell own H a t (.lst (lst z))) (up : ∀ own H, WAt own H A → WAt own (upd H a (.lst (res z))) A') (hA : A'.w = A.w) (k : N γ A') :
    Tw K (tDrop (tCall (spL Pre lst args res) [] E0' ta)) γ A N R := fun hd h0 own σ H D E w n r => by
  obtain ⟨t, c⟩ := hc own H w
  refine ha own σ H E w _ ⟨z, a, hp, by rw [List.append_nil], c.h, fun H1 e1 => ?_⟩
  have c1 : Cell own H1 a t (.lst (lst z)) := ⟨c.o, x0 e1 _ _ c.h⟩
  have w1 := WAt.exx w e1
  exact n γ own A' σ _ k ((Out.ex e1).trans (Out.upd c1 (kp_lst c1.h))) hd (by rw [hA]; exact h0) ((E.dr hd e1.t).dr hd (kp_lst c1.h)) (up own H1 w1)
/-- promises of defs that change the world -/
def spW (K : PySem.W.Frag) {α : Type} (Pre : α → AW → Prop) (args : α → List PyData) (Post : α → AW → AW → Prop) : Sp := fun vs H Q _ => ∃ own A z us, Pre z A ∧ vs = .ref A.w :: us ∧ Dats K H us (args z) ∧ WAt own H A ∧ ∀ own' A' H', Post z A A' → A'.w = A.w → Out own own' H H' → WAt own' H' A' → Q .non H'
theorem tw_callW {α : Type} {Pre : α → AW → Prop} {args : α → List PyData} {Post : α → AW → AW → Prop} {ta : TA} {E0' : XK} (z : α) (h0i : γ[0]? = some (some (.r A.w))) (ha : Ta K M0 ta γ ((args z).map Sv.d)) (hp : Pre z A) (k : ∀ A', Post z A A' → A'.w = A.w → N γ A') :
    Tw K (tDrop (tCall (spW K Pre args Post) [] E0' (tCons (tVar 0) ta))) γ A N R := fun hd h0 own σ H D E w n r => by
  obtain ⟨v, hv, rfl⟩ := E.get 0 _ h0
  refine ⟨_, hv, ha H σ H (xs0 H) E _ fun us H1 e1 hu => ⟨own, A, z, us, hp, by rw [List.append_nil], hu.dats, WAt.exx w e1, fun own' A' H' hpost hA o w' => ?_⟩⟩
  exact n γ own' A' σ H' (k A' hpost hA) ((Out.ex e1).trans o) hd (by rw [hA]; exact h0) ((E.dr hd e1.t).dr hd o.t) w'
/-- dict puts and pops -/
theorem put_tx (l : List (Str × Str)) (n x : Str) : putK (l.map fun q => ((Sum.inr q.1 : Key), V.str q.2)) (Sum.inr n) (.str x) = ((if n ∈ l.map Prod.fst then l.map fun q => if q.1 = n then (q.1, x) else q else l ++ [(n, x)]).map fun q => ((Sum.inr q.1 : Key), V.str q.2)) := by
  unfold putK
  have e : ((l.map fun q => ((Sum.inr q.1 : Key), V.str q.2)).any fun kv => decide (kv.1 = Sum.inr n)) = decide (n ∈ l.map Prod.fst) := by
    rw [Bool.eq_iff_iff]
    simp
  rw [e]
  by_cases h : n ∈ l.map Prod.fst
  · rw [if_pos (decide_eq_true h), if_pos h, List.map_map, List.map_map]
    refine List.map_congr_left fun q _ => ?_
    by_cases e : q.1 = n <;> simp [e]
  · rw [if_neg (by rw [decide_eq_false h]; decide), if_neg h, List.map_append]
    rfl
def putT (l : List (Str × Str)) (n x : Str) : List (Str × Str) := if n ∈ l.map Prod.fst then l.map fun q => if q.1 = n then (q.1, x) else q else l ++ [(n, x)]
theorem tw_dputT {n x : Str} {ty tv : TE} (h0i : γ[0]? = some (some (.r A.w))) (htv : Te K M0 tv (gw γ A) (.d (.str x))) (hty : Tx K ty γ A (.str n)) (hz : A.TX.length ≤ 1000) (k : N γ { A with TX := putT A.TX n x }) :
    Tw K (sDPut (tDGet (tVar 0) (tC (.str "text"))) ty tv) γ A N R := fun hd h0 own σ H D E w nx r => by
  refine htv H σ H (xs0 H) (E.gw h0 w) _ fun v H1 e1 hv => ?_
  cases hv
  have E1 := E.dr hd e1.t
  have w1 := WAt.exx w e1
  refine tx_key (j := 1) h0 rfl rfl own σ H1 E1 w1 _ (hty own σ H1 E1 w1 _ ⟨A.tx, _, rfl, .inl ⟨_, Sum.inr n, w1.tx.h, rfl, by rw [List.length_map]; exact Evl.sz_lt (by omega), rfl⟩, ?_⟩)
  rw [put_tx]
  have kk : Kp H1 (upd H1 A.tx (txD (putT A.TX n x))) := kp_dict w1.tx.h
  exact nx γ own _ σ _ k ((Out.ex e1).trans (Out.upd w1.tx kk)) hd h0 (E1.dr hd kk) (w1.upTx _)
theorem tw_dpopT {n : Str} {ty : TE} (h0i : γ[0]? = some (some (.r A.w))) (hty : Tx K ty γ A (.str n)) (hn : n ∈ A.TX.map Prod.fst) (k : N γ { A with TX := A.TX.filter fun q => decide (q.1 ≠ n) }) :
    Tw K (tDrop (tDPop1 (tDGet (tVar 0) (tC (.str "text"))) ty)) γ A N R := fun hd h0 own σ H D E w nx r => by
  have hv : (valV (A.TX.map fun q => ((Sum.inr q.1 : Key), V.str q.2)) (Sum.inr n)).isSome = true := by
    rw [← valV_any]
    obtain ⟨q, hq, rfl⟩ := List.mem_map.mp hn
    rw [List.any_map]
    exact List.any_eq_true.mpr ⟨q, hq, by simp⟩
  obtain ⟨v, hv⟩ := Option.isSome_iff_exists.mp hv
  refine tx_key (j := 1) h0 rfl rfl own σ H E w _ ⟨A.tx, rfl, .inl ⟨_, .inl w.tx.h⟩, hty own σ H E w _ ⟨_, Sum.inr n, v, w.tx.h, rfl, hv, ?_⟩⟩
  have e : dropK (A.TX.map fun q => ((Sum.inr q.1 : Key), V.str q.2)) (Sum.inr n) = (A.TX.filter fun q => decide (q.1 ≠ n)).map fun q => ((Sum.inr q.1 : Key), V.str q.2) := by
    unfold dropK
    rw [List.filter_map]
    congr 1
    refine List.filter_congr fun q _ => ?_
    simp
  rw [e]
  have kk : Kp H (upd H A.tx (txD (A.TX.filter fun q => decide (q.1 ≠ n)))) := kp_dict w.tx.h
  exact nx γ own _ σ _ k (Out.upd w.tx kk) hd h0 (E.dr hd kk) (w.upTx _)
theorem tw_dpopM {n : Str} {ty : TE} (h0i : γ[0]? = some (some (.r A.w))) (hty : Tx K ty γ A (.str n)) (hn : n ∈ A.MO.map Prod.fst) (k : N γ { A with MO := A.MO.filter fun q => decide (q.1 ≠ n) }) :
    Tw K (tDrop (tDPop1 (tDGet (tVar 0) (tC (.str "moments"))) ty)) γ A N R := fun hd h0 own σ H D E w nx r => by
  have hv : (valV (A.MO.map fun q => ((Sum.inr q.1 : Key), V.ref q.2.1)) (Sum.inr n)).isSome = true := by
    rw [← valV_any]
    obtain ⟨q, hq, rfl⟩ := List.mem_map.mp hn
    rw [List.any_map]
    exact List.any_eq_true.mpr ⟨q, hq, by simp⟩
  obtain ⟨v, hv⟩ := Option.isSome_iff_exists.mp hv
  refine tx_key (j := 2) h0 rfl rfl own σ H E w _ ⟨A.mo, rfl, .inl ⟨_, .inl w.mo.h⟩, hty own σ H E w _ ⟨_, Sum.inr n, v, w.mo.h, rfl, hv, ?_⟩⟩
  have e : dropK (A.MO.map fun q => ((Sum.inr q.1 : Key), V.ref q.2.1)) (Sum.inr n) = (A.MO.filter fun q => decide (q.1 ≠ n)).map fun q => ((Sum.inr q.1 : Key), V.ref q.2.1) := by
    unfold dropK
    rw [List.filter_map]
    congr 1
    refine List.filter_congr fun q _ => ?_
    simp
  rw [e]
  have kk : Kp H (upd H A.mo (moD (A.MO.filter fun q => decide (q.1 ≠ n)))) := kp_dict w.mo.h
  exact nx γ own _ σ _ k (Out.upd w.mo kk) hd h0 (E.dr hd kk) (w.upMo _ fun q hq => w.ms q (List.mem_filter.mp hq).1)
/-- world['moments'][n] = a new list -/
theorem tw_dputM {n : Str} {ms : List Int} {ty tv : TE} (h0i : γ[0]? = some (some (.r A.w))) (htv : Te K M0 tv (gw γ A) (.o (ms.map PyData.int))) (hty : Tx K ty γ A (.str n)) (hz : A.MO.length ≤ 1000) (hn : n ∉ A.MO.map Prod.fst) (k : ∀ a, N γ { A with MO := A.MO ++ [(n, a, ms)] }) :
    Tw K (sDPut (tDGet (tVar 0) (tC (.str "moments"))) ty tv) γ A N R := fun hd h0 own σ H D E w nx r => by
  refine htv H σ H (xs0 H) (E.gw h0 w) _ fun v H1 e1 hv => ?_
  obtain ⟨p, xs, rfl, _, hp0, hp, hx⟩ := hv
  obtain rfl := int_dats hx
  have E1 := E.dr hd e1.t
  have no : own p = none := by
    cases q : own p with
    | none => rfl
    | some t => exact absurd hp0 (w.ex p (by rw [q]; exact fun z => nomatch z))
  have w1 := WAt.exx w e1
  let own' : Own := fun a => if a = p then some (.m n) else own a
  have ho : ∀ a t, own a = some t → own' a = some t := fun a t h => by
    show (if a = p then some (.m n) else own a) = some t
    rw [if_neg (fun e => by subst e; rw [no] at h; cases h)]
    exact h
  have w2 : WAt own' H1 A := w1.ext ho (fun _ _ _ _ h => h) fun a ha => by
    by_cases e : a = p
    · subst e; rw [hp]; exact fun z => nomatch z
    · exact w1.ex a (by rw [show own' a = own a from if_neg e] at ha; exact ha)
  refine tx_key (j := 2) h0 rfl rfl own σ H1 E1 w1 _ (hty own σ H1 E1 w1 _ ⟨A.mo, _, rfl, .inl ⟨_, Sum.inr n, w1.mo.h, rfl, by rw [List.length_map]; exact Evl.sz_lt (by omega), rfl⟩, ?_⟩)
  have e : putK (A.MO.map fun q => ((Sum.inr q.1 : Key), V.ref q.2.1)) (Sum.inr n) (.ref p) = (A.MO ++ [(n, p, ms)]).map fun q => ((Sum.inr q.1 : Key), V.ref q.2.1) := by
    rw [putK_new, List.map_append]
    · rfl
    · rw [← kvz_map]
      exact valV_no hn
  rw [e]
  have kk : Kp H1 (upd H1 A.mo (moD (A.MO ++ [(n, p, ms)]))) := kp_dict w1.mo.h
  refine nx γ own' _ σ _ (k p) ⟨e1.t.trans kk, fun a o h1 h2 => ?_⟩ hd h0 (E1.dr hd kk) (w2.upMo _ fun q hq => ?_)
  · have na : a ≠ A.mo := fun e => by subst e; rw [w.mo.o] at h1; cases h1
    have np : a ≠ p := fun e => by subst e; rw [hp0] at h2; cases h2
    refine ⟨by rw [upd_ne na]; exact x0 e1 a o h2, ?_⟩
    show (if a = p then some (Tag.m n) else own a) = none
    rw [if_neg np]
    exact h1
  · rcases List.mem_append.mp hq with h | h
    · exact w2.ms q h
    · simp at h
      subst h
      exact ⟨by show (if p = p then some (Tag.m n) else own p) = _; rw [if_pos rfl], hp⟩
end
end Tw
namespace Tw
open PySem PySem.Spec PyProof.Rows L2
local macro_rules
  | `(tactic| walk_at "rv") => `(tactic| first
    | exact rv_ixT rfl | exact rv_addI | exact rv_sub | exact rv_ixL rfl rfl | exact rv_ixM rfl
    | exact rsl_T | exact rsl_L rfl
    | exact rv_inStrL rfl | exact rv_inStrT | exact rv_ninStrL rfl | exact rv_ninIntL rfl | exact rv_eqStr | exact rv_neStr | exact rv_eqInt | exact rv_neInt | exact rv_eqBl | exact rv_neBl
    | exact rv_lt | exact rv_gt | exact rv_ge | exact rv_leI | exact rv_leS | exact rv_isN | exact rv_notN
    | exact rc_lenT | exact rc_lenL rfl | exact rc_intB | exact rc_listT | exact rc_listL rfl | exact rc_tupleL rfl | exact rc_tupleT)
local macro_rules
  | `(tactic| walk_at "e1") => `(tactic| first
    | exact te_var rfl | exact te_int | exact te_str | exact te_bl | exact te_non | exact ta_nil | exact to_none
    | apply to_some | apply ta_cons | apply te_op | apply te_cb | apply te_sl
    | apply tt_B | apply tt_test | walk_at "rv")
local macro_rules
  | `(tactic| walk_at "e") => `(tactic| repeat walk_at "e1")

variable {P : Program} {w : World} {K : PySem.W.Frag} {mg : Str → Option Value} {base : Heap}
section
variable {x : Str} {i k : Nat} {N ps : List Str}
theorem kn_world {α : Type} {Pre : α → AW → Prop} {args : α → List PyData} {Post : α → AW → AW → Prop} (W : Fnd K mg x i) (S : FnScope N ps (defScope (top i))) (len : ∀ z, (args z).length + 1 = ps.length)
    (hb : ∀ (kV doc pm : Value) (an : Option Addr) (cdv ct : Value) (us : List Value), us.length = ps.length → bindArgs (PySem.W.fnOf x x (defArgs (top i)) (defBody (top i)) (defScope (top i)) .none kV doc pm an cdv ct) ⟨us, []⟩ = pure (ps.zip us))
    (hbody : ∀ (f : Addr) (cdv : Value) (A : Around) (outer : List Env) (s : Shared) (H : Hp) (E : XK), Room k (A.deeper (envOfC x (defScope (top i)) s.heap.objs.size f cdv)) →
      ∃ t, PSs (cxOf CX0 P w K mg base N x (defScope (top i)) f cdv A outer s H E).nox (defBody (top i)) t ∧ ∀ A z, Pre z A → Tw K t (some (.r A.w) :: ((args z).map fun d => some (.d d)) ++ List.replicate (N.length - ps.length) none) A (fun _ A' => Post z A A' ∧ A'.w = A.w) (fun A' => Post z A A' ∧ A'.w = A.w)) :
    Kn P w K mg base x ps (k + 1) (spW K Pre args Post) := by
  refine kn_mk W S (fun vs H Q E h => ?_) hb fun f cdv A outer s H vs Q E hr h => ?_
  · obtain ⟨own, A, z, us, _, rfl, hu, _⟩ := h
    rw [List.length_cons, hu.len, len]
  · obtain ⟨t, h1, h2⟩ := hbody f cdv A outer s H E hr
    obtain ⟨own, A, z, us, hp, rfl, hu, hw, q⟩ := h
    refine ⟨t, h1, ?_⟩
    have E1 : En K M0 H H (L2.start N (.ref A.w :: us)) (some (.r A.w) :: ((args z).map fun d => some (.d d)) ++ List.replicate (N.length - ps.length) none) := by
      have ha : HsA K M0 H H (.ref A.w :: us) (.r A.w :: (args z).map Sv.d) := .cons rfl (HsA.of_dats hu)
      have := En.start ha (N.length - ps.length)
      unfold L2.start
      rw [show (V.ref A.w :: us).length = ps.length by rw [List.length_cons, hu.len, len]]
      simpa [Function.comp_def] using this
    refine h2 A z hp (fun j s e => ?_) rfl own _ H _ E1 hw (fun γ' own' A' σ' H' hn o _ _ _ w' => q own' A' H' hn.1 hn.2 o w') fun own' A' H' hn o w' => q own' A' H' hn.1 hn.2 o w'
    rcases List.mem_append.mp (List.mem_of_getElem? e) with h | h
    · rcases List.mem_cons.mp h with h | h
      · exact .inr ⟨A.w, Option.some.inj h⟩
      · obtain ⟨d, _, h⟩ := List.mem_map.mp h
        exact .inl ⟨d, (Option.some.inj h).symm⟩
    · have := List.eq_of_mem_replicate h
      cases this
theorem kn_list {sp : Sp} (W : Fnd K mg x i) (S : FnScope N ps (defScope (top i))) (len : ∀ vs H Q E, sp vs H Q E → vs.length = ps.length)
    (hb : ∀ (kV doc pm : Value) (an : Option Addr) (cdv ct : Value) (us : List Value), us.length = ps.length → bindArgs (PySem.W.fnOf x x (defArgs (top i)) (defBody (top i)) (defScope (top i)) .none kV doc pm an cdv ct) ⟨us, []⟩ = pure (ps.zip us))
    (hbody : ∀ (f : Addr) (cdv : Value) (A : Around) (outer : List Env) (s : Shared) (H : Hp) (vs : List V) (Q : VK) (E : XK), Room k (A.deeper (envOfC x (defScope (top i)) s.heap.objs.size f cdv)) → sp vs H Q E →
      ∃ t, PSs (cxOf CX0 P w K mg base N x (defScope (top i)) f cdv A outer s H E).nox (defBody (top i)) t ∧ t { nx := fun _ H' => Q .non H', rt := Q } (L2.start N vs) H) : Kn P w K mg base x ps (k + 1) sp := kn_mk W S len hb hbody
end
theorem upd_self {H : Hp} {a : Addr} {o : HO} (h : H a = some o) : upd H a o = H := by
  funext b
  by_cases e : b = a
  · subst e; rw [upd_same, h]
  · rw [upd_ne e]
def lateL (ms : List Int) (t : Int) : List Int := if t ∈ ms then ms else ms ++ [t]
theorem sc_law_late : FnScope ["_law_moments", "_law_t"] ["_law_moments", "_law_t"] (defScope (top 72)) := ⟨rfl, rfl, rfl, by decide +kernel, rfl, by decide +kernel, by decide +kernel⟩
abbrev Sp_law_late (K : PySem.W.Frag) : Sp := spL (α := List Int × Int) (fun z => z.1.length ≤ 1000) (fun z => z.1.map V.int) (fun z => [.int z.2]) (fun z => (lateL z.1 z.2).map V.int)
theorem kn_law_late (W : Wld K mg w) : Kn P w K mg base "_law_late" ["_law_moments", "_law_t"] 1 (Sp_law_late K) := by
  refine kn_list W.f_law_late sc_law_late (fun vs H Q E h => by obtain ⟨z, p, _, rfl, _⟩ := h; rfl) (fun _ _ _ _ _ _ us hl => match us, hl with | [_, _], _ => rfl) fun f cdv A outer s H vs Q E hr hsp => ⟨_, (pss_one (ps_if (pt_cmpR (op_notInUK (K := K) (by rfl) hr.u65) (pv 1) (pv 0) (by rfl)) (pss_one (ps_expr (pe_bmK (K := K) (by rfl) PySem.F.plainAttrs_list PySem.F.slot_list_append PySem.F.type_list_append mt_append (pv 0) (pa_cons (pv 1) pa_nil)))) pss_nil)), ?_⟩
  obtain ⟨⟨ms, t⟩, p, hz, rfl, hp, q⟩ := hsp
  have hz' : ms.length ≤ 1000 := hz
  have nn : H p ≠ none := by rw [hp]; exact fun z => nomatch z
  have E1 : En K M0 H H (L2.start ["_law_moments", "_law_t"] [.ref p, .int t]) [some (.l (ms.map PyData.int)), some (.d (.int t))] := En.start (vs := [.ref p, .int t]) (ss := [.l (ms.map PyData.int), .d (.int t)]) (.cons ⟨p, _, rfl, (fun m => m), nn, hp, dats_int⟩ (.cons (show Dat K H (.int t) (.int t) from Dat.int t) .nil)) 0
  refine (tt_test (te_op (te_var rfl) (te_var rfl) (rv_ninIntL rfl)) : Tt K M0 _ [some (.l (ms.map PyData.int)), some (.d (.int t))] (!decide (t ∈ ms))) H _ H (xs0 H) E1 _ fun H1 e1 => ?_
  have hp1 := x0 e1 _ _ hp
  by_cases e : t ∈ ms
  · rw [decide_eq_true e]
    have : Q .non (upd H1 p (.lst ((lateL ms t).map V.int))) := q H1 e1
    rw [show lateL ms t = ms from if_pos e, upd_self hp1] at this
    exact this
  · rw [decide_eq_false e]
    have : Q .non (upd H1 p (.lst ((lateL ms t).map V.int))) := q H1 e1
    rw [show lateL ms t = ms ++ [t] from if_neg e, List.map_append] at this
    exact ⟨_, rfl, .inl ⟨rfl, _, .inl (.inl hp1)⟩, _, rfl, p, _, _, rfl, rfl, hp1, Evl.sz_lt (by rw [List.length_map]; omega), this⟩
def insN (ns : List Str) (h n : Str) : List Str := if h = "" then n :: ns else ns.take (ns.idxOf h + 1) ++ [n] ++ ns.drop (ns.idxOf h + 1)
theorem idx_first {ns : List Str} {h : Str} (hm : h ∈ ns) : ns[ns.idxOf h]? = some h ∧ ∀ m : Nat, m < ns.idxOf h → ns[m]? ≠ some h := by
  have hl : ns.idxOf h < ns.length := List.idxOf_lt_length_iff.mpr hm
  refine ⟨?_, fun m hlt e => ?_⟩
  · rw [List.getElem?_eq_getElem hl, List.getElem_idxOf hl]
  · have hml : m < ns.length := by omega
    rw [List.getElem?_eq_getElem hml] at e
    have e2 := Option.some.inj e
    have := List.not_of_lt_findIdx (p := fun x => x == h) (xs := ns) (i := m) hlt
    rw [e2] at this
    simp at this
theorem sc_law_behind : FnScope ["_law_names", "_law_behind_here", "_law_name", "_law_place"] ["_law_names", "_law_behind_here", "_law_name"] (defScope (top 71)) := ⟨rfl, rfl, rfl, by decide +kernel, rfl, by decide +kernel, by decide +kernel⟩
abbrev Sp_law_behind (K : PySem.W.Frag) : Sp := spL (α := List Str × Str × Str) (fun z => z.1.length ≤ 1000 ∧ (z.2.1 ≠ "" → z.2.1 ∈ z.1)) (fun z => z.1.map V.str) (fun z => [.str z.2.1, .str z.2.2]) (fun z => (insN z.1 z.2.1 z.2.2).map V.str)
theorem kn_law_behind (W : Wld K mg w) : Kn P w K mg base "_law_behind" ["_law_names", "_law_behind_here", "_law_name"] 1 (Sp_law_behind K) := by
  refine kn_list W.f_law_behind sc_law_behind (fun vs H Q E h => by obtain ⟨z, p, _, rfl, _⟩ := h; rfl) (fun _ _ _ _ _ _ us hl => match us, hl with | [_, _, _], _ => rfl) fun f cdv A outer s H vs Q E hr hsp => ⟨_, (pss_cons (ps_set (i := 3) sc_law_behind.nd rfl (by first | exact .inl rfl | exact .inr rfl) pe_int)
    (pss_cons (ps_if (pt_cmpR (op_neUK (K := K) (by rfl) hr.units) (pv 1) pe_str (nomark _)) (pss_one (ps_set (i := 3) sc_law_behind.nd rfl (by first | exact .inl rfl | exact .inr rfl) (pe_op (op_addUK (K := K) (by rfl)) pe_int (pe_bmK (K := K) (by rfl) PySem.F.plainAttrs_list PySem.F.slot_list_index PySem.F.type_list_index (mt_indexK (K := K) (by rfl)) (pv 0) (pa_cons (pv 1) pa_nil))))) pss_nil)
    (pss_one (ps_expr (pe_bmK (K := K) (by rfl) PySem.F.plainAttrs_list PySem.F.slot_list_insert PySem.F.type_list_insert mt_insert (pv 0) (pa_cons (pv 3) (pa_cons (pv 2) pa_nil))))))), ?_⟩
  obtain ⟨⟨ns, h, n⟩, p, ⟨hl, hh⟩, rfl, hp, q⟩ := hsp
  have hl' : ns.length ≤ 1000 := hl
  have hh' : h ≠ "" → h ∈ ns := hh
  have nn : H p ≠ none := by rw [hp]; exact fun z => nomatch z
  have ins : ∀ (k : Nat) (H1 : Hp) (σ : L2.St), Xm M0 H H1 → σ[0]? = some (some (V.ref p)) → σ[3]? = some (some (V.int (k : Nat))) → σ[2]? = some (some (V.str n)) → ns.take k ++ [n] ++ ns.drop k = insN ns h n → k ≤ 1001 → tDrop (tBM K "list" (fun x vs H Q => ∃ (l : Addr) (xs : List V) (i : Int) (y : V), x = .ref l ∧ vs = [.int i, y] ∧ H l = some (.lst xs) ∧ xs.length < sizeLine ∧ 0 ≤ i ∧ i < 2 ^ 63 ∧
    Q .non (upd H l (.lst (xs.take i.toNat ++ [y] ++ xs.drop i.toNat)))) (tVar 0) (tCons (tVar 3) (tCons (tVar 2) tNil))) { nx := fun _ H' => Q .non H', rt := Q } σ H1 := fun k H1 σ e1 h0 h3 h2 hk hk2 => by
    have hp1 := x0 e1 _ _ hp
    refine ⟨_, h0, .inl ⟨rfl, _, .inl (.inl hp1)⟩, _, h3, _, h2, p, _, (k : Int), _, rfl, rfl, hp1, Evl.sz_lt (by rw [List.length_map]; omega), by omega, by omega, ?_⟩
    have := q H1 e1
    have e : (ns.map V.str).take (k : Int).toNat ++ [V.str n] ++ (ns.map V.str).drop (k : Int).toNat = (insN ns h n).map V.str := by
      rw [Int.toNat_natCast, ← hk]
      simp
    rw [e]
    exact this
  by_cases e : h = ""
  · have E1 : En K M0 H H _ [some (.l (ns.map PyData.str)), some (.d (.str h)), some (.d (.str n)), some (.d (.int (0 : Nat)))] := (En.start (vs := [.ref p, .str h, .str n]) (ss := [.l (ns.map PyData.str), .d (.str h), .d (.str n)]) (.cons ⟨p, _, rfl, (fun m => m), nn, hp, dats_str⟩ (.cons (show Dat K H (.str h) (.str h) from Dat.str h) (.cons (show Dat K H (.str n) (.str n) from Dat.str n) .nil))) 1).set (i := 3) (v := .int (0 : Nat)) (s := .d (.int (0 : Nat))) (Dat.int _) rfl
    refine (tt_test (te_is (te_op (te_var rfl) te_str rv_neStr) (by rw [decide_eq_true e]; rfl)) : Tt K M0 (tTest (tOp (rNeU K) (tVar 1) (tC (.str "")))) [some (.l (ns.map PyData.str)), some (.d (.str h)), some (.d (.str n)), some (.d (.int (0 : Nat)))] false) H _ H (xs0 H) E1 _ fun H1 e1 => ?_
    refine ins 0 H1 _ e1 rfl rfl rfl ?_ (by decide)
    unfold insN
    rw [if_pos e]
    rfl
  · have E1 : En K M0 H H _ [some (.l (ns.map PyData.str)), some (.d (.str h)), some (.d (.str n)), some (.d (.int (0 : Nat)))] := (En.start (vs := [.ref p, .str h, .str n]) (ss := [.l (ns.map PyData.str), .d (.str h), .d (.str n)]) (.cons ⟨p, _, rfl, (fun m => m), nn, hp, dats_str⟩ (.cons (show Dat K H (.str h) (.str h) from Dat.str h) (.cons (show Dat K H (.str n) (.str n) from Dat.str n) .nil))) 1).set (i := 3) (v := .int (0 : Nat)) (s := .d (.int (0 : Nat))) (Dat.int _) rfl
    refine (tt_test (te_is (te_op (te_var rfl) te_str rv_neStr) (by rw [decide_eq_false e]; rfl)) : Tt K M0 (tTest (tOp (rNeU K) (tVar 1) (tC (.str "")))) [some (.l (ns.map PyData.str)), some (.d (.str h)), some (.d (.str n)), some (.d (.int (0 : Nat)))] true) H _ H (xs0 H) E1 _ fun H1 e1 => ?_
    have hp1 := x0 e1 _ _ hp
    obtain ⟨i1, i2⟩ := idx_first (hh' e)
    have hil : ns.idxOf h < ns.length := List.idxOf_lt_length_iff.mpr (hh' e)
    refine ⟨_, rfl, .inl ⟨rfl, _, .inl (.inl hp1)⟩, _, rfl, p, _, _, ns.idxOf h, .str h, rfl, rfl, .inl (.inl hp1), rfl, ?_, by rw [List.getElem?_map, i1]; rfl, by simp [eqV], fun m z hm hz => ?_, ?_⟩
    · rw [List.all_map]
      exact List.all_eq_true.mpr fun _ _ => rfl
    · obtain ⟨n', hn', rfl⟩ := get_map hz
      have : n' ≠ h := fun e2 => i2 m hm (by rw [hn', e2])
      simp [eqV, this]
    · refine .inl ⟨1, (ns.idxOf h : Int), rfl, rfl, ?_⟩
      have e3 : (1 : Int) + (ns.idxOf h : Int) = ((ns.idxOf h + 1 : Nat) : Int) := by omega
      refine ins (ns.idxOf h + 1) H1 _ e1 rfl ?_ rfl ?_ (by omega)
      · show some (some (V.int (1 + (ns.idxOf h : Int)))) = _
        rw [e3]
      · unfold insN
        rw [if_neg e]
end Tw
namespace Tw
open PySem PySem.Spec PyProof.Rows L2
local macro_rules
  | `(tactic| walk_at "rv") => `(tactic| first
    | exact rv_ixT rfl | exact rv_addI | exact rv_sub | exact rv_ixL rfl rfl | exact rv_ixM rfl
    | exact rsl_T | exact rsl_L rfl
    | exact rv_inStrL rfl | exact rv_inStrT | exact rv_ninStrL rfl | exact rv_ninIntL rfl | exact rv_eqStr | exact rv_neStr | exact rv_eqInt | exact rv_neInt | exact rv_eqBl | exact rv_neBl
    | exact rv_lt | exact rv_gt | exact rv_ge | exact rv_leI | exact rv_leS | exact rv_isN | exact rv_notN
    | exact rc_lenT | exact rc_lenL rfl | exact rc_intB | exact rc_listT | exact rc_listL rfl | exact rc_tupleL rfl | exact rc_tupleT)
local macro_rules
  | `(tactic| walk_at "e1") => `(tactic| first
    | exact te_var rfl | exact te_int | exact te_str | exact te_bl | exact te_non | exact ta_nil | exact to_none
    | apply to_some | apply ta_cons | apply te_op | apply te_cb | apply te_sl
    | apply tt_B | apply tt_test | walk_at "rv")
local macro_rules
  | `(tactic| walk_at "e") => `(tactic| repeat walk_at "e1")

section
variable {K : PySem.W.Frag} {own : Own} {H H' : Hp} {σ : L2.St} {γ : G} {A : AW} {s : Sv} {te ta' tb to : TE} {tu tw tz : TS} {tt : TT} {N N' : G → AW → Prop} {R : AW → Prop} {i : Nat}
def Ttx (K : PySem.W.Frag) (tt : TT) (γ : G) (A : AW) (b : Bool) : Prop := ∀ own σ H, En K M0 H H σ γ → WAt own H A → ∀ Q : Bool → Hp → Prop, (∀ H', Xm M0 H H' → Q b H') → tt σ H Q
theorem tw_ifX {b : Bool} (h : Ttx K tt γ A b) (h1 : b = true → Tw K tu γ A N R) (h2 : b = false → Tw K tw γ A N R) : Tw K (tIfS tt tu tw) γ A N R := fun hd h0 own σ H D E w n r => h own σ H E w _ fun H1 e1 => by
  have o1 : Out own own H H1 := Out.ex e1
  cases b with
  | true => exact h1 rfl hd h0 own σ H1 D (E.dr hd e1.t) (WAt.exx w e1) (fun γ2 o2 A2 σ2 H2 a b c d e f => n γ2 o2 A2 σ2 H2 a (o1.trans b) c d e f) fun o2 A2 H2 a b c => r o2 A2 H2 a (o1.trans b) c
  | false => exact h2 rfl hd h0 own σ H1 D (E.dr hd e1.t) (WAt.exx w e1) (fun γ2 o2 A2 σ2 H2 a b c d e f => n γ2 o2 A2 σ2 H2 a (o1.trans b) c d e f) fun o2 A2 H2 a b c => r o2 A2 H2 a (o1.trans b) c
theorem ttx_nil {a : Addr} {ns : List Str} (hto : Tx K to γ A (.ref a)) (hc : ∀ own H, WAt own H A → ∃ t, Cell own H a t (.lst (ns.map V.str))) (hn : ∀ n ∈ ns, nOk n) : Ttx K (tTest (tOp (rEqU K) to (tLst tNil))) γ A (decide (ns = [])) := fun own σ H E w Q q => by
  obtain ⟨t, c⟩ := hc own H w
  refine hto own σ H E w _ ⟨Nat.zero_le _, fun p hp => ?_⟩
  have e1 : Xm M0 H (upd H p (.lst [])) := Xm.new hp
  have h1 : Hs K M0 H (upd H p (.lst [])) (.ref a) (.l (ns.map PyData.str)) := ⟨a, _, rfl, (fun m => m), (by rw [c.h]; exact fun z => nomatch z), x0 e1 _ _ c.h, dats_str⟩
  have h2 : Hs K M0 H (upd H p (.lst [])) (.ref p) (.o []) := ⟨p, [], rfl, (fun m => m), hp, upd_same, .nil⟩
  refine rv_eqNil (K := K) (M := M0) (s1 := .l (ns.map PyData.str)) (s2 := .o []) rfl rfl rfl hn H (upd H p (.lst [])) _ _ ((xs0 H).trans e1) h1 h2 _ fun v H2 e2 hv => ?_
  cases hv
  exact ⟨_, rfl, q H2 (e1.trans e2)⟩
/-- a, b, .. = a tuple -/
theorem tw_run : ∀ (is : List Nat) (ds : List PyData) (γ : G), (∀ j ∈ is, j ≠ 0) → DR γ → γ[0]? = some (some (.r A.w)) → DR (setAll γ is ds) ∧ (setAll γ is ds)[0]? = some (some (.r A.w))
  | [], _, _, _, h1, h2 => ⟨h1, h2⟩
  | _ :: _, [], _, _, h1, h2 => ⟨h1, h2⟩
  | i :: is, d :: ds, γ, hi, h1, h2 => tw_run is ds (γ.set i (some (.d d))) (fun j hj => hi j (List.mem_cons_of_mem _ hj)) (h1.set (.inl ⟨d, rfl⟩)) (by rw [List.getElem?_set_ne (hi i List.mem_cons_self)]; exact h2)
theorem erase_map {α β : Type} (f : α → β) : ∀ (l : List α) (j : Nat), (l.map f).eraseIdx j = (l.eraseIdx j).map f
  | [], j => by simp
  | a :: r, 0 => by simp
  | a :: r, j + 1 => by
    have ih := erase_map f r j
    simp [ih]
theorem erase_set {α : Type} : ∀ (l : List α) (j : Nat) (x : α), (l.set j x).eraseIdx j = l.eraseIdx j
  | [], j, x => by simp
  | a :: r, 0, x => by simp
  | a :: r, j + 1, x => by
    have ih := erase_set r j x
    simp [ih]
theorem tw_unpT {is : List Nat} {ds : List PyData} {n : Nat} {g : TGs} (hg : g = gNames is) (his : ∀ j ∈ is, j ≠ 0) (h : Te K M0 te (gw γ A) (.d (.tuple ds))) (hn : ds.length = n) (hl : is.length = n) (k : Tw K tz (setAll γ is ds) A N R) :
    Tw K (tSeq (tAsg te (gTup K n g)) tz) γ A N R := fun hd h0 own σ H D E w nx r =>
  h H σ H (xs0 H) (E.gw h0 w) _ fun v H1 e1 hv => by
    have o1 : Out own own H H1 := Out.ex e1
    have E1 := E.dr hd e1.t
    refine tg_tup hg hn hl H1 σ H1 v (xs0 H1) E1 hv _ fun σ' E' _ => ?_
    obtain ⟨g1, g2⟩ := tw_run is ds γ his hd h0
    exact k g1 g2 own σ' H1 D E' (WAt.exx w e1) (fun γ2 o2 A2 σ2 H2 a b c d e f => nx γ2 o2 A2 σ2 H2 a (o1.trans b) c d e f) fun o2 A2 H2 a b c => r o2 A2 H2 a (o1.trans b) c
theorem tw_par {i j : Nat} {d1 d2 : PyData} {ta : TA} (hi : i ≠ 0) (hj : j ≠ 0) (h : Ta K M0 ta (gw γ A) [.d d1, .d d2]) (k : Tw K tz ((γ.set i (some (.d d1))).set j (some (.d d2))) A N R) : Tw K (tSeq (tPar i j ta) tz) γ A N R := fun hd h0 own σ H D E w nx r =>
  h H σ H (xs0 H) (E.gw h0 w) _ fun vs H1 e1 hv => by
    have o1 : Out own own H H1 := Out.ex e1
    have E1 := E.dr hd e1.t
    cases hv with
    | cons a b =>
      cases b with
      | cons b c =>
        cases c
        refine ⟨_, _, rfl, k ((hd.set (.inl ⟨d1, rfl⟩)).set (.inl ⟨d2, rfl⟩)) (by rw [List.getElem?_set_ne hj, List.getElem?_set_ne hi]; exact h0) own _ H1 D ((E1.set (s := .d d1) a rfl).set (s := .d d2) b rfl) (WAt.exx w e1) (fun γ2 o2 A2 σ2 H2 a b c d e f => nx γ2 o2 A2 σ2 H2 a (o1.trans b) c d e f) fun o2 A2 H2 a b c => r o2 A2 H2 a (o1.trans b) c⟩
/-- names, told, lost = a link -/
theorem tw_unpL {i j l : Nat} {q0 : LAd × Link} (hi : i ≠ 0) (hj : j ≠ 0) (hl : l ≠ 0) (h : Tx K te γ A (.ref q0.1.r)) (hq : q0 ∈ A.KS) (k : Tw K tz (((γ.set i (some (.r q0.1.p))).set j (some (.d (.int q0.2.t)))).set l (some (.r q0.1.q))) A N R) :
    Tw K (tSeq (tAsg te (gLst K 3 (gCons (gName i) (gCons (gName j) (gCons (gName l) gNil))))) tz) γ A N R := fun hd h0 own σ H D E w nx r =>
  h own σ H E w _ ⟨q0.1.r, _, rfl, .inl (.inl (w.ls _ hq).r.h), rfl, _, _, rfl, _, _, rfl, _, _, rfl, rfl, k (((hd.set (.inr ⟨_, rfl⟩)).set (.inl ⟨_, rfl⟩)).set (.inr ⟨_, rfl⟩)) (by rw [List.getElem?_set_ne hl, List.getElem?_set_ne hj, List.getElem?_set_ne hi]; exact h0) own _ H D (((E.set (s := .r q0.1.p) rfl rfl).set (s := .d (.int q0.2.t)) (Dat.int _) rfl).set (s := .r q0.1.q) rfl rfl) w nx r⟩
/-- links.pop(at) -/
theorem sub_nodup {α β : Type} {f : α → β} {l : List α} {i : Nat} (h : (l.map f).Nodup) : ((l.eraseIdx i).map f).Nodup := h.sublist ((List.eraseIdx_sublist l i).map f)
theorem tw_popL {j : Nat} {q0 : LAd × Link} (h0i : γ[0]? = some (some (.r A.w))) (hte : Tx K te γ A (.int (j : Int))) (hq : A.KS[j]? = some q0) (hz : A.KS.length ≤ 1000) (k : N γ { A with KS := A.KS.eraseIdx j }) :
    Tw K (tDrop (tBM K "list" rPopAt (tDGet (tVar 0) (tC (.str "links"))) (tCons te tNil))) γ A N R := fun hd h0 own σ H D E w n r => by
  have hjl := (List.getElem?_eq_some_iff.mp hq).1
  refine tx_key (j := 4) h0 rfl rfl own σ H E w _ ⟨.inl ⟨rfl, _, .inl (.inl w.ks.h)⟩, hte own σ H E w _ ⟨A.ks, _, (j : Int), j, .ref q0.1.r, rfl, rfl, w.ks.h, by omega, by omega, ?_, by rw [List.getElem?_map, hq]; rfl, ?_⟩⟩
  · rw [List.length_map]
    exact seqIndex_of (by omega) (by omega)
  · have e : (A.KS.map fun q => V.ref q.1.r).eraseIdx j = (A.KS.eraseIdx j).map fun q => V.ref q.1.r := erase_map _ _ _
    rw [e]
    exact tw_done hd (A' := { A with KS := A.KS.eraseIdx j }) h0 E n w.ks (w.upKs _ (fun q hq => w.ls q (List.mem_of_mem_eraseIdx hq)) (sub_nodup w.nr) (sub_nodup w.np) (sub_nodup w.nq)) k
theorem tw_popA {j v : Nat} {q0 : LAd × Link} (hv : v ≠ 0) (h0i : γ[0]? = some (some (.r A.w))) (hte : Tx K te γ A (.int (j : Int))) (hq : A.KS[j]? = some q0) (hz : A.KS.length ≤ 1000) (k : Tw K tz (γ.set v (some (.r q0.1.r))) { A with KS := A.KS.eraseIdx j } N R) :
    Tw K (tSeq (tAsg (tBM K "list" rPopAt (tDGet (tVar 0) (tC (.str "links"))) (tCons te tNil)) (gName v)) tz) γ A N R := fun hd h0 own σ H D E w n r => by
  have hjl := (List.getElem?_eq_some_iff.mp hq).1
  refine tx_key (j := 4) h0 rfl rfl own σ H E w _ ⟨.inl ⟨rfl, _, .inl (.inl w.ks.h)⟩, hte own σ H E w _ ⟨A.ks, _, (j : Int), j, .ref q0.1.r, rfl, rfl, w.ks.h, by omega, by omega, ?_, by rw [List.getElem?_map, hq]; rfl, ?_⟩⟩
  · rw [List.length_map]
    exact seqIndex_of (by omega) (by omega)
  · have e : (A.KS.map fun q => V.ref q.1.r).eraseIdx j = (A.KS.eraseIdx j).map fun q => V.ref q.1.r := erase_map _ _ _
    rw [e]
    have kk := kp_lst (o := HO.lst ((A.KS.eraseIdx j).map fun q => V.ref q.1.r)) w.ks.h
    have o1 : Out own own H _ := Out.upd w.ks kk
    exact k (hd.set (.inr ⟨_, rfl⟩)) (by rw [List.getElem?_set_ne hv]; exact h0) own _ _ D ((E.dr hd kk).set (s := .r q0.1.r) rfl rfl) (w.upKs _ (fun q hq => w.ls q (List.mem_of_mem_eraseIdx hq)) (sub_nodup w.nr) (sub_nodup w.np) (sub_nodup w.nq)) (fun γ2 o2 A2 σ2 H2 a b c d e f => n γ2 o2 A2 σ2 H2 a (o1.trans b) c d e f) fun o2 A2 H2 a b c => r o2 A2 H2 a (o1.trans b) c
end
def RW.goneL (W : RW) (t : Option Int) (n : Str) : RW :=
  let s := W.sdOf n
  let W1 : RW := { W.withSide s ((W.side s).erase n) with tx := W.tx.filter fun q => decide (q.1 ≠ n), mo := W.mo.filter fun q => decide (q.1 ≠ n), al := W.al.erase n }
  match W.at? n with
  | none => W1
  | some i => match W.ks[i]? with
    | none => W1
    | some l => if (l.side s).erase n = [] then { W1 with ks := W.ks.eraseIdx i } else match t with
      | none => { W1 with ks := W.ks.set i (l.withSide s ((l.side s).erase n)) }
      | some t => { W1 with ks := W.ks.set i ((l.withSide s ((l.side s).erase n)).withLost s (lateL (l.lost s) t)) }
structure GoneOk (W : RW) (n : Str) : Prop where
  s : n ∈ W.side (W.sdOf n)
  tx : n ∈ W.tx.map Prod.fst
  mo : n ∈ W.mo.map Prod.fst
  ks : KOk W
  kl : W.ks.length ≤ 100
  sl : ∀ s, (W.side s).length ≤ 100
  ls : ∀ l ∈ W.ks, n ∈ l.a ++ l.b → n ∈ l.side (W.sdOf n) ∧ ∀ m ∈ l.side (W.sdOf n), nOk m
variable {P : Program} {w : World} {K : PySem.W.Frag} {mg : Str → Option Value} {base : Heap}
theorem rw_setS (A : AW) (s : Bool) (ns : List Str) : (A.setS s ns).rw = A.rw.withSide s ns := by cases s <;> rfl
theorem at_of {W : RW} {n : Str} {i : Nat} (h : W.at? n = some i) : ∃ l, W.ks[i]? = some l ∧ n ∈ l.a ++ l.b := by
  unfold RW.at? at h
  rw [List.findIdx?_eq_some_iff_getElem] at h
  obtain ⟨h1, h2, _⟩ := h
  exact ⟨_, List.getElem?_eq_getElem h1, by simpa using h2⟩
theorem sc_law_gone : FnScope ["_law_world_here", "_law_t", "_law_name", "_law_side_here", "_law_at", "_law_names", "_law_told", "_law_lost"] ["_law_world_here", "_law_t", "_law_name"] (defScope (top 73)) := ⟨rfl, rfl, rfl, by decide +kernel, rfl, by decide +kernel, by decide +kernel⟩
abbrev Sp_law_gone (K : PySem.W.Frag) : Sp := spW K (α := Option Int × Str) (fun z A => GoneOk A.rw z.2) (fun z => [optD z.1, .str z.2]) (fun z A A' => A'.rw = A.rw.goneL z.1 z.2)
theorem kn_law_gone (W : Wld K mg w) : Kn P w K mg base "_law_gone" ["_law_world_here", "_law_t", "_law_name"] 3 (Sp_law_gone K) := by
  refine kn_world W.f_law_gone sc_law_gone (fun _ => rfl) (fun _ _ _ _ _ _ us hl => match us, hl with | [_, _, _], _ => rfl) fun f cdv A outer s H E hr => ⟨_, (pss_cons (ps_set (i := 3) sc_law_gone.nd rfl (by first | exact .inl rfl | exact .inr rfl) (pe_knK (K := K) (by rfl) (kn_law_side W) hr (by decide) (by rfl) (pa_cons (pv 0) (pa_cons (pv 2) pa_nil))))
    (pss_cons (ps_expr (pe_bmK (K := K) (by rfl) PySem.F.plainAttrs_list PySem.F.slot_list_remove PySem.F.type_list_remove mt_removeS (pe_ix (ix_seqK (K := K) (by rfl)) (pe_dget (hu_of hr) (pv 0) pe_str (fun _ _ => rfl)) (pv 3) (fun _ _ => rfl)) (pa_cons (pv 2) pa_nil)))
    (pss_cons (ps_expr (pe_dpop1 (pe_dget (hu_of hr) (pv 0) pe_str (fun _ _ => rfl)) (pv 2) ⟨rfl, rfl, rfl, rfl⟩))
    (pss_cons (ps_expr (pe_dpop1 (pe_dget (hu_of hr) (pv 0) pe_str (fun _ _ => rfl)) (pv 2) ⟨rfl, rfl, rfl, rfl⟩))
    (pss_cons (ps_if (pt_cmpR (op_inUK (K := K) (by rfl) hr.u65) (pv 2) (pe_dget (hu_of hr) (pv 0) pe_str (fun _ _ => rfl)) (by rfl)) (pss_one (ps_expr (pe_bmK (K := K) (by rfl) PySem.F.plainAttrs_list PySem.F.slot_list_remove PySem.F.type_list_remove mt_removeS (pe_dget (hu_of hr) (pv 0) pe_str (fun _ _ => rfl)) (pa_cons (pv 2) pa_nil)))) pss_nil)
    (pss_cons (ps_set (i := 4) sc_law_gone.nd rfl (by first | exact .inl rfl | exact .inr rfl) (pe_knK (K := K) (by rfl) (kn_law_link_at W) hr (by decide) (by rfl) (pa_cons (pv 0) (pa_cons (pv 2) pa_nil))))
    (pss_cons (ps_if (pt_cmpR op_isNo (pv 4) pe_non (nomark _)) (pss_one ps_retN) pss_nil)
    (pss_cons (ps_asg (pe_ix (ix_seqK (K := K) (by rfl)) (pe_dget (hu_of hr) (pv 0) pe_str (fun _ _ => rfl)) (pv 4) (fun _ _ => rfl)) (pg_lstK (n := 3) (K := K) (by rfl) rfl (pgs_cons (pg_name (i := 5) sc_law_gone.nd rfl (by first | exact .inl rfl | exact .inr rfl)) (pgs_cons (pg_name (i := 6) sc_law_gone.nd rfl (by first | exact .inl rfl | exact .inr rfl)) (pgs_cons (pg_name (i := 7) sc_law_gone.nd rfl (by first | exact .inl rfl | exact .inr rfl)) pgs_nil)))))
    (pss_cons (ps_expr (pe_bmK (K := K) (by rfl) PySem.F.plainAttrs_list PySem.F.slot_list_remove PySem.F.type_list_remove mt_removeS (pe_ix (ix_seqK (K := K) (by rfl)) (pv 5) (pv 3) (fun _ _ => rfl)) (pa_cons (pv 2) pa_nil)))
    (pss_one (ps_if (pt_cmpR (op_eqUK (K := K) (by rfl) hr.units) (pe_ix (ix_seqK (K := K) (by rfl)) (pv 5) (pv 3) (fun _ _ => rfl)) (pe_lst pa_nil) (nomark _)) (pss_one (ps_expr (pe_bmK (K := K) (by rfl) PySem.F.plainAttrs_list PySem.F.slot_list_pop PySem.F.type_list_pop mt_popAt (pe_dget (hu_of hr) (pv 0) pe_str (fun _ _ => rfl)) (pa_cons (pv 4) pa_nil)))) (pss_one (ps_if (pt_cmpR op_notNo (pv 1) pe_non (nomark _)) (pss_one (ps_expr (pe_knK (K := K) (by rfl) (kn_law_late W) hr (by decide) (by rfl) (pa_cons (pe_ix (ix_seqK (K := K) (by rfl)) (pv 7) (pv 3) (fun _ _ => rfl)) (pa_cons (pv 1) pa_nil))))) pss_nil))))))))))))), fun A z hz => ?_⟩
  obtain ⟨t, n⟩ := z
  have hg : GoneOk A.rw n := hz
  obtain ⟨s, hs⟩ : ∃ s, A.rw.sdOf n = s := ⟨_, rfl⟩
  have hside : ∀ b, A.rw.side b = A.S b := fun b => by cases b <;> rfl
  have hns : n ∈ A.S s := by rw [← hside, ← hs]; exact hg.s
  have htx : n ∈ A.TX.map Prod.fst := hg.tx
  have hmo : n ∈ A.MO.map Prod.fst := by
    have := hg.mo
    rw [show A.rw.mo.map Prod.fst = A.MO.map Prod.fst by show (A.MO.map fun q => (q.1, q.2.2)).map Prod.fst = _; rw [List.map_map]; rfl] at this
    exact this
  have hkl : A.KS.length ≤ 100 := by have := hg.kl; rw [show A.rw.ks = A.KS.map Prod.snd from rfl, List.length_map] at this; exact this
  let A4 : AW := { A.setS s ((A.S s).erase n) with TX := A.TX.filter fun q => decide (q.1 ≠ n), MO := A.MO.filter fun q => decide (q.1 ≠ n), AL := A.AL.erase n }
  have hA4 : ∀ l, ({ A4 with KS := l } : AW).rw = { A.rw.withSide s ((A.rw.side s).erase n) with tx := A.rw.tx.filter fun q => decide (q.1 ≠ n), mo := A.rw.mo.filter fun q => decide (q.1 ≠ n), al := A.rw.al.erase n, ks := l.map Prod.snd } := fun l => by
    have e : (A.MO.filter fun q => decide (q.1 ≠ n)).map (fun q => (q.1, q.2.2)) = (A.MO.map fun q => (q.1, q.2.2)).filter fun q => decide (q.1 ≠ n) := by rw [List.filter_map]; rfl
    cases s <;> (show (⟨_, _, _, (A.MO.filter fun q => decide (q.1 ≠ n)).map (fun q => (q.1, q.2.2)), _, _⟩ : RW) = _; rw [e]; rfl)
  refine tw_asgS (d := .int (sI s)) (by decide) (te_is (te_callF (A.rw, n) (ta_cons (te_var rfl) (ta_cons (te_var rfl) ta_nil)) trivial rfl rfl) (by simp only; rw [hs])) ?_
  refine tw_seq (N' := fun γ' A' => γ' = [some (.r A.w), some (.d (optD t)), some (.d (.str n)), some (.d (.int (sI s))), none, none, none, none] ∧ A' = A.setS s ((A.S s).erase n)) (tw_rem (tx_side rfl (tx_vint rfl)) (tx_vstr rfl) (fun own H w => ⟨_, w.cS s⟩) hns (fun own H w => w.upS s _) rfl ⟨rfl, rfl⟩) ?_
  rintro _ _ ⟨rfl, rfl⟩
  refine tw_seq (N' := fun γ' A' => γ' = [some (.r A.w), some (.d (optD t)), some (.d (.str n)), some (.d (.int (sI s))), none, none, none, none] ∧ A' = { A.setS s ((A.S s).erase n) with TX := A.TX.filter fun q => decide (q.1 ≠ n) }) (tw_dpopT rfl (tx_vstr rfl) htx ⟨rfl, rfl⟩) ?_
  rintro _ _ ⟨rfl, rfl⟩
  refine tw_seq (N' := fun γ' A' => γ' = [some (.r A.w), some (.d (optD t)), some (.d (.str n)), some (.d (.int (sI s))), none, none, none, none] ∧ A' = { A.setS s ((A.S s).erase n) with TX := A.TX.filter fun q => decide (q.1 ≠ n), MO := A.MO.filter fun q => decide (q.1 ≠ n) }) (tw_dpopM rfl (tx_vstr rfl) hmo ⟨rfl, rfl⟩) ?_
  rintro _ _ ⟨rfl, rfl⟩
  refine tw_seq (N' := fun γ' A' => γ' = [some (.r A.w), some (.d (optD t)), some (.d (.str n)), some (.d (.int (sI s))), none, none, none, none] ∧ A' = A4) ?_ ?_
  · refine tw_if (b := decide (n ∈ A.AL)) (tt_test (te_op (te_var rfl) (te_alone rfl) (rv_inStrL rfl))) (fun e => ?_) fun e => ?_
    · exact tw_rem (tx_key (j := 3) rfl rfl rfl) (tx_vstr rfl) (fun own H w => ⟨_, w.al⟩) (of_decide_eq_true e) (fun own H w => w.upAl _) rfl ⟨rfl, rfl⟩
    · refine tw_next ⟨rfl, ?_⟩
      have : A.AL.erase n = A.AL := List.erase_of_not_mem (of_decide_eq_false e)
      show _ = A4
      simp only [A4, this]
      rfl
  rintro _ _ ⟨rfl, rfl⟩
  have hat4 : A4.rw.at? n = A.rw.at? n := rfl
  cases hat : A.rw.at? n with
  | none =>
    refine tw_asgS (d := .none) (by decide) (te_is (te_callF (A4.rw, n) (ta_cons (te_var rfl) (ta_cons (te_var rfl) ta_nil)) hg.ks rfl rfl) (by simp only; rw [hat4, hat]; rfl)) ?_
    refine tw_ifS (b := true) (tt_test (te_op (te_var rfl) te_non rv_isN)) (fun _ => tw_retS ⟨?_, rfl⟩) fun e => nomatch e
    show A4.rw = A.rw.goneL t n
    have e1 := hA4 A.KS
    unfold RW.goneL
    simp only [hat, hs]
    exact e1.trans (by cases s <;> rfl)
  | some i =>
    obtain ⟨l, hl, hnl⟩ := at_of hat
    obtain ⟨⟨d, l'⟩, hq, el⟩ := get_map (show (A.KS.map Prod.snd)[i]? = some l from hl)
    have el' : l = l' := el
    subst el'
    have hmem := List.mem_of_getElem? hq
    have hil := (List.getElem?_eq_some_iff.mp hq).1
    obtain ⟨hls, hnok⟩ := hg.ls l (List.mem_of_getElem? hl) hnl
    rw [hs] at hls hnok
    refine tw_asgS (d := .int i) (by decide) (te_is (te_callF (A4.rw, n) (ta_cons (te_var rfl) (ta_cons (te_var rfl) ta_nil)) hg.ks rfl rfl) (by simp only; rw [hat4, hat]; rfl)) ?_
    refine tw_ifS (b := false) (tt_test (te_op (te_var rfl) te_non rv_isN)) (fun e => nomatch e) fun _ => tw_seq (N' := fun γ' A' => γ' = [some (.r A.w), some (.d (optD t)), some (.d (.str n)), some (.d (.int (sI s))), some (.d (.int i)), none, none, none] ∧ A' = A4) (tw_next ⟨rfl, rfl⟩) ?_
    rintro _ _ ⟨rfl, rfl⟩
    refine tw_unpL (q0 := (d, l)) (by decide) (by decide) (by decide) (tx_link rfl (tx_vint rfl) hq) hmem ?_
    let l1 := l.withSide s ((l.side s).erase n)
    let A5 : AW := { A4 with KS := A.KS.set i (d, l1) }
    refine tw_seq (N' := fun γ' A' => γ' = [some (.r A.w), some (.d (optD t)), some (.d (.str n)), some (.d (.int (sI s))), some (.d (.int i)), some (.r d.p), some (.d (.int l.t)), some (.r d.q)] ∧ A' = A5) (tw_rem (tx_lnames (tx_ref rfl) (tx_vint rfl) hmem) (tx_vstr rfl) (fun own H w => ⟨_, w.cN (q := (d, l)) hmem s⟩) hls (fun own H w => w.upN (q := (d, l)) hq s _) rfl ⟨rfl, rfl⟩) ?_
    rintro _ _ ⟨rfl, rfl⟩
    have hq5 : A5.KS[i]? = some (d, l1) := List.getElem?_set_self hil
    have hmem5 := List.mem_of_getElem? hq5
    have hks5 : ∀ x, (A.KS.set i (d, x)).map Prod.snd = A.rw.ks.set i x := fun x => by show _ = (A.KS.map Prod.snd).set i x; rw [List.map_set]
    refine tw_ifX (b := decide ((l.side s).erase n = [])) (ttx_nil (tx_lnames (tx_ref rfl) (tx_vint rfl) hmem5) (fun own H w => ⟨_, by have := w.cN (q := (d, l1)) hmem5 s; rw [side_with] at this; exact this⟩) fun m hm => hnok m (List.mem_of_mem_erase hm)) (fun e => ?_) fun e => ?_
    · refine tw_popL rfl (tx_vint rfl) hq5 (by show (A.KS.set i _).length ≤ 1000; rw [List.length_set]; omega) ⟨?_, rfl⟩
      show ({ A4 with KS := (A.KS.set i (d, l1)).eraseIdx i } : AW).rw = A.rw.goneL t n
      rw [hA4, erase_set]
      unfold RW.goneL
      simp only [hat, hs, hl, if_pos (of_decide_eq_true e)]
      rw [← erase_map]
      rfl
    · have e' := of_decide_eq_false e
      cases t with
      | none =>
        refine tw_if (b := false) (tt_test (te_op (te_var rfl) te_non rv_notN)) (fun e => nomatch e) fun _ => tw_next ⟨?_, rfl⟩
        show ({ A4 with KS := A.KS.set i (d, l1) } : AW).rw = A.rw.goneL none n
        rw [hA4, hks5]
        unfold RW.goneL
        simp only [hat, hs, hl, if_neg e']
        rfl
      | some t =>
        have hlo : (l.lost s).length ≤ 1000 := by
          have := hg.ks l (List.mem_of_getElem? hl)
          cases s
          · exact Nat.le_trans this.2.2.1 (by decide)
          · exact Nat.le_trans this.2.2.2 (by decide)
        refine tw_if (b := true) (tt_test (te_op (te_var rfl) te_non rv_notN)) (fun _ => ?_) fun e => nomatch e
        refine tw_callL (A' := { A5 with KS := A5.KS.set i (d, l1.withLost s (lateL (l.lost s) t)) }) (l.lost s, t) (txa_cons (tx_llost (tx_ref rfl) (tx_vint rfl) hmem5) (txa_cons (tx_vint rfl) txa_nil)) hlo (fun own H w => ⟨_, by have := w.cL (q := (d, l1)) hmem5 s; rw [lost_with] at this; exact this⟩) (fun own H w => w.upL (q := (d, l1)) hq5 s _) rfl ⟨?_, rfl⟩
        show ({ A4 with KS := (A.KS.set i (d, l1)).set i (d, l1.withLost s (lateL (l.lost s) t)) } : AW).rw = A.rw.goneL (some t) n
        rw [List.set_set, hA4, hks5]
        unfold RW.goneL
        simp only [hat, hs, hl, if_neg e']
        rfl
end Tw
namespace Tw
open PySem PySem.Spec PyProof.Rows L2
local macro_rules
  | `(tactic| walk_at "rv") => `(tactic| first
    | exact rv_ixT rfl | exact rv_addI | exact rv_sub | exact rv_ixL rfl rfl | exact rv_ixM rfl
    | exact rsl_T | exact rsl_L rfl
    | exact rv_inStrL rfl | exact rv_inStrT | exact rv_ninStrL rfl | exact rv_ninIntL rfl | exact rv_eqStr | exact rv_neStr | exact rv_eqInt | exact rv_neInt | exact rv_eqBl | exact rv_neBl
    | exact rv_lt | exact rv_gt | exact rv_ge | exact rv_leI | exact rv_leS | exact rv_isN | exact rv_notN
    | exact rc_lenT | exact rc_lenL rfl | exact rc_intB | exact rc_listT | exact rc_listL rfl | exact rc_tupleL rfl | exact rc_tupleT)
local macro_rules
  | `(tactic| walk_at "e1") => `(tactic| first
    | exact te_var rfl | exact te_int | exact te_str | exact te_bl | exact te_non | exact ta_nil | exact to_none
    | apply to_some | apply ta_cons | apply te_op | apply te_cb | apply te_sl
    | apply tt_B | apply tt_test | walk_at "rv")
local macro_rules
  | `(tactic| walk_at "e") => `(tactic| repeat walk_at "e1")

section
variable {K : PySem.W.Frag} {own : Own} {H H' : Hp} {σ : L2.St} {γ : G} {A : AW} {s : Sv} {te ta' tb to te1 te2 : TE} {tu tw tz : TS} {tt : TT} {N N' : G → AW → Prop} {R : AW → Prop} {i : Nat}
theorem nd_app {α β : Type} {f : α → β} {l : List α} {x : α} (h : (l.map f).Nodup) (hx : ∀ y ∈ l, f y ≠ f x) : ((l ++ [x]).map f).Nodup := by
  rw [List.map_append, List.nodup_append]
  refine ⟨h, by simp, fun a ha b hb => ?_⟩
  obtain ⟨y, hy, rfl⟩ := List.mem_map.mp ha
  simp at hb
  subst hb
  exact hx y hy
/-- new cells are owned -/
structure New (own own' : Own) (H : Hp) : Prop where
  o : ∀ a t, own a = some t → own' a = some t
  n : ∀ a o, own a = none → H a = some o → own' a = none
theorem WAt.none_of (w : WAt own H A) {p : Addr} (h : H p = none) : own p = none := by
  cases q : own p with
  | none => rfl
  | some t => exact absurd h (w.ex p (by rw [q]; exact fun z => nomatch z))
def tagIf (own : Own) (l : List (Addr × Tag)) : Own := fun a => match l.find? fun x => decide (x.1 = a) with
  | some x => some x.2
  | none => own a
theorem tagIf_mem {own : Own} {l : List (Addr × Tag)} {a : Addr} {t : Tag} (hn : (l.map Prod.fst).Nodup) (h : (a, t) ∈ l) : tagIf own l a = some t := by
  unfold tagIf
  cases e : l.find? fun x => decide (x.1 = a) with
  | none =>
    have := List.find?_eq_none.mp e _ h
    simp at this
  | some x =>
    have h1 := List.mem_of_find?_eq_some e
    have h2 : x.1 = a := by simpa using List.find?_some e
    obtain ⟨i, hi⟩ := List.mem_iff_getElem?.mp h1
    obtain ⟨j, hj⟩ := List.mem_iff_getElem?.mp h
    by_cases ne : j = i
    · subst ne
      rw [hi] at hj
      cases hj
      rfl
    · exact absurd h2.symm (nodup_ne (f := Prod.fst) hn hi hj ne)
theorem tagIf_no {own : Own} {l : List (Addr × Tag)} {a : Addr} (h : ∀ x ∈ l, x.1 ≠ a) : tagIf own l a = own a := by
  unfold tagIf
  rw [List.find?_eq_none.mpr fun x hx => by simpa using h x hx]
theorem some_ne {H : Hp} {a p : Addr} {o : HO} (h : H a = some o) (h2 : H p = none) : a ≠ p := fun e => by subst e; rw [h2] at h; cases h
/-- links.append([[list(a), list(b)], t, [[], []]]) -/
theorem tw_linkNew {a b : List Str} {t : Int} (h0i : γ[0]? = some (some (.r A.w))) (h1 : Te K M0 te1 (gw γ A) (.d (eNs a))) (h2 : Te K M0 te2 (gw γ A) (.d (eNs b))) (h3 : γ[3]? = some (some (.d (.int t)))) (hz : A.KS.length ≤ 1000) (k : ∀ d, N γ { A with KS := A.KS ++ [(d, ⟨a, b, t, [], []⟩)] }) :
    Tw K (tDrop (tBM K "list" rAppend (tDGet (tVar 0) (tC (.str "links"))) (tCons (tLst (tCons (tLst (tCons (tCB (rListU K) (tCons te1 tNil)) (tCons (tCB (rListU K) (tCons te2 tNil)) tNil))) (tCons (tVar 3) (tCons (tLst (tCons (tLst tNil) (tCons (tLst tNil) tNil))) tNil)))) tNil))) γ A N R := fun hd h0 own σ H D E w n r => by
  refine tx_key (j := 4) h0 rfl rfl own σ H E w _ ⟨.inl ⟨rfl, _, .inl (.inl w.ks.h)⟩, ?_⟩
  refine h1 H σ H (xs0 H) (E.gw h0 w) _ fun v1 H1 e1 hv1 => ?_
  cases hv1 with
  | @tup _ xs1 _ hs1 hd1 =>
  obtain rfl := str_dats hd1
  refine .inl ⟨_, _, rfl, .inr hs1, fun n0 hn0 => ?_⟩
  have x2 : Xm M0 H1 (upd H1 n0 (.lst (a.map V.str))) := Xm.new hn0
  have e2 := e1.trans x2
  generalize hH2 : upd H1 n0 (.lst (a.map V.str)) = H2 at *
  have c0 : H2 n0 = some (.lst (a.map V.str)) := by rw [← hH2]; exact upd_same
  refine h2 H2 σ H2 (xs0 H2) ((E.dr hd e2.t).gw h0 (WAt.exx w e2)) _ fun v2 H3 e3 hv2 => ?_
  cases hv2 with
  | @tup _ xs2 _ hs2 hd2 =>
  obtain rfl := str_dats hd2
  refine .inl ⟨_, _, rfl, .inr hs2, fun n1 hn1 => ?_⟩
  have x4 : Xm M0 H3 (upd H3 n1 (.lst (b.map V.str))) := Xm.new hn1
  generalize hH4 : upd H3 n1 (.lst (b.map V.str)) = H4 at *
  have c1 : H4 n1 = some (.lst (b.map V.str)) := by rw [← hH4]; exact upd_same
  refine ⟨Evl.sz_of (by simp), fun p hp => ?_⟩
  have x5 : Xm M0 H4 (upd H4 p (.lst [.ref n0, .ref n1])) := Xm.new hp
  generalize hH5 : upd H4 p (.lst [V.ref n0, .ref n1]) = H5 at *
  have cp : H5 p = some (.lst [.ref n0, .ref n1]) := by rw [← hH5]; exact upd_same
  obtain ⟨v3, hv3, hd3⟩ := E.get 3 _ h3
  cases hd3
  refine ⟨_, hv3, Nat.zero_le _, fun l0 hl0 => ?_⟩
  have x6 : Xm M0 H5 (upd H5 l0 (.lst [])) := Xm.new hl0
  generalize hH6 : upd H5 l0 (.lst []) = H6 at *
  have cl0 : H6 l0 = some (.lst []) := by rw [← hH6]; exact upd_same
  refine ⟨Nat.zero_le _, fun l1 hl1 => ?_⟩
  have x7 : Xm M0 H6 (upd H6 l1 (.lst [])) := Xm.new hl1
  generalize hH7 : upd H6 l1 (.lst []) = H7 at *
  have cl1 : H7 l1 = some (.lst []) := by rw [← hH7]; exact upd_same
  refine ⟨Evl.sz_of (by simp), fun q hq => ?_⟩
  have x8 : Xm M0 H7 (upd H7 q (.lst [.ref l0, .ref l1])) := Xm.new hq
  generalize hH8 : upd H7 q (.lst [V.ref l0, .ref l1]) = H8 at *
  have cq : H8 q = some (.lst [.ref l0, .ref l1]) := by rw [← hH8]; exact upd_same
  refine ⟨Evl.sz_of (by simp), fun rr hr => ?_⟩
  have x9 : Xm M0 H8 (upd H8 rr (.lst [.ref p, .int t, .ref q])) := Xm.new hr
  generalize hH9 : upd H8 rr (.lst [V.ref p, .int t, .ref q]) = H9 at *
  have cr : H9 rr = some (.lst [.ref p, .int t, .ref q]) := by rw [← hH9]; exact upd_same
  have y8 := x9
  have y7 := x8.trans y8
  have y6 := x7.trans y7
  have y5 := x6.trans y6
  have y4 := x5.trans y5
  have y2 := (e3.trans x4).trans y4
  have eA := e2.trans y2
  have w9 := WAt.exx w eA
  have E9 := E.dr hd eA.t
  -- they stand apart
  have d01 : n0 ≠ n1 := some_ne (x0 e3 _ _ c0) hn1
  have d0p : n0 ≠ p := some_ne (x0 (e3.trans x4) _ _ c0) hp
  have d1p : n1 ≠ p := some_ne c1 hp
  have d0l0 : n0 ≠ l0 := some_ne (x0 ((e3.trans x4).trans x5) _ _ c0) hl0
  have d1l0 : n1 ≠ l0 := some_ne (x0 x5 _ _ c1) hl0
  have dpl0 : p ≠ l0 := some_ne cp hl0
  have d0l1 : n0 ≠ l1 := some_ne (x0 (((e3.trans x4).trans x5).trans x6) _ _ c0) hl1
  have d1l1 : n1 ≠ l1 := some_ne (x0 (x5.trans x6) _ _ c1) hl1
  have dpl1 : p ≠ l1 := some_ne (x0 x6 _ _ cp) hl1
  have dl01 : l0 ≠ l1 := some_ne cl0 hl1
  have d0q : n0 ≠ q := some_ne (x0 ((((e3.trans x4).trans x5).trans x6).trans x7) _ _ c0) hq
  have d1q : n1 ≠ q := some_ne (x0 ((x5.trans x6).trans x7) _ _ c1) hq
  have dpq : p ≠ q := some_ne (x0 (x6.trans x7) _ _ cp) hq
  have dl0q : l0 ≠ q := some_ne (x0 x7 _ _ cl0) hq
  have dl1q : l1 ≠ q := some_ne cl1 hq
  have d0r : n0 ≠ rr := some_ne (x0 (((((e3.trans x4).trans x5).trans x6).trans x7).trans x8) _ _ c0) hr
  have d1r : n1 ≠ rr := some_ne (x0 (((x5.trans x6).trans x7).trans x8) _ _ c1) hr
  have dpr : p ≠ rr := some_ne (x0 ((x6.trans x7).trans x8) _ _ cp) hr
  have dl0r : l0 ≠ rr := some_ne (x0 (x7.trans x8) _ _ cl0) hr
  have dl1r : l1 ≠ rr := some_ne (x0 x8 _ _ cl1) hr
  have dqr : q ≠ rr := some_ne cq hr
  let L : List (Addr × Tag) := [(n0, .n p false), (n1, .n p true), (p, .p), (l0, .l q false), (l1, .l q true), (q, .q), (rr, .r)]
  have hnd : (L.map Prod.fst).Nodup := by
    simp only [L, List.map_cons, List.map_nil, List.nodup_cons, List.mem_cons, List.not_mem_nil, or_false, not_or, not_false_eq_true, List.nodup_nil, and_true]
    exact ⟨⟨d01, d0p, d0l0, d0l1, d0q, d0r⟩, ⟨d1p, d1l0, d1l1, d1q, d1r⟩, ⟨dpl0, dpl1, dpq, dpr⟩, ⟨dl01, dl0q, dl0r⟩, ⟨dl1q, dl1r⟩, dqr⟩
  -- none of them was there
  have bk : ∀ {Ha : Hp} {x : Addr}, Xm M0 H Ha → Ha x = none → H x = none := fun {Ha x} e h => by
    cases z : H x with
    | none => rfl
    | some o => rw [x0 e _ _ z] at h; cases h
  have hno : ∀ x ∈ L, H x.1 = none := fun x hx => by
    simp only [L, List.mem_cons, List.not_mem_nil, or_false] at hx
    have e4 := (e2.trans e3).trans x4
    rcases hx with rfl | rfl | rfl | rfl | rfl | rfl | rfl
    · exact bk e1 hn0
    · exact bk (e2.trans e3) hn1
    · exact bk e4 hp
    · exact bk (e4.trans x5) hl0
    · exact bk ((e4.trans x5).trans x6) hl1
    · exact bk (((e4.trans x5).trans x6).trans x7) hq
    · exact bk ((((e4.trans x5).trans x6).trans x7).trans x8) hr
  have hown : ∀ x ∈ L, own x.1 = none := fun x hx => w.none_of (hno x hx)
  have ho : ∀ x t, own x = some t → tagIf own L x = some t := fun x t h => by
    rw [tagIf_no fun y hy e => by rw [← e, hown y hy] at h; cases h]
    exact h
  have ex9 : ∀ x, tagIf own L x ≠ none → H9 x ≠ none := fun x hx => by
    by_cases hm : ∃ y ∈ L, y.1 = x
    · obtain ⟨y, hy, rfl⟩ := hm
      simp only [L, List.mem_cons, List.not_mem_nil, or_false] at hy
      rcases hy with rfl | rfl | rfl | rfl | rfl | rfl | rfl
      · rw [x0 y2 _ _ c0]; exact fun z => nomatch z
      · rw [x0 y4 _ _ c1]; exact fun z => nomatch z
      · rw [x0 y5 _ _ cp]; exact fun z => nomatch z
      · rw [x0 y6 _ _ cl0]; exact fun z => nomatch z
      · rw [x0 y7 _ _ cl1]; exact fun z => nomatch z
      · rw [x0 y8 _ _ cq]; exact fun z => nomatch z
      · rw [cr]; exact fun z => nomatch z
    · rw [tagIf_no fun y hy e => hm ⟨y, hy, e⟩] at hx
      exact w9.ex x hx
  have w' : WAt (tagIf own L) H9 A := w9.ext ho (fun _ _ _ _ h => h) ex9
  let d : LAd := ⟨rr, p, q, n0, n1, l0, l1⟩
  have hl : LAt (tagIf own L) H9 d ⟨a, b, t, [], []⟩ :=
    ⟨⟨tagIf_mem hnd (by simp [L, d]), cr⟩, ⟨tagIf_mem hnd (by simp [L, d]), x0 y5 _ _ cp⟩, ⟨tagIf_mem hnd (by simp [L, d]), x0 y8 _ _ cq⟩, ⟨tagIf_mem hnd (by simp [L, d]), x0 y2 _ _ c0⟩, ⟨tagIf_mem hnd (by simp [L, d]), x0 y4 _ _ c1⟩, ⟨tagIf_mem hnd (by simp [L, d]), x0 y6 _ _ cl0⟩, ⟨tagIf_mem hnd (by simp [L, d]), x0 y7 _ _ cl1⟩⟩
  have fr : ∀ {x : Addr} {tg : Tag}, own x = some tg → ∀ y ∈ L, x ≠ y.1 := fun {x tg} h y hy e => by rw [e, hown y hy] at h; cases h
  refine ⟨A.ks, _, .ref rr, rfl, rfl, w9.ks.h, Evl.sz_lt (by rw [List.length_map]; omega), ?_⟩
  have up := w'.upKs (A.KS ++ [(d, ⟨a, b, t, [], []⟩)]) (fun z hz => by
      rcases List.mem_append.mp hz with h | h
      · exact w'.ls z h
      · simp at h
        subst h
        exact hl) (nd_app w.nr fun y hy => fr (w.ls y hy).r.o (rr, .r) (by simp [L])) (nd_app w.np fun y hy => fr (w.ls y hy).p.o (p, .p) (by simp [L])) (nd_app w.nq fun y hy => fr (w.ls y hy).q.o (q, .q) (by simp [L]))
  have e : ((A.KS ++ [(d, (⟨a, b, t, [], []⟩ : Link))]).map fun q => V.ref q.1.r) = (A.KS.map fun q => V.ref q.1.r) ++ [V.ref rr] := by rw [List.map_append]; rfl
  rw [e] at up
  have kk := kp_lst (o := HO.lst ((A.KS.map fun q => V.ref q.1.r) ++ [V.ref rr])) w9.ks.h
  refine n γ (tagIf own L) _ σ _ (k d) ⟨eA.t.trans kk, fun x o z1 z2 => ?_⟩ hd h0 (E9.dr hd kk) up
  have nx : ∀ y ∈ L, y.1 ≠ x := fun y hy e => by rw [← e, hno y hy] at z2; cases z2
  refine ⟨by rw [upd_ne (fun e => by subst e; rw [w.ks.o] at z1; cases z1)]; exact x0 eA _ _ z2, ?_⟩
  rw [tagIf_no nx]
  exact z1
/-- link = links.pop(at), then links.append([link[0], t, [[], []]]) if the word is so -/
theorem tw_relink {v c : Str} {t : Int} {j : Nat} {q0 : LAd × Link} (h0i : γ[0]? = some (some (.r A.w))) (h6 : 6 < γ.length) (hte : Tx K te γ A (.int (j : Int))) (hq0 : A.KS[j]? = some q0) (hz : A.KS.length ≤ 1000) (h2v : γ[2]? = some (some (.d (.str v)))) (h3 : γ[3]? = some (some (.d (.int t))))
    (k0 : v ≠ c → N (γ.set 6 (some (.r q0.1.r))) { A with KS := A.KS.eraseIdx j }) (k1 : v = c → ∀ d, N (γ.set 6 (some (.r q0.1.r))) { A with KS := A.KS.eraseIdx j ++ [(d, ⟨q0.2.a, q0.2.b, t, [], []⟩)] }) :
    Tw K (tSeq (tAsg (tBM K "list" rPopAt (tDGet (tVar 0) (tC (.str "links"))) (tCons te tNil)) (gName 6)) (tIfS (tTest (tOp (rEqU K) (tVar 2) (tC (.str c)))) (tDrop (tBM K "list" rAppend (tDGet (tVar 0) (tC (.str "links"))) (tCons (tLst (tCons (tOp (rIx K) (tVar 6) (tC (.int 0))) (tCons (tVar 3) (tCons (tLst (tCons (tLst tNil) (tCons (tLst tNil) tNil))) tNil)))) tNil))) tNext)) γ A N R := fun hd h0 own σ H D E w n r => by
  have hjl := (List.getElem?_eq_some_iff.mp hq0).1
  have hmem := List.mem_of_getElem? hq0
  refine tx_key (j := 4) h0 rfl rfl own σ H E w _ ⟨.inl ⟨rfl, _, .inl (.inl w.ks.h)⟩, hte own σ H E w _ ⟨A.ks, _, (j : Int), j, .ref q0.1.r, rfl, rfl, w.ks.h, by omega, by omega, ?_, by rw [List.getElem?_map, hq0]; rfl, ?_⟩⟩
  · rw [List.length_map]
    exact seqIndex_of (by omega) (by omega)
  have e : (A.KS.map fun q => V.ref q.1.r).eraseIdx j = (A.KS.eraseIdx j).map fun q => V.ref q.1.r := erase_map _ _ _
  rw [e]
  have kk := kp_lst (o := HO.lst ((A.KS.eraseIdx j).map fun q => V.ref q.1.r)) w.ks.h
  have o1 : Out own own H _ := Out.upd w.ks kk
  have w1 := w.upKs _ (fun q hq => w.ls q (List.mem_of_mem_eraseIdx hq)) (sub_nodup (i := j) w.nr) (sub_nodup (i := j) w.np) (sub_nodup (i := j) w.nq)
  have l1 : LAt own (upd H A.ks (.lst ((A.KS.eraseIdx j).map fun q => V.ref q.1.r))) q0.1 q0.2 := (w.ls q0 hmem).upd w.ks.o (clean_of (fun e => nomatch e) (fun e => nomatch e) (fun e => nomatch e) (fun _ _ e => nomatch e) (fun _ _ e => nomatch e))
  have hd1 : DR (γ.set 6 (some (.r q0.1.r))) := hd.set (.inr ⟨_, rfl⟩)
  have h01 : (γ.set 6 (some (.r q0.1.r)))[0]? = some (some (.r A.w)) := by rw [List.getElem?_set_ne (by decide)]; exact h0
  have E1 := (E.dr hd kk).set (i := 6) (v := .ref q0.1.r) (s := .r q0.1.r) rfl rfl
  generalize hH1 : upd H A.ks (.lst ((A.KS.eraseIdx j).map fun q => V.ref q.1.r)) = H1 at *
  show tIfS (tTest (tOp (rEqU K) (tVar 2) (tC (.str c)))) (tDrop (tBM K "list" rAppend (tDGet (tVar 0) (tC (.str "links"))) (tCons (tLst (tCons (tOp (rIx K) (tVar 6) (tC (.int 0))) (tCons (tVar 3) (tCons (tLst (tCons (tLst tNil) (tCons (tLst tNil) tNil))) tNil)))) tNil))) tNext D (σ.set 6 (some (V.ref q0.1.r))) H1
  have tt1 : Tt K M0 (tTest (tOp (rEqU K) (tVar 2) (tC (.str c)))) (γ.set 6 (some (.r q0.1.r))) (decide (v = c)) := tt_test (te_op (te_var (by rw [List.getElem?_set_ne (by decide)]; exact h2v)) te_str rv_eqStr)
  refine tt1 H1 _ H1 (xs0 H1) E1 _ fun H2 e2 => ?_
  have w2 := WAt.exx w1 e2
  have E2 := E1.dr hd1 e2.t
  by_cases hvc : v = c
  case neg =>
    rw [decide_eq_false hvc]
    exact n _ own _ _ H2 (k0 hvc) (o1.trans (Out.ex e2)) hd1 h01 E2 w2
  rw [decide_eq_true hvc]
  have l2 : LAt own H2 q0.1 q0.2 := l1.ext (fun _ _ h => h) fun a t o _ h => x0 e2 _ _ h
  show (tDrop (tBM K "list" rAppend (tDGet (tVar 0) (tC (.str "links"))) (tCons (tLst (tCons (tOp (rIx K) (tVar 6) (tC (.int 0))) (tCons (tVar 3) (tCons (tLst (tCons (tLst tNil) (tCons (tLst tNil) tNil))) tNil)))) tNil))) D (σ.set 6 (some (V.ref q0.1.r))) H2
  refine tx_key (A := { A with KS := A.KS.eraseIdx j }) (j := 4) h01 rfl rfl own _ H2 E2 w2 _ ⟨.inl ⟨rfl, _, .inl (.inl w2.ks.h)⟩, ?_⟩
  have h6' : (γ.set 6 (some (.r q0.1.r)))[6]? = some (some (.r q0.1.r)) := List.getElem?_set_self h6
  obtain ⟨v6, hv6, rfl⟩ := E2.get 6 _ h6'
  refine ⟨_, hv6, .inl ⟨q0.1.r, _, 0, .ref q0.1.p, rfl, rfl, .inl (.inl l2.r.h), rfl, ?_⟩⟩
  obtain ⟨v3, hv3, hd3⟩ := E2.get 3 _ (show (γ.set 6 (some (.r q0.1.r)))[3]? = _ by rw [List.getElem?_set_ne (by decide)]; exact h3)
  cases hd3
  refine ⟨_, hv3, Nat.zero_le _, fun l0 hl0 => ?_⟩
  have x6 : Xm M0 H2 (upd H2 l0 (.lst [])) := Xm.new hl0
  generalize hH6 : upd H2 l0 (.lst []) = H6 at *
  have cl0 : H6 l0 = some (.lst []) := by rw [← hH6]; exact upd_same
  refine ⟨Nat.zero_le _, fun l1' hl1 => ?_⟩
  have x7 : Xm M0 H6 (upd H6 l1' (.lst [])) := Xm.new hl1
  generalize hH7 : upd H6 l1' (.lst []) = H7 at *
  have cl1 : H7 l1' = some (.lst []) := by rw [← hH7]; exact upd_same
  refine ⟨Evl.sz_of (by simp), fun q hq => ?_⟩
  have x8 : Xm M0 H7 (upd H7 q (.lst [.ref l0, .ref l1'])) := Xm.new hq
  generalize hH8 : upd H7 q (.lst [V.ref l0, .ref l1']) = H8 at *
  have cq : H8 q = some (.lst [.ref l0, .ref l1']) := by rw [← hH8]; exact upd_same
  refine ⟨Evl.sz_of (by simp), fun rr hr => ?_⟩
  have x9 : Xm M0 H8 (upd H8 rr (.lst [.ref q0.1.p, .int t, .ref q])) := Xm.new hr
  generalize hH9 : upd H8 rr (.lst [V.ref q0.1.p, .int t, .ref q]) = H9 at *
  have cr : H9 rr = some (.lst [.ref q0.1.p, .int t, .ref q]) := by rw [← hH9]; exact upd_same
  have y8 := x9
  have y7 := x8.trans y8
  have y6 := x7.trans y7
  have eA := x6.trans y6
  have w9 := WAt.exx w2 eA
  have E9 := E2.dr hd1 eA.t
  have dl01 : l0 ≠ l1' := some_ne cl0 hl1
  have dl0q : l0 ≠ q := some_ne (x0 x7 _ _ cl0) hq
  have dl1q : l1' ≠ q := some_ne cl1 hq
  have dl0r : l0 ≠ rr := some_ne (x0 (x7.trans x8) _ _ cl0) hr
  have dl1r : l1' ≠ rr := some_ne (x0 x8 _ _ cl1) hr
  have dqr : q ≠ rr := some_ne cq hr
  let L : List (Addr × Tag) := [(l0, .l q false), (l1', .l q true), (q, .q), (rr, .r)]
  have hnd : (L.map Prod.fst).Nodup := by
    simp only [L, List.map_cons, List.map_nil, List.nodup_cons, List.mem_cons, List.not_mem_nil, or_false, not_or, not_false_eq_true, List.nodup_nil, and_true]
    exact ⟨⟨dl01, dl0q, dl0r⟩, ⟨dl1q, dl1r⟩, dqr⟩
  have bk : ∀ {Ha : Hp} {x : Addr}, Xm M0 H2 Ha → Ha x = none → H2 x = none := fun {Ha x} e h => by
    cases z : H2 x with
    | none => rfl
    | some o => rw [x0 e _ _ z] at h; cases h
  have hno : ∀ x ∈ L, H2 x.1 = none := fun x hx => by
    simp only [L, List.mem_cons, List.not_mem_nil, or_false] at hx
    rcases hx with rfl | rfl | rfl | rfl
    · exact hl0
    · exact bk x6 hl1
    · exact bk (x6.trans x7) hq
    · exact bk ((x6.trans x7).trans x8) hr
  have hown : ∀ x ∈ L, own x.1 = none := fun x hx => w2.none_of (hno x hx)
  have ho : ∀ x t, own x = some t → tagIf own L x = some t := fun x t h => by
    rw [tagIf_no fun y hy e => by rw [← e, hown y hy] at h; cases h]
    exact h
  have ex9 : ∀ x, tagIf own L x ≠ none → H9 x ≠ none := fun x hx => by
    by_cases hm : ∃ y ∈ L, y.1 = x
    · obtain ⟨y, hy, rfl⟩ := hm
      simp only [L, List.mem_cons, List.not_mem_nil, or_false] at hy
      rcases hy with rfl | rfl | rfl | rfl
      · rw [x0 y6 _ _ cl0]; exact fun z => nomatch z
      · rw [x0 y7 _ _ cl1]; exact fun z => nomatch z
      · rw [x0 y8 _ _ cq]; exact fun z => nomatch z
      · rw [cr]; exact fun z => nomatch z
    · rw [tagIf_no fun y hy e => hm ⟨y, hy, e⟩] at hx
      exact w9.ex x hx
  have w' : WAt (tagIf own L) H9 { A with KS := A.KS.eraseIdx j } := w9.ext ho (fun _ _ _ _ h => h) ex9
  let d : LAd := ⟨rr, q0.1.p, q, q0.1.n0, q0.1.n1, l0, l1'⟩
  have l9 : LAt (tagIf own L) H9 q0.1 q0.2 := l2.ext ho fun a t o _ h => x0 eA _ _ h
  have hl : LAt (tagIf own L) H9 d ⟨q0.2.a, q0.2.b, t, [], []⟩ :=
    ⟨⟨tagIf_mem hnd (by simp [L, d]), cr⟩, l9.p, ⟨tagIf_mem hnd (by simp [L, d]), x0 y8 _ _ cq⟩, l9.n0, l9.n1, ⟨tagIf_mem hnd (by simp [L, d]), x0 y6 _ _ cl0⟩, ⟨tagIf_mem hnd (by simp [L, d]), x0 y7 _ _ cl1⟩⟩
  have fr : ∀ {x : Addr} {tg : Tag}, own x = some tg → ∀ y ∈ L, x ≠ y.1 := fun {x tg} h y hy e => by rw [e, hown y hy] at h; cases h
  refine ⟨A.ks, _, .ref rr, rfl, rfl, w9.ks.h, Evl.sz_lt (by rw [List.length_map, List.length_eraseIdx]; split <;> omega), ?_⟩
  have np : ∀ y ∈ A.KS.eraseIdx j, y.1.p ≠ d.p := fun y hy => by
    obtain ⟨m, hm⟩ := List.mem_iff_getElem?.mp hy
    rw [List.getElem?_eraseIdx] at hm
    split at hm
    · exact nodup_ne (f := fun q : LAd × Link => q.1.p) w.np hq0 hm (by omega)
    · exact nodup_ne (f := fun q : LAd × Link => q.1.p) w.np hq0 hm (by omega)
  have up := w'.upKs (A.KS.eraseIdx j ++ [(d, ⟨q0.2.a, q0.2.b, t, [], []⟩)]) (fun z hz => by
      rcases List.mem_append.mp hz with h | h
      · exact w'.ls z h
      · simp at h
        subst h
        exact hl) (nd_app w1.nr fun y hy => fr (w1.ls y hy).r.o (rr, .r) (by simp [L])) (nd_app w1.np np) (nd_app w1.nq fun y hy => fr (w1.ls y hy).q.o (q, .q) (by simp [L]))
  have e : ((A.KS.eraseIdx j ++ [(d, (⟨q0.2.a, q0.2.b, t, [], []⟩ : Link))]).map fun q => V.ref q.1.r) = ((A.KS.eraseIdx j).map fun q => V.ref q.1.r) ++ [V.ref rr] := by rw [List.map_append]; rfl
  rw [e] at up
  have kk2 := kp_lst (o := HO.lst (((A.KS.eraseIdx j).map fun q => V.ref q.1.r) ++ [V.ref rr])) w9.ks.h
  refine n _ (tagIf own L) _ _ _ (k1 hvc d) ((o1.trans (Out.ex e2)).trans ⟨eA.t.trans kk2, fun x o z1 z2 => ?_⟩) hd1 h01 (E9.dr hd1 kk2) up
  have nx : ∀ y ∈ L, y.1 ≠ x := fun y hy e => by rw [← e, hno y hy] at z2; cases z2
  refine ⟨by rw [upd_ne (fun e => by subst e; rw [w2.ks.o] at z1; cases z1)]; exact x0 eA _ _ z2, ?_⟩
  rw [tagIf_no nx]
  exact z1
end
end Tw
namespace Tw
open PySem PySem.Spec PyProof.Rows L2
local macro_rules
  | `(tactic| walk_at "rv") => `(tactic| first
    | exact rv_ixT rfl | exact rv_addI | exact rv_sub | exact rv_ixL rfl rfl | exact rv_ixM rfl
    | exact rsl_T | exact rsl_L rfl
    | exact rv_inStrL rfl | exact rv_inStrT | exact rv_ninStrL rfl | exact rv_ninIntL rfl | exact rv_eqStr | exact rv_neStr | exact rv_eqInt | exact rv_neInt | exact rv_eqBl | exact rv_neBl
    | exact rv_lt | exact rv_gt | exact rv_ge | exact rv_leI | exact rv_leS | exact rv_isN | exact rv_notN
    | exact rc_lenT | exact rc_lenL rfl | exact rc_intB | exact rc_listT | exact rc_listL rfl | exact rc_tupleL rfl | exact rc_tupleT)
local macro_rules
  | `(tactic| walk_at "e1") => `(tactic| first
    | exact te_var rfl | exact te_int | exact te_str | exact te_bl | exact te_non | exact ta_nil | exact to_none
    | apply to_some | apply ta_cons | apply te_op | apply te_cb | apply te_sl
    | apply tt_B | apply tt_test | walk_at "rv")
local macro_rules
  | `(tactic| walk_at "e") => `(tactic| repeat walk_at "e1")

section
variable {K : PySem.W.Frag} {own : Own} {H H' : Hp} {σ : L2.St} {γ : G} {A : AW} {tl : TE} {tu : TS} {N : G → AW → Prop} {R : AW → Prop}
theorem tw_forL {a : Addr} {ms : List Int} {j : Nat} (I : Nat → AW → Prop) (Fr : G → Prop) (hj : j ≠ 0) (hx : Tx K tl γ A (.ref a)) (hI : ∀ i A', I i A' → ∃ n, (n, a, ms) ∈ A'.MO) (h0 : I 0 A) (hF : Fr γ)
    (hs : ∀ i m γ1 A1, ms[i]? = some m → I i A1 → Fr γ1 → Tw K tu (γ1.set j (some (.d (.int m)))) A1 (fun γ2 A2 => Fr γ2 ∧ I (i + 1) A2) R) (hd : ∀ γ1 A1, Fr γ1 → I ms.length A1 → N γ1 A1) : Tw K (tFor (iList K tl) (gName j) tu) γ A N R := fun hdr h00 own σ H D E w n r => by
  have cell : ∀ {i : Nat} {A1 : AW} {own1 : Own} {H1 : Hp}, I i A1 → WAt own1 H1 A1 → H1 a = some (.lst (ms.map V.int)) := fun {i A1 own1 H1} hi w1 => by
    obtain ⟨n, hn⟩ := hI i A1 hi
    exact (w1.ms _ hn).h
  refine hx own σ H E w _ ⟨a, rfl, ⟨_, .inl (.inl (cell h0 w))⟩, ?_⟩
  refine ⟨fun i m σ' H' => m = ms.length - i ∧ i ≤ ms.length ∧ ∃ γ1 own1 A1, I i A1 ∧ Fr γ1 ∧ Out own own1 H H' ∧ DR γ1 ∧ γ1[0]? = some (some (.r A1.w)) ∧ En K M0 H' H' σ' γ1 ∧ WAt own1 H' A1, ⟨_, rfl, Nat.zero_le _, γ, own, A, h0, hF, Out.refl, hdr, h00, E, w⟩, ?_⟩
  rintro i m σ' H' ⟨rfl, hi, γ1, own1, A1, hI1, hF1, o1, d1, z1, E1, w1⟩
  have c := cell hI1 w1
  by_cases hl : i < ms.length
  · refine .inr ⟨⟨_, .int ms[i], .inl (.inl c), by rw [List.getElem?_map, List.getElem?_eq_getElem hl]; rfl⟩, fun σ2 H2 => ∃ γ3 own3 A3, I (i + 1) A3 ∧ Fr γ3 ∧ Out own own3 H H2 ∧ DR γ3 ∧ γ3[0]? = some (some (.r A3.w)) ∧ En K M0 H2 H2 σ2 γ3 ∧ WAt own3 H2 A3, fun σ2 H2 h => ⟨ms.length - (i + 1), by omega, rfl, hl, h⟩, fun v H2 hy => ?_⟩
    obtain ⟨rfl, hyf⟩ := hy
    have hv := hyf _ (.inl (.inl c))
    rw [List.getElem?_map, List.getElem?_eq_getElem hl] at hv
    cases hv
    exact hs i ms[i] γ1 A1 (List.getElem?_eq_getElem hl) hI1 hF1 (d1.set (.inl ⟨_, rfl⟩)) (by rw [List.getElem?_set_ne hj]; exact z1) own1 _ _ _ (E1.set (s := .d (.int ms[i])) (Dat.int _) rfl) w1 (fun γ3 own3 A3 σ4 H4 a b c d e f => ⟨γ3, own3, A3, a.2, a.1, o1.trans b, c, d, e, f⟩) fun own3 A3 H4 a b c => r own3 A3 H4 a (o1.trans b) c
  · have e : i = ms.length := by omega
    subst e
    exact .inl ⟨⟨_, .inl (.inl c), by rw [List.length_map]; omega⟩, n γ1 own1 A1 σ' H' (hd γ1 A1 hF1 hI1) o1 d1 z1 E1 w1⟩
end
def putMo (l : List (Str × List Int)) (n : Str) (ms : List Int) : List (Str × List Int) := l.map fun q => if q.1 = n then (q.1, ms) else q
def RW.partL (W : RW) (n : Str) (i : Nat) (m : Str) : RW :=
  let W1 : RW := { W.withSide (W.sdOf n) (insN (W.side (W.sdOf n)) n m) with tx := putT (putT W.tx m (cutS (W.txt n) (some (i : Int)) none)) n (cutS (W.txt n) none (some (i : Int))), mo := W.mo ++ [(m, W.mom n)] }
  match W.at? n with
  | some j => match W.ks[j]? with
    | some l => { W1 with ks := W.ks.set j (l.withSide (W.sdOf n) (l.side (W.sdOf n) ++ [m])) }
    | none => W1
  | none => if n ∈ W.al then { W1 with al := W.al ++ [m] } else W1
def RW.chgL (W : RW) (t : Int) (n x : Str) : RW := { W with tx := putT W.tx n x, mo := putMo W.mo n (lateL (W.mom n) t) }
/-- the world behind a deed -/
def RW.doesL (W : RW) : Deed → RW
  | .put t s h n x => { W.withSide s (insN (W.side s) h n) with tx := putT W.tx n x, mo := W.mo ++ [(n, [t])] }
  | .take t n => W.goneL (some t) n
  | .part _ n i m => W.partL n i m
  | .join _ n o => ({ W with tx := putT W.tx n (W.txt n ++ W.txt o), mo := putMo W.mo n ((W.mom o).foldl lateL (W.mom n)) } : RW).goneL none o
  | .move _ n h => W.withSide (W.sdOf n) (insN ((W.side (W.sdOf n)).erase n) h n)
  | .change t n x => W.chgL t n x
  | .word t n i o => match wordedL (W.txt n) i o with
    | some x => W.chgL t n x
    | none => W
  | .link t a c => { W with ks := W.ks ++ [⟨a, c, t, [], []⟩] }
  | .loose _ n => match W.at? n with
    | some j => { W with ks := W.ks.eraseIdx j }
    | none => W
  | .step t n => match W.at? n with
    | some j => match W.ks[j]? with
      | some l => { W with ks := W.ks.eraseIdx j ++ [⟨l.a, l.b, t, [], []⟩] }
      | none => W
    | none => W
  | .alone _ n => { W with al := W.al ++ [n] }
  | .lack _ n => { W with al := W.al.erase n }
structure WInv (W : RW) : Prop where
  ok : WOk W
  keys : W.mo.map Prod.fst = W.tx.map Prod.fst
  nd : ∀ s, (W.side s).Nodup
  dj : ∀ n ∈ W.s0, n ∉ W.s1
  lc : ∀ l ∈ W.ks, ∀ s, ∀ n ∈ l.side s, n ∈ W.side s
  ml : ∀ q ∈ W.mo, q.2.length ≤ 42
theorem sd_of {W : RW} (hd : ∀ n ∈ W.s0, n ∉ W.s1) {n : Str} {s : Bool} (h : n ∈ W.side s) : W.sdOf n = s := by
  unfold RW.sdOf
  cases s with
  | false => exact decide_eq_false (hd n h)
  | true => exact decide_eq_true h
theorem names_side {W : RW} {n : Str} (h : n ∈ W.names) : ∃ s, n ∈ W.side s := by
  rcases List.mem_append.mp h with h | h
  · exact ⟨false, h⟩
  · exact ⟨true, h⟩
theorem names_sd {W : RW} (hd : ∀ n ∈ W.s0, n ∉ W.s1) {n : Str} (h : n ∈ W.names) : n ∈ W.side (W.sdOf n) := by
  obtain ⟨s, hs⟩ := names_side h
  rw [sd_of hd hs]
  exact hs
theorem gone_ok {W : RW} (hw : WInv W) {n : Str} (h : n ∈ W.names) : GoneOk W n where
  s := names_sd hw.dj h
  tx := hw.ok.tx _ n (names_sd hw.dj h)
  mo := hw.ok.mo _ n (names_sd hw.dj h)
  ks := hw.ok.ka
  kl := hw.ok.lk
  sl := hw.ok.ls
  ls := fun l hl hn => by
    have key : n ∈ l.side (W.sdOf n) := by
      rcases List.mem_append.mp hn with h1 | h1
      · have := sd_of hw.dj (hw.lc l hl false n h1)
        rw [this]
        exact h1
      · have := sd_of hw.dj (hw.lc l hl true n h1)
        rw [this]
        exact h1
    exact ⟨key, fun m hm => hw.ok.nk _ m (hw.lc l hl _ m hm)⟩
theorem mo_put (l : List (Str × Addr × List Int)) (n : Str) (ms : List Int) : (putM l n ms).map (fun q => (q.1, q.2.2)) = putMo (l.map fun q => (q.1, q.2.2)) n ms := by
  unfold putM putMo
  rw [List.map_map, List.map_map]
  refine List.map_congr_left fun q _ => ?_
  simp only [Function.comp]
  split <;> rfl
def Deed.isParts : Deed → Bool
  | .put .. => true
  | .part .. => true
  | .join .. => true
  | .move .. => true
  | _ => false
theorem mo_lookup {A : AW} {n : Str} {ms : List Int} (h : A.rw.mo.lookup n = some ms) : ∃ a, (n, a, ms) ∈ A.MO := by
  obtain ⟨i, hi⟩ := lookup_at h
  obtain ⟨q, hq, e⟩ := get_map hi
  cases e
  exact ⟨q.2.1, List.mem_of_getElem? hq⟩
variable {P : Program} {w : World} {K : PySem.W.Frag} {mg : Str → Option Value} {base : Heap}
section
variable {γ : G} {A : AW} {i : Nat}
theorem tx_ixS {ds : List PyData} {k : Int} {x : Str} (h : γ[i]? = some (some (.d (.tuple ds)))) (e : atI ds k = some (.str x)) : Tx K (tOp (rIx K) (tVar i) (tC (.int k))) γ A (.str x) := fun own σ H E w Q q => by
  obtain ⟨v, hv, hd⟩ := E.get i _ h
  cases hd with
  | tup hs hd =>
    obtain ⟨v, ev, hv2⟩ := dats_atI hd e
    cases hv2
    exact ⟨_, hv, .inr (.inl ⟨_, _, k, _, rfl, rfl, hs, ev, q⟩)⟩
theorem tx_ixI {ds : List PyData} {k : Int} {x : Int} (h : γ[i]? = some (some (.d (.tuple ds)))) (e : atI ds k = some (.int x)) : Tx K (tOp (rIx K) (tVar i) (tC (.int k))) γ A (.int x) := fun own σ H E w Q q => by
  obtain ⟨v, hv, hd⟩ := E.get i _ h
  cases hd with
  | tup hs hd =>
    obtain ⟨v, ev, hv2⟩ := dats_atI hd e
    cases hv2
    exact ⟨_, hv, .inr (.inl ⟨_, _, k, _, rfl, rfl, hs, ev, q⟩)⟩
end
theorem Tw.monoN {γ : G} {A : AW} {ts : TS} {N N2 : G → AW → Prop} {R : AW → Prop} (h : Tw K ts γ A N R) (k : ∀ γ' A', N γ' A' → N2 γ' A') : Tw K ts γ A N2 R := fun hd h0 own σ H D E w n r => h hd h0 own σ H D E w (fun γ' own' A' σ' H' a b c d e f => n γ' own' A' σ' H' (k γ' A' a) b c d e f) r
theorem ru_neg {M : Addr → Prop} {i : Int} : Ru K M (fun x H Q => ∃ i, x = .int i ∧ Q (.int (-i)) H) (.d (.int i)) (.d (.int (-i))) := fun H0 H x e0 hx Q q => by
  cases hx
  exact ⟨i, rfl, q _ H (Xm.refl H) (Dat.int _)⟩
theorem sv_b {a b : Bool} (h : a = b) : Sv.d (.bool a) = Sv.d (.bool b) := h ▸ rfl
theorem mo_keys (A : AW) : A.MO.map Prod.fst = A.rw.mo.map Prod.fst := by
  show _ = (A.MO.map fun q => (q.1, q.2.2)).map Prod.fst
  rw [List.map_map]
  rfl
theorem lookup_app {α : Type} {l : List (Str × α)} {n : Str} {x : α} {m : Str} {y : α} (h : l.lookup n = some x) : (l ++ [(m, y)]).lookup n = some x := by
  induction l with
  | nil => cases h
  | cons p l ih =>
    obtain ⟨k, z⟩ := p
    rw [List.cons_append, List.lookup_cons] at *
    cases e : (n == k) with
    | true => rw [e] at h; exact h
    | false => rw [e] at h; exact ih h
theorem putT_new {l : List (Str × Str)} {n x : Str} (h : n ∉ l.map Prod.fst) : putT l n x = l ++ [(n, x)] := if_neg h
theorem nd_new {α : Type} {l : List (Str × α)} {n : Str} {x : α} (h : (l.map Prod.fst).Nodup) (hn : n ∉ l.map Prod.fst) : ((l ++ [(n, x)]).map Prod.fst).Nodup := nd_app h fun y hy e => hn (List.mem_map.mpr ⟨y, hy, e⟩)
theorem putM_fst (l : List (Str × Addr × List Int)) (n : Str) (ms : List Int) : (putM l n ms).map Prod.fst = l.map Prod.fst := by
  unfold putM
  rw [List.map_map]
  refine List.map_congr_left fun q _ => ?_
  simp only [Function.comp]
  split <;> rfl
theorem putM_putM (l : List (Str × Addr × List Int)) (n : Str) (a b : List Int) : putM (putM l n a) n b = putM l n b := by
  unfold putM
  rw [List.map_map]
  refine List.map_congr_left fun q _ => ?_
  simp only [Function.comp]
  by_cases e : q.1 = n <;> simp [e]
theorem putM_id {l : List (Str × Addr × List Int)} {n : Str} {a : Addr} {ms : List Int} (hn : (l.map Prod.fst).Nodup) (h : (n, a, ms) ∈ l) : putM l n ms = l := by
  unfold putM
  refine (List.map_congr_left fun q hq => ?_).trans (List.map_id l)
  by_cases e : q.1 = n
  · rw [if_pos e]
    obtain ⟨i, hi⟩ := List.mem_iff_getElem?.mp h
    obtain ⟨j, hj⟩ := List.mem_iff_getElem?.mp hq
    by_cases ne : j = i
    · subst ne
      rw [hi] at hj
      cases hj
      rfl
    · exact absurd e (nodup_ne (f := Prod.fst) hn hi hj ne)
  · rw [if_neg e]; rfl
theorem putM_mem {l : List (Str × Addr × List Int)} {n : Str} {a : Addr} {ms ms2 : List Int} (h : (n, a, ms) ∈ l) : (n, a, ms2) ∈ putM l n ms2 := List.mem_map.mpr ⟨(n, a, ms), h, by simp⟩
theorem putM_other {l : List (Str × Addr × List Int)} {n o : Str} {a : Addr} {ms ms2 : List Int} (h : (o, a, ms) ∈ l) (hne : o ≠ n) : (o, a, ms) ∈ putM l n ms2 := List.mem_map.mpr ⟨(o, a, ms), h, by simp [hne]⟩
theorem alike_side {W : RW} {n o : Str} (h : o ∈ W.alike n) : o ∈ W.side (W.sdOf n) ∧ o ≠ n := by
  have key : o ∈ (W.side (W.sdOf n)).filter fun o => !decide (o = n) := by
    unfold RW.alike at h
    simp only at h
    split at h
    · exact (List.mem_filter.mp h).1
    split at h
    · exact (List.mem_filter.mp h).1
    · exact (List.mem_filter.mp h).1
  have := List.mem_filter.mp key
  exact ⟨this.1, by simpa using this.2⟩
theorem sc_law_does_parts : FnScope ["_law_world_here", "_law_deed_here", "_law_word", "_law_t", "_law_name", "_law_other", "_law_side_here", "_law_names", "_law_moment_here", "_law_more", "_law_at"] ["_law_world_here", "_law_deed_here"] (defScope (top 75)) := ⟨rfl, rfl, rfl, by decide +kernel, rfl, by decide +kernel, by decide +kernel⟩
abbrev Sp_law_does_parts (K : PySem.W.Frag) : Sp := spW K (α := Deed) (fun d A => WInv A.rw ∧ Drawn A.rw d ∧ d.isParts = true) (fun d => [eD d]) (fun d A A' => A'.rw = A.rw.doesL d)
theorem kn_law_does_parts (W : Wld K mg w) : Kn P w K mg base "_law_does_parts" ["_law_world_here", "_law_deed_here"] 4 (Sp_law_does_parts K) := by
  refine kn_world W.f_law_does_parts sc_law_does_parts (fun _ => rfl) (fun _ _ _ _ _ _ us hl => match us, hl with | [_, _], _ => rfl) fun f cdv A outer s H E hr => ⟨_, (pss_cons (ps_asg (pe_slice (sl_UK (K := K) (by rfl)) (pv 1) po_none (po_some pe_int)) (pg_tupK (n := 2) (K := K) (by rfl) rfl (pgs_cons (pg_name (i := 2) sc_law_does_parts.nd rfl (by first | exact .inl rfl | exact .inr rfl)) (pgs_cons (pg_name (i := 3) sc_law_does_parts.nd rfl (by first | exact .inl rfl | exact .inr rfl)) pgs_nil))))
    (pss_cons (ps_if (pt_cmpR (op_eqUK (K := K) (by rfl) hr.units) (pv 2) pe_str (nomark _)) (pss_cons (ps_expr (pe_knK (K := K) (by rfl) (kn_law_behind W) hr (by decide) (by rfl) (pa_cons (pe_ix (ix_seqK (K := K) (by rfl)) (pe_dget (hu_of hr) (pv 0) pe_str (fun _ _ => rfl)) (pe_ix (ix_seqK (K := K) (by rfl)) (pv 1) pe_int (fun _ _ => rfl)) (fun _ _ => rfl)) (pa_cons (pe_ix (ix_seqK (K := K) (by rfl)) (pv 1) pe_int (fun _ _ => rfl)) (pa_cons (pe_ix (ix_seqK (K := K) (by rfl)) (pv 1) pe_int (fun _ _ => rfl)) pa_nil)))))
    (pss_cons (ps_dput (hu_of hr) (pe_dget (hu_of hr) (pv 0) pe_str (fun _ _ => rfl)) (pe_ix (ix_seqK (K := K) (by rfl)) (pv 1) pe_int (fun _ _ => rfl)) (pe_ix (ix_seqK (K := K) (by rfl)) (pv 1) pe_int (fun _ _ => rfl)) rfl)
    (pss_cons (ps_dput (hu_of hr) (pe_dget (hu_of hr) (pv 0) pe_str (fun _ _ => rfl)) (pe_ix (ix_seqK (K := K) (by rfl)) (pv 1) pe_int (fun _ _ => rfl)) (pe_lst (pa_cons (pv 3) pa_nil)) rfl)
    (pss_one ps_retN)))) pss_nil)
    (pss_cons (ps_par (i := 4) (j := 5) (by rfl) sc_law_does_parts.nd rfl rfl (by decide) rfl rfl (pa_cons (pe_ix (ix_seqK (K := K) (by rfl)) (pv 1) pe_int (fun _ _ => rfl)) (pa_cons (pe_ix (ix_seqK (K := K) (by rfl)) (pv 1) pe_int (fun _ _ => rfl)) pa_nil)) (by rfl))
    (pss_cons (ps_set (i := 6) sc_law_does_parts.nd rfl (by first | exact .inl rfl | exact .inr rfl) (pe_knK (K := K) (by rfl) (kn_law_side W) hr (by decide) (by rfl) (pa_cons (pv 0) (pa_cons (pv 4) pa_nil))))
    (pss_cons (ps_set (i := 7) sc_law_does_parts.nd rfl (by first | exact .inl rfl | exact .inr rfl) (pe_ix (ix_seqK (K := K) (by rfl)) (pe_dget (hu_of hr) (pv 0) pe_str (fun _ _ => rfl)) (pv 6) (fun _ _ => rfl)))
    (pss_one (ps_if (pt_cmpR (op_eqUK (K := K) (by rfl) hr.units) (pv 2) pe_str (nomark _)) (pss_cons (ps_expr (pe_bmK (K := K) (by rfl) PySem.F.plainAttrs_list PySem.F.slot_list_remove PySem.F.type_list_remove mt_removeS (pv 7) (pa_cons (pv 4) pa_nil)))
    (pss_one (ps_expr (pe_knK (K := K) (by rfl) (kn_law_behind W) hr (by decide) (by rfl) (pa_cons (pv 7) (pa_cons (pv 5) (pa_cons (pv 4) pa_nil))))))) (pss_one (ps_if (pt_cmpR (op_eqUK (K := K) (by rfl) hr.units) (pv 2) pe_str (nomark _)) (pss_cons (ps_dput (hu_of hr) (pe_dget (hu_of hr) (pv 0) pe_str (fun _ _ => rfl)) (pv 4) (pe_op (op_addUK (K := K) (by rfl)) (pe_dget (hu_of hr) (pe_dget (hu_of hr) (pv 0) pe_str (fun _ _ => rfl)) (pv 4) (fun _ _ => rfl)) (pe_dget (hu_of hr) (pe_dget (hu_of hr) (pv 0) pe_str (fun _ _ => rfl)) (pv 5) (fun _ _ => rfl))) rfl)
    (pss_cons (ps_for PassesOwn.never rfl (pi_listK (K := K) (by rfl) (pe_dget (hu_of hr) (pe_dget (hu_of hr) (pv 0) pe_str (fun _ _ => rfl)) (pv 5) (fun _ _ => rfl))) (pg_name (i := 8) sc_law_does_parts.nd rfl (by first | exact .inl rfl | exact .inr rfl)) (pss_one (ps_expr (pe_knK (K := K) (by rfl) (kn_law_late W) hr (by decide) (by rfl) (pa_cons (pe_dget (hu_of hr) (pe_dget (hu_of hr) (pv 0) pe_str (fun _ _ => rfl)) (pv 4) (fun _ _ => rfl)) (pa_cons (pv 8) pa_nil))))))
    (pss_one (ps_expr (pe_knK (K := K) (by rfl) (kn_law_gone W) hr (by decide) (by rfl) (pa_cons (pv 0) (pa_cons pe_non (pa_cons (pv 5) pa_nil)))))))) (pss_cons (ps_set (i := 9) sc_law_does_parts.nd rfl (by first | exact .inl rfl | exact .inr rfl) (pe_ix (ix_seqK (K := K) (by rfl)) (pv 1) pe_int (fun _ _ => rfl)))
    (pss_cons (ps_expr (pe_knK (K := K) (by rfl) (kn_law_behind W) hr (by decide) (by rfl) (pa_cons (pv 7) (pa_cons (pv 4) (pa_cons (pv 9) pa_nil)))))
    (pss_cons (ps_dput (hu_of hr) (pe_dget (hu_of hr) (pv 0) pe_str (fun _ _ => rfl)) (pv 9) (pe_slice (sl_UK (K := K) (by rfl)) (pe_dget (hu_of hr) (pe_dget (hu_of hr) (pv 0) pe_str (fun _ _ => rfl)) (pv 4) (fun _ _ => rfl)) (po_some (pv 5)) po_none) rfl)
    (pss_cons (ps_dput (hu_of hr) (pe_dget (hu_of hr) (pv 0) pe_str (fun _ _ => rfl)) (pv 4) (pe_slice (sl_UK (K := K) (by rfl)) (pe_dget (hu_of hr) (pe_dget (hu_of hr) (pv 0) pe_str (fun _ _ => rfl)) (pv 4) (fun _ _ => rfl)) po_none (po_some (pv 5))) rfl)
    (pss_cons (ps_dput (hu_of hr) (pe_dget (hu_of hr) (pv 0) pe_str (fun _ _ => rfl)) (pv 9) (pe_callTy (call_listUK (K := K) (by rfl) rfl) (by rfl) W.b_list (by decide +kernel) (pa_cons (pe_dget (hu_of hr) (pe_dget (hu_of hr) (pv 0) pe_str (fun _ _ => rfl)) (pv 4) (fun _ _ => rfl)) pa_nil)) rfl)
    (pss_cons (ps_set (i := 10) sc_law_does_parts.nd rfl (by first | exact .inl rfl | exact .inr rfl) (pe_knK (K := K) (by rfl) (kn_law_link_at W) hr (by decide) (by rfl) (pa_cons (pv 0) (pa_cons (pv 4) pa_nil))))
    (pss_one (ps_if (pt_cmpR op_notNo (pv 10) pe_non (nomark _)) (pss_one (ps_expr (pe_bmK (K := K) (by rfl) PySem.F.plainAttrs_list PySem.F.slot_list_append PySem.F.type_list_append mt_append (pe_ix (ix_seqK (K := K) (by rfl)) (pe_ix (ix_seqK (K := K) (by rfl)) (pe_ix (ix_seqK (K := K) (by rfl)) (pe_dget (hu_of hr) (pv 0) pe_str (fun _ _ => rfl)) (pv 10) (fun _ _ => rfl)) pe_int (fun _ _ => rfl)) (pv 6) (fun _ _ => rfl)) (pa_cons (pv 9) pa_nil)))) (pss_one (ps_if (pt_cmpR (op_inUK (K := K) (by rfl) hr.u65) (pv 4) (pe_dget (hu_of hr) (pv 0) pe_str (fun _ _ => rfl)) (by rfl)) (pss_one (ps_expr (pe_bmK (K := K) (by rfl) PySem.F.plainAttrs_list PySem.F.slot_list_append PySem.F.type_list_append mt_append (pe_dget (hu_of hr) (pv 0) pe_str (fun _ _ => rfl)) (pa_cons (pv 9) pa_nil)))) pss_nil))))))))))))))))))), fun A z hz => ?_⟩
  obtain ⟨hw, hdr, hp⟩ := hz
  have hside : ∀ b, A.rw.side b = A.S b := fun b => by cases b <;> rfl
  have hmk : (A.MO.map Prod.fst).Nodup := by rw [mo_keys]; exact hw.ok.km
  have htl : A.TX.length ≤ 71 := hw.ok.lt
  have hml : A.MO.length ≤ 71 := by
    have h1 : (A.MO.map Prod.fst).length = (A.TX.map Prod.fst).length := by rw [mo_keys, hw.keys]; rfl
    rw [List.length_map, List.length_map] at h1
    omega
  have hSl : ∀ b, (A.S b).length ≤ 100 := fun b => by rw [← hside]; exact hw.ok.ls b
  cases z with
  | take => cases hp
  | change => cases hp
  | word => cases hp
  | link => cases hp
  | loose => cases hp
  | step => cases hp
  | alone => cases hp
  | lack => cases hp
  | put t s h n x =>
    obtain ⟨hh, hn75, hnk, hx⟩ := hdr
    have hnm : n ∉ A.MO.map Prod.fst := by rw [mo_keys, hw.keys]; exact hnk
    refine tw_unpT (is := [2, 3]) rfl (by decide) (te_sl (te_var rfl) to_none (to_some te_int) rsl_T) (ds := [.str "put", .int t]) rfl rfl ?_
    refine tw_ifS (b := true) (tt_test (te_op (te_var rfl) te_str rv_eqStr)) (fun _ => ?_) fun e => nomatch e
    refine tw_seq (N' := fun _ _ => False) ?_ fun _ _ h => h.elim
    refine tw_seq (N' := fun γ' A' => γ' = [some (.r A.w), some (.d (eD (.put t s h n x))), some (.d (.str "put")), some (.d (.int t)), none, none, none, none, none, none, none] ∧ A' = A.setS s (insN (A.S s) h n)) (tw_callL (A.S s, h, n) (txa_cons (tx_side rfl (tx_ixI rfl rfl)) (txa_cons (tx_ixS rfl rfl) (txa_cons (tx_ixS rfl rfl) txa_nil))) ⟨Nat.le_trans (hSl s) (by decide), fun hne => by rcases hh with h1 | h1; exact absurd h1 hne; rw [← hside]; exact h1⟩ (fun own H w => ⟨_, w.cS s⟩) (fun own H w => w.upS s _) rfl ⟨rfl, rfl⟩) ?_
    rintro _ _ ⟨rfl, rfl⟩
    refine tw_seq (N' := fun γ' A' => γ' = [some (.r A.w), some (.d (eD (.put t s h n x))), some (.d (.str "put")), some (.d (.int t)), none, none, none, none, none, none, none] ∧ A' = { A.setS s (insN (A.S s) h n) with TX := putT A.TX n x }) (tw_dputT rfl (te_op (te_var rfl) te_int (rv_ixT rfl)) (tx_ixS rfl rfl) (Nat.le_trans htl (by decide)) ⟨rfl, rfl⟩) ?_
    rintro _ _ ⟨rfl, rfl⟩
    refine tw_seq (N' := fun γ' A' => ∃ a, A' = { A.setS s (insN (A.S s) h n) with TX := putT A.TX n x, MO := A.MO ++ [(n, a, [t])] }) (tw_dputM (ms := [t]) rfl (te_lst (ds := [.int t]) (ta_cons (te_var rfl) ta_nil) (Nat.le_of_ble_eq_true rfl)) (tx_ixS rfl rfl) (Nat.le_trans hml (by decide)) hnm fun a => ⟨a, rfl⟩) ?_
    rintro γ' _ ⟨a, rfl⟩
    refine tw_ret ⟨?_, rfl⟩
    show (⟨_, _, putT A.TX n x, (A.MO ++ [(n, a, [t])]).map fun q => (q.1, q.2.2), _, _⟩ : RW) = _
    rw [List.map_append]
    cases s <;> rfl
  | move t n h =>
    obtain ⟨hn, hh⟩ := hdr
    obtain ⟨s, hs⟩ : ∃ s, A.rw.sdOf n = s := ⟨_, rfl⟩
    have hns : n ∈ A.S s := by rw [← hside, ← hs]; exact names_sd hw.dj hn
    refine tw_unpT (is := [2, 3]) rfl (by decide) (te_sl (te_var rfl) to_none (to_some te_int) rsl_T) (ds := [.str "move", .int t]) rfl rfl ?_
    refine tw_ifS (b := false) (tt_test (te_is (te_op (te_var rfl) te_str rv_eqStr) (sv_b (by decide +kernel)))) (fun e => nomatch e) fun _ => ?_
    refine tw_seq (N' := fun γ' A' => γ' = [some (.r A.w), some (.d (eD (.move t n h))), some (.d (.str "move")), some (.d (.int t)), none, none, none, none, none, none, none] ∧ A = A') (tw_next ⟨rfl, rfl⟩) ?_
    rintro _ _ ⟨rfl, rfl⟩
    refine tw_par (d1 := .str n) (d2 := .str h) (by decide) (by decide) (ta_cons (te_op (te_var rfl) te_int (rv_ixT rfl)) (ta_cons (te_op (te_var rfl) te_int (rv_ixT rfl)) ta_nil)) ?_
    refine tw_asgS (d := .int (sI s)) (by decide) (te_is (te_callF (A.rw, n) (ta_cons (te_var rfl) (ta_cons (te_var rfl) ta_nil)) trivial rfl rfl) (by simp only; rw [hs])) ?_
    refine tw_asgX (by decide) (tx_side rfl (tx_vint rfl)) ?_
    refine tw_if (b := true) (tt_test (te_op (te_var rfl) te_str rv_eqStr)) (fun _ => ?_) fun e => nomatch e
    refine tw_seq (N' := fun γ' A' => γ' = [some (.r A.w), some (.d (eD (.move t n h))), some (.d (.str "move")), some (.d (.int t)), some (.d (.str n)), some (.d (.str h)), some (.d (.int (sI s))), some (.r (A.s s)), none, none, none] ∧ A' = A.setS s ((A.S s).erase n)) (tw_rem (tx_ref rfl) (tx_vstr rfl) (fun own H w => ⟨_, w.cS s⟩) hns (fun own H w => w.upS s _) rfl ⟨rfl, rfl⟩) ?_
    rintro _ _ ⟨rfl, rfl⟩
    have hSS : ∀ ns, (A.setS s ns).S s = ns := fun ns => by cases s <;> rfl
    have hss : ∀ ns, (A.setS s ns).s s = A.s s := fun ns => by cases s <;> rfl
    have hset : ∀ ns ms, (A.setS s ns).setS s ms = A.setS s ms := fun ns ms => by cases s <;> rfl
    refine tw_callL (A' := A.setS s (insN ((A.S s).erase n) h n)) ((A.S s).erase n, h, n) (txa_cons (tx_ref rfl) (txa_cons (tx_vstr rfl) (txa_cons (tx_vstr rfl) txa_nil))) ⟨Nat.le_trans (List.length_erase_le) (Nat.le_trans (hSl s) (by decide)), fun hne => ?_⟩ (fun own H w => ⟨_, by have := w.cS s; rw [hSS, hss] at this; exact this⟩) (fun own H w => by have := w.upS s (insN ((A.S s).erase n) h n); rw [hss, hset] at this; exact this) rfl ⟨?_, rfl⟩
    · rcases hh with h1 | ⟨h1, h2⟩
      · exact absurd h1 hne
      · rw [hs, hside] at h1
        exact (List.mem_erase_of_ne h2).mpr h1
    · rw [rw_setS]
      show _ = A.rw.withSide (A.rw.sdOf n) (insN ((A.rw.side (A.rw.sdOf n)).erase n) h n)
      rw [hs, hside]
  | join t n o =>
    obtain ⟨hn, ho⟩ := hdr
    obtain ⟨hos, hon⟩ := alike_side ho
    have hns := names_sd hw.dj hn
    have htn := hw.ok.txt hns
    have hto := hw.ok.txt hos
    have hmn := hw.ok.mom hns
    have hmo := hw.ok.mom hos
    obtain ⟨an, han⟩ := mo_lookup hmn.1
    obtain ⟨ao, hao⟩ := mo_lookup hmo.1
    obtain ⟨s, hs⟩ : ∃ s, A.rw.sdOf n = s := ⟨_, rfl⟩
    refine tw_unpT (is := [2, 3]) rfl (by decide) (te_sl (te_var rfl) to_none (to_some te_int) rsl_T) (ds := [.str "join", .int t]) rfl rfl ?_
    refine tw_ifS (b := false) (tt_test (te_is (te_op (te_var rfl) te_str rv_eqStr) (sv_b (by decide +kernel)))) (fun e => nomatch e) fun _ => ?_
    refine tw_seq (N' := fun γ' A' => γ' = [some (.r A.w), some (.d (eD (.join t n o))), some (.d (.str "join")), some (.d (.int t)), none, none, none, none, none, none, none] ∧ A = A') (tw_next ⟨rfl, rfl⟩) ?_
    rintro _ _ ⟨rfl, rfl⟩
    refine tw_par (d1 := .str n) (d2 := .str o) (by decide) (by decide) (ta_cons (te_op (te_var rfl) te_int (rv_ixT rfl)) (ta_cons (te_op (te_var rfl) te_int (rv_ixT rfl)) ta_nil)) ?_
    refine tw_asgS (d := .int (sI s)) (by decide) (te_is (te_callF (A.rw, n) (ta_cons (te_var rfl) (ta_cons (te_var rfl) ta_nil)) trivial rfl rfl) (by simp only; rw [hs])) ?_
    refine tw_asgX (by decide) (tx_side rfl (tx_vint rfl)) ?_
    refine tw_if (b := false) (tt_test (te_is (te_op (te_var rfl) te_str rv_eqStr) (sv_b (by decide +kernel)))) (fun e => nomatch e) fun _ => ?_
    refine tw_if (b := true) (tt_test (te_op (te_var rfl) te_str rv_eqStr)) (fun _ => ?_) fun e => nomatch e
    let g0 : Option Sv → G := fun y => [some (.r A.w), some (.d (eD (.join t n o))), some (.d (.str "join")), some (.d (.int t)), some (.d (.str n)), some (.d (.str o)), some (.d (.int (sI s))), some (.r (A.s s)), y, none, none]
    refine tw_seq (N' := fun γ' A' => γ' = g0 none ∧ A' = { A with TX := putT A.TX n (A.rw.txt n ++ A.rw.txt o) }) (tw_dputT rfl (te_op (te_txt rfl (te_var rfl) hw.ok.kt htn.1) (te_txt rfl (te_var rfl) hw.ok.kt hto.1) (rv_addS (by omega))) (tx_vstr rfl) (Nat.le_trans htl (by decide)) ⟨rfl, rfl⟩) ?_
    rintro _ _ ⟨rfl, rfl⟩
    have lat_len : ∀ (xs ms : List Int), (xs.foldl lateL ms).length ≤ ms.length + xs.length := fun xs => by
      induction xs with
      | nil => intro ms; exact Nat.le_refl _
      | cons y xs ih =>
        intro ms
        have h1 := ih (lateL ms y)
        have h2 : (lateL ms y).length ≤ ms.length + 1 := by
          unfold lateL
          split
          · omega
          · rw [List.length_append]; simp
        rw [List.foldl_cons, List.length_cons]
        omega
    refine tw_seq (N' := fun γ' A' => (∃ y, γ' = g0 y) ∧ A' = { A with TX := putT A.TX n (A.rw.txt n ++ A.rw.txt o), MO := putM A.MO n ((A.rw.mom o).foldl lateL (A.rw.mom n)) }) ?_ ?_
    · refine tw_forL (a := ao) (ms := A.rw.mom o) (fun i A' => A' = { A with TX := putT A.TX n (A.rw.txt n ++ A.rw.txt o), MO := putM A.MO n (((A.rw.mom o).take i).foldl lateL (A.rw.mom n)) }) (fun γ' => ∃ y, γ' = g0 y) (by decide) (tx_mom (q0 := (o, ao, A.rw.mom o)) rfl (tx_vstr rfl) hao hmk) (fun i A' e => ⟨o, by rw [e]; exact putM_other hao hon⟩) (by rw [List.take_zero, List.foldl_nil, putM_id hmk han]) ⟨none, rfl⟩ ?_ ?_
      · rintro i m γ1 A1 hi rfl ⟨y, rfl⟩
        have hmem : (n, an, ((A.rw.mom o).take i).foldl lateL (A.rw.mom n)) ∈ putM A.MO n (((A.rw.mom o).take i).foldl lateL (A.rw.mom n)) := putM_mem han
        have hk2 : ((putM A.MO n (((A.rw.mom o).take i).foldl lateL (A.rw.mom n))).map Prod.fst).Nodup := by rw [putM_fst]; exact hmk
        have hlen := lat_len ((A.rw.mom o).take i) (A.rw.mom n)
        have hti : ((A.rw.mom o).take i).length ≤ 62 := by rw [List.length_take]; omega
        refine tw_callL (A' := { A with TX := putT A.TX n (A.rw.txt n ++ A.rw.txt o), MO := putM (putM A.MO n (((A.rw.mom o).take i).foldl lateL (A.rw.mom n))) n (lateL (((A.rw.mom o).take i).foldl lateL (A.rw.mom n)) m) }) (((A.rw.mom o).take i).foldl lateL (A.rw.mom n), m) (txa_cons (tx_mom (q0 := (n, an, ((A.rw.mom o).take i).foldl lateL (A.rw.mom n))) rfl (tx_vstr rfl) hmem hk2) (txa_cons (tx_vint rfl) txa_nil)) (show (((A.rw.mom o).take i).foldl lateL (A.rw.mom n)).length ≤ 1000 by omega) (fun own H w => ⟨_, w.ms _ hmem⟩) (fun own H w => w.upM hmem hk2 _) rfl ⟨⟨_, rfl⟩, ?_⟩
        rw [putM_putM, List.take_succ, hi, List.foldl_append]
        rfl
      · rintro γ1 A1 ⟨y, rfl⟩ rfl
        rw [List.take_length]
        exact ⟨⟨y, rfl⟩, rfl⟩
    · rintro _ _ ⟨⟨y, rfl⟩, rfl⟩
      refine tw_callW ((none, o) : Option Int × Str) rfl (ta_cons te_non (ta_cons (te_var rfl) ta_nil)) ?_ fun A' h1 h2 => ⟨?_, h2⟩
      · have hg := gone_ok hw (n := o) (by
          have := hos
          unfold RW.names
          cases hsd : A.rw.sdOf n with
          | false => rw [hsd] at this; exact List.mem_append_left _ this
          | true => rw [hsd] at this; exact List.mem_append_right _ this)
        refine ⟨hg.s, ?_, ?_, hg.ks, hg.kl, hg.sl, hg.ls⟩
        · show o ∈ (putT A.TX n (A.rw.txt n ++ A.rw.txt o)).map Prod.fst
          have h0 : o ∈ A.TX.map Prod.fst := hg.tx
          unfold putT
          split
          · rw [List.map_map]
            obtain ⟨q, hq, e⟩ := List.mem_map.mp h0
            refine List.mem_map.mpr ⟨q, hq, ?_⟩
            simp only [Function.comp]
            split <;> exact e
          · rw [List.map_append]
            exact List.mem_append_left _ h0
        · show o ∈ ((putM A.MO n ((A.rw.mom o).foldl lateL (A.rw.mom n))).map fun q => (q.1, q.2.2)).map Prod.fst
          have e : ((putM A.MO n ((A.rw.mom o).foldl lateL (A.rw.mom n))).map fun q => (q.1, q.2.2)).map Prod.fst = A.MO.map Prod.fst := by
            rw [List.map_map, ← putM_fst A.MO n ((A.rw.mom o).foldl lateL (A.rw.mom n))]
            rfl
          rw [e, mo_keys]
          exact hg.mo
      · rw [h1]
        show RW.goneL _ none o = RW.goneL _ none o
        congr 1
        show (⟨_, _, _, (putM A.MO n ((A.rw.mom o).foldl lateL (A.rw.mom n))).map fun q => (q.1, q.2.2), _, _⟩ : RW) = _
        rw [mo_put]
        rfl
  | part t n i m =>
    obtain ⟨hn, hi1, hi2, hm75, hmk75⟩ := hdr
    have hns := names_sd hw.dj hn
    have htn := hw.ok.txt hns
    have hmn := hw.ok.mom hns
    obtain ⟨s, hs⟩ : ∃ s, A.rw.sdOf n = s := ⟨_, rfl⟩
    have hnS : n ∈ A.S s := by rw [← hside, ← hs]; exact hns
    have hmm : m ∉ A.MO.map Prod.fst := by rw [mo_keys, hw.keys]; exact hmk75
    have hmt : m ∉ A.TX.map Prod.fst := hmk75
    refine tw_unpT (is := [2, 3]) rfl (by decide) (te_sl (te_var rfl) to_none (to_some te_int) rsl_T) (ds := [.str "part", .int t]) rfl rfl ?_
    refine tw_ifS (b := false) (tt_test (te_is (te_op (te_var rfl) te_str rv_eqStr) (sv_b (by decide +kernel)))) (fun e => nomatch e) fun _ => ?_
    refine tw_seq (N' := fun γ' A' => γ' = [some (.r A.w), some (.d (eD (.part t n i m))), some (.d (.str "part")), some (.d (.int t)), none, none, none, none, none, none, none] ∧ A = A') (tw_next ⟨rfl, rfl⟩) ?_
    rintro _ _ ⟨rfl, rfl⟩
    refine tw_par (d1 := .str n) (d2 := .int i) (by decide) (by decide) (ta_cons (te_op (te_var rfl) te_int (rv_ixT rfl)) (ta_cons (te_op (te_var rfl) te_int (rv_ixT rfl)) ta_nil)) ?_
    refine tw_asgS (d := .int (sI s)) (by decide) (te_is (te_callF (A.rw, n) (ta_cons (te_var rfl) (ta_cons (te_var rfl) ta_nil)) trivial rfl rfl) (by simp only; rw [hs])) ?_
    refine tw_asgX (by decide) (tx_side rfl (tx_vint rfl)) ?_
    refine tw_if (b := false) (tt_test (te_is (te_op (te_var rfl) te_str rv_eqStr) (sv_b (by decide +kernel)))) (fun e => nomatch e) fun _ => ?_
    refine tw_if (b := false) (tt_test (te_is (te_op (te_var rfl) te_str rv_eqStr) (sv_b (by decide +kernel)))) (fun e => nomatch e) fun _ => ?_
    refine tw_asgS (d := .str m) (by decide) (te_op (te_var rfl) te_int (rv_ixT rfl)) ?_
    let g0 : Option Sv → G := fun y => [some (.r A.w), some (.d (eD (.part t n i m))), some (.d (.str "part")), some (.d (.int t)), some (.d (.str n)), some (.d (.int i)), some (.d (.int (sI s))), some (.r (A.s s)), none, some (.d (.str m)), y]
    refine tw_seq (N' := fun γ' A' => γ' = g0 none ∧ A' = A.setS s (insN (A.S s) n m)) (tw_callL (A.S s, n, m) (txa_cons (tx_ref rfl) (txa_cons (tx_vstr rfl) (txa_cons (tx_vstr rfl) txa_nil))) ⟨Nat.le_trans (hSl s) (by decide), fun _ => hnS⟩ (fun own H w => ⟨_, w.cS s⟩) (fun own H w => w.upS s _) rfl ⟨rfl, rfl⟩) ?_
    rintro _ _ ⟨rfl, rfl⟩
    let x1 := cutS (A.rw.txt n) (some (i : Int)) none
    let x2 := cutS (A.rw.txt n) none (some (i : Int))
    refine tw_seq (N' := fun γ' A' => γ' = g0 none ∧ A' = { A.setS s (insN (A.S s) n m) with TX := putT A.TX m x1 }) (tw_dputT rfl (te_sl (te_txt (W := (A.setS s (insN (A.S s) n m)).rw) rfl (te_var rfl) hw.ok.kt htn.1) (to_some (te_var rfl)) to_none (rsl_S (Nat.le_trans htn.2 (by decide)))) (tx_vstr rfl) (Nat.le_trans htl (by decide)) ⟨rfl, rfl⟩) ?_
    rintro _ _ ⟨rfl, rfl⟩
    have hT2 : putT A.TX m x1 = A.TX ++ [(m, x1)] := putT_new hmt
    have hTl2 : (putT A.TX m x1).length ≤ 1000 := by rw [hT2, List.length_append]; simp only [List.length_cons, List.length_nil]; omega
    have hTn2 : ((putT A.TX m x1).map Prod.fst).Nodup := by rw [hT2]; exact nd_new hw.ok.kt hmt
    have hTx2 : (putT A.TX m x1).lookup n = some (A.rw.txt n) := by rw [hT2]; exact lookup_app htn.1
    refine tw_seq (N' := fun γ' A' => γ' = g0 none ∧ A' = { A.setS s (insN (A.S s) n m) with TX := putT (putT A.TX m x1) n x2 }) (tw_dputT rfl (te_sl (te_txt (W := ({ A.setS s (insN (A.S s) n m) with TX := putT A.TX m x1 } : AW).rw) rfl (te_var rfl) hTn2 hTx2) to_none (to_some (te_var rfl)) (rsl_S (Nat.le_trans htn.2 (by decide)))) (tx_vstr rfl) hTl2 ⟨rfl, rfl⟩) ?_
    rintro _ _ ⟨rfl, rfl⟩
    refine tw_seq (N' := fun γ' A' => γ' = g0 none ∧ ∃ a, A' = { A.setS s (insN (A.S s) n m) with TX := putT (putT A.TX m x1) n x2, MO := A.MO ++ [(m, a, A.rw.mom n)] }) (tw_dputM rfl (te_cb (ta_cons (te_mom (W := ({ A.setS s (insN (A.S s) n m) with TX := putT (putT A.TX m x1) n x2 } : AW).rw) rfl (te_var rfl) hw.ok.km hmn.1) ta_nil) (rc_listL rfl)) (tx_vstr rfl) (Nat.le_trans hml (by decide)) hmm fun a => ⟨rfl, a, rfl⟩) ?_
    rintro _ _ ⟨rfl, a, rfl⟩
    let A4 : AW := { A.setS s (insN (A.S s) n m) with TX := putT (putT A.TX m x1) n x2, MO := A.MO ++ [(m, a, A.rw.mom n)] }
    have hA4 : ∀ l al, ({ A4 with KS := l, AL := al } : AW).rw = { A.rw.withSide s (insN (A.rw.side s) n m) with tx := putT (putT A.rw.tx m x1) n x2, mo := A.rw.mo ++ [(m, A.rw.mom n)], ks := l.map Prod.snd, al := al } := fun l al => by
      show (⟨_, _, _, (A.MO ++ [(m, a, A.rw.mom n)]).map fun q => (q.1, q.2.2), _, _⟩ : RW) = _
      rw [List.map_append]
      cases s <;> rfl
    have hat4 : A4.rw.at? n = A.rw.at? n := rfl
    show Tw K _ (g0 none) A4 _ _
    cases hat : A.rw.at? n with
    | none =>
      refine tw_asgS (d := .none) (by decide) (te_is (te_callF (A4.rw, n) (ta_cons (te_var rfl) (ta_cons (te_var rfl) ta_nil)) hw.ok.ka rfl rfl) (by simp only; rw [hat4, hat]; rfl)) ?_
      refine tw_if (b := false) (tt_test (te_op (te_var rfl) te_non rv_notN)) (fun e => nomatch e) fun _ => ?_
      refine tw_if (b := decide (n ∈ A.AL)) (tt_test (te_op (te_var rfl) (te_alone (W := A4.rw) rfl) (rv_inStrL rfl))) (fun e => ?_) fun e => ?_
      · have hal := hw.ok.la
        refine tw_app (A' := { A4 with AL := A.AL ++ [m] }) (tx_key (j := 3) rfl rfl rfl) (tx_vstr rfl) (fun own H w => ⟨_, w.al⟩) (by rw [List.length_map]; exact Nat.le_trans hal (by decide)) (fun own H w => by have := w.upAl (A.AL ++ [m]); rw [List.map_append] at this; exact this) rfl ⟨?_, rfl⟩
        have e1 := hA4 A.KS (A.AL ++ [m])
        show ({ A4 with AL := A.AL ++ [m] } : AW).rw = A.rw.partL n i m
        unfold RW.partL
        simp only [hat, hs, if_pos (show n ∈ A.rw.al from of_decide_eq_true e)]
        exact e1.trans (by cases s <;> rfl)
      · refine tw_next ⟨?_, rfl⟩
        have e1 := hA4 A.KS A.AL
        show A4.rw = A.rw.partL n i m
        unfold RW.partL
        simp only [hat, hs, if_neg (show ¬ n ∈ A.rw.al from of_decide_eq_false e)]
        exact e1.trans (by cases s <;> rfl)
    | some j =>
      obtain ⟨l, hl, hnl⟩ := at_of hat
      obtain ⟨⟨d, l'⟩, hq, el⟩ := get_map (show (A.KS.map Prod.snd)[j]? = some l from hl)
      have el' : l = l' := el
      subst el'
      have hmem := List.mem_of_getElem? hq
      refine tw_asgS (d := .int j) (by decide) (te_is (te_callF (A4.rw, n) (ta_cons (te_var rfl) (ta_cons (te_var rfl) ta_nil)) hw.ok.ka rfl rfl) (by simp only; rw [hat4, hat]; rfl)) ?_
      refine tw_if (b := true) (tt_test (te_op (te_var rfl) te_non rv_notN)) (fun _ => ?_) fun e => nomatch e
      have hka := hw.ok.ka l (List.mem_of_getElem? hl)
      have hll : (l.side s).length ≤ 100 := by cases s; exact hka.1; exact hka.2.1
      refine tw_app (A' := { A4 with KS := A.KS.set j (d, l.withSide s (l.side s ++ [m])) }) (tx_lnames (A := A4) (tx_lp (A := A4) (tx_link (A := A4) rfl (tx_vint rfl) hq) hmem) (tx_vint rfl) hmem) (tx_vstr rfl) (fun own H w => ⟨_, w.cN (q := (d, l)) hmem s⟩) (by rw [List.length_map]; exact Nat.le_trans hll (by decide)) (fun own H w => by have := w.upN (q := (d, l)) hq s (l.side s ++ [m]); rw [List.map_append] at this; exact this) rfl ⟨?_, rfl⟩
      have e1 := hA4 (A.KS.set j (d, l.withSide s (l.side s ++ [m]))) A.AL
      show ({ A4 with KS := A.KS.set j (d, l.withSide s (l.side s ++ [m])) } : AW).rw = A.rw.partL n i m
      unfold RW.partL
      simp only [hat, hs, hl]
      refine e1.trans ?_
      rw [List.map_set]
      cases s <;> rfl
end Tw
namespace Tw
open PySem PySem.Spec PyProof.Rows L2
local macro_rules
  | `(tactic| walk_at "rv") => `(tactic| first
    | exact rv_ixT rfl | exact rv_addI | exact rv_sub | exact rv_ixL rfl rfl | exact rv_ixM rfl
    | exact rsl_T | exact rsl_L rfl
    | exact rv_inStrL rfl | exact rv_inStrT | exact rv_ninStrL rfl | exact rv_ninIntL rfl | exact rv_eqStr | exact rv_neStr | exact rv_eqInt | exact rv_neInt | exact rv_eqBl | exact rv_neBl
    | exact rv_lt | exact rv_gt | exact rv_ge | exact rv_leI | exact rv_leS | exact rv_isN | exact rv_notN
    | exact rc_lenT | exact rc_lenL rfl | exact rc_intB | exact rc_listT | exact rc_listL rfl | exact rc_tupleL rfl | exact rc_tupleT)
local macro_rules
  | `(tactic| walk_at "e1") => `(tactic| first
    | exact te_var rfl | exact te_int | exact te_str | exact te_bl | exact te_non | exact ta_nil | exact to_none
    | apply to_some | apply ta_cons | apply te_op | apply te_cb | apply te_sl
    | apply tt_B | apply tt_test | walk_at "rv")
local macro_rules
  | `(tactic| walk_at "e") => `(tactic| repeat walk_at "e1")

variable {P : Program} {w : World} {K : PySem.W.Frag} {mg : Str → Option Value} {base : Heap}
def Deed.wd : Deed → Str
  | .put .. => "put"
  | .take .. => "take"
  | .part .. => "part"
  | .join .. => "join"
  | .move .. => "move"
  | .change .. => "change"
  | .word .. => "word"
  | .link .. => "link"
  | .loose .. => "loose"
  | .step .. => "step"
  | .alone .. => "alone"
  | .lack .. => "lack"
def Deed.tm : Deed → Int
  | .put t .. => t
  | .take t .. => t
  | .part t .. => t
  | .join t .. => t
  | .move t .. => t
  | .change t .. => t
  | .word t .. => t
  | .link t .. => t
  | .loose t .. => t
  | .step t .. => t
  | .alone t .. => t
  | .lack t .. => t
theorem or_ff {a b : Prop} [Decidable a] [Decidable b] (h1 : ¬ a) (h2 : ¬ b) : (decide a || decide b) = false := by rw [decide_eq_false h1, decide_eq_false h2]; rfl
theorem or_tt {a b : Prop} [Decidable a] [Decidable b] (h : a ∨ b) : (decide a || decide b) = true := by
  rcases h with h | h
  · rw [decide_eq_true h]; rfl
  · rw [decide_eq_true h, Bool.or_true]
/-- what a deed asks beyond being drawn -/
def Extra (W : RW) : Deed → Prop
  | .word _ n i o => (wordedL (W.txt n) i o).isSome = true
  | _ => True
theorem sc_law_does : FnScope ["_law_world_here", "_law_deed_here", "_law_word", "_law_t", "_law_text_here", "_law_at", "_law_link"] ["_law_world_here", "_law_deed_here"] (defScope (top 76)) := ⟨rfl, rfl, rfl, by decide +kernel, rfl, by decide +kernel, by decide +kernel⟩
abbrev Sp_law_does (K : PySem.W.Frag) : Sp := spW K (α := Deed) (fun d A => WInv A.rw ∧ Drawn A.rw d ∧ Extra A.rw d) (fun d => [eD d]) (fun d A A' => A'.rw = A.rw.doesL d)
theorem kn_law_does (W : Wld K mg w) : Kn P w K mg base "_law_does" ["_law_world_here", "_law_deed_here"] 5 (Sp_law_does K) := by
  refine kn_world W.f_law_does sc_law_does (fun _ => rfl) (fun _ _ _ _ _ _ us hl => match us, hl with | [_, _], _ => rfl) fun f cdv A outer s H E hr => ⟨_, (pss_cons (ps_asg (pe_slice (sl_UK (K := K) (by rfl)) (pv 1) po_none (po_some pe_int)) (pg_tupK (n := 2) (K := K) (by rfl) rfl (pgs_cons (pg_name (i := 2) sc_law_does.nd rfl (by first | exact .inl rfl | exact .inr rfl)) (pgs_cons (pg_name (i := 3) sc_law_does.nd rfl (by first | exact .inl rfl | exact .inr rfl)) pgs_nil))))
    (pss_one (ps_if (pt_cmpR (op_inUK (K := K) (by rfl) hr.u65) (pv 2) (pe_tup (pa_cons pe_str (pa_cons pe_str (pa_cons pe_str (pa_cons pe_str pa_nil))))) (by rfl)) (pss_one (ps_expr (pe_knK (K := K) (by rfl) (kn_law_does_parts W) hr (by decide) (by rfl) (pa_cons (pv 0) (pa_cons (pv 1) pa_nil))))) (pss_one (ps_if (pt_cmpR (op_eqUK (K := K) (by rfl) hr.units) (pv 2) pe_str (nomark _)) (pss_one (ps_expr (pe_knK (K := K) (by rfl) (kn_law_gone W) hr (by decide) (by rfl) (pa_cons (pv 0) (pa_cons (pv 3) (pa_cons (pe_ix (ix_seqK (K := K) (by rfl)) (pv 1) pe_int (fun _ _ => rfl)) pa_nil)))))) (pss_one (ps_if (PW.pt (pw_or (pt_cmpR (op_eqUK (K := K) (by rfl) hr.units) (pv 2) pe_str (nomark _)) (pw_or1 (pt_cmpR (op_eqUK (K := K) (by rfl) hr.units) (pv 2) pe_str (nomark _))))) (pss_cons (ps_set (i := 4) sc_law_does.nd rfl (by first | exact .inl rfl | exact .inr rfl) (pe_ix (ix_seqK (K := K) (by rfl)) (pv 1) (pe_un un_neg pe_int) (fun _ _ => rfl)))
    (pss_cons (ps_if (pt_cmpR (op_eqUK (K := K) (by rfl) hr.units) (pv 2) pe_str (nomark _)) (pss_one (ps_set (i := 4) sc_law_does.nd rfl (by first | exact .inl rfl | exact .inr rfl) (pe_knK (K := K) (by rfl) (kn_law_worded W) hr (by decide) (by rfl) (pa_cons (pe_dget (hu_of hr) (pe_dget (hu_of hr) (pv 0) pe_str (fun _ _ => rfl)) (pe_ix (ix_seqK (K := K) (by rfl)) (pv 1) pe_int (fun _ _ => rfl)) (fun _ _ => rfl)) (pa_cons (pe_ix (ix_seqK (K := K) (by rfl)) (pv 1) pe_int (fun _ _ => rfl)) (pa_cons (pe_ix (ix_seqK (K := K) (by rfl)) (pv 1) pe_int (fun _ _ => rfl)) pa_nil)))))) pss_nil)
    (pss_cons (ps_dput (hu_of hr) (pe_dget (hu_of hr) (pv 0) pe_str (fun _ _ => rfl)) (pe_ix (ix_seqK (K := K) (by rfl)) (pv 1) pe_int (fun _ _ => rfl)) (pv 4) rfl)
    (pss_one (ps_expr (pe_knK (K := K) (by rfl) (kn_law_late W) hr (by decide) (by rfl) (pa_cons (pe_dget (hu_of hr) (pe_dget (hu_of hr) (pv 0) pe_str (fun _ _ => rfl)) (pe_ix (ix_seqK (K := K) (by rfl)) (pv 1) pe_int (fun _ _ => rfl)) (fun _ _ => rfl)) (pa_cons (pv 3) pa_nil)))))))) (pss_one (ps_if (pt_cmpR (op_eqUK (K := K) (by rfl) hr.units) (pv 2) pe_str (nomark _)) (pss_one (ps_expr (pe_bmK (K := K) (by rfl) PySem.F.plainAttrs_list PySem.F.slot_list_append PySem.F.type_list_append mt_append (pe_dget (hu_of hr) (pv 0) pe_str (fun _ _ => rfl)) (pa_cons (pe_lst (pa_cons (pe_lst (pa_cons (pe_callTy (call_listUK (K := K) (by rfl) rfl) (by rfl) W.b_list (by decide +kernel) (pa_cons (pe_ix (ix_seqK (K := K) (by rfl)) (pv 1) pe_int (fun _ _ => rfl)) pa_nil)) (pa_cons (pe_callTy (call_listUK (K := K) (by rfl) rfl) (by rfl) W.b_list (by decide +kernel) (pa_cons (pe_ix (ix_seqK (K := K) (by rfl)) (pv 1) pe_int (fun _ _ => rfl)) pa_nil)) pa_nil))) (pa_cons (pv 3) (pa_cons (pe_lst (pa_cons (pe_lst pa_nil) (pa_cons (pe_lst pa_nil) pa_nil))) pa_nil)))) pa_nil)))) (pss_one (ps_if (pt_cmpR (op_eqUK (K := K) (by rfl) hr.units) (pv 2) pe_str (nomark _)) (pss_one (ps_expr (pe_bmK (K := K) (by rfl) PySem.F.plainAttrs_list PySem.F.slot_list_append PySem.F.type_list_append mt_append (pe_dget (hu_of hr) (pv 0) pe_str (fun _ _ => rfl)) (pa_cons (pe_ix (ix_seqK (K := K) (by rfl)) (pv 1) pe_int (fun _ _ => rfl)) pa_nil)))) (pss_one (ps_if (pt_cmpR (op_eqUK (K := K) (by rfl) hr.units) (pv 2) pe_str (nomark _)) (pss_one (ps_expr (pe_bmK (K := K) (by rfl) PySem.F.plainAttrs_list PySem.F.slot_list_remove PySem.F.type_list_remove mt_removeS (pe_dget (hu_of hr) (pv 0) pe_str (fun _ _ => rfl)) (pa_cons (pe_ix (ix_seqK (K := K) (by rfl)) (pv 1) pe_int (fun _ _ => rfl)) pa_nil)))) (pss_cons (ps_set (i := 5) sc_law_does.nd rfl (by first | exact .inl rfl | exact .inr rfl) (pe_knK (K := K) (by rfl) (kn_law_link_at W) hr (by decide) (by rfl) (pa_cons (pv 0) (pa_cons (pe_ix (ix_seqK (K := K) (by rfl)) (pv 1) pe_int (fun _ _ => rfl)) pa_nil))))
    (pss_cons (ps_set (i := 6) sc_law_does.nd rfl (by first | exact .inl rfl | exact .inr rfl) (pe_bmK (K := K) (by rfl) PySem.F.plainAttrs_list PySem.F.slot_list_pop PySem.F.type_list_pop mt_popAt (pe_dget (hu_of hr) (pv 0) pe_str (fun _ _ => rfl)) (pa_cons (pv 5) pa_nil)))
    (pss_one (ps_if (pt_cmpR (op_eqUK (K := K) (by rfl) hr.units) (pv 2) pe_str (nomark _)) (pss_one (ps_expr (pe_bmK (K := K) (by rfl) PySem.F.plainAttrs_list PySem.F.slot_list_append PySem.F.type_list_append mt_append (pe_dget (hu_of hr) (pv 0) pe_str (fun _ _ => rfl)) (pa_cons (pe_lst (pa_cons (pe_ix (ix_seqK (K := K) (by rfl)) (pv 6) pe_int (fun _ _ => rfl)) (pa_cons (pv 3) (pa_cons (pe_lst (pa_cons (pe_lst pa_nil) (pa_cons (pe_lst pa_nil) pa_nil))) pa_nil)))) pa_nil)))) pss_nil))))))))))))))))), fun A z hz => ?_⟩
  obtain ⟨hw, hdr, hex⟩ := hz
  have hside : ∀ b, A.rw.side b = A.S b := fun b => by cases b <;> rfl
  have hmk : (A.MO.map Prod.fst).Nodup := by rw [mo_keys]; exact hw.ok.km
  have htl : A.TX.length ≤ 71 := hw.ok.lt
  have hkl : A.KS.length ≤ 100 := by have := hw.ok.lk; rw [show A.rw.ks = A.KS.map Prod.snd from rfl, List.length_map] at this; exact this
  have hal : A.AL.length ≤ 100 := hw.ok.la
  let g0 : G := [some (.r A.w), some (.d (eD z)), some (.d (.str z.wd)), some (.d (.int z.tm)), none, none, none]
  have top2 : ∀ {tz : TS} {N : G → AW → Prop} {R : AW → Prop}, Tw K tz g0 A N R → Tw K (tSeq (tAsg (tSl (rSlU K) (tVar 1) tNoPart (tPart (tC (.int 2)))) (gTup K 2 (gCons (gName 2) (gCons (gName 3) gNil)))) tz) [some (.r A.w), some (.d (eD z)), none, none, none, none, none] A N R := fun {tz N R} h => by
    cases z <;> exact tw_unpT (is := [2, 3]) rfl (by decide) (te_sl (te_var rfl) to_none (to_some te_int) rsl_T) (ds := [.str _, .int _]) rfl rfl h
  refine top2 ?_
  have tin : Tt K M0 (tTest (tOp (rInU K) (tVar 2) (tTup (tCons (tC (.str "put")) (tCons (tC (.str "part")) (tCons (tC (.str "join")) (tCons (tC (.str "move")) tNil))))))) (gw g0 A) (decide (z.wd ∈ (["put", "part", "join", "move"] : List Str))) := tt_test (te_op (te_var rfl) (te_tup (ds := (["put", "part", "join", "move"] : List Str).map PyData.str) (ta_cons te_str (ta_cons te_str (ta_cons te_str (ta_cons te_str ta_nil)))) (Nat.le_of_ble_eq_true rfl)) rv_inStrT)
  have teq : ∀ c : Str, Tt K M0 (tTest (tOp (rEqU K) (tVar 2) (tC (.str c)))) (gw g0 A) (decide (z.wd = c)) := fun c => tt_test (te_op (te_var rfl) te_str rv_eqStr)
  have tor : Tt K M0 (tOr (tTest (tOp (rEqU K) (tVar 2) (tC (.str "change")))) (tTest (tOp (rEqU K) (tVar 2) (tC (.str "word"))))) (gw g0 A) (decide (z.wd = "change") || decide (z.wd = "word")) := tt_or (teq "change") fun _ => teq "word"
  have parts : z.isParts = true → ∀ {tw : TS}, Tw K (tIfS (tTest (tOp (rInU K) (tVar 2) (tTup (tCons (tC (.str "put")) (tCons (tC (.str "part")) (tCons (tC (.str "join")) (tCons (tC (.str "move")) tNil))))))) (tDrop (tCall (Sp_law_does_parts K) [] E0 (tCons (tVar 0) (tCons (tVar 1) tNil)))) tw) g0 A (fun _ A' => A'.rw = A.rw.doesL z ∧ A'.w = A.w) (fun A' => A'.rw = A.rw.doesL z ∧ A'.w = A.w) := fun hp {tw} => by
    refine tw_if tin (fun _ => tw_callW z rfl (ta_cons (te_var rfl) ta_nil) ⟨hw, hdr, hp⟩ fun A' h1 h2 => ⟨h1, h2⟩) fun e => ?_
    have : z.wd ∈ (["put", "part", "join", "move"] : List Str) := by cases z <;> first | (cases hp; done) | (simp only [Deed.wd]; decide +kernel)
    rw [decide_eq_true this] at e
    cases e
  -- a change of a text
  have chg : ∀ (n x : Str) (gx : G), n ∈ A.rw.names → gx[0]? = some (some (.r A.w)) → gx[3]? = some (some (.d (.int z.tm))) → gx[4]? = some (some (.d (.str x))) → (∃ ds, gx[1]? = some (some (.d (.tuple ds))) ∧ atI ds 2 = some (.str n)) →
      Tw K (tSeq (sDPut (tDGet (tVar 0) (tC (.str "text"))) (tOp (rIx K) (tVar 1) (tC (.int 2))) (tVar 4)) (tDrop (tCall (Sp_law_late K) [] E0 (tCons (tDGet (tDGet (tVar 0) (tC (.str "moments"))) (tOp (rIx K) (tVar 1) (tC (.int 2)))) (tCons (tVar 3) tNil))))) gx A (fun _ A' => A'.rw = A.rw.chgL z.tm n x ∧ A'.w = A.w) (fun A' => A'.rw = A.rw.doesL z ∧ A'.w = A.w) := fun n x gx hn h0 h3 h4 ⟨ds, h1, h2⟩ => by
    have hns := names_sd hw.dj hn
    have hmn := hw.ok.mom hns
    obtain ⟨an, han⟩ := mo_lookup hmn.1
    refine tw_seq (N' := fun γ' A' => γ' = gx ∧ A' = { A with TX := putT A.TX n x }) (tw_dputT h0 (te_var (by rw [List.getElem?_set_ne (by decide)]; exact h4)) (tx_ixS h1 h2) (Nat.le_trans htl (by decide)) ⟨rfl, rfl⟩) ?_
    rintro _ _ ⟨rfl, rfl⟩
    refine tw_callL (A' := { A with TX := putT A.TX n x, MO := putM A.MO n (lateL (A.rw.mom n) z.tm) }) (A.rw.mom n, z.tm) (txa_cons (tx_mom (q0 := (n, an, A.rw.mom n)) h0 (tx_ixS h1 h2) han hmk) (txa_cons (tx_vint h3) txa_nil)) (Nat.le_trans hmn.2 (by decide)) (fun own H w => ⟨_, w.ms _ han⟩) (fun own H w => w.upM han hmk _) rfl ⟨?_, rfl⟩
    show (⟨_, _, _, (putM A.MO n (lateL (A.rw.mom n) z.tm)).map fun q => (q.1, q.2.2), _, _⟩ : RW) = _
    rw [mo_put]
    rfl
  cases z with
  | put => exact parts rfl
  | part => exact parts rfl
  | join => exact parts rfl
  | move => exact parts rfl
  | take t n =>
    refine tw_if (b := false) (tt_is tin (decide_eq_false (by simp only [Deed.wd] <;> decide +kernel))) (fun e => nomatch e) fun _ => tw_if (b := true) (tt_is (teq "take") (decide_eq_true (by simp only [Deed.wd] <;> decide +kernel))) (fun _ => ?_) fun e => nomatch e
    exact tw_callW ((some t, n) : Option Int × Str) rfl (ta_cons (te_var rfl) (ta_cons (te_op (te_var rfl) te_int (rv_ixT rfl)) ta_nil)) (gone_ok hw hdr) fun A' h1 h2 => ⟨h1, h2⟩
  | change t n x =>
    refine tw_if (b := false) (tt_is tin (decide_eq_false (by simp only [Deed.wd] <;> decide +kernel))) (fun e => nomatch e) fun _ => tw_if (b := false) (tt_is (teq "take") (decide_eq_false (by simp only [Deed.wd] <;> decide +kernel))) (fun e => nomatch e) fun _ => tw_if (b := true) (tt_is tor (or_tt (by simp only [Deed.wd] <;> decide +kernel))) (fun _ => ?_) fun e => nomatch e
    refine tw_asgS (d := .str x) (by decide) (te_op (te_var rfl) (te_un te_int ru_neg) (rv_ixT rfl)) ?_
    refine tw_ifS (b := false) (tt_test (te_is (te_op (te_var rfl) te_str rv_eqStr) (sv_b (decide_eq_false (by simp only [Deed.wd] <;> decide +kernel))))) (fun e => nomatch e) fun _ => ?_
    refine tw_seq (N' := fun γ' A' => γ' = [some (.r A.w), some (.d (eD (.change t n x))), some (.d (.str "change")), some (.d (.int t)), some (.d (.str x)), none, none] ∧ A = A') (tw_next ⟨rfl, rfl⟩) ?_
    rintro _ _ ⟨rfl, rfl⟩
    exact chg n x _ hdr.1 rfl rfl rfl ⟨_, rfl, rfl⟩
  | word t n i o =>
    obtain ⟨hn, _, ho⟩ := hdr
    obtain ⟨x, hx⟩ := Option.isSome_iff_exists.mp (show (wordedL (A.rw.txt n) i o).isSome = true from hex)
    have htn := hw.ok.txt (names_sd hw.dj hn)
    have hol : o.length ≤ 1000 := by
      have : ∀ o ∈ (["new", "7", "One"] : List Str), o.length ≤ 1000 := by decide +kernel
      exact this o ho
    refine tw_if (b := false) (tt_is tin (decide_eq_false (by simp only [Deed.wd] <;> decide +kernel))) (fun e => nomatch e) fun _ => tw_if (b := false) (tt_is (teq "take") (decide_eq_false (by simp only [Deed.wd] <;> decide +kernel))) (fun e => nomatch e) fun _ => tw_if (b := true) (tt_is tor (or_tt (by simp only [Deed.wd] <;> decide +kernel))) (fun _ => ?_) fun e => nomatch e
    refine tw_asgS (d := .str o) (by decide) (te_op (te_var rfl) (te_un te_int ru_neg) (rv_ixT rfl)) ?_
    refine tw_ifS (b := true) (tt_test (te_op (te_var rfl) te_str rv_eqStr)) (fun _ => ?_) fun e => nomatch e
    refine tw_asgS (d := .str x) (by decide) (te_is (te_callF ((A.rw.txt n, i, o) : Str × Nat × Str) (ta_cons (te_txt rfl (te_op (te_var rfl) te_int (rv_ixT rfl)) hw.ok.kt htn.1) (ta_cons (te_op (te_var rfl) te_int (rv_ixT rfl)) (ta_cons (te_op (te_var rfl) te_int (rv_ixT rfl)) ta_nil))) ⟨htn.2, hol⟩ rfl rfl) (by simp only; rw [hx]; rfl)) ?_
    refine Tw.monoN (chg n x _ hn rfl rfl rfl ⟨_, rfl, rfl⟩) fun _ A' h => ⟨h.1.trans ?_, h.2⟩
    unfold RW.doesL
    simp only [hx]
    rfl
  | link t a c =>
    refine tw_if (b := false) (tt_is tin (decide_eq_false (by simp only [Deed.wd] <;> decide +kernel))) (fun e => nomatch e) fun _ => tw_if (b := false) (tt_is (teq "take") (decide_eq_false (by simp only [Deed.wd] <;> decide +kernel))) (fun e => nomatch e) fun _ => tw_if (b := false) (tt_is tor (or_ff (by simp only [Deed.wd] <;> decide +kernel) (by simp only [Deed.wd] <;> decide +kernel))) (fun e => nomatch e) fun _ => tw_if (b := true) (tt_is (teq "link") (decide_eq_true (by simp only [Deed.wd] <;> decide +kernel))) (fun _ => ?_) fun e => nomatch e
    refine tw_linkNew (a := a) (b := c) (t := t) rfl (te_op (te_var rfl) te_int (rv_ixT rfl)) (te_op (te_var rfl) te_int (rv_ixT rfl)) rfl (Nat.le_trans hkl (by decide)) fun d => ⟨?_, rfl⟩
    show (⟨_, _, _, _, _, (A.KS ++ [(d, (⟨a, c, t, [], []⟩ : Link))]).map Prod.snd⟩ : RW) = _
    rw [List.map_append]
    rfl
  | alone t n =>
    refine tw_if (b := false) (tt_is tin (decide_eq_false (by simp only [Deed.wd] <;> decide +kernel))) (fun e => nomatch e) fun _ => tw_if (b := false) (tt_is (teq "take") (decide_eq_false (by simp only [Deed.wd] <;> decide +kernel))) (fun e => nomatch e) fun _ => tw_if (b := false) (tt_is tor (or_ff (by simp only [Deed.wd] <;> decide +kernel) (by simp only [Deed.wd] <;> decide +kernel))) (fun e => nomatch e) fun _ => tw_if (b := false) (tt_is (teq "link") (decide_eq_false (by simp only [Deed.wd] <;> decide +kernel))) (fun e => nomatch e) fun _ => tw_if (b := true) (tt_is (teq "alone") (decide_eq_true (by simp only [Deed.wd] <;> decide +kernel))) (fun _ => ?_) fun e => nomatch e
    exact tw_app (A' := { A with AL := A.AL ++ [n] }) (tx_key (j := 3) rfl rfl rfl) (tx_ixS rfl rfl) (fun own H w => ⟨_, w.al⟩) (by rw [List.length_map]; exact Nat.le_trans hal (by decide)) (fun own H w => by have := w.upAl (A.AL ++ [n]); rw [List.map_append] at this; exact this) rfl ⟨rfl, rfl⟩
  | lack t n =>
    refine tw_if (b := false) (tt_is tin (decide_eq_false (by simp only [Deed.wd] <;> decide +kernel))) (fun e => nomatch e) fun _ => tw_if (b := false) (tt_is (teq "take") (decide_eq_false (by simp only [Deed.wd] <;> decide +kernel))) (fun e => nomatch e) fun _ => tw_if (b := false) (tt_is tor (or_ff (by simp only [Deed.wd] <;> decide +kernel) (by simp only [Deed.wd] <;> decide +kernel))) (fun e => nomatch e) fun _ => tw_if (b := false) (tt_is (teq "link") (decide_eq_false (by simp only [Deed.wd] <;> decide +kernel))) (fun e => nomatch e) fun _ => tw_if (b := false) (tt_is (teq "alone") (decide_eq_false (by simp only [Deed.wd] <;> decide +kernel))) (fun e => nomatch e) fun _ => tw_if (b := true) (tt_is (teq "lack") (decide_eq_true (by simp only [Deed.wd] <;> decide +kernel))) (fun _ => ?_) fun e => nomatch e
    exact tw_rem (A' := { A with AL := A.AL.erase n }) (tx_key (j := 3) rfl rfl rfl) (tx_ixS rfl rfl) (fun own H w => ⟨_, w.al⟩) hdr (fun own H w => w.upAl _) rfl ⟨rfl, rfl⟩
  | loose t n =>
    obtain ⟨j, hat⟩ := Option.isSome_iff_exists.mp hdr.2
    obtain ⟨l, hl, hnl⟩ := at_of hat
    obtain ⟨⟨d, l'⟩, hq, el⟩ := get_map (show (A.KS.map Prod.snd)[j]? = some l from hl)
    have el' : l = l' := el
    subst el'
    refine tw_if (b := false) (tt_is tin (decide_eq_false (by simp only [Deed.wd] <;> decide +kernel))) (fun e => nomatch e) fun _ => tw_if (b := false) (tt_is (teq "take") (decide_eq_false (by simp only [Deed.wd] <;> decide +kernel))) (fun e => nomatch e) fun _ => tw_if (b := false) (tt_is tor (or_ff (by simp only [Deed.wd] <;> decide +kernel) (by simp only [Deed.wd] <;> decide +kernel))) (fun e => nomatch e) fun _ => tw_if (b := false) (tt_is (teq "link") (decide_eq_false (by simp only [Deed.wd] <;> decide +kernel))) (fun e => nomatch e) fun _ => tw_if (b := false) (tt_is (teq "alone") (decide_eq_false (by simp only [Deed.wd] <;> decide +kernel))) (fun e => nomatch e) fun _ => tw_if (b := false) (tt_is (teq "lack") (decide_eq_false (by simp only [Deed.wd] <;> decide +kernel))) (fun e => nomatch e) fun _ => ?_
    refine tw_asgS (d := .int j) (by decide) (te_is (te_callF (A.rw, n) (ta_cons (te_var rfl) (ta_cons (te_op (te_var rfl) te_int (rv_ixT rfl)) ta_nil)) hw.ok.ka rfl rfl) (by simp only; rw [hat]; rfl)) ?_
    refine tw_relink (v := "loose") (c := "step") (t := t) rfl (by show 6 < 7; decide) (tx_vint rfl) hq (Nat.le_trans hkl (by decide)) rfl rfl (fun _ => ⟨?_, rfl⟩) fun e => absurd e (by decide +kernel)
    show (⟨_, _, _, _, _, (A.KS.eraseIdx j).map Prod.snd⟩ : RW) = A.rw.doesL (.loose t n)
    unfold RW.doesL
    simp only [hat]
    rw [← erase_map]
    rfl
  | step t n =>
    obtain ⟨j, hat⟩ := Option.isSome_iff_exists.mp hdr.2
    obtain ⟨l, hl, hnl⟩ := at_of hat
    obtain ⟨⟨d, l'⟩, hq, el⟩ := get_map (show (A.KS.map Prod.snd)[j]? = some l from hl)
    have el' : l = l' := el
    subst el'
    refine tw_if (b := false) (tt_is tin (decide_eq_false (by simp only [Deed.wd] <;> decide +kernel))) (fun e => nomatch e) fun _ => tw_if (b := false) (tt_is (teq "take") (decide_eq_false (by simp only [Deed.wd] <;> decide +kernel))) (fun e => nomatch e) fun _ => tw_if (b := false) (tt_is tor (or_ff (by simp only [Deed.wd] <;> decide +kernel) (by simp only [Deed.wd] <;> decide +kernel))) (fun e => nomatch e) fun _ => tw_if (b := false) (tt_is (teq "link") (decide_eq_false (by simp only [Deed.wd] <;> decide +kernel))) (fun e => nomatch e) fun _ => tw_if (b := false) (tt_is (teq "alone") (decide_eq_false (by simp only [Deed.wd] <;> decide +kernel))) (fun e => nomatch e) fun _ => tw_if (b := false) (tt_is (teq "lack") (decide_eq_false (by simp only [Deed.wd] <;> decide +kernel))) (fun e => nomatch e) fun _ => ?_
    refine tw_asgS (d := .int j) (by decide) (te_is (te_callF (A.rw, n) (ta_cons (te_var rfl) (ta_cons (te_op (te_var rfl) te_int (rv_ixT rfl)) ta_nil)) hw.ok.ka rfl rfl) (by simp only; rw [hat]; rfl)) ?_
    refine tw_relink (v := "step") (c := "step") (t := t) rfl (by show 6 < 7; decide) (tx_vint rfl) hq (Nat.le_trans hkl (by decide)) rfl rfl (fun e => absurd rfl e) fun _ d2 => ⟨?_, rfl⟩
    show (⟨_, _, _, _, _, (A.KS.eraseIdx j ++ [(d2, (⟨l.a, l.b, t, [], []⟩ : Link))]).map Prod.snd⟩ : RW) = A.rw.doesL (.step t n)
    unfold RW.doesL
    simp only [hat, hl]
    rw [List.map_append, ← erase_map]
    rfl
end Tw
namespace Tw
open PySem PySem.Spec PyProof.Rows L2
local macro_rules
  | `(tactic| walk_at "rv") => `(tactic| first
    | exact rv_ixT rfl | exact rv_addI | exact rv_sub | exact rv_ixL rfl rfl | exact rv_ixM rfl
    | exact rsl_T | exact rsl_L rfl
    | exact rv_inStrL rfl | exact rv_inStrT | exact rv_ninStrL rfl | exact rv_ninIntL rfl | exact rv_eqStr | exact rv_neStr | exact rv_eqInt | exact rv_neInt | exact rv_eqBl | exact rv_neBl
    | exact rv_lt | exact rv_gt | exact rv_ge | exact rv_leI | exact rv_leS | exact rv_isN | exact rv_notN
    | exact rc_lenT | exact rc_lenL rfl | exact rc_intB | exact rc_listT | exact rc_listL rfl | exact rc_tupleL rfl | exact rc_tupleT)
local macro_rules
  | `(tactic| walk_at "e1") => `(tactic| first
    | exact te_var rfl | exact te_int | exact te_str | exact te_bl | exact te_non | exact ta_nil | exact to_none
    | apply to_some | apply ta_cons | apply te_op | apply te_cb | apply te_sl
    | apply tt_B | apply tt_test | walk_at "rv")
local macro_rules
  | `(tactic| walk_at "e") => `(tactic| repeat walk_at "e1")

variable {P : Program} {w : World} {K : PySem.W.Frag} {mg : Str → Option Value} {base : Heap}
theorem sc_law_world : FnScope ["_law_book", "_law_world_here", "_law_part", "_law_ones", "_law_others", "_law_told", "_law_lost"] ["_law_book"] (defScope (top 67)) := ⟨rfl, rfl, rfl, by decide +kernel, rfl, by decide +kernel, by decide +kernel⟩
def b0 : Book := ⟨[], [], [], []⟩
def w0 : RW := ⟨[], [], [], [], [], []⟩
def Sp_law_world (K : PySem.W.Frag) : Sp := fun vs H Q _ => ∃ v, vs = [v] ∧ Dat K H v (eB b0) ∧ ∀ own A H', A.rw = w0 → WAt own H' A → (∀ a, own a ≠ none → H a = none) → Evl.Ex H H' → Q (.ref A.w) H'
theorem tC_run {v : V} {σ : L2.St} {H : Hp} {Q : VK} (h : Q v H) : tC v σ H Q := h
theorem tLst_run {ta : TA} {σ : L2.St} {H : Hp} {Q : VK} (h : ta σ H fun xs H1 => xs.length ≤ sizeLine ∧ ∀ p, H1 p = none → Q (.ref p) (upd H1 p (.lst xs))) : tLst ta σ H Q := h
theorem tCons_run {te : TE} {tr : TA} {σ : L2.St} {H : Hp} {Q : List V → Hp → Prop} (h : te σ H fun x H1 => tr σ H1 fun xs H2 => Q (x :: xs) H2) : tCons te tr σ H Q := h
theorem tNil_run {σ : L2.St} {H : Hp} {Q : List V → Hp → Prop} (h : Q [] H) : tNil σ H Q := h
theorem gN_run {i : Nat} {v : V} {σ : L2.St} {H : Hp} {Q : L2.St → Hp → Prop} (h : Q (σ.set i (some v)) H) : gName i v σ H Q := h
theorem tSeq_run {t u : TS} {D : Ends} {σ : L2.St} {H : Hp} (h : t { D with nx := u D } σ H) : tSeq t u D σ H := h
theorem kn_law_world (W : Wld K mg w) : Kn P w K mg base "_law_world" ["_law_book"] 1 (Sp_law_world K) := by
  refine kn_list W.f_law_world sc_law_world (fun vs H Q E h => by obtain ⟨v, rfl, _⟩ := h; rfl) (fun _ _ _ _ _ _ us hl => match us, hl with | [_], _ => rfl) fun f cdv A outer s H vs Q E hr hsp => ⟨_, (pss_cons (ps_set (i := 1) sc_law_world.nd rfl (by first | exact .inl rfl | exact .inr rfl) (pe_disp (pps_cons pe_str (pe_lst (pa_cons (pe_lc (own := [("_law_part", 2)]) rfl sc_law_world.nd (pi_tupK (K := K) (by rfl) (pe_ix (ix_seqK (K := K) (by rfl)) (pv 0) pe_int (fun _ _ => rfl))) (blkOk_by (N := ["_law_book", "_law_world_here", "_law_part", "_law_ones", "_law_others", "_law_told", "_law_lost"]) (sc := defScope (top 67)) (by decide +kernel)) (fun _ _ _ _ _ => (pg_name (i := 2) sc_law_world.nd rfl (by first | exact .inl rfl | exact .inr rfl))) (fun _ _ _ _ _ => pts_nil) (fun _ _ _ _ _ => (pe_ix (ix_seqK (K := K) (by rfl)) (pv 2) pe_int (fun _ _ => rfl)))) (pa_cons (pe_lc (own := [("_law_part", 2)]) rfl sc_law_world.nd (pi_tupK (K := K) (by rfl) (pe_ix (ix_seqK (K := K) (by rfl)) (pv 0) pe_int (fun _ _ => rfl))) (blkOk_by (N := ["_law_book", "_law_world_here", "_law_part", "_law_ones", "_law_others", "_law_told", "_law_lost"]) (sc := defScope (top 67)) (by decide +kernel)) (fun _ _ _ _ _ => (pg_name (i := 2) sc_law_world.nd rfl (by first | exact .inl rfl | exact .inr rfl))) (fun _ _ _ _ _ => pts_nil) (fun _ _ _ _ _ => (pe_ix (ix_seqK (K := K) (by rfl)) (pv 2) pe_int (fun _ _ => rfl)))) pa_nil))) (pps_cons pe_str pe_dnewK (pps_cons pe_str pe_dnewK pps_nil))) (by rfl) (by rfl) (fun z => by cases z) (by decide)))
    (pss_cons (ps_for PassesOwn.never rfl (pi_tupK (K := K) (by rfl) (pe_op (op_addUK (K := K) (by rfl)) (pe_ix (ix_seqK (K := K) (by rfl)) (pv 0) pe_int (fun _ _ => rfl)) (pe_ix (ix_seqK (K := K) (by rfl)) (pv 0) pe_int (fun _ _ => rfl)))) (pg_name (i := 2) sc_law_world.nd rfl (by first | exact .inl rfl | exact .inr rfl)) (pss_cons (ps_dput (hu_of hr) (pe_dget (hu_of hr) (pv 1) pe_str (fun _ _ => rfl)) (pe_ix (ix_seqK (K := K) (by rfl)) (pv 2) pe_int (fun _ _ => rfl)) (pe_ix (ix_seqK (K := K) (by rfl)) (pv 2) pe_int (fun _ _ => rfl)) rfl)
    (pss_one (ps_dput (hu_of hr) (pe_dget (hu_of hr) (pv 1) pe_str (fun _ _ => rfl)) (pe_ix (ix_seqK (K := K) (by rfl)) (pv 2) pe_int (fun _ _ => rfl)) (pe_callTy (call_listUK (K := K) (by rfl) rfl) (by rfl) W.b_list (by decide +kernel) (pa_cons (pe_ix (ix_seqK (K := K) (by rfl)) (pv 2) pe_int (fun _ _ => rfl)) pa_nil)) rfl))))
    (pss_cons (ps_dput (hu_of hr) (pv 1) pe_str (pe_callTy (call_listUK (K := K) (by rfl) rfl) (by rfl) W.b_list (by decide +kernel) (pa_cons (pe_ix (ix_seqK (K := K) (by rfl)) (pv 0) pe_int (fun _ _ => rfl)) pa_nil)) rfl)
    (pss_cons (ps_dput (hu_of hr) (pv 1) pe_str (pe_lst pa_nil) rfl)
    (pss_cons (ps_for PassesOwn.never rfl (pi_tupK (K := K) (by rfl) (pe_ix (ix_seqK (K := K) (by rfl)) (pv 0) pe_int (fun _ _ => rfl))) (pg_tupK (n := 4) (K := K) (by rfl) rfl (pgs_cons (pg_name (i := 3) sc_law_world.nd rfl (by first | exact .inl rfl | exact .inr rfl)) (pgs_cons (pg_name (i := 4) sc_law_world.nd rfl (by first | exact .inl rfl | exact .inr rfl)) (pgs_cons (pg_name (i := 5) sc_law_world.nd rfl (by first | exact .inl rfl | exact .inr rfl)) (pgs_cons (pg_name (i := 6) sc_law_world.nd rfl (by first | exact .inl rfl | exact .inr rfl)) pgs_nil))))) (pss_one (ps_expr (pe_bmK (K := K) (by rfl) PySem.F.plainAttrs_list PySem.F.slot_list_append PySem.F.type_list_append mt_append (pe_dget (hu_of hr) (pv 1) pe_str (fun _ _ => rfl)) (pa_cons (pe_lst (pa_cons (pe_lst (pa_cons (pe_callTy (call_listUK (K := K) (by rfl) rfl) (by rfl) W.b_list (by decide +kernel) (pa_cons (pv 3) pa_nil)) (pa_cons (pe_callTy (call_listUK (K := K) (by rfl) rfl) (by rfl) W.b_list (by decide +kernel) (pa_cons (pv 4) pa_nil)) pa_nil))) (pa_cons (pv 5) (pa_cons (pe_lst (pa_cons (pe_callTy (call_listUK (K := K) (by rfl) rfl) (by rfl) W.b_list (by decide +kernel) (pa_cons (pe_ix (ix_seqK (K := K) (by rfl)) (pv 6) pe_int (fun _ _ => rfl)) pa_nil)) (pa_cons (pe_callTy (call_listUK (K := K) (by rfl) rfl) (by rfl) W.b_list (by decide +kernel) (pa_cons (pe_ix (ix_seqK (K := K) (by rfl)) (pv 6) pe_int (fun _ _ => rfl)) pa_nil)) pa_nil))) pa_nil)))) pa_nil)))))
    (pss_one (ps_ret (pv 1)))))))), ?_⟩
  obtain ⟨v, rfl, hv, q⟩ := hsp
  let γ0 : G := [some (.d (eB b0)), none, none, none, none, none, none]
  have E0' : En K M0 H H (L2.start ["_law_book", "_law_world_here", "_law_part", "_law_ones", "_law_others", "_law_told", "_law_lost"] [v]) γ0 := En.start (vs := [v]) (ss := [.d (eB b0)]) (.cons hv .nil) 6
  have d0 : DR γ0 := fun j s e => by
    match j, e with
    | 0, e => cases e; exact .inl ⟨_, rfl⟩
    | 1, e => cases e
    | 2, e => cases e
    | 3, e => cases e
    | 4, e => cases e
    | 5, e => cases e
    | 6, e => cases e
    | j + 7, e => simp [γ0] at e
  generalize hσ : L2.start ["_law_book", "_law_world_here", "_law_part", "_law_ones", "_law_others", "_law_told", "_law_lost"] [v] = σ at *
  have comp : ∀ (k : Int), atI [ePs [], ePs [], eLs [], eNs []] k = some (ePs []) → Te K M0 (tLc (iTup K (tOp (rIx K) (tVar 0) (tC (.int k)))) (gName 2) tYes (tOp (rIx K) (tVar 2) (tC (.int 0))) (List.map (fun x => x.snd) [(Str.ofString "_law_part", 2)])) γ0 (.o []) := fun k hk => te_lc0 (α := Part) (enc := fun p => .d (eP p)) (l := []) (js := [2]) (fun p => .str p.n) (ti_tc (ti_tupE (te_op (te_var rfl) te_int (rv_ixT hk)))) (by decide) (by simp) fun p hp => by cases hp
  intro w' hw'
  have x1 : Xm M0 H (upd H w' (.dK [])) := Xm.new hw'
  generalize hH1 : upd H w' (.dK []) = H1 at *
  have c1w : H1 w' = some (.dK []) := by rw [← hH1]; exact upd_same
  have E1 := E0'.dr d0 x1.t
  rw [tPairs]
  refine tC_run (tLst_run (tCons_run ?_))
  refine comp 0 rfl H1 σ H1 (xs0 H1) E1 _ fun v1 H2 e2 h1 => ?_
  obtain ⟨p0, ys0, rfl, _, hp0, c0, hy0⟩ := h1
  cases hy0
  have E2 := E1.dr d0 e2.t
  refine tCons_run ?_
  refine comp 1 rfl H2 σ H2 (xs0 H2) E2 _ fun v2 H3 e3 h2 => ?_
  obtain ⟨p1, ys1, rfl, _, hp1, c1, hy1⟩ := h2
  cases hy1
  have E3 := E2.dr d0 e3.t
  refine tNil_run ⟨Evl.sz_of (by simp), fun sd hsd => ?_⟩
  have x4 : Xm M0 H3 (upd H3 sd (.lst [.ref p0, .ref p1])) := Xm.new hsd
  generalize hH4 : upd H3 sd (.lst [V.ref p0, .ref p1]) = H4 at *
  have csd : H4 sd = some (.lst [.ref p0, .ref p1]) := by rw [← hH4]; exact upd_same
  rw [tPairs]
  refine tC_run ?_
  intro tx htx
  have x5 : Xm M0 H4 (upd H4 tx (.dK [])) := Xm.new htx
  generalize hH5 : upd H4 tx (.dK []) = H5 at *
  have ctx : H5 tx = some (.dK []) := by rw [← hH5]; exact upd_same
  rw [tPairs]
  refine tC_run ?_
  intro mo hmo
  have x6 : Xm M0 H5 (upd H5 mo (.dK [])) := Xm.new hmo
  generalize hH6 : upd H5 mo (.dK []) = H6 at *
  have cmo : H6 mo = some (.dK []) := by rw [← hH6]; exact upd_same
  rw [tPairs]
  have y16 := (((e2.trans e3).trans x4).trans x5).trans x6
  refine ⟨x0 y16 _ _ c1w, [(.inr "sides", .ref sd), (.inr "text", .ref tx), (.inr "moments", .ref mo)], rfl, by simp, ?_⟩
  have hm3 : mergeK [] [((Sum.inr "sides" : Key), V.ref sd), (.inr "text", .ref tx), (.inr "moments", .ref mo)] = [((Sum.inr "sides" : Key), V.ref sd), (.inr "text", .ref tx), (.inr "moments", .ref mo)] := rfl
  rw [hm3]
  have c6w := x0 y16 _ _ c1w
  have x7 : Kp H6 (upd H6 w' (.dK [((Sum.inr "sides" : Key), V.ref sd), (.inr "text", .ref tx), (.inr "moments", .ref mo)])) := kp_dict c6w
  generalize hH7 : upd H6 w' (.dK [((Sum.inr "sides" : Key), V.ref sd), (.inr "text", .ref tx), (.inr "moments", .ref mo)]) = H7 at *
  have c7w : H7 w' = some (.dK [((Sum.inr "sides" : Key), V.ref sd), (.inr "text", .ref tx), (.inr "moments", .ref mo)]) := by rw [← hH7]; exact upd_same
  have k67 : ∀ a o, a ≠ w' → H6 a = some o → H7 a = some o := fun a o ne h => by rw [← hH7, upd_ne ne]; exact h
  let γ1 : G := [some (.d (eB b0)), some (.r w'), none, none, none, none, none]
  have d1 : DR γ1 := d0.set (i := 1) (.inr ⟨w', rfl⟩)
  have E7 : En K M0 H7 H7 (σ.set 1 (some (.ref w'))) γ1 := (((E3.dr d0 (x4.trans (x5.trans x6)).t).dr d0 x7).set (i := 1) (v := .ref w') (s := .r w') rfl rfl)
  refine gN_run (i := 1) (v := .ref w') ?_
  generalize hσ1 : σ.set 1 (some (V.ref w')) = σ1 at *
  refine tSeq_run ?_
  have s1w : σ1[1]? = some (some (.ref w')) := by
    obtain ⟨v, a, b⟩ := E7.get 1 _ rfl
    obtain rfl : v = .ref w' := b
    exact a
  -- the first loop, over nothing
  have lp1 : ∀ {tu : TS}, Ts K M0 (tFor (iTup K (tOp (rAddU K) (tOp (rIx K) (tVar 0) (tC (.int 0))) (tOp (rIx K) (tVar 0) (tC (.int 1))))) (gName 2) tu) γ1 (fun γ' => γ' = γ1) (fun _ => False) := fun {tu} =>
    ts_for (α := Part) (enc := fun p => .d (eP p)) (l := []) (js := [2]) (fun _ γ' => γ' = γ1) (ti_tupE (te_op (te_op (te_var rfl) te_int (rv_ixT (d := .tuple []) rfl)) (te_op (te_var rfl) te_int (rv_ixT (d := .tuple []) rfl)) (rv_addT (Nat.le_of_ble_eq_true rfl)))) rfl (fun i a γ2 h => by cases h) fun γ2 h => h
  refine lp1 H7 σ1 H7 _ (xs0 H7) E7 (fun γ' σ8 H8 hg x8 _ E8 => ?_) fun _ _ _ h => h.elim
  subst hg
  have e8 := x8.e
  have E8' : En K M0 H8 H8 σ8 γ1 := E7.dr d1 e8.t |> fun _ => ⟨E8.len, fun i s g => by
    obtain ⟨v, a, b⟩ := E8.get i s g
    refine ⟨v, a, ?_⟩
    rcases d1 i s g with ⟨d, rfl⟩ | ⟨p, rfl⟩
    · exact b
    · exact b, fun i j ds es v n e1 _ _ => by rcases d1 i _ e1 with ⟨d, h⟩ | ⟨p, h⟩ <;> cases h⟩
  have c8w := x0 e8 _ _ c7w
  -- alone
  refine tSeq_run ?_
  refine (te_cb (ta_cons (te_op (te_var rfl) te_int (rv_ixT (d := .tuple []) rfl)) ta_nil) rc_listT : Te K M0 (tCB (rListU K) (tCons (tOp (rIx K) (tVar 0) (tC (.int 3))) tNil)) γ1 (.o [])) H8 σ8 H8 (xs0 H8) E8' _ fun v3 H9 e9 h3 => ?_
  obtain ⟨al, ys3, rfl, _, hal, cal, hy3⟩ := h3
  cases hy3
  have c9w := x0 e9 _ _ c8w
  obtain ⟨vw, hvw, hvw2⟩ := E8'.get 1 _ rfl
  obtain rfl : vw = .ref w' := hvw2
  refine ⟨_, hvw, w', _, rfl, .inl ⟨_, Sum.inr "alone", c9w, rfl, Evl.sz_lt (by simp), rfl⟩, ?_⟩
  have hp4 : putK [((Sum.inr "sides" : Key), V.ref sd), (.inr "text", .ref tx), (.inr "moments", .ref mo)] (Sum.inr "alone") (V.ref al) = [((Sum.inr "sides" : Key), V.ref sd), (.inr "text", .ref tx), (.inr "moments", .ref mo), (.inr "alone", .ref al)] := rfl
  rw [hp4]
  have x10 : Kp H9 (upd H9 w' (.dK [((Sum.inr "sides" : Key), V.ref sd), (.inr "text", .ref tx), (.inr "moments", .ref mo), (.inr "alone", .ref al)])) := kp_dict c9w
  generalize hH10 : upd H9 w' (.dK [((Sum.inr "sides" : Key), V.ref sd), (.inr "text", .ref tx), (.inr "moments", .ref mo), (.inr "alone", .ref al)]) = H10 at *
  have c10w : H10 w' = some (.dK [((Sum.inr "sides" : Key), V.ref sd), (.inr "text", .ref tx), (.inr "moments", .ref mo), (.inr "alone", .ref al)]) := by rw [← hH10]; exact upd_same
  have k910 : ∀ a o, a ≠ w' → H9 a = some o → H10 a = some o := fun a o ne h => by rw [← hH10, upd_ne ne]; exact h
  have E10 := (E8'.dr d1 e9.t).dr d1 x10
  -- links
  refine tSeq_run ?_
  refine ⟨Nat.zero_le _, fun ks hks => ?_⟩
  have x11 : Xm M0 H10 (upd H10 ks (.lst [])) := Xm.new hks
  generalize hH11 : upd H10 ks (.lst []) = H11 at *
  have cks : H11 ks = some (.lst []) := by rw [← hH11]; exact upd_same
  have c11w := x0 x11 _ _ c10w
  refine ⟨_, hvw, w', _, rfl, .inl ⟨_, Sum.inr "links", c11w, rfl, Evl.sz_lt (by simp), rfl⟩, ?_⟩
  have hp5 : putK [((Sum.inr "sides" : Key), V.ref sd), (.inr "text", .ref tx), (.inr "moments", .ref mo), (.inr "alone", .ref al)] (Sum.inr "links") (V.ref ks) = [((Sum.inr "sides" : Key), V.ref sd), (.inr "text", .ref tx), (.inr "moments", .ref mo), (.inr "alone", .ref al), (.inr "links", .ref ks)] := rfl
  rw [hp5]
  have x12 : Kp H11 (upd H11 w' (.dK [((Sum.inr "sides" : Key), V.ref sd), (.inr "text", .ref tx), (.inr "moments", .ref mo), (.inr "alone", .ref al), (.inr "links", .ref ks)])) := kp_dict c11w
  generalize hH12 : upd H11 w' (.dK [((Sum.inr "sides" : Key), V.ref sd), (.inr "text", .ref tx), (.inr "moments", .ref mo), (.inr "alone", .ref al), (.inr "links", .ref ks)]) = H12 at *
  have c12w : H12 w' = some (.dK [((Sum.inr "sides" : Key), V.ref sd), (.inr "text", .ref tx), (.inr "moments", .ref mo), (.inr "alone", .ref al), (.inr "links", .ref ks)]) := by rw [← hH12]; exact upd_same
  have k1112 : ∀ a o, a ≠ w' → H11 a = some o → H12 a = some o := fun a o ne h => by rw [← hH12, upd_ne ne]; exact h
  have E12 := (E10.dr d1 x11.t).dr d1 x12
  -- the second loop, over nothing
  have lp2 : ∀ {g : TG} {tu : TS}, Ts K M0 (tFor (iTup K (tOp (rIx K) (tVar 0) (tC (.int 2)))) g tu) γ1 (fun γ' => γ' = γ1) (fun _ => False) := fun {g tu} =>
    ts_for (α := Part) (enc := fun p => .d (eP p)) (l := []) (js := [2]) (fun _ γ' => γ' = γ1) (ti_tupE (te_op (te_var rfl) te_int (rv_ixT (d := .tuple []) rfl))) rfl (fun i a γ2 h => by cases h) fun γ2 h => h
  refine tSeq_run ?_
  refine lp2 H12 σ8 H12 _ (xs0 H12) E12 (fun γ' σ9 H13 hg x13 _ E13 => ?_) fun _ _ _ h => h.elim
  subst hg
  have e13 := x13.e
  obtain ⟨vw2, hvw3, hvw4⟩ := E13.get 1 _ rfl
  obtain rfl : vw2 = .ref w' := hvw4
  refine ⟨_, hvw3, ?_⟩
  -- they stand apart
  have n0w : w' ≠ p0 := some_ne c1w hp0
  have n1w : w' ≠ p1 := some_ne (x0 e2 _ _ c1w) hp1
  have nsw : w' ≠ sd := some_ne (x0 (e2.trans e3) _ _ c1w) hsd
  have ntw : w' ≠ tx := some_ne (x0 ((e2.trans e3).trans x4) _ _ c1w) htx
  have nmw : w' ≠ mo := some_ne (x0 (((e2.trans e3).trans x4).trans x5) _ _ c1w) hmo
  have naw : w' ≠ al := some_ne c8w hal
  have nkw : w' ≠ ks := some_ne c10w hks
  have n01 : p0 ≠ p1 := some_ne c0 hp1
  have n0s : p0 ≠ sd := some_ne (x0 e3 _ _ c0) hsd
  have n0t : p0 ≠ tx := some_ne (x0 (e3.trans x4) _ _ c0) htx
  have n0m : p0 ≠ mo := some_ne (x0 ((e3.trans x4).trans x5) _ _ c0) hmo
  have n1s : p1 ≠ sd := some_ne c1 hsd
  have n1t : p1 ≠ tx := some_ne (x0 x4 _ _ c1) htx
  have n1m : p1 ≠ mo := some_ne (x0 (x4.trans x5) _ _ c1) hmo
  have nst : sd ≠ tx := some_ne csd htx
  have nsm : sd ≠ mo := some_ne (x0 x5 _ _ csd) hmo
  have ntm : tx ≠ mo := some_ne ctx hmo
  -- what stood at H6 stands at H8, H10, H12
  have c6_0 := x0 (((e3.trans x4).trans x5).trans x6) _ _ c0
  have c6_1 := x0 ((x4.trans x5).trans x6) _ _ c1
  have c6_s := x0 (x5.trans x6) _ _ csd
  have c6_t := x0 x6 _ _ ctx
  have up8 : ∀ a o, a ≠ w' → H6 a = some o → H8 a = some o := fun a o ne h => x0 e8 _ _ (k67 a o ne h)
  have up10 : ∀ a o, a ≠ w' → H8 a = some o → H10 a = some o := fun a o ne h => k910 a o ne (x0 e9 _ _ h)
  have up13 : ∀ a o, a ≠ w' → H10 a = some o → H13 a = some o := fun a o ne h => x0 e13 _ _ (k1112 a o ne (x0 x11 _ _ h))
  have n0a : p0 ≠ al := some_ne (up8 _ _ n0w.symm c6_0) hal
  have n1a : p1 ≠ al := some_ne (up8 _ _ n1w.symm c6_1) hal
  have nsa : sd ≠ al := some_ne (up8 _ _ nsw.symm c6_s) hal
  have nta : tx ≠ al := some_ne (up8 _ _ ntw.symm c6_t) hal
  have nma : mo ≠ al := some_ne (up8 _ _ nmw.symm cmo) hal
  have n0k : p0 ≠ ks := some_ne (up10 _ _ n0w.symm (up8 _ _ n0w.symm c6_0)) hks
  have n1k : p1 ≠ ks := some_ne (up10 _ _ n1w.symm (up8 _ _ n1w.symm c6_1)) hks
  have nsk : sd ≠ ks := some_ne (up10 _ _ nsw.symm (up8 _ _ nsw.symm c6_s)) hks
  have ntk : tx ≠ ks := some_ne (up10 _ _ ntw.symm (up8 _ _ ntw.symm c6_t)) hks
  have nmk : mo ≠ ks := some_ne (up10 _ _ nmw.symm (up8 _ _ nmw.symm cmo)) hks
  have nak : al ≠ ks := some_ne (k910 _ _ naw.symm cal) hks
  let L : List (Addr × Tag) := [(w', .w), (p0, .s false), (p1, .s true), (sd, .sd), (tx, .tx), (mo, .mo), (al, .al), (ks, .ks)]
  have hnd : (L.map Prod.fst).Nodup := by
    simp only [L, List.map_cons, List.map_nil, List.nodup_cons, List.mem_cons, List.not_mem_nil, or_false, not_or, not_false_eq_true, List.nodup_nil, and_true]
    exact ⟨⟨n0w, n1w, nsw, ntw, nmw, naw, nkw⟩, ⟨n01, n0s, n0t, n0m, n0a, n0k⟩, ⟨n1s, n1t, n1m, n1a, n1k⟩, ⟨nst, nsm, nsa, nsk⟩, ⟨ntm, nta, ntk⟩, ⟨nma, nmk⟩, nak⟩
  have exH : Evl.Ex H H13 := fun a o h => by
    have ne : a ≠ w' := fun e => by subst e; rw [hw'] at h; cases h
    exact up13 a o ne (up10 a o ne (up8 a o ne (x0 y16 _ _ (x0 x1 _ _ h))))
  have bk : ∀ {Ha : Hp} {x : Addr}, (∀ o, H x = some o → Ha x = some o) → Ha x = none → H x = none := fun {Ha x} e h => by
    cases z : H x with
    | none => rfl
    | some o => rw [e o z] at h; cases h
  have nH : ∀ a, H a ≠ none → a ≠ w' := fun a h e => h (by rw [e]; exact hw')
  have hno : ∀ x ∈ L, H x.1 = none := fun x hx => by
    simp only [L, List.mem_cons, List.not_mem_nil, or_false] at hx
    rcases hx with rfl | rfl | rfl | rfl | rfl | rfl | rfl | rfl
    · exact hw'
    · exact bk (fun o h => x0 x1 _ _ h) hp0
    · exact bk (fun o h => x0 (x1.trans e2) _ _ h) hp1
    · exact bk (fun o h => x0 ((x1.trans e2).trans e3) _ _ h) hsd
    · exact bk (fun o h => x0 (((x1.trans e2).trans e3).trans x4) _ _ h) htx
    · exact bk (fun o h => x0 ((((x1.trans e2).trans e3).trans x4).trans x5) _ _ h) hmo
    · exact bk (fun o h => up8 _ _ (nH _ (by rw [h]; exact fun z => nomatch z)) (x0 (x1.trans y16) _ _ h)) hal
    · exact bk (fun o h => up10 _ _ (nH _ (by rw [h]; exact fun z => nomatch z)) (up8 _ _ (nH _ (by rw [h]; exact fun z => nomatch z)) (x0 (x1.trans y16) _ _ h))) hks
  have cw : H13 w' = some (.dK (kvz wK [.ref sd, .ref tx, .ref mo, .ref al, .ref ks])) := x0 e13 _ _ c12w
  have f0 := up13 _ _ n0w.symm (up10 _ _ n0w.symm (up8 _ _ n0w.symm c6_0))
  have f1 := up13 _ _ n1w.symm (up10 _ _ n1w.symm (up8 _ _ n1w.symm c6_1))
  have fs := up13 _ _ nsw.symm (up10 _ _ nsw.symm (up8 _ _ nsw.symm c6_s))
  have ft := up13 _ _ ntw.symm (up10 _ _ ntw.symm (up8 _ _ ntw.symm c6_t))
  have fm := up13 _ _ nmw.symm (up10 _ _ nmw.symm (up8 _ _ nmw.symm cmo))
  have fa := up13 _ _ naw.symm (k910 _ _ naw.symm cal)
  have fk := x0 e13 _ _ (k1112 _ _ nkw.symm cks)
  have tg : ∀ a t, (a, t) ∈ L → tagIf (fun _ => none) L a = some t := fun a t h => tagIf_mem hnd h
  refine q (tagIf (fun _ => none) L) ⟨w', sd, p0, p1, tx, mo, al, ks, [], [], [], [], [], []⟩ H13 rfl ⟨⟨tg _ _ (by simp [L]), cw⟩, ⟨tg _ _ (by simp [L]), fs⟩, ⟨tg _ _ (by simp [L]), f0⟩, ⟨tg _ _ (by simp [L]), f1⟩, ⟨tg _ _ (by simp [L]), ft⟩, ⟨tg _ _ (by simp [L]), fm⟩, (fun q hq => by cases hq), ⟨tg _ _ (by simp [L]), fa⟩, ⟨tg _ _ (by simp [L]), fk⟩, (fun q hq => by cases hq), by simp, by simp, by simp, fun a ha => ?_⟩ (fun a ha => ?_) exH
  · by_cases hm : ∃ y ∈ L, y.1 = a
    · obtain ⟨y, hy, rfl⟩ := hm
      simp only [L, List.mem_cons, List.not_mem_nil, or_false] at hy
      rcases hy with rfl | rfl | rfl | rfl | rfl | rfl | rfl | rfl
      · rw [cw]; exact fun z => nomatch z
      · rw [f0]; exact fun z => nomatch z
      · rw [f1]; exact fun z => nomatch z
      · rw [fs]; exact fun z => nomatch z
      · rw [ft]; exact fun z => nomatch z
      · rw [fm]; exact fun z => nomatch z
      · rw [fa]; exact fun z => nomatch z
      · rw [fk]; exact fun z => nomatch z
    · rw [tagIf_no fun y hy e => hm ⟨y, hy, e⟩] at ha
      exact absurd rfl ha
  · by_cases hm : ∃ y ∈ L, y.1 = a
    · obtain ⟨y, hy, rfl⟩ := hm
      exact hno y hy
    · rw [tagIf_no fun y hy e => hm ⟨y, hy, e⟩] at ha
      exact absurd rfl ha
end Tw
namespace Tw
open PySem PySem.Spec PyProof.Rows L2
local macro_rules
  | `(tactic| walk_at "rv") => `(tactic| first
    | exact rv_ixT rfl | exact rv_addI | exact rv_sub | exact rv_ixL rfl rfl | exact rv_ixM rfl
    | exact rsl_T | exact rsl_L rfl
    | exact rv_inStrL rfl | exact rv_inStrT | exact rv_ninStrL rfl | exact rv_ninIntL rfl | exact rv_eqStr | exact rv_neStr | exact rv_eqInt | exact rv_neInt | exact rv_eqBl | exact rv_neBl
    | exact rv_lt | exact rv_gt | exact rv_ge | exact rv_leI | exact rv_leS | exact rv_isN | exact rv_notN
    | exact rc_lenT | exact rc_lenL rfl | exact rc_intB | exact rc_listT | exact rc_listL rfl | exact rc_tupleL rfl | exact rc_tupleT)
local macro_rules
  | `(tactic| walk_at "e1") => `(tactic| first
    | exact te_var rfl | exact te_int | exact te_str | exact te_bl | exact te_non | exact ta_nil | exact to_none
    | apply to_some | apply ta_cons | apply te_op | apply te_cb | apply te_sl
    | apply tt_B | apply tt_test | walk_at "rv")
local macro_rules
  | `(tactic| walk_at "e") => `(tactic| repeat walk_at "e1")

/-- what mathematics says -/
structure MathOk (LI : Nat → RW → Prop) : Prop where
  zero : LI 0 w0
  ok : ∀ i W, LI i W → WInv W
  small : ∀ i W, LI i W → Small W.book
  closed : ∀ i W, LI i W → Closed W.book
  rows : ∀ i W, LI i W → ∀ s, W.book.rowL s = W.book.row s
  step : ∀ i W d, LI i W → i < 42 → Drawn W d → Extra W d ∧ Can W.book d ∧ LI (i + 1) (W.doesL d) ∧ (W.doesL d).book = W.book.dn d
variable {P : Program} {w : World} {K : PySem.W.Frag} {mg : Str → Option Value} {base : Heap}
theorem sc_law : FnScope ["_law_script", "_law_box", "_law_book", "_law_world_here", "_law_k", "_law_deed_here"] ["_law_script"] (defScope (top 87)) := ⟨rfl, rfl, rfl, by decide +kernel, rfl, by decide +kernel, by decide +kernel⟩
def Sp_law (K : PySem.W.Frag) : Sp := fun vs H Q _ => ∃ (a : Addr) (ns : List Int), vs = [V.ref a] ∧ FzL K H a (ns.map V.int) ∧ ns.length ≤ 63 ∧ ∀ H', Q (.bl true) H'
theorem sm_ints {ms : List Int} (h : ms.length ≤ 5000) : smD (eIs ms) = true ∧ (eIs ms).depth ≤ 1 := ⟨sm_tup (by rw [List.length_map]; exact h) fun d hd => by obtain ⟨i, _, rfl⟩ := List.mem_map.mp hd; exact sm_int i, dp_tup fun d hd => by obtain ⟨i, _, rfl⟩ := List.mem_map.mp hd; simp [PyData.depth]⟩
theorem sm_strs {ms : List Str} (h : ms.length ≤ 5000) : smD (eNs ms) = true ∧ (eNs ms).depth ≤ 1 := ⟨sm_tup (by rw [List.length_map]; exact h) fun d hd => by obtain ⟨i, _, rfl⟩ := List.mem_map.mp hd; exact sm_str i, dp_tup fun d hd => by obtain ⟨i, _, rfl⟩ := List.mem_map.mp hd; simp [PyData.depth]⟩
theorem sm_two {ds : List PyData} {n : Nat} (hl : ds.length ≤ 5000) (h : ∀ d ∈ ds, smD d = true ∧ d.depth ≤ n) : smD (.tuple ds) = true ∧ (PyData.tuple ds).depth ≤ n + 1 := ⟨sm_tup hl fun d hd => (h d hd).1, dp_tup fun d hd => (h d hd).2⟩
theorem sm_up {d : PyData} {n m : Nat} (h : smD d = true ∧ d.depth ≤ n) (k : n ≤ m) : smD d = true ∧ d.depth ≤ m := ⟨h.1, Nat.le_trans h.2 k⟩
theorem sm_book {b : Book} (h : Small b) : smD (eB b) = true ∧ (eB b).depth ≤ 5 := by
  have s0 : ∀ n : Str, smD (.str n) = true ∧ (PyData.str n).depth ≤ 0 := fun n => ⟨sm_str n, by simp [PyData.depth]⟩
  have ps : ∀ l : List Part, l.length ≤ 100 → (∀ p ∈ l, POk p) → smD (ePs l) = true ∧ (ePs l).depth ≤ 3 := fun l hl hp => sm_two (by rw [List.length_map]; omega) fun d hd => by
    obtain ⟨p, hpm, rfl⟩ := List.mem_map.mp hd
    refine sm_two (by simp) fun d hd => ?_
    simp only [List.mem_cons, List.not_mem_nil, or_false] at hd
    rcases hd with rfl | rfl | rfl
    · exact sm_up (s0 _) (by decide)
    · exact sm_up (s0 _) (by decide)
    · exact sm_ints (Nat.le_trans (hp p hpm).m (by decide))
  refine sm_two (by simp) fun d hd => ?_
  simp only [List.mem_cons, List.not_mem_nil, or_false] at hd
  rcases hd with rfl | rfl | rfl | rfl
  · exact sm_up (ps _ h.l h.pl) (by decide)
  · exact sm_up (ps _ h.r h.pr) (by decide)
  · refine sm_two (by rw [List.length_map]; have := h.k; omega) fun d hd => ?_
    obtain ⟨l, hlm, rfl⟩ := List.mem_map.mp hd
    have hl := h.lk l hlm
    refine sm_two (by simp) fun d hd => ?_
    simp only [List.mem_cons, List.not_mem_nil, or_false] at hd
    rcases hd with rfl | rfl | rfl | rfl
    · exact sm_up (sm_strs (Nat.le_trans hl.a (by decide))) (by decide)
    · exact sm_up (sm_strs (Nat.le_trans hl.b (by decide))) (by decide)
    · exact ⟨sm_int _, by simp [PyData.depth]⟩
    · refine sm_two (by simp) fun d hd => ?_
      simp only [List.mem_cons, List.not_mem_nil, or_false] at hd
      rcases hd with rfl | rfl
      · exact sm_ints (Nat.le_trans hl.la (by decide))
      · exact sm_ints (Nat.le_trans hl.lb (by decide))
  · exact sm_up (sm_strs (Nat.le_trans h.z (by decide))) (by decide)
theorem en_none {M : Addr → Prop} {H0 H : Hp} {σ : L2.St} {n : Nat} (h : σ.length = n) : En K M H0 H σ (List.replicate n none) := by
  refine ⟨by rw [List.length_replicate]; exact h, fun i s e => ?_, fun i j ds es v _ e1 _ _ => ?_⟩
  · have := List.eq_of_mem_replicate (List.mem_of_getElem? e)
    cases this
  · have := List.eq_of_mem_replicate (List.mem_of_getElem? e1)
    cases this
/-- how the law stands before a turn -/
structure LS (K : PySem.W.Frag) (LI : Nat → RW → Prop) (b p : Addr) (i : Nat) (σ : L2.St) (H : Hp) : Prop where
  ex : ∃ own A, WAt own H A ∧ LI i A.rw ∧ own b = none ∧ own p = none ∧ En K (fun a => a = b) H H σ [none, some .b, some (.d (eB A.rw.book)), some (.r A.w), none, none]
  box : BoxAt H b p
  ne : ¬ p = b
theorem box_xs {H : Hp} {b p : Addr} (h : BoxAt H b p) (ne : ¬ p = b) : Xs (fun a => a = b) H H := ⟨Xm.refl H, fun b' e => by
  have e' : b' = b := e
  subst e'
  exact ⟨p, ne, h⟩⟩
theorem wat_xm {own : Own} {H H' : Hp} {A : AW} {b : Addr} (w : WAt own H A) (hb : own b = none) (e : Xm (fun a => a = b) H H') : WAt own H' A := by
  have nb : ∀ a, own a ≠ none → ¬ a = b := fun a h z => h (by rw [z]; exact hb)
  refine w.ext (fun _ _ z => z) (fun a t o h1 h2 => e.k a o (nb a (by rw [h1]; exact fun z => nomatch z)) h2) fun a ha e2 => ?_
  cases q : H a with
  | none => exact w.ex a ha q
  | some o => rw [e.k a o (nb a ha) q] at e2; cases e2
/-- the world as a tree among the slots -/
theorem en_tree {own : Own} {H : Hp} {A : AW} {b : Addr} {σ : L2.St} {γ : G} (w : WAt own H A) (hb : own b = none) (E : En K (fun a => a = b) H H σ γ) (h3 : γ[3]? = some (some (.r A.w))) : En K (fun a => a = b) H H σ (γ.set 3 (some (.m (wT A.rw)))) := by
  obtain ⟨v, hv, hv2⟩ := E.get 3 _ h3
  obtain rfl : v = .ref A.w := hv2
  have hσ : σ.set 3 (some (V.ref A.w)) = σ := by
    apply List.ext_getElem?
    intro j
    by_cases e : 3 = j
    · subst e
      rw [List.getElem?_set_self (List.getElem?_eq_some_iff.mp hv).1, hv]
    · rw [List.getElem?_set_ne e]
  have := E.set (i := 3) (v := .ref A.w) (s := .m (wT A.rw)) (w.md (K := K) fun a t c ho hh => ⟨(fun (z : a = b) => by rw [z, hb] at ho; cases ho), (fun e => by rw [hh] at e; cases e)⟩) rfl
  rwa [hσ] at this
theorem tAsg_run {te : TE} {g : TG} {D : Ends} {σ : L2.St} {H : Hp} (h : te σ H fun v H1 => g v σ H1 D.nx) : tAsg te g D σ H := h
theorem tForR_run {te : TE} {tr : TA} {g : TG} {tb : TS} {D : Ends} {σ : L2.St} {H : Hp} (h : te σ H fun x H1 => tr σ H1 fun xs H2 => ∃ n : Int, x :: xs = [.int n] ∧ -(2 ^ 62) ≤ n ∧ n < 2 ^ 62 ∧ ∃ W : Nat → Nat → L2.St → Hp → Prop, (∃ m, W 0 m σ H2) ∧ ∀ i m σ H, W i m σ H →
  ((Itr 0 n.toNat).stop i H ∧ D.nx σ H) ∨ ((Itr 0 n.toNat).go i H ∧ ∃ N : L2.St → Hp → Prop, (∀ σ' H', N σ' H' → ∃ m', m' < m ∧ W (i + 1) m' σ' H') ∧ ∀ x H', (Itr 0 n.toNat).yld i H x H' → g x σ H' fun σ2 H2 => tb { D with nx := N, ct := N, bk := D.nx } σ2 H2)) : tFor (iRng1 (tCons te tr)) g tb D σ H := h
theorem w0_book : w0.book = b0 := by simp [RW.book, w0, b0, sortE_nil]
theorem law_ok {LI : Nat → RW → Prop} (MO : MathOk LI) (W : Wld K mg w) {f : Addr} {fd : FuncData} (F : FnP K "law" 87 f fd) : FnOk P w K mg base CX0 10 f fd ["_law_script"] (Sp_law K) := by
  refine F.ok sc_law (fun vs H Q E h => by obtain ⟨a, ns, rfl, _⟩ := h; rfl) fun cdv A outer s H vs Q E hr hsp => ?_
  refine ⟨_, PSs.nox ((pss_cons (ps_set (i := 1) sc_law.nd rfl (by first | exact .inl rfl | exact .inr rfl) (pe_lst (pa_cons (pe_knK (K := K) (by rfl) (kn_law_numbers W) hr (by decide) (by rfl) (pa_cons (pv 0) (pa_cons pe_int pa_nil))) (pa_cons pe_int (pa_cons pe_int pa_nil)))))
    (pss_cons (ps_asg (pe_knK (K := K) (by rfl) (kn_law_next W) hr (by decide) (by rfl) (pa_cons (pv 1) pa_nil)) (pg_sub (pv 1) pe_int set_list))
    (pss_cons (ps_set (i := 2) sc_law.nd rfl (by first | exact .inl rfl | exact .inr rfl) (pe_tup (pa_cons (pe_tup pa_nil) (pa_cons (pe_tup pa_nil) (pa_cons (pe_tup pa_nil) (pa_cons (pe_tup pa_nil) pa_nil))))))
    (pss_cons (ps_set (i := 3) sc_law.nd rfl (by first | exact .inl rfl | exact .inr rfl) (pe_knK (K := K) (by rfl) (kn_law_world W) hr (by decide) (by rfl) (pa_cons (pv 2) pa_nil)))
    (pss_cons (ps_for PassesOwn.never rfl (pi_range1 (by rfl) W.b_range (pa_cons (pe_op op_mulU pe_int (pe_knK (K := K) (by rfl) (kn_law_some_deeds W) hr (by decide) (by rfl) (pa_cons (pv 1) (pa_cons pe_int pa_nil)))) pa_nil)) (pg_name (i := 4) sc_law.nd rfl (by first | exact .inl rfl | exact .inr rfl)) (pss_cons (ps_set (i := 5) sc_law.nd rfl (by first | exact .inl rfl | exact .inr rfl) (pe_knK (K := K) (by rfl) (kn_law_deed W) hr (by decide) (by rfl) (pa_cons (pv 3) (pa_cons (pv 1) pa_nil))))
    (pss_cons (ps_expr (pe_knK (K := K) (by rfl) (kn_law_does W) hr (by decide) (by rfl) (pa_cons (pv 3) (pa_cons (pv 5) pa_nil))))
    (pss_cons (ps_set (i := 2) sc_law.nd rfl (by first | exact .inl rfl | exact .inr rfl) (pe_knK (K := K) (by rfl) (kn_done W) hr (by decide) (by rfl) (pa_cons (pv 2) (pa_cons (pv 5) pa_nil))))
    (pss_one (ps_if (PW.pt (pw_or (pt_not (pt_val (pe_knK (K := K) (by rfl) (kn_law_same W) hr (by decide) (by rfl) (pa_cons (pv 2) (pa_cons (pe_knK (K := K) (by rfl) (kn_law_book_of W) hr (by decide) (by rfl) (pa_cons (pv 3) pa_nil)) pa_nil))))) (pw_or1 (pt_not (pt_val (pe_knK (K := K) (by rfl) (kn_law_right W) hr (by decide) (by rfl) (pa_cons (pv 2) pa_nil))))))) (pss_one (ps_ret pe_bl)) pss_nil))))))
    (pss_one (ps_ret (pe_knK (K := K) (by rfl) (kn_law_right W) hr (by decide) (by rfl) (pa_cons (pv 2) pa_nil)))))))))), ?_⟩
  obtain ⟨a, ns, rfl, hfz, hl, q⟩ := hsp
  have nn : ns.length ≤ 63 := hl
  let γ0 : G := [some (.q (ns.map PyData.int)), none, none, none, none, none]
  have E0' : En K M0 H H (L2.start ["_law_script", "_law_box", "_law_book", "_law_world_here", "_law_k", "_law_deed_here"] [.ref a]) γ0 := En.start (vs := [.ref a]) (ss := [.q (ns.map PyData.int)]) (.cons ⟨a, _, rfl, hfz, dats_int⟩ .nil) 5
  generalize hσ : L2.start ["_law_script", "_law_box", "_law_book", "_law_world_here", "_law_k", "_law_deed_here"] [V.ref a] = σ at *
  have hσl : σ.length = 6 := by rw [← hσ]; rfl
  -- the numbers
  refine tSeq_run (tAsg_run (tLst_run (tCons_run ?_)))
  have tpn : Tp K M0 (tCall (Sp_law_numbers K) [] E0 (tCons (tVar 0) (tCons (tC (.int 1500)) tNil))) γ0 (fun s => ∃ ms : List Int, s = .o (ms.map PyData.int) ∧ ms.length = 1500 ∧ NumsOk ms) :=
    tp_callG (tpa_of (ta_cons (te_var rfl) (ta_cons te_int ta_nil))) (fun ss e => ⟨(ns, ()), nn, by rw [e]; rfl, rfl⟩) fun s ⟨ms, e, _⟩ => by rw [e]; rfl
  refine tpn H σ H (xs0 H) E0' _ fun v1 s1 H1 hs1 e1 hv1 => ?_
  obtain ⟨ms, rfl, hml, hmn⟩ := hs1
  obtain ⟨p, xs, rfl, _, hp0, hp, hx⟩ := hv1
  obtain rfl := int_dats hx
  refine tCons_run (tC_run (tCons_run (tC_run (tNil_run ⟨Evl.sz_of (by simp), fun b hb => ?_⟩))))
  have x2 : Xm M0 H1 (upd H1 b (.lst [.ref p, .int 0, .int 0])) := Xm.new hb
  generalize hH2 : upd H1 b (.lst [V.ref p, .int 0, .int 0]) = H2 at *
  have cb : H2 b = some (.lst [.ref p, .int 0, .int 0]) := by rw [← hH2]; exact upd_same
  have hpb : ¬ p = b := some_ne hp hb
  have bx2 : BoxAt H2 b p := ⟨ms, 0, 0, cb, x0 x2 _ _ hp, hml, hmn, by decide, by decide, by decide⟩
  refine gN_run (i := 1) (v := .ref b) ?_
  generalize hσ1 : σ.set 1 (some (V.ref b)) = σ1 at *
  let γ1 : G := [none, some .b, none, none, none, none]
  have E2 : En K (fun a => a = b) H2 H2 σ1 γ1 := by
    rw [← hσ1]
    exact (en_none (K := K) (M := fun a => a = b) (H0 := H2) (H := H2) hσl).set (i := 1) (v := .ref b) (s := .b) ⟨b, rfl, rfl⟩ rfl
  -- its third
  try dsimp only
  refine tSeq_run ?_
  have h2' : Ts K (fun a => a = b) (tSeq (tAsg (tCall (Sp_law_next K) [] E0 (tCons (tVar 1) tNil)) (gSub (tVar 1) (tC (.int 2)) rSetL)) tNext) γ1 (fun γ' => γ' = γ1) (fun _ => False) := ts_box2 rfl (tp_next rfl) (fun s h => h) (ts_next rfl)
  have h2 : Ts K (fun a => a = b) (tAsg (tCall (Sp_law_next K) [] E0 (tCons (tVar 1) tNil)) (gSub (tVar 1) (tC (.int 2)) rSetL)) γ1 (fun γ' => γ' = γ1) (fun _ => False) := fun H0 σ H D e0 E n r => h2' H0 σ H D e0 E n r
  refine h2 H2 σ1 H2 _ (box_xs bx2 hpb) E2 (fun γ' σ2 H3 hg x3 _ E3 => ?_) fun _ _ _ h => h.elim
  subst hg
  have bx3 := x3.e.b b p rfl hpb bx2
  have E3' := E3.old
  -- the empty book
  try dsimp only
  refine tSeq_run (tAsg_run ?_)
  have tb : Te K (fun a => a = b) (tTup (tCons (tTup tNil) (tCons (tTup tNil) (tCons (tTup tNil) (tCons (tTup tNil) tNil))))) γ1 (.d (eB b0)) := te_tup (ds := [.tuple [], .tuple [], .tuple [], .tuple []]) (ta_cons (te_tup (ds := []) ta_nil (Nat.le_of_ble_eq_true rfl)) (ta_cons (te_tup (ds := []) ta_nil (Nat.le_of_ble_eq_true rfl)) (ta_cons (te_tup (ds := []) ta_nil (Nat.le_of_ble_eq_true rfl)) (ta_cons (te_tup (ds := []) ta_nil (Nat.le_of_ble_eq_true rfl)) ta_nil)))) (Nat.le_of_ble_eq_true rfl)
  refine tb H3 σ2 H3 (box_xs bx3 hpb) E3' _ fun v4 H4 e4 hv4 => ?_
  have bx4 := e4.b b p rfl hpb bx3
  refine gN_run (i := 2) (v := v4) ?_
  have E4 := ((E3'.ex e4).old).set (i := 2) (v := v4) (s := .d (eB b0)) hv4 rfl
  generalize σ2.set 2 (some v4) = σ3 at *
  -- the empty world
  try dsimp only
  refine tSeq_run (tAsg_run ?_)
  obtain ⟨vb, hvb, hvb2⟩ := E4.get 2 _ rfl
  refine ⟨vb, hvb, vb, rfl, hvb2, fun own A H5 hA hw hfresh hex => ?_⟩
  have bx5 : BoxAt H5 b p := bx4.of fun a o _ h => hex a o h
  refine gN_run (i := 3) (v := .ref A.w) ?_
  have E5 := ((E4.ex (Xm.of hex)).old).set (i := 3) (v := .ref A.w) (s := .r A.w) rfl rfl
  generalize σ3.set 3 (some (V.ref A.w)) = σ4 at *
  have fb : own b = none := by
    cases z : own b with
    | none => rfl
    | some t => exact absurd (hfresh b (by rw [z]; exact fun z => nomatch z)) bx4.b
  have fp : own p = none := by
    cases z : own p with
    | none => rfl
    | some t => exact absurd (hfresh p (by rw [z]; exact fun z => nomatch z)) bx4.p
  have ls0 : LS K LI b p 0 σ4 H5 := ⟨⟨own, A, hw, by rw [hA]; exact MO.zero, fb, fp, by
    have : eB A.rw.book = eB b0 := by rw [hA, w0_book]
    rw [this]
    exact E5⟩, bx5, hpb⟩
  have ls_ex : ∀ {i : Nat} {σ : L2.St} {H H' : Hp}, LS K LI b p i σ H → Xm (fun a => a = b) H H' → LS K LI b p i σ H' := fun {i σ H H'} l e => by
    obtain ⟨own, A, w, h1, h2, h3, E⟩ := l.ex
    exact ⟨⟨own, A, wat_xm w h2 e, h1, h2, h3, (E.ex e).old⟩, e.b b p rfl l.ne l.box, l.ne⟩
  clear E5 hex hfresh hw fb fp hA
  -- the loop
  try dsimp only
  refine tSeq_run ?_
  obtain ⟨ownX, AX, wX, _, _, _, EX⟩ := ls0.ex
  have tpk : Tp K (fun a => a = b) (tOp rMulU (tC (.int 3)) (tCall (Sp_law_some_deeds K) [] E0 (tCons (tVar 1) (tCons (tC (.int 14)) tNil)))) [none, some .b, some (.d (eB AX.rw.book)), some (.r AX.w), none, none] (fun s => ∃ n : Int, s = .d (.int n) ∧ 0 ≤ n ∧ n ≤ 42) := by
    refine tp_op (te_tp te_int) (fun s _ => tp_callG (P := fun s => ∃ k : Int, s = .d (.int k) ∧ 0 ≤ k ∧ k ≤ 14) (tpa_of (ta_cons (te_var rfl) (ta_cons te_int ta_nil))) (fun ss e => ⟨(), trivial, by rw [e]; rfl, rfl⟩) fun s ⟨k, e, _⟩ => by rw [e]; rfl) ?_
    rintro s1 s2 rfl ⟨k, rfl, k0, k1⟩
    exact ⟨_, ⟨3 * k, rfl, by omega, by omega⟩, rv_mulI (.inl (by decide))⟩
  refine tForR_run ?_
  refine tpk H5 σ4 H5 (box_xs ls0.box hpb) EX _ fun v6 s6 H6 hs6 e6 hv6 => ?_
  obtain ⟨n, rfl, n0, n42⟩ := hs6
  cases hv6
  have ls1 := ls_ex ls0 e6
  clear wX EX e6 tpk
  refine tNil_run ⟨n, rfl, by omega, by omega, ?_⟩
  refine ⟨fun i m σ' H' => m = n.toNat - i ∧ i ≤ n.toNat ∧ LS K LI b p i σ' H', ⟨_, rfl, Nat.zero_le _, ls1⟩, ?_⟩
  rintro i m σ' H' ⟨rfl, hi, ls⟩
  by_cases hlt : i < n.toNat
  case neg =>
    refine .inl ⟨show n.toNat ≤ i by omega, ?_⟩
    obtain ⟨own, A, w', hLI, f1, f2, E⟩ := ls.ex
    have tr : Te K (fun a => a = b) (tCall (Sp_law_right K) [] E0 (tCons (tVar 2) tNil)) [none, some .b, some (.d (eB A.rw.book)), some (.r A.w), none, none] (.d (.bool true)) := te_callF A.rw.book (ta_cons (te_var rfl) ta_nil) ⟨MO.small i _ hLI, MO.closed i _ hLI, MO.rows i _ hLI⟩ rfl rfl
    refine tr H' σ' H' (box_xs ls.box hpb) E _ fun v7 H7 _ hv7 => ?_
    cases hv7
    exact q H7
  case pos =>
  refine .inr ⟨show i < n.toNat from hlt, fun σ2 H2 => LS K LI b p (i + 1) σ2 H2, fun σ2 H2 h => ⟨n.toNat - (i + 1), by omega, rfl, hlt, h⟩, fun x H'' hy => ?_⟩
  obtain ⟨rfl, rfl⟩ := hy
  refine gN_run ?_
  obtain ⟨own, A, w', hLI, f1, f2, E⟩ := ls.ex
  have Ea : En K (fun a => a = b) H'' H'' (σ'.set 4 (some (V.int (0 + (i : Nat))))) [none, some .b, some (.d (eB A.rw.book)), some (.r A.w), none, none] := E.clear (i := 4)
  generalize σ'.set 4 (some (V.int (0 + (i : Nat)))) = σa at *
  have hI := MO.ok i _ hLI
  have hS := MO.small i _ hLI
  -- a deed
  try dsimp only
  refine tSeq_run (tAsg_run ?_)
  have td : Tp K (fun a => a = b) (tCall (Sp_law_deed K) [] E0 (tCons (tVar 3) (tCons (tVar 1) tNil))) [none, some .b, some (.d (eB A.rw.book)), some (.m (wT A.rw)), none, none] (fun s => ∃ d : Deed, s = .d (eD d) ∧ Drawn A.rw d) := tp_callG (tpa_of (ta_cons (te_var rfl) (ta_cons (te_var rfl) ta_nil))) (fun ss e => ⟨A.rw, hI.ok, by rw [e]; rfl, rfl⟩) fun s ⟨d, e, _⟩ => by rw [e]; rfl
  refine td H'' σa H'' (box_xs ls.box hpb) (en_tree w' f1 Ea rfl) _ fun v8 s8 H8 hs8 e8 hv8 => ?_
  obtain ⟨d, rfl, hdr⟩ := hs8
  have bx8 := e8.b b p rfl hpb ls.box
  have w8 := wat_xm w' f1 e8
  have E8 := ((Ea.ex e8).old).set (i := 5) (v := v8) (s := .d (eD d)) hv8 rfl
  refine gN_run (i := 5) (v := v8) ?_
  generalize σa.set 5 (some v8) = σb at *
  obtain ⟨hex, hcan, hLI2, hbook⟩ := MO.step i _ d hLI (by omega) hdr
  -- the world does it
  try dsimp only
  refine tSeq_run ?_
  obtain ⟨vw, hvw, hvw2⟩ := E8.get 3 _ rfl
  obtain rfl : vw = .ref A.w := hvw2
  obtain ⟨vd, hvd, hvd2⟩ := E8.get 5 _ rfl
  refine ⟨_, hvw, _, hvd, own, A, d, [vd], ⟨hI, hdr, hex⟩, rfl, .cons hvd2 .nil, w8, fun own' A' H9 hpost hA' o9 w9 => ?_⟩
  obtain ⟨ns9, i9, x9, b1, b2, b3⟩ := bx8
  obtain ⟨c1, g1⟩ := o9.k b _ f1 b1
  obtain ⟨c2, g2⟩ := o9.k p _ f2 b2
  have bx9 : BoxAt H9 b p := ⟨ns9, i9, x9, c1, c2, b3⟩
  obtain ⟨vbk, hvbk, hvbk2⟩ := E8.get 2 _ rfl
  obtain ⟨vbx, hvbx, hvbx2⟩ := E8.get 1 _ rfl
  have E9 : En K (fun a => a = b) H9 H9 σb [none, some .b, some (.d (eB A.rw.book)), some (.r A'.w), none, some (.d (eD d))] := by
    refine ⟨E8.len, fun j s e => ?_, fun j j' ds es v _ e _ _ => ?_⟩
    · match j, e with
      | 0, e => cases e
      | 1, e => cases e; exact ⟨vbx, hvbx, hvbx2⟩
      | 2, e => cases e; exact ⟨vbk, hvbk, Dat.kp o9.t hvbk2⟩
      | 3, e => cases e; exact ⟨_, hvw, by rw [hA']; rfl⟩
      | 4, e => cases e
      | 5, e => cases e; exact ⟨vd, hvd, Dat.kp o9.t hvd2⟩
      | j + 6, e => simp at e
    · match j, e with
      | 0, e => cases e
      | 1, e => cases e
      | 2, e => cases e
      | 3, e => cases e
      | 4, e => cases e
      | 5, e => cases e
      | j + 6, e => simp at e
  -- the book does it
  try dsimp only
  refine tSeq_run (tAsg_run ?_)
  have tdn : Te K (fun a => a = b) (tCall (Sp_done K) [] E0 (tCons (tVar 2) (tCons (tVar 5) tNil))) [none, some .b, some (.d (eB A.rw.book)), some (.r A'.w), none, some (.d (eD d))] (.d (eB (A.rw.book.dn d))) := te_callF (A.rw.book, d) (ta_cons (te_var rfl) (ta_cons (te_var rfl) ta_nil)) ⟨hS, hcan⟩ rfl rfl
  refine tdn H9 σb H9 (box_xs bx9 hpb) E9 _ fun v10 H10 e10 hv10 => ?_
  have bx10 := e10.b b p rfl hpb bx9
  have w10 := wat_xm w9 g1 e10
  have hbk : A'.rw.book = A.rw.book.dn d := by rw [hpost]; exact hbook
  have hLI3 : LI (i + 1) A'.rw := by rw [hpost]; exact hLI2
  have E10 := ((E9.ex e10).old).set (i := 2) (v := v10) (s := .d (eB (A.rw.book.dn d))) hv10 rfl
  refine gN_run (i := 2) (v := v10) ?_
  generalize σb.set 2 (some v10) = σc at *
  rw [← hbk] at E10
  have hS2 := MO.small _ _ hLI3
  obtain ⟨sm1, sm2⟩ := sm_book hS2
  -- the two are compared
  have tt : Tt K (fun a => a = b) (tOr (tNot (tB (tCall (Sp_law_same 8 K) [] E0 (tCons (tVar 2) (tCons (tCall (Sp_law_book_of K) [] E0 (tCons (tVar 3) tNil)) tNil))))) (tNot (tB (tCall (Sp_law_right K) [] E0 (tCons (tVar 2) tNil))))) [none, some .b, some (.d (eB A'.rw.book)), some (.m (wT A'.rw)), none, some (.d (eD d))] false :=
    tt_or (a := false) (b := false) (tt_not (a := true) (tt_B (te_callF (eB A'.rw.book) (ta_cons (te_var rfl) (ta_cons (te_callF A'.rw (ta_cons (te_var rfl) ta_nil) (MO.ok _ _ hLI3).ok rfl rfl) ta_nil)) ⟨sm1, Nat.lt_of_le_of_lt sm2 (by decide)⟩ rfl rfl))) fun _ => tt_not (a := true) (tt_B (te_callF A'.rw.book (ta_cons (te_var rfl) ta_nil) ⟨hS2, MO.closed _ _ hLI3, MO.rows _ _ hLI3⟩ rfl rfl))
  refine tt H10 σc H10 (box_xs bx10 hpb) (en_tree w10 g1 E10 rfl) _ fun H11 e11 => ?_
  have E11 := (E10.ex e11).old
  refine ⟨⟨own', A', wat_xm w10 g1 e11, hLI3, g1, g2, ?_⟩, e11.b b p rfl hpb bx10, hpb⟩
  exact E11.sub rfl fun j s e => by
    match j, e with
    | 0, e => cases e
    | 1, e => cases e; rfl
    | 2, e => cases e; rfl
    | 3, e => cases e; rfl
    | 4, e => cases e
    | 5, e => cases e
    | j + 6, e => simp at e
end Tw
namespace Tw
open PySem PySem.Spec PyProof.Rows L2
theorem filter_ne_erase {α : Type} [DecidableEq α] {l : List α} (hn : l.Nodup) (n : α) : l.filter (fun o => !decide (o = n)) = l.erase n := by
  induction l with
  | nil => rfl
  | cons a l ih =>
    rw [List.nodup_cons] at hn
    by_cases e : a = n
    · subst e
      rw [List.filter_cons_of_neg (by simp), List.erase_cons_head]
      exact List.filter_eq_self.mpr fun b hb => by
        have : b ≠ a := fun e => by subst e; exact hn.1 hb
        simpa using this
    · rw [List.filter_cons_of_pos (by simpa using e), List.erase_cons_tail (by simpa using e), ih hn.2]
theorem filter_eraseIdx {α : Type} [DecidableEq α] {l : List α} (hn : l.Nodup) {j : Nat} {x : α} (hj : l[j]? = some x) : l.filter (fun o => !decide (o = x)) = l.eraseIdx j := by
  induction l generalizing j with
  | nil => simp at hj
  | cons a l ih =>
    rw [List.nodup_cons] at hn
    cases j with
    | zero =>
      simp at hj
      subst hj
      rw [filter_ne_erase (List.nodup_cons.mpr hn), List.erase_cons_head]
      rfl
    | succ j =>
      have hj' : l[j]? = some x := by simpa using hj
      have ne : a ≠ x := fun e => by subst e; exact hn.1 (List.mem_of_getElem? hj')
      rw [List.filter_cons_of_pos (by simpa using ne), List.eraseIdx_cons_succ, ih hn.2 hj']
theorem perm_set {α : Type} : ∀ {l : List α} {j : Nat} {x : α} (y : α), l[j]? = some x → (l.eraseIdx j ++ [y]).Perm (l.set j y)
  | [], j, x, y, h => by simp at h
  | a :: l, 0, x, y, h => (List.perm_append_comm (l₁ := l) (l₂ := [y]))
  | a :: l, j + 1, x, y, h => by
    simp
    exact perm_set y (by simpa using h)
theorem sortE_filter {β : Type} [Enc β] (l : List β) (f : β → Bool) : (sortE l).filter f = sortE (l.filter f) := sortE_one ((sortE_perm l).filter f) ((sortE_pw l).filter f)
theorem exch_set {ks : List Link} (hn : ks.Nodup) {j : Nat} {l l' : Link} (hj : ks[j]? = some l) : exch (sortE ks) (some l) (some l') = sortE (ks.set j l') := by
  unfold exch
  refine sortE_congr (List.Perm.trans ?_ (perm_set l' hj))
  have e : (fun k : Link => !decide (some k = some l)) = fun k => !decide (k = l) := by funext k; simp
  rw [e, sortE_filter, filter_eraseIdx hn hj]
  exact (sortE_perm _).append (List.Perm.refl _)
theorem exch_out {ks : List Link} (hn : ks.Nodup) {j : Nat} {l : Link} (hj : ks[j]? = some l) : exch (sortE ks) (some l) none = sortE (ks.eraseIdx j) := by
  unfold exch
  have e : (fun k : Link => !decide (some k = some l)) = fun k => !decide (k = l) := by funext k; simp
  rw [e, sortE_filter, filter_eraseIdx hn hj]
  simp [sortE_sortE]
theorem exch_in (ks : List Link) (l : Link) : exch (sortE ks) none (some l) = sortE (ks ++ [l]) := by
  unfold exch
  have e : (fun k : Link => !decide (some k = none)) = fun _ => true := by funext k; simp
  rw [e]
  refine sortE_congr ?_
  rw [List.filter_eq_self.mpr fun _ _ => rfl]
  exact (sortE_perm _).append (List.Perm.refl _)
theorem outN_sort {ns : List Str} (hn : ns.Nodup) (n : Str) : outN (sortE ns) n = sortE (ns.erase n) := by
  unfold outN
  rw [sortE_filter, filter_ne_erase hn]
theorem addN_sort (ns : List Str) (n : Str) : addN (sortE ns) n = sortE (ns ++ [n]) := sortE_congr ((sortE_perm ns).append (List.Perm.refl _))
theorem sortE_lt {l : List Int} (hn : l.Nodup) : (sortE l).Pairwise (· < ·) := by
  have h := (sortE_pw l).and (sortE_nodup hn)
  refine h.imp fun ⟨h1, h2⟩ => ?_
  rw [leE_int] at h1
  have := of_decide_eq_true h1
  omega
theorem rise_sort {l m : List Int} (hm : m.Nodup) (h : ∀ k, k ∈ l ↔ k ∈ m) : rise l = sortE m := lt_unique (rise_lt l) (sortE_lt hm) fun k => by rw [rise_mem, sortE_mem, h k]
theorem late_mem {ms : List Int} {t k : Int} : k ∈ lateL ms t ↔ k ∈ ms ∨ k = t := by
  unfold lateL
  split
  · rename_i h
    constructor
    · exact .inl
    · rintro (h1 | rfl)
      · exact h1
      · exact h
  · simp
theorem late_nd {ms : List Int} {t : Int} (h : ms.Nodup) : (lateL ms t).Nodup := by
  unfold lateL
  split
  · exact h
  · rename_i hn
    rw [List.nodup_append]
    exact ⟨h, by simp, fun a ha b hb => by simp at hb; subst hb; exact fun e => hn (e ▸ ha)⟩
theorem lates_mem {xs ms : List Int} {k : Int} : k ∈ xs.foldl lateL ms ↔ k ∈ ms ∨ k ∈ xs := by
  induction xs generalizing ms with
  | nil => simp
  | cons x xs ih => rw [List.foldl_cons, ih, late_mem, List.mem_cons, or_assoc]
theorem lates_nd {xs ms : List Int} (h : ms.Nodup) : (xs.foldl lateL ms).Nodup := by
  induction xs generalizing ms with
  | nil => exact h
  | cons x xs ih => exact ih (late_nd h)
theorem rise_late {ms : List Int} (h : ms.Nodup) (t : Int) : rise (sortE ms ++ [t]) = sortE (lateL ms t) := rise_sort (late_nd h) fun k => by rw [late_mem, List.mem_append, sortE_mem]; simp
theorem rise_lates {ms xs : List Int} (h : ms.Nodup) : rise (sortE ms ++ sortE xs) = sortE (xs.foldl lateL ms) := rise_sort (lates_nd h) fun k => by rw [lates_mem, List.mem_append, sortE_mem, sortE_mem]
theorem sortE_single {β : Type} [Enc β] (x : β) : sortE [x] = [x] := by
  have := sortE_perm [x]
  exact List.perm_singleton.mp this
theorem insP_map (f : Str → Part) (hf : ∀ n, (f n).n = n) {ns : List Str} (hn : ns.Nodup) {h : Str} (hh : h = "" ∨ h ∈ ns) (n : Str) : insP (ns.map f) (f n) h = (insN ns h n).map f := by
  unfold insP insN
  by_cases e : h = ""
  · rw [if_pos e, if_pos e]; rfl
  · rw [if_neg e, if_neg e]
    have hm : h ∈ ns := by
      rcases hh with h1 | h1
      · exact absurd h1 e
      · exact h1
    clear hh e
    induction ns with
    | nil => cases hm
    | cons a ns ih =>
      rw [List.nodup_cons] at hn
      rw [List.map_cons, List.flatMap_cons, hf]
      by_cases ea : a = h
      · subst ea
        rw [if_pos rfl, List.idxOf_cons_self]
        have : (ns.map f).flatMap (fun o => if o.n = a then [o, f n] else [o]) = ns.map f := by
          have hno : ∀ b ∈ ns, b ≠ a := fun b hb e => by subst e; exact hn.1 hb
          clear ih hm hn
          induction ns with
          | nil => rfl
          | cons b ns ih =>
            rw [List.map_cons, List.flatMap_cons, hf, if_neg (hno b List.mem_cons_self), ih fun c hc => hno c (List.mem_cons_of_mem _ hc)]
            rfl
        rw [this]
        simp
      · rw [if_neg ea, show (a :: ns).idxOf h = ns.idxOf h + 1 by rw [List.idxOf_cons, show (a == h) = false from beq_eq_false_iff_ne.mpr ea]; rfl]
        have hm' : h ∈ ns := by
          rcases List.mem_cons.mp hm with h1 | h1
          · exact absurd h1.symm ea
          · exact h1
        rw [ih hn.2 hm']
        simp
theorem outP_map (f : Str → Part) (hf : ∀ n, (f n).n = n) {ns : List Str} (hn : ns.Nodup) (n : Str) : outP (ns.map f) n = (ns.erase n).map f := by
  unfold outP
  rw [List.filter_map, ← filter_ne_erase hn]
  congr 1
  refine List.filter_congr fun o _ => ?_
  simp [hf]
theorem chgP_map (f g : Str → Part) (hf : ∀ n, (f n).n = n) {ns : List Str} {n : Str} {p : Part} (hp : p.n = n) (hg : g n = p) (ho : ∀ o ∈ ns, o ≠ n → g o = f o) : chgP (ns.map f) p = ns.map g := by
  unfold chgP
  rw [List.map_map]
  refine List.map_congr_left fun o ho' => ?_
  simp only [Function.comp, hf, hp]
  by_cases e : o = n
  · rw [if_pos e, e, hg]
  · rw [if_neg e, ho o ho' e]
theorem rows_eq {b : Book} (hc : Closed b) (hn : ∀ s, (namesOf (b.side s)).Nodup) (hd : ∀ n ∈ namesOf b.l, n ∉ namesOf b.r) (s : Bool) : b.rowL s = b.row s := by
  have hsd : ∀ (s : Bool) (n : Str), n ∈ namesOf (b.side s) → b.sd n = s := fun s n h => by
    unfold Book.sd
    cases s with
    | false => rw [decide_eq_true (show n ∈ namesOf b.l from h)]; rfl
    | true => rw [decide_eq_false (fun h2 => hd n h2 h)]; rfl
  have hpt : ∀ (s : Bool) (p : Part), p ∈ b.side s → b.pt p.n = p := fun s p hp => by
    have h1 : p.n ∈ namesOf (b.side s) := List.mem_map.mpr ⟨p, hp, rfl⟩
    have h2 := hsd s p.n h1
    obtain ⟨q, hq, e, hqm⟩ := Book.part_some (Book.has_of h1)
    rw [h2] at hqm
    have : b.pt p.n = q := by unfold Book.pt; rw [hq]; rfl
    rw [this]
    obtain ⟨i, hi⟩ := List.mem_iff_getElem?.mp hp
    obtain ⟨j, hj⟩ := List.mem_iff_getElem?.mp hqm
    by_cases ne : j = i
    · subst ne
      rw [hi] at hj
      exact (Option.some.inj hj).symm
    · exact absurd e (nodup_ne (f := Part.n) (hn s) hi hj ne)
  unfold Book.rowL Book.row
  refine List.map_congr_left fun p hp => ?_
  have hpn : p.n ∈ namesOf (b.side s) := List.mem_map.mpr ⟨p, hp, rfl⟩
  have hs := hsd s p.n hpn
  congr 1
  unfold Book.stL Book.st
  by_cases hz : p.n ∈ b.z
  · rw [if_pos hz, if_pos hz]
  rw [if_neg hz, if_neg hz]
  have hin : ∀ l ∈ b.k, (p.n ∈ l.a ++ l.b ↔ p.n ∈ l.side s) := fun l hl => by
    rw [List.mem_append]
    constructor
    · rintro (h | h)
      · have := hsd false p.n (hc.in_ l hl false p.n h)
        rw [hs] at this
        rw [this]
        exact h
      · have := hsd true p.n (hc.in_ l hl true p.n h)
        rw [hs] at this
        rw [this]
        exact h
    · intro h
      cases s with
      | false => exact .inl h
      | true => exact .inr h
  have hlk : b.lkL p.n = b.lk p.n := by
    unfold Book.lkL Book.lk
    rw [hs]
    have key : ∀ ks : List Link, (∀ l ∈ ks, l ∈ b.k) → ks.find? (fun l => decide (p.n ∈ l.a ++ l.b)) = ks.find? fun l => decide (p.n ∈ l.side s) := fun ks => by
      induction ks with
      | nil => intro _; rfl
      | cons l ks ih =>
        intro h
        have e : decide (p.n ∈ l.a ++ l.b) = decide (p.n ∈ l.side s) := decide_eq_decide.mpr (hin l (h l List.mem_cons_self))
        rw [List.find?_cons, List.find?_cons, e, ih fun l hl => h l (List.mem_cons_of_mem _ hl)]
    exact key b.k fun _ h => h
  rw [hlk]
  cases hl : b.lk p.n with
  | none => rfl
  | some l =>
    obtain ⟨hlm, hln⟩ := Book.lk_mem hl
    rw [hs] at hln
    have hsb : decide (p.n ∈ l.b) = s := by
      cases s with
      | false =>
        refine decide_eq_false fun h => ?_
        have := hsd true p.n (hc.in_ l hlm true p.n h)
        rw [hs] at this
        cases this
      | true => exact decide_eq_true hln
    have hle : leastI ((b.momsL l s).filter fun t => decide (l.t < t)) = b.since l s := by
      unfold Book.since
      refine leastI_congr fun k => ?_
      rw [List.mem_filter, List.mem_filter]
      unfold Book.momsL
      rw [List.mem_append, List.mem_append]
      refine and_congr_left fun _ => or_congr_right ?_
      rw [List.mem_flatMap, List.mem_flatMap]
      constructor
      · rintro ⟨q, hq, hk⟩
        rw [List.mem_filter] at hq
        refine ⟨q.n, of_decide_eq_true hq.2, ?_⟩
        rw [Book.momsOf_pt, hpt (!s) q hq.1]
        exact hk
      · rintro ⟨n, hn', hk⟩
        have h1 := hc.in_ l hlm (!s) n hn'
        obtain ⟨q, hq, rfl⟩ := List.mem_map.mp h1
        rw [Book.momsOf_pt, hpt (!s) q hq] at hk
        exact ⟨q, List.mem_filter.mpr ⟨hq, decide_eq_true hn'⟩, hk⟩
    show (match leastI ((b.momsL l (decide (p.n ∈ l.b))).filter fun t => decide (l.t < t)) with
      | none => Stn.step
      | some t => .stale t) = match b.since l (b.sd p.n) with
      | none => .step
      | some t => .stale t
    rw [hsb, hle, hs]
end Tw
namespace Tw
open PySem PySem.Spec PyProof.Rows L2
abbrev tied (ks : List Link) : List Str := ks.flatMap fun l => l.a ++ l.b
structure InT (ts ms : List Int) : Prop where
  nd : ms.Nodup
  sub : ∀ k ∈ ms, k ∈ ts
abbrev lenT (tx : List (Str × Str)) : Nat := (tx.map fun q => q.2.length).sum
structure LCore (i : Nat) (W : RW) : Prop where
  i42 : i ≤ 42
  keys : W.mo.map Prod.fst = W.tx.map Prod.fst
  kn : W.keys.Nodup
  kl : W.tx.length ≤ i
  nn : W.names.Nodup
  sub : ∀ n ∈ W.names, n ∈ W.keys
  pool : ∀ n ∈ W.names, n ∈ pool75
  fm : (W.al ++ tied W.ks).Nodup
  as : ∀ n ∈ W.al, n ∈ W.names
  ls : ∀ l ∈ W.ks, ∀ s, ∀ n ∈ l.side s, n ∈ W.side s
  ne : ∀ l ∈ W.ks, ∀ s, l.side s ≠ []
  tm : ∃ ts : List Int, ts.length ≤ i ∧ (∀ q ∈ W.mo, InT ts q.2) ∧ ∀ l ∈ W.ks, ∀ s, InT ts (l.lost s)
structure LInv (i : Nat) (W : RW) : Prop extends LCore i W where
  sum : lenT W.tx ≤ 63 * i
theorem pool_ok : ∀ n ∈ pool75, nOk n ∧ n ≠ "" := by decide +kernel
section
variable {i : Nat} {W : RW}
theorem LCore.nd (h : LCore i W) (s : Bool) : (W.side s).Nodup := by
  have := List.nodup_append.mp h.nn
  cases s
  · exact this.1
  · exact this.2.1
theorem LCore.dj (h : LCore i W) : ∀ n ∈ W.s0, n ∉ W.s1 := fun n h0 h1 => (List.nodup_append.mp h.nn).2.2 n h0 n h1 rfl
theorem side_names {W : RW} {s : Bool} {n : Str} (h : n ∈ W.side s) : n ∈ W.names := by
  cases s
  · exact List.mem_append_left _ h
  · exact List.mem_append_right _ h
theorem LCore.names_le (h : LCore i W) : W.names.length ≤ 42 := by
  have h1 := nd_sub h.nn h.sub
  have h2 := h.kl
  have h3 := h.i42
  unfold RW.keys at h1
  rw [List.length_map] at h1
  omega
theorem sub_le {i : Nat} {W : RW} (h : LCore i W) {l : List Str} (hn : l.Nodup) (hs : ∀ n ∈ l, n ∈ W.names) : l.length ≤ 42 := Nat.le_trans (nd_sub hn hs) h.names_le
theorem side_tied {ks : List Link} {l : Link} (hl : l ∈ ks) {s : Bool} {n : Str} (h : n ∈ l.side s) : n ∈ tied ks := by
  refine List.mem_flatMap.mpr ⟨l, hl, ?_⟩
  cases s
  · exact List.mem_append_left _ h
  · exact List.mem_append_right _ h
theorem side_ab {l : Link} {s : Bool} {n : Str} (h : n ∈ l.side s) : n ∈ l.a ++ l.b := by
  cases s
  · exact List.mem_append_left _ h
  · exact List.mem_append_right _ h
theorem ab_side {l : Link} {n : Str} (h : n ∈ l.a ++ l.b) : ∃ s, n ∈ l.side s := by
  rcases List.mem_append.mp h with h | h
  · exact ⟨false, h⟩
  · exact ⟨true, h⟩
theorem LCore.tn (h : LCore i W) : (tied W.ks).Nodup := (List.nodup_append.mp h.fm).2.1
theorem LCore.an (h : LCore i W) : W.al.Nodup := (List.nodup_append.mp h.fm).1
theorem LCore.ak (h : LCore i W) {n : Str} (h1 : n ∈ W.al) : n ∉ tied W.ks := fun h2 => (List.nodup_append.mp h.fm).2.2 n h1 n h2 rfl
theorem tied_names (h : LCore i W) {n : Str} (h1 : n ∈ tied W.ks) : n ∈ W.names := by
  obtain ⟨l, hl, hn⟩ := List.mem_flatMap.mp h1
  obtain ⟨s, hs⟩ := ab_side hn
  exact side_names (h.ls l hl s n hs)
theorem nd_links {ks : List Link} (h : (tied ks).Nodup) {a b : Nat} {l l' : Link} (ha : ks[a]? = some l) (hb : ks[b]? = some l') {n : Str} (h1 : n ∈ l.a ++ l.b) (h2 : n ∈ l'.a ++ l'.b) : a = b := by
  have hp := (List.pairwise_flatMap.mp h).2
  rw [List.pairwise_iff_getElem] at hp
  obtain ⟨ha1, ha2⟩ := List.getElem?_eq_some_iff.mp ha
  obtain ⟨hb1, hb2⟩ := List.getElem?_eq_some_iff.mp hb
  rcases Nat.lt_trichotomy a b with c | c | c
  · exact absurd rfl (hp a b ha1 hb1 c n (ha2 ▸ h1) n (hb2 ▸ h2))
  · exact c
  · exact absurd rfl (hp b a hb1 ha1 c n (hb2 ▸ h2) n (ha2 ▸ h1))
theorem link_nd {ks : List Link} (h : (tied ks).Nodup) {l : Link} (hl : l ∈ ks) : (l.a ++ l.b).Nodup := (List.pairwise_flatMap.mp h).1 l hl
theorem LCore.sn (h : LCore i W) {l : Link} (hl : l ∈ W.ks) (s : Bool) : (l.side s).Nodup := by
  have := List.nodup_append.mp (link_nd h.tn hl)
  cases s
  · exact this.1
  · exact this.2.1
theorem LCore.sl (h : LCore i W) {l : Link} (hl : l ∈ W.ks) (s : Bool) : (l.side s).length ≤ 42 := sub_le h (h.sn hl s) fun n hn => side_names (h.ls l hl s n hn)
theorem ks_le {ks : List Link} (h : ∀ l ∈ ks, ∀ s, l.side s ≠ []) : ks.length ≤ (tied ks).length := by
  induction ks with
  | nil => exact Nat.zero_le _
  | cons l ks ih =>
    have h1 := ih fun l' hl => h l' (List.mem_cons_of_mem _ hl)
    have h2 : 0 < l.a.length := List.length_pos_iff.mpr (h l List.mem_cons_self false)
    unfold tied at h1 ⊢
    rw [List.flatMap_cons, List.length_append, List.length_append, List.length_cons]
    omega
theorem LCore.kk (h : LCore i W) : W.ks.length ≤ 42 := Nat.le_trans (ks_le h.ne) (sub_le h h.tn fun n hn => tied_names h hn)
theorem LCore.in_le (h : LCore i W) {ts ms : List Int} (ht : ts.length ≤ i) (hm : InT ts ms) : ms.length ≤ 42 := Nat.le_trans (nd_sub hm.nd hm.sub) (Nat.le_trans ht h.i42)
theorem len_le {tx : List (Str × Str)} {q : Str × Str} (h : q ∈ tx) : q.2.length ≤ lenT tx := by
  induction tx with
  | nil => cases h
  | cons a tx ih =>
    unfold lenT at ih ⊢
    rw [List.map_cons, List.sum_cons]
    rcases List.mem_cons.mp h with rfl | h
    · omega
    · have := ih h
      omega
theorem LInv.tl (h : LInv i W) : ∀ q ∈ W.tx, q.2.length ≤ 2646 := fun q hq => by
  have h1 := len_le hq
  have h2 := h.sum
  have h3 := h.i42
  omega
theorem LInv.inv (h : LInv i W) : WInv W where
  ok := {
    kt := h.kn
    km := h.keys ▸ h.kn
    tx := fun s n hn => h.sub n (side_names hn)
    mo := fun s n hn => h.keys ▸ h.sub n (side_names hn)
    ls := fun s => Nat.le_trans (sub_le h.toLCore (h.nd s) fun n hn => side_names hn) (by decide)
    lt := Nat.le_trans h.kl (Nat.le_trans h.i42 (by decide))
    la := Nat.le_trans (sub_le h.toLCore h.an h.as) (by decide)
    lk := Nat.le_trans h.kk (by decide)
    ka := fun l hl => by
      obtain ⟨ts, h1, h2, h3⟩ := h.tm
      exact ⟨Nat.le_trans (h.sl hl false) (by decide), Nat.le_trans (h.sl hl true) (by decide), Nat.le_trans (h.in_le h1 (h3 l hl false)) (by decide), Nat.le_trans (h.in_le h1 (h3 l hl true)) (by decide)⟩
    xl := fun q hq => Nat.le_trans (h.tl q hq) (by decide)
    ml := fun q hq => by
      obtain ⟨ts, h1, h2, h3⟩ := h.tm
      exact Nat.le_trans (h.in_le h1 (h2 q hq)) (by decide)
    nk := fun s n hn => (pool_ok n (h.pool n (side_names hn))).1
    ak := fun n hn => (pool_ok n (h.pool n (h.as n hn))).1 }
  keys := h.keys
  nd := h.nd
  dj := h.dj
  lc := fun l hl s n hn => h.ls l hl s n hn
  ml := fun q hq => by
    obtain ⟨ts, h1, h2, h3⟩ := h.tm
    exact h.in_le h1 (h2 q hq)
theorem bk_side (W : RW) (s : Bool) : W.book.side s = (W.side s).map W.part := by cases s <;> rfl
theorem bk_names (W : RW) (s : Bool) : namesOf (W.book.side s) = W.side s := by
  rw [bk_side]
  unfold namesOf
  rw [List.map_map]
  exact List.map_id _
theorem bk_has {W : RW} {n : Str} : W.book.has n = true ↔ n ∈ W.names := by
  unfold Book.has
  rw [Bool.or_eq_true, decide_eq_true_iff, decide_eq_true_iff, show namesOf W.book.l = W.s0 from bk_names W false, show namesOf W.book.r = W.s1 from bk_names W true]
  exact List.mem_append.symm
theorem bk_hasnt {W : RW} {n : Str} (h : n ∉ W.names) : W.book.has n = false := Bool.eq_false_iff.mpr fun e => h (bk_has.mp e)
theorem LCore.sd (h : LCore i W) {n : Str} (hn : n ∈ W.names) : W.book.sd n = W.sdOf n := by
  have h1 := names_sd h.dj hn
  unfold Book.sd
  rw [show namesOf W.book.l = W.s0 from bk_names W false]
  unfold RW.sdOf at h1 ⊢
  by_cases e : n ∈ W.s1
  · rw [decide_eq_true e, decide_eq_false fun h0 => h.dj n h0 e]; rfl
  · rw [decide_eq_false e] at h1 ⊢
    rw [decide_eq_true (show n ∈ W.s0 from h1)]; rfl
theorem LCore.pt (h : LCore i W) {n : Str} (hn : n ∈ W.names) : W.book.pt n = W.part n := by
  obtain ⟨p, h1, h2, h3⟩ := Book.part_some (bk_has.mpr hn)
  unfold Book.pt
  rw [h1]
  rw [bk_side] at h3
  obtain ⟨o, ho, e⟩ := List.mem_map.mp h3
  have : o = n := by rw [← h2, ← e]; rfl
  rw [← e, this]
  rfl
theorem find_uniq {α : Type} {p : α → Bool} {l : List α} {a : α} (ha : a ∈ l) (hp : p a = true) (hu : ∀ x ∈ l, p x = true → x = a) : l.find? p = some a := by
  cases e : l.find? p with
  | none => exact absurd hp (by simpa using List.find?_eq_none.mp e a ha)
  | some x => rw [hu x (List.mem_of_find?_eq_some e) (List.find?_some e)]
theorem srt_side (l : Link) (s : Bool) : (srtL l).side s = sortE (l.side s) := by cases s <;> rfl
theorem srt_lost (l : Link) (s : Bool) : (srtL l).lost s = sortE (l.lost s) := by cases s <;> rfl
theorem LCore.in_sd (h : LCore i W) {l : Link} (hl : l ∈ W.ks) {n : Str} (hn : n ∈ l.a ++ l.b) : n ∈ l.side (W.sdOf n) := by
  obtain ⟨s, hs⟩ := ab_side hn
  rw [sd_of h.dj (h.ls l hl s n hs)]
  exact hs
/-- the link a part stands in -/
theorem LCore.find (h : LCore i W) {n : Str} {j : Nat} {l : Link} (hj : W.ks[j]? = some l) (hn : n ∈ l.a ++ l.b) : W.book.k.find? (fun l => decide (n ∈ l.side (W.sdOf n))) = some (srtL l) := by
  refine find_uniq (sortE_mem.mpr (List.mem_map.mpr ⟨l, List.mem_of_getElem? hj, rfl⟩)) (decide_eq_true ?_) fun x hx hp => ?_
  · rw [srt_side, sortE_mem]
    exact h.in_sd (List.mem_of_getElem? hj) hn
  · obtain ⟨l', hl', rfl⟩ := List.mem_map.mp (sortE_mem.mp hx)
    have hp := of_decide_eq_true hp
    rw [srt_side, sortE_mem] at hp
    obtain ⟨j', hj'⟩ := List.mem_iff_getElem?.mp hl'
    have e := nd_links h.tn hj hj' hn (side_ab hp)
    subst e
    rw [hj] at hj'
    rw [Option.some.inj hj']
theorem LCore.at_ (h : LCore i W) {n : Str} {j : Nat} {l : Link} (hj : W.ks[j]? = some l) (hn : n ∈ l.a ++ l.b) : W.at? n = some j := by
  cases e : W.at? n with
  | none =>
    unfold RW.at? at e
    rw [List.findIdx?_eq_none_iff] at e
    have := e l (List.mem_of_getElem? hj)
    rw [decide_eq_true hn] at this
    cases this
  | some j' =>
    obtain ⟨l', h1, h2⟩ := at_of e
    rw [nd_links h.tn hj h1 hn h2]
theorem at_none {W : RW} {n : Str} (h : W.at? n = none) : ∀ l ∈ W.ks, n ∉ l.a ++ l.b := fun l hl hn => by
  unfold RW.at? at h
  rw [List.findIdx?_eq_none_iff] at h
  have := h l hl
  rw [decide_eq_true hn] at this
  cases this
theorem at_none_of {W : RW} {n : Str} (h : n ∉ tied W.ks) : W.at? n = none := by
  unfold RW.at?
  rw [List.findIdx?_eq_none_iff]
  exact fun l hl => decide_eq_false fun hn => h (List.mem_flatMap.mpr ⟨l, hl, hn⟩)
theorem find_none {n : Str} (hn : W.at? n = none) (s : Bool) : W.book.k.find? (fun l => decide (n ∈ l.side s)) = none := by
  refine List.find?_eq_none.mpr fun x hx => ?_
  obtain ⟨l', hl', rfl⟩ := List.mem_map.mp (sortE_mem.mp hx)
  rw [srt_side, decide_eq_true_iff, sortE_mem]
  exact fun hp => at_none hn l' hl' (side_ab hp)
theorem LCore.lk_some (h : LCore i W) {n : Str} {j : Nat} {l : Link} (hj : W.ks[j]? = some l) (hn : n ∈ l.a ++ l.b) : W.book.lk n = some (srtL l) := by
  unfold Book.lk
  obtain ⟨s, hs⟩ := ab_side hn
  rw [h.sd (side_names (h.ls l (List.mem_of_getElem? hj) s n hs))]
  exact h.find hj hn
theorem lk_none {n : Str} (hn : W.at? n = none) : W.book.lk n = none := find_none hn _
theorem LCore.srt_nd (h : LCore i W) : (W.ks.map srtL).Nodup := by
  rw [List.nodup_iff_pairwise_ne, List.pairwise_iff_getElem]
  intro a b ha hb hab e
  rw [List.length_map] at ha hb
  rw [List.getElem_map, List.getElem_map] at e
  have ha' := List.getElem?_eq_getElem ha
  have hb' := List.getElem?_eq_getElem hb
  obtain ⟨n, hn⟩ := List.exists_mem_of_ne_nil _ (h.ne _ (List.getElem_mem ha) false)
  have hn2 : n ∈ (W.ks[b]).side false := by
    have h1 : n ∈ (srtL W.ks[a]).side false := by rw [srt_side, sortE_mem]; exact hn
    rw [e, srt_side, sortE_mem] at h1
    exact h1
  have := nd_links h.tn ha' hb' (side_ab hn) (side_ab hn2)
  omega
theorem LInv.pok (h : LInv i W) {n : Str} (hn : n ∈ W.names) : POk (W.part n) where
  n := (pool_ok n (h.pool n hn)).1
  m := by
    show (sortE (W.mom n)).length ≤ 62
    rw [sortE_len]
    exact (h.inv.ok.mom (names_sd h.dj hn)).2
  x := Nat.le_trans (h.inv.ok.txt (names_sd h.dj hn)).2 (by decide)
theorem LInv.small (h : LInv i W) : Small W.book where
  l := by show (W.s0.map W.part).length ≤ 100; rw [List.length_map]; exact h.inv.ok.ls false
  r := by show (W.s1.map W.part).length ≤ 100; rw [List.length_map]; exact h.inv.ok.ls true
  k := by show (sortE (W.ks.map srtL)).length ≤ 100; rw [sortE_len, List.length_map]; exact h.inv.ok.lk
  z := by show (sortE W.al).length ≤ 100; rw [sortE_len]; exact h.inv.ok.la
  pl := fun p hp => by
    obtain ⟨n, hn, rfl⟩ := List.mem_map.mp hp
    exact h.pok (side_names (s := false) hn)
  pr := fun p hp => by
    obtain ⟨n, hn, rfl⟩ := List.mem_map.mp hp
    exact h.pok (side_names (s := true) hn)
  lk := fun l hl => by
    obtain ⟨l', hl', rfl⟩ := List.mem_map.mp (sortE_mem.mp hl)
    obtain ⟨h1, h2, h3, h4⟩ := h.inv.ok.ka l' hl'
    exact ⟨by rw [sortE_len]; exact h1, by rw [sortE_len]; exact h2, by rw [sortE_len]; exact h3, by rw [sortE_len]; exact h4,
      fun n hn => h.inv.ok.nk false n (h.ls l' hl' false n (sortE_mem.mp hn)), fun n hn => h.inv.ok.nk true n (h.ls l' hl' true n (sortE_mem.mp hn))⟩
  zn := fun n hn => h.inv.ok.ak n (sortE_mem.mp hn)
theorem LCore.closed (h : LCore i W) : Closed W.book where
  in_ := fun l hl s n hn => by
    obtain ⟨l', hl', rfl⟩ := List.mem_map.mp (sortE_mem.mp hl)
    rw [bk_names]
    rw [srt_side, sortE_mem] at hn
    exact h.ls l' hl' s n hn
theorem LInv.rows (h : LInv i W) (s : Bool) : W.book.rowL s = W.book.row s := rows_eq h.closed (fun s => by rw [bk_names]; exact h.nd s) (fun n hn => by
  rw [show namesOf W.book.l = W.s0 from bk_names W false] at hn
  rw [show namesOf W.book.r = W.s1 from bk_names W true]
  exact h.dj n hn) s
end
theorem linv_zero : LInv 0 w0 where
  i42 := by decide
  keys := rfl
  kn := List.nodup_nil
  kl := Nat.le_refl _
  nn := List.nodup_nil
  sub := fun n h => by cases h
  pool := fun n h => by cases h
  fm := List.nodup_nil
  as := fun n h => by cases h
  ls := fun l h => by cases h
  ne := fun l h => by cases h
  tm := ⟨[], Nat.le_refl _, (fun q h => by cases h), fun l h => by cases h⟩
  sum := Nat.le_refl _
end Tw
namespace Tw
open PySem PySem.Spec PyProof.Rows L2
theorem lookup_map_ne {α : Type} {l : List (Str × α)} {n o : Str} {x : α} (h : o ≠ n) : (l.map fun q => if q.1 = n then (q.1, x) else q).lookup o = l.lookup o := by
  induction l with
  | nil => rfl
  | cons q l ih =>
    obtain ⟨k, y⟩ := q
    rw [List.map_cons]
    by_cases e : k = n
    · subst e
      rw [if_pos rfl, List.lookup_cons, List.lookup_cons, ih, show (o == k) = false from beq_eq_false_iff_ne.mpr h]
    · rw [if_neg e, List.lookup_cons, List.lookup_cons, ih]
theorem lookup_map_eq {α : Type} {l : List (Str × α)} {n : Str} {x : α} (h : n ∈ l.map Prod.fst) : (l.map fun q => if q.1 = n then (q.1, x) else q).lookup n = some x := by
  induction l with
  | nil => cases h
  | cons q l ih =>
    obtain ⟨k, y⟩ := q
    rw [List.map_cons]
    by_cases e : k = n
    · subst e
      rw [if_pos rfl, List.lookup_cons]
      simp
    · rw [if_neg e, List.lookup_cons, show (n == k) = false from beq_eq_false_iff_ne.mpr fun h => e h.symm]
      rcases List.mem_cons.mp h with h | h
      · exact absurd h.symm e
      · exact ih h
theorem lookup_app_ne {α : Type} {l : List (Str × α)} {n o : Str} {x : α} (h : o ≠ n) : (l ++ [(n, x)]).lookup o = l.lookup o := by
  induction l with
  | nil => rw [List.nil_append, List.lookup_cons, show (o == n) = false from beq_eq_false_iff_ne.mpr h]
  | cons q l ih => rw [List.cons_append, List.lookup_cons, List.lookup_cons, ih]
theorem lookup_app_eq {α : Type} {l : List (Str × α)} {n : Str} {x : α} (h : n ∉ l.map Prod.fst) : (l ++ [(n, x)]).lookup n = some x := by
  induction l with
  | nil => rw [List.nil_append, List.lookup_cons]; simp
  | cons q l ih =>
    rw [List.map_cons, List.mem_cons, not_or] at h
    rw [List.cons_append, List.lookup_cons, ih h.2, show (n == q.1) = false from beq_eq_false_iff_ne.mpr h.1]
theorem lookup_out {α : Type} {l : List (Str × α)} {n o : Str} (h : o ≠ n) : (l.filter fun q => decide (q.1 ≠ n)).lookup o = l.lookup o := by
  induction l with
  | nil => rfl
  | cons q l ih =>
    by_cases e : q.1 = n
    · rw [List.filter_cons_of_neg (by simpa using e), ih, List.lookup_cons, show (o == q.1) = false from beq_eq_false_iff_ne.mpr (e ▸ h)]
    · rw [List.filter_cons_of_pos (by simpa using e), List.lookup_cons, List.lookup_cons, ih]
theorem keys_map {α : Type} (l : List (Str × α)) (n : Str) (x : α) : (l.map fun q => if q.1 = n then (q.1, x) else q).map Prod.fst = l.map Prod.fst := by
  rw [List.map_map]
  refine List.map_congr_left fun q _ => ?_
  simp only [Function.comp]
  split <;> rfl
theorem keys_out {α : Type} (l : List (Str × α)) (n : Str) : (l.filter fun q => decide (q.1 ≠ n)).map Prod.fst = (l.map Prod.fst).filter fun k => decide (k ≠ n) := by rw [List.filter_map]; rfl
theorem put_old {l : List (Str × Str)} {n x : Str} (h : n ∈ l.map Prod.fst) : putT l n x = l.map fun q => if q.1 = n then (q.1, x) else q := if_pos h
theorem put_keys {l : List (Str × Str)} {n x : Str} (h : n ∈ l.map Prod.fst) : (putT l n x).map Prod.fst = l.map Prod.fst := by rw [put_old h, keys_map]
theorem putMo_keys (l : List (Str × List Int)) (n : Str) (ms : List Int) : (putMo l n ms).map Prod.fst = l.map Prod.fst := keys_map l n ms
theorem put_ne {l : List (Str × Str)} {n o x : Str} (h : o ≠ n) : (putT l n x).lookup o = l.lookup o := by
  unfold putT
  split
  · exact lookup_map_ne h
  · exact lookup_app_ne h
theorem put_eq (l : List (Str × Str)) (n x : Str) : (putT l n x).lookup n = some x := by
  unfold putT
  split
  · rename_i h
    exact lookup_map_eq h
  · rename_i h
    exact lookup_app_eq h
theorem lenT_app (a b : List (Str × Str)) : lenT (a ++ b) = lenT a + lenT b := by unfold lenT; rw [List.map_append, List.sum_append]
theorem lenT_new {l : List (Str × Str)} {n x : Str} (h : n ∉ l.map Prod.fst) : lenT (putT l n x) = lenT l + x.length := by
  rw [putT_new h, lenT_app]
  simp [lenT]
theorem map_absent {α : Type} {l : List (Str × α)} {n : Str} {x : α} (h : n ∉ l.map Prod.fst) : (l.map fun q => if q.1 = n then (q.1, x) else q) = l := by
  have : (l.map fun q => if q.1 = n then (q.1, x) else q) = l.map id := List.map_congr_left fun q hq => if_neg fun e => h (List.mem_map.mpr ⟨q, hq, e⟩)
  rw [this, List.map_id]
theorem lenT_put {l : List (Str × Str)} {n x y : Str} (hk : (l.map Prod.fst).Nodup) (h : l.lookup n = some y) : lenT (putT l n x) + y.length = lenT l + x.length := by
  have hm : n ∈ l.map Prod.fst := by
    obtain ⟨i, hi⟩ := lookup_at h
    exact List.mem_map.mpr ⟨_, List.mem_of_getElem? hi, rfl⟩
  rw [put_old hm]
  clear hm
  induction l with
  | nil => cases h
  | cons q l ih =>
    obtain ⟨k, z⟩ := q
    rw [List.map_cons, List.nodup_cons] at hk
    rw [List.lookup_cons] at h
    by_cases e : n = k
    · subst e
      rw [show (n == n) = true by simp] at h
      cases h
      rw [List.map_cons, if_pos rfl, map_absent hk.1]
      unfold lenT
      rw [List.map_cons, List.map_cons, List.sum_cons, List.sum_cons]
      show x.length + _ + y.length = y.length + _ + x.length
      omega
    · rw [show (n == k) = false from beq_eq_false_iff_ne.mpr e] at h
      have := ih hk.2 h
      rw [List.map_cons, if_neg fun h => e h.symm]
      unfold lenT at this ⊢
      rw [List.map_cons, List.map_cons, List.sum_cons, List.sum_cons]
      omega
theorem filter_absent {α : Type} {l : List (Str × α)} {n : Str} (h : n ∉ l.map Prod.fst) : (l.filter fun q => decide (q.1 ≠ n)) = l := List.filter_eq_self.mpr fun q hq => decide_eq_true fun e => h (List.mem_map.mpr ⟨q, hq, e⟩)
theorem lenT_out {l : List (Str × Str)} {n y : Str} (hk : (l.map Prod.fst).Nodup) (h : l.lookup n = some y) : lenT (l.filter fun q => decide (q.1 ≠ n)) + y.length = lenT l := by
  induction l with
  | nil => cases h
  | cons q l ih =>
    obtain ⟨k, z⟩ := q
    rw [List.map_cons, List.nodup_cons] at hk
    rw [List.lookup_cons] at h
    by_cases e : n = k
    · subst e
      rw [show (n == n) = true by simp] at h
      cases h
      rw [List.filter_cons_of_neg (by simp), filter_absent hk.1]
      unfold lenT
      rw [List.map_cons, List.sum_cons]
      show _ + y.length = y.length + _
      omega
    · rw [show (n == k) = false from beq_eq_false_iff_ne.mpr e] at h
      have := ih hk.2 h
      rw [List.filter_cons_of_pos (by simpa using fun h => e h.symm)]
      unfold lenT at this ⊢
      rw [List.map_cons, List.map_cons, List.sum_cons, List.sum_cons]
      omega
theorem mem_set_ne {α : Type} {l : List α} {j : Nat} {x y : α} (h : y ∈ l.set j x) : y = x ∨ ∃ k, k ≠ j ∧ l[k]? = some y := by
  obtain ⟨k, hk⟩ := List.mem_iff_getElem?.mp h
  by_cases e : j = k
  · subst e
    rw [List.getElem?_set] at hk
    simp at hk
    exact .inl hk.2.symm
  · rw [List.getElem?_set_ne e] at hk
    exact .inr ⟨k, fun h => e h.symm, hk⟩
theorem mem_erase_ne {α : Type} {l : List α} {j : Nat} {y : α} (h : y ∈ l.eraseIdx j) : ∃ k, k ≠ j ∧ l[k]? = some y := by
  rw [List.mem_eraseIdx_iff_getElem?] at h
  obtain ⟨k, h1, h2⟩ := h
  exact ⟨k, h1, h2⟩
theorem tied_set_sub {l' : Link} : ∀ {ks : List Link} {j : Nat} {l : Link}, ks[j]? = some l → (l'.a ++ l'.b).Sublist (l.a ++ l.b) → (tied (ks.set j l')).Sublist (tied ks)
  | [], _, _, h, _ => by simp at h
  | k :: ks, 0, l, h, hs => by
    simp at h
    subst h
    unfold tied
    rw [List.set_cons_zero, List.flatMap_cons, List.flatMap_cons]
    exact hs.append (List.Sublist.refl _)
  | k :: ks, j + 1, l, h, hs => by
    unfold tied
    rw [List.set_cons_succ, List.flatMap_cons, List.flatMap_cons]
    exact (List.Sublist.refl _).append (tied_set_sub (ks := ks) (by simpa using h) hs)
theorem tied_set_perm {l' : Link} {m : Str} : ∀ {ks : List Link} {j : Nat} {l : Link}, ks[j]? = some l → (l'.a ++ l'.b).Perm (m :: (l.a ++ l.b)) → (tied (ks.set j l')).Perm (m :: tied ks)
  | [], _, _, h, _ => by simp at h
  | k :: ks, 0, l, h, hs => by
    simp at h
    subst h
    unfold tied
    rw [List.set_cons_zero, List.flatMap_cons, List.flatMap_cons]
    exact hs.append_right _
  | k :: ks, j + 1, l, h, hs => by
    unfold tied
    rw [List.set_cons_succ, List.flatMap_cons, List.flatMap_cons]
    have ih := tied_set_perm (ks := ks) (by simpa using h) hs
    exact (ih.append_left _).trans List.perm_middle
theorem tied_erase_perm : ∀ {ks : List Link} {j : Nat} {l : Link}, ks[j]? = some l → (tied ks).Perm (tied (ks.eraseIdx j) ++ (l.a ++ l.b))
  | [], _, _, h => by simp at h
  | k :: ks, 0, l, h => by
    simp at h
    subst h
    unfold tied
    rw [List.eraseIdx_cons_zero, List.flatMap_cons]
    exact List.perm_append_comm
  | k :: ks, j + 1, l, h => by
    unfold tied
    rw [List.eraseIdx_cons_succ, List.flatMap_cons, List.flatMap_cons]
    have ih := (tied_erase_perm (ks := ks) (by simpa using h)).append_left (k.a ++ k.b)
    rw [← List.append_assoc] at ih
    exact ih
theorem tied_erase_sub (ks : List Link) (j : Nat) : (tied (ks.eraseIdx j)).Sublist (tied ks) := by
  induction ks generalizing j with
  | nil => exact List.Sublist.refl _
  | cons k ks ih =>
    cases j with
    | zero =>
      unfold tied
      rw [List.eraseIdx_cons_zero, List.flatMap_cons]
      exact List.sublist_append_right _ _
    | succ j =>
      unfold tied
      rw [List.eraseIdx_cons_succ, List.flatMap_cons, List.flatMap_cons]
      exact (List.Sublist.refl _).append (ih j)
theorem insN_perm (ns : List Str) (h n : Str) : (insN ns h n).Perm (n :: ns) := by
  unfold insN
  split
  · exact List.Perm.refl _
  · rw [List.append_assoc]
    refine (List.perm_append_comm_assoc _ _ _).trans ?_
    rw [List.take_append_drop]
    exact List.Perm.refl _
theorem with_side (W : RW) (s : Bool) (ns : List Str) : (W.withSide s ns).side s = ns := by cases s <;> rfl
theorem with_other (W : RW) (s : Bool) (ns : List Str) : (W.withSide s ns).side (!s) = W.side (!s) := by cases s <;> rfl
theorem names_with {W W' : RW} {s : Bool} (h : W'.side (!s) = W.side (!s)) (hs : (W'.side s).Perm ms) : W'.names.Perm (ms ++ W.side (!s)) := by
  cases s with
  | false =>
    show (W'.side false ++ W'.side true).Perm _
    rw [show W'.side true = W.side true from h]
    exact hs.append_right _
  | true =>
    show (W'.side false ++ W'.side true).Perm _
    rw [show W'.side false = W.side false from h]
    exact List.perm_append_comm.trans (hs.append_right _)
theorem names_self (W : RW) (s : Bool) : W.names.Perm (W.side s ++ W.side (!s)) := names_with (W := W) rfl (List.Perm.refl _)
theorem names_add {W W' : RW} {s : Bool} {n : Str} (h : W'.side (!s) = W.side (!s)) (hs : (W'.side s).Perm (n :: W.side s)) : W'.names.Perm (n :: W.names) := (names_with h hs).trans ((names_self W s).symm.cons n)
theorem names_out {W W' : RW} {s : Bool} {n : Str} (h : W'.side (!s) = W.side (!s)) (hs : W'.side s = (W.side s).erase n) (hn : n ∈ W.side s) : W.names.Perm (n :: W'.names) := by
  refine (names_self W s).trans (List.Perm.trans ?_ ((names_with (W := W) (W' := W') h (List.Perm.refl _)).symm.cons n))
  rw [hs]
  exact (List.perm_cons_erase hn).append_right _
theorem names_same {W W' : RW} {s : Bool} (h : W'.side (!s) = W.side (!s)) (hs : (W'.side s).Perm (W.side s)) : W'.names.Perm W.names := (names_with h hs).trans (names_self W s).symm
theorem gone_side (W : RW) (t : Option Int) (n : Str) : (W.goneL t n).side (W.sdOf n) = (W.side (W.sdOf n)).erase n := by
  unfold RW.goneL
  simp only
  generalize W.sdOf n = s
  split
  · cases s <;> rfl
  · split
    · cases s <;> rfl
    · split
      · cases s <;> rfl
      · split <;> cases s <;> rfl
theorem gone_other (W : RW) (t : Option Int) (n : Str) : (W.goneL t n).side (!W.sdOf n) = W.side (!W.sdOf n) := by
  unfold RW.goneL
  simp only
  generalize W.sdOf n = s
  split
  · cases s <;> rfl
  · split
    · cases s <;> rfl
    · split
      · cases s <;> rfl
      · split <;> cases s <;> rfl
theorem gone_tx (W : RW) (t : Option Int) (n : Str) : (W.goneL t n).tx = W.tx.filter fun q => decide (q.1 ≠ n) := by
  unfold RW.goneL
  simp only
  split
  · rfl
  · split
    · rfl
    · split
      · rfl
      · split <;> rfl
theorem gone_mo (W : RW) (t : Option Int) (n : Str) : (W.goneL t n).mo = W.mo.filter fun q => decide (q.1 ≠ n) := by
  unfold RW.goneL
  simp only
  split
  · rfl
  · split
    · rfl
    · split
      · rfl
      · split <;> rfl
theorem gone_al (W : RW) (t : Option Int) (n : Str) : (W.goneL t n).al = W.al.erase n := by
  unfold RW.goneL
  simp only
  split
  · rfl
  · split
    · rfl
    · split
      · rfl
      · split <;> rfl
theorem gone_ks0 {W : RW} {t : Option Int} {n : Str} (h : W.at? n = none) : (W.goneL t n).ks = W.ks := by
  unfold RW.goneL
  simp only
  rw [h]
  cases W.sdOf n <;> rfl
def Link.lose (l : Link) (s : Bool) (n : Str) (t : Option Int) : Link := match t with
  | none => l.withSide s ((l.side s).erase n)
  | some t => (l.withSide s ((l.side s).erase n)).withLost s (lateL (l.lost s) t)
theorem gone_ks1 {W : RW} {t : Option Int} {n : Str} {j : Nat} {l : Link} (h : W.at? n = some j) (hj : W.ks[j]? = some l) : (W.goneL t n).ks = if (l.side (W.sdOf n)).erase n = [] then W.ks.eraseIdx j else W.ks.set j (l.lose (W.sdOf n) n t) := by
  unfold RW.goneL
  simp only
  rw [h]
  simp only
  rw [hj]
  simp only
  split
  · rfl
  · cases t <;> rfl
theorem lose_side (l : Link) (s : Bool) (n : Str) (t : Option Int) : (l.lose s n t).side s = (l.side s).erase n := by cases t <;> cases s <;> rfl
theorem lose_other (l : Link) (s : Bool) (n : Str) (t : Option Int) : (l.lose s n t).side (!s) = l.side (!s) := by cases t <;> cases s <;> rfl
theorem lose_sub (l : Link) (s : Bool) (n : Str) (t : Option Int) : ((l.lose s n t).a ++ (l.lose s n t).b).Sublist (l.a ++ l.b) := by
  have h1 := lose_side l s n t
  have h2 := lose_other l s n t
  cases s with
  | false =>
    rw [show (l.lose false n t).a = l.a.erase n from h1, show (l.lose false n t).b = l.b from h2]
    exact List.erase_sublist.append (List.Sublist.refl _)
  | true =>
    rw [show (l.lose true n t).b = l.b.erase n from h1, show (l.lose true n t).a = l.a from h2]
    exact (List.Sublist.refl _).append List.erase_sublist
theorem lose_lost {l : Link} {s : Bool} {n : Str} {t : Option Int} {ts ts' : List Int} (h : ∀ s, InT ts (l.lost s)) (hs : ∀ k ∈ ts, k ∈ ts') (ht : ∀ k, t = some k → k ∈ ts') (b : Bool) : InT ts' ((l.lose s n t).lost b) := by
  have up : ∀ s, InT ts' (l.lost s) := fun s => ⟨(h s).nd, fun k hk => hs k ((h s).sub k hk)⟩
  cases t with
  | none => cases s <;> exact up b
  | some t =>
    have la : ∀ s, InT ts' (lateL (l.lost s) t) := fun s => ⟨late_nd (h s).nd, fun k hk => by
      rcases late_mem.mp hk with hk | rfl
      · exact (up s).sub k hk
      · exact ht k rfl⟩
    cases s <;> cases b
    · exact la false
    · exact up true
    · exact up false
    · exact la true
theorem mem_side_eq {W W' : RW} {s0 : Bool} (h : W'.side (!s0) = W.side (!s0)) {s : Bool} {n : Str} (hn : n ∈ W.side s) (h0 : s = s0 → n ∈ W'.side s0) : n ∈ W'.side s := by
  by_cases e : s = s0
  · subst e
    exact h0 rfl
  · have : s = !s0 := by cases s <;> cases s0 <;> simp_all
    subst this
    rw [h]
    exact hn
theorem core_gone {i i' : Nat} {W : RW} (h : LCore i W) {t : Option Int} {n : Str} (hn : n ∈ W.names) (hi : i' ≤ 42) (hii : i ≤ i') (ht : ∀ k, t = some k → i < i') : LCore i' (W.goneL t n) := by
  have hns := names_sd h.dj hn
  have hP := names_out (gone_other W t n) (gone_side W t n) hns
  have hN : (n :: (W.goneL t n).names).Nodup := hP.nodup_iff.mp h.nn
  have hmem : ∀ o ∈ (W.goneL t n).names, o ∈ W.names ∧ o ≠ n := fun o ho => ⟨hP.mem_iff.mpr (List.mem_cons_of_mem _ ho), fun e => by subst e; exact (List.nodup_cons.mp hN).1 ho⟩
  have hmem2 : ∀ o ∈ W.names, o ≠ n → o ∈ (W.goneL t n).names := fun o ho e => by
    rcases List.mem_cons.mp (hP.mem_iff.mp ho) with h | h
    · exact absurd h e
    · exact h
  have hside : ∀ s, ∀ o ∈ W.side s, o ≠ n → o ∈ (W.goneL t n).side s := fun s o ho e => mem_side_eq (gone_other W t n) ho fun es => by
    subst es
    rw [gone_side]
    exact (List.mem_erase_of_ne e).mpr ho
  -- the links
  have hks : (tied (W.goneL t n).ks).Sublist (tied W.ks) ∧ ∀ l' ∈ (W.goneL t n).ks, (∃ l ∈ W.ks, n ∉ l.a ++ l.b ∧ l' = l) ∨ ∃ l ∈ W.ks, l' = l.lose (W.sdOf n) n t ∧ n ∈ l.a ++ l.b ∧ (l.side (W.sdOf n)).erase n ≠ [] := by
    cases e : W.at? n with
    | none =>
      rw [gone_ks0 e]
      exact ⟨List.Sublist.refl _, fun l hl => .inl ⟨l, hl, at_none e l hl, rfl⟩⟩
    | some j =>
      obtain ⟨l, hj, hnl⟩ := at_of e
      rw [gone_ks1 e hj]
      have oth : ∀ k l', k ≠ j → W.ks[k]? = some l' → (∃ l ∈ W.ks, n ∉ l.a ++ l.b ∧ l' = l) := fun k l' hk hl' => ⟨l', List.mem_of_getElem? hl', fun hn' => hk (nd_links h.tn hl' hj hn' hnl), rfl⟩
      split
      · refine ⟨tied_erase_sub _ _, fun l' hl' => ?_⟩
        obtain ⟨k, hk, e⟩ := mem_erase_ne hl'
        exact .inl (oth k l' hk e)
      · rename_i hne
        refine ⟨tied_set_sub hj (lose_sub l _ n t), fun l' hl' => ?_⟩
        rcases mem_set_ne hl' with rfl | ⟨k, hk, e⟩
        · exact .inr ⟨l, List.mem_of_getElem? hj, rfl, hnl, hne⟩
        · exact .inl (oth k l' hk e)
  have hside' : ∀ l ∈ W.ks, ∀ s, ∀ o ∈ l.side s, o ≠ n → o ∈ (W.goneL t n).side s := fun l hl s o ho e => hside s o (h.ls l hl s o ho) e
  refine ⟨hi, ?_, ?_, ?_, (List.nodup_cons.mp hN).2, fun o ho => ?_, fun o ho => h.pool o (hmem o ho).1, ?_, fun o ho => ?_, fun l' hl' s o ho => ?_, fun l' hl' s => ?_, ?_⟩
  · rw [gone_mo, gone_tx, keys_out, keys_out, h.keys]
  · unfold RW.keys
    rw [gone_tx, keys_out]
    exact h.kn.sublist List.filter_sublist
  · rw [gone_tx]
    exact Nat.le_trans (List.length_filter_le _ _) (Nat.le_trans h.kl hii)
  · unfold RW.keys
    rw [gone_tx, keys_out]
    exact List.mem_filter.mpr ⟨h.sub o (hmem o ho).1, decide_eq_true (hmem o ho).2⟩
  · rw [gone_al]
    exact h.fm.sublist (List.erase_sublist.append hks.1)
  · rw [gone_al] at ho
    have := (List.Nodup.mem_erase_iff h.an).mp ho
    exact hmem2 o (h.as o this.2) this.1
  · rcases hks.2 l' hl' with ⟨l, hl, hno, rfl⟩ | ⟨l, hl, rfl, hnl, hne⟩
    · exact hside' l' hl s o ho fun e => by subst e; exact hno (side_ab ho)
    · have hd := List.nodup_append.mp (link_nd h.tn hl)
      by_cases es : s = W.sdOf n
      · subst es
        rw [lose_side] at ho
        have := (List.Nodup.mem_erase_iff (h.sn hl (W.sdOf n))).mp ho
        exact hside' l hl _ o this.2 this.1
      · have es' : s = !W.sdOf n := by revert es; cases s <;> cases W.sdOf n <;> simp
        rw [es', lose_other] at ho
        rw [es']
        refine hside' l hl _ o ho fun e => ?_
        subst e
        have := sd_of h.dj (h.ls l hl _ o ho)
        revert this
        cases W.sdOf o <;> simp
  · rcases hks.2 l' hl' with ⟨l, hl, hno, rfl⟩ | ⟨l, hl, rfl, hnl, hne⟩
    · exact h.ne l' hl s
    · by_cases es : s = W.sdOf n
      · subst es
        rw [lose_side]
        exact hne
      · have es' : s = !W.sdOf n := by revert es; cases s <;> cases W.sdOf n <;> simp
        rw [es', lose_other]
        exact h.ne l hl _
  · obtain ⟨ts, h1, h2, h3⟩ := h.tm
    refine ⟨ts ++ t.toList, ?_, fun q hq => ?_, fun l' hl' s => ?_⟩
    · cases t with
      | none => simpa using Nat.le_trans h1 hii
      | some k =>
        have := ht k rfl
        simp
        omega
    · rw [gone_mo] at hq
      have := h2 q (List.mem_filter.mp hq).1
      exact ⟨this.nd, fun k hk => List.mem_append_left _ (this.sub k hk)⟩
    · rcases hks.2 l' hl' with ⟨l, hl, hno, rfl⟩ | ⟨l, hl, rfl, hnl, hne⟩
      · exact ⟨(h3 l' hl s).nd, fun k hk => List.mem_append_left _ ((h3 l' hl s).sub k hk)⟩
      · exact lose_lost (h3 l hl) (fun k hk => List.mem_append_left _ hk) (fun k e => by subst e; simp) s
end Tw
namespace Tw
open PySem PySem.Spec PyProof.Rows L2
def Fits (i : Nat) (W : RW) (d : Deed) : Prop := Can W.book d ∧ LInv (i + 1) (W.doesL d) ∧ (W.doesL d).book = W.book.dn d
section
variable {i : Nat} {W W' : RW}
theorem LCore.txl (h : LCore i W) {n : Str} (hn : n ∈ W.names) : W.tx.lookup n = some (W.txt n) := by
  obtain ⟨x, h1, h2⟩ := lookup_mem (h.sub n hn)
  unfold RW.txt
  rw [h1]
  rfl
theorem LCore.mol (h : LCore i W) {n : Str} (hn : n ∈ W.names) : W.mo.lookup n = some (W.mom n) ∧ (n, W.mom n) ∈ W.mo := by
  obtain ⟨x, h1, h2⟩ := lookup_mem (l := W.mo) (n := n) (h.keys ▸ h.sub n hn)
  unfold RW.mom
  rw [h1]
  exact ⟨rfl, h2⟩
theorem part_eq {o : Str} (h1 : W'.tx.lookup o = W.tx.lookup o) (h2 : W'.mo.lookup o = W.mo.lookup o) : W'.part o = W.part o := by unfold RW.part RW.txt RW.mom; rw [h1, h2]
theorem part_is {n x : Str} {ms : List Int} (h1 : W'.tx.lookup n = some x) (h2 : W'.mo.lookup n = some ms) : W'.part n = ⟨n, x, sortE ms⟩ := by unfold RW.part RW.txt RW.mom; rw [h1, h2]; rfl
theorem book_side {s : Bool} {ps : List Part} {k : List Link} {z : List Str} (ho : W'.side (!s) = W.side (!s)) (hp : ∀ o ∈ W.side (!s), W'.part o = W.part o) (hs : (W'.side s).map W'.part = ps) (hk : sortE (W'.ks.map srtL) = k) (hz : sortE W'.al = z) : W'.book = { W.book.withSide s ps with k := k, z := z } := by
  have h1 : (W'.side (!s)).map W'.part = (W.side (!s)).map W.part := by rw [ho]; exact List.map_congr_left hp
  unfold RW.book
  subst hk hz
  cases s with
  | false =>
    rw [show W'.s0.map W'.part = ps from hs, show W'.s1.map W'.part = W.s1.map W.part from h1]
    rfl
  | true =>
    rw [show W'.s1.map W'.part = ps from hs, show W'.s0.map W'.part = W.s0.map W.part from h1]
    rfl
theorem with_kz (b : Book) (s : Bool) (ps : List Part) : { b.withSide s ps with k := b.k, z := b.z } = b.withSide s ps := by cases s <;> rfl
theorem LCore.few (h : LCore i W) (t : Int) : Few W.book t := by
  obtain ⟨ts, h1, h2, h3⟩ := h.tm
  refine ⟨t :: ts, by have := h.i42; rw [List.length_cons]; omega, List.mem_cons_self, fun s p hp k hk => ?_, fun l hl s k hk => ?_⟩
  · rw [bk_side] at hp
    obtain ⟨o, ho, rfl⟩ := List.mem_map.mp hp
    have hk : k ∈ sortE (W.mom o) := hk
    rw [sortE_mem] at hk
    exact List.mem_cons_of_mem _ ((h2 _ (h.mol (side_names ho)).2).sub k hk)
  · obtain ⟨l', hl', rfl⟩ := List.mem_map.mp (sortE_mem.mp hl)
    rw [srt_lost, sortE_mem] at hk
    exact List.mem_cons_of_mem _ ((h3 l' hl' s).sub k hk)
theorem LCore.fresh (h : LCore i W) {n : Str} (hn : n ∉ W.keys) : n ∉ W.names := fun h1 => hn (h.sub n h1)
/-- a new part comes -/
theorem core_add {i' : Nat} {s : Bool} {n : Str} {ms : List Int} (h : LCore i W) (hi : i' = i + 1) (hi2 : i' ≤ 42) (hn : n ∉ W.keys) (hp : n ∈ pool75) (ho : W'.side (!s) = W.side (!s)) (hs : (W'.side s).Perm (n :: W.side s))
    (hk : W'.keys = W.keys ++ [n]) (hm : W'.mo = W.mo ++ [(n, ms)]) (hf : (W'.al ++ tied W'.ks).Nodup) (ha : ∀ o ∈ W'.al, o ∈ W.names ∨ o = n) (hl : ∀ l ∈ W'.ks, ∀ b, ∀ o ∈ l.side b, o ∈ W.side b ∨ (b = s ∧ o = n)) (he : ∀ l ∈ W'.ks, ∀ b, l.side b ≠ [])
    (ht : ∀ ts : List Int, ts.length ≤ i → (∀ q ∈ W.mo, InT ts q.2) → (∀ l ∈ W.ks, ∀ s, InT ts (l.lost s)) → ∃ ts' : List Int, ts'.length ≤ i' ∧ (∀ k ∈ ts, k ∈ ts') ∧ InT ts' ms ∧ ∀ l ∈ W'.ks, ∀ s, InT ts' (l.lost s)) : LCore i' W' := by
  have hN := names_add (W := W) (W' := W') ho hs
  have up : ∀ b, ∀ o ∈ W.side b, o ∈ W'.side b := fun b o hb => mem_side_eq ho hb fun e => by
    subst e
    exact hs.mem_iff.mpr (List.mem_cons_of_mem _ hb)
  have hkl : W'.tx.length = W.tx.length + 1 := by
    have := congrArg List.length hk
    unfold RW.keys at this
    simpa using this
  refine ⟨hi2, ?_, ?_, ?_, ?_, fun o ho' => ?_, fun o ho' => ?_, hf, fun o ho' => ?_, fun l hl' b o ho' => ?_, he, ?_⟩
  · rw [hm, List.map_append, h.keys]
    exact hk.symm
  · rw [hk, List.nodup_append]
    exact ⟨h.kn, by simp, fun a h9 b hb e => hn (by rw [← List.mem_singleton.mp hb, ← e]; exact h9)⟩
  · have := h.kl
    omega
  · exact hN.nodup_iff.mpr (List.nodup_cons.mpr ⟨h.fresh hn, h.nn⟩)
  · rw [hk, List.mem_append]
    rcases List.mem_cons.mp (hN.mem_iff.mp ho') with rfl | h1
    · exact .inr (by simp)
    · exact .inl (h.sub o h1)
  · rcases List.mem_cons.mp (hN.mem_iff.mp ho') with rfl | h1
    · exact hp
    · exact h.pool o h1
  · refine hN.mem_iff.mpr ?_
    rcases ha o ho' with h1 | rfl
    · exact List.mem_cons_of_mem _ h1
    · exact List.mem_cons_self
  · rcases hl l hl' b o ho' with h1 | ⟨rfl, rfl⟩
    · exact up b o h1
    · exact hs.mem_iff.mpr List.mem_cons_self
  · obtain ⟨ts, h1, h2, h3⟩ := h.tm
    obtain ⟨ts', g1, g2, g3, g4⟩ := ht ts h1 h2 h3
    refine ⟨ts', g1, fun q hq => ?_, g4⟩
    rw [hm] at hq
    rcases List.mem_append.mp hq with hq | hq
    · exact ⟨(h2 q hq).nd, fun k hk => g2 k ((h2 q hq).sub k hk)⟩
    · simp at hq
      subst hq
      exact g3
theorem fits_put (h : LInv i W) (hi : i < 42) {t : Int} {s : Bool} {a n x : Str} (hd : Drawn W (.put t s a n x)) : Fits i W (.put t s a n x) := by
  obtain ⟨ha, hp, hn, hx⟩ := hd
  have hnn := h.toLCore.fresh hn
  have hn2 : n ∉ W.mo.map Prod.fst := by rw [h.keys]; exact hn
  have hne : ∀ o ∈ W.names, o ≠ n := fun o ho e => by subst e; exact hnn ho
  have e1 : (W.doesL (.put t s a n x)).side s = insN (W.side s) a n := by cases s <;> rfl
  have e2 : (W.doesL (.put t s a n x)).side (!s) = W.side (!s) := by cases s <;> rfl
  have e3 : (W.doesL (.put t s a n x)).tx = putT W.tx n x := by cases s <;> rfl
  have e4 : (W.doesL (.put t s a n x)).mo = W.mo ++ [(n, [t])] := by cases s <;> rfl
  have e5 : (W.doesL (.put t s a n x)).ks = W.ks := by cases s <;> rfl
  have e6 : (W.doesL (.put t s a n x)).al = W.al := by cases s <;> rfl
  generalize hW : W.doesL (.put t s a n x) = W' at e1 e2 e3 e4 e5 e6
  have po : ∀ o ∈ W.names, W'.part o = W.part o := fun o ho => part_eq (by rw [e3, put_ne (hne o ho)]) (by rw [e4, lookup_app_ne (hne o ho)])
  have pn : W'.part n = ⟨n, x, [t]⟩ := by
    have := part_is (W' := W') (n := n) (x := x) (ms := [t]) (by rw [e3, put_eq]) (by rw [e4, lookup_app_eq hn2])
    rw [this, sortE_single]
  refine ⟨⟨fun e => ?_, bk_hasnt hnn⟩, ?_, ?_⟩
  · rcases ha with ha | ha
    · exact absurd ha e
    · exact ⟨bk_has.mpr (side_names ha), by rw [h.toLCore.sd (side_names ha), sd_of h.dj ha]⟩
  · rw [hW]
    refine ⟨core_add (s := s) (n := n) (ms := [t]) h.toLCore rfl (by omega) hn hp e2 (e1 ▸ insN_perm _ _ _) ?_ e4 (by rw [e5, e6]; exact h.fm) (fun o ho => .inl (h.as o (e6 ▸ ho))) (fun l hl b o ho => .inl (h.ls l (e5 ▸ hl) b o ho)) (fun l hl => h.ne l (e5 ▸ hl)) ?_, ?_⟩
    · unfold RW.keys
      rw [e3, putT_new hn, List.map_append]
      rfl
    · intro ts h1 h2 h3
      exact ⟨t :: ts, by rw [List.length_cons]; omega, fun k hk => List.mem_cons_of_mem _ hk, ⟨by simp, by simp⟩, fun l hl s => ⟨(h3 l (e5 ▸ hl) s).nd, fun k hk => List.mem_cons_of_mem _ ((h3 l (e5 ▸ hl) s).sub k hk)⟩⟩
    · rw [e3, lenT_new hn]
      have := h.sum
      omega
  · rw [hW]
    show W'.book = W.book.withSide s (insP (W.book.side s) ⟨n, x, [t]⟩ a)
    rw [← with_kz]
    refine book_side e2 (fun o ho => po o (side_names ho)) ?_ (by rw [e5]; rfl) (by rw [e6]; rfl)
    rw [e1, ← pn, bk_side, ← insP_map W'.part (fun _ => rfl) (h.nd s) ha n]
    congr 1
    exact List.map_congr_left fun o ho => po o (side_names ho)
theorem sort_erase {l : List Str} (h : l.Nodup) (n : Str) : outN (sortE l) n = sortE (l.erase n) := outN_sort h n
theorem gone_part {t : Option Int} {n o : Str} (h : o ≠ n) : (W.goneL t n).part o = W.part o := part_eq (by rw [gone_tx, lookup_out h]) (by rw [gone_mo, lookup_out h])
theorem gone_sideB (h : LCore i W) {t : Option Int} {n : Str} (hn : n ∈ W.names) : ((W.goneL t n).side (W.sdOf n)).map (W.goneL t n).part = outP (W.book.side (W.sdOf n)) n := by
  rw [gone_side, bk_side, outP_map W.part (fun _ => rfl) (h.nd _)]
  refine List.map_congr_left fun o ho => gone_part ?_
  exact ((List.Nodup.mem_erase_iff (h.nd _)).mp ho).1
theorem gone_out {t : Option Int} {n : Str} (h : LCore i W) (hn : n ∈ W.names) : ∀ o ∈ W.side (!W.sdOf n), (W.goneL t n).part o = W.part o := fun o ho => gone_part fun e => by
  subst e
  have := sd_of h.dj ho
  revert this
  cases W.sdOf o <;> simp
theorem map_set' {α β : Type} (f : α → β) (l : List α) (j : Nat) (x : α) : (l.set j x).map f = (l.map f).set j (f x) := List.map_set
theorem get_srt {ks : List Link} {j : Nat} {l : Link} (h : ks[j]? = some l) : (ks.map srtL)[j]? = some (srtL l) := by rw [List.getElem?_map, h]; rfl
theorem erase_one {l : List Str} (h : l.Nodup) {n : Str} (hn : n ∈ l) : l.erase n = [] ↔ sortE l = [n] := by
  constructor
  · intro e
    have : l = [n] := by
      have := List.perm_cons_erase hn
      rw [e] at this
      exact List.perm_singleton.mp this
    rw [this, sortE_single]
  · intro e
    have : l = [n] := by
      have := (sortE_perm l).symm
      rw [e] at this
      exact List.perm_singleton.mp this
    rw [this, List.erase_cons_head]
theorem srt_lose {l : Link} {s : Bool} (hn : (l.side s).Nodup) (hl : (l.lost s).Nodup) (n : Str) (t : Int) : srtL (l.lose s n (some t)) = ((srtL l).withSide s (outN ((srtL l).side s) n)).withLost s (rise ((srtL l).lost s ++ [t])) := by
  rw [srt_side, srt_lost, outN_sort hn, rise_late hl]
  cases s <;> rfl
theorem srt_lose0 {l : Link} {s : Bool} (hn : (l.side s).Nodup) (n : Str) : srtL (l.lose s n none) = (srtL l).withSide s (outN ((srtL l).side s) n) := by
  rw [srt_side, outN_sort hn]
  cases s <;> rfl
theorem gone_lostL (h : LCore i W) {t : Int} {n : Str} (hn : n ∈ W.names) : sortE ((W.goneL (some t) n).ks.map srtL) = lostL W.book.k (W.sdOf n) n t := by
  unfold lostL
  cases e : W.at? n with
  | none => rw [gone_ks0 e, find_none e]; rfl
  | some j =>
    obtain ⟨l, hj, hnl⟩ := at_of e
    have hl := List.mem_of_getElem? hj
    have hns := h.in_sd hl hnl
    obtain ⟨ts, h1, h2, h3⟩ := h.tm
    rw [gone_ks1 e hj, h.find hj hnl]
    simp only
    rw [srt_side]
    by_cases c : (l.side (W.sdOf n)).erase n = []
    · rw [if_pos c, if_pos ((erase_one (h.sn hl _) hns).mp c), show W.book.k = sortE (W.ks.map srtL) from rfl, exch_out h.srt_nd (get_srt hj), erase_map]
    · rw [if_neg c, if_neg fun c2 => c ((erase_one (h.sn hl _) hns).mpr c2), show W.book.k = sortE (W.ks.map srtL) from rfl, exch_set h.srt_nd (get_srt hj), map_set', srt_lose (h.sn hl _) (h3 l hl _).nd, srt_side]
theorem fits_take (h : LInv i W) (hi : i < 42) {t : Int} {n : Str} (hd : Drawn W (.take t n)) : Fits i W (.take t n) := by
  have hn : n ∈ W.names := hd
  refine ⟨⟨bk_has.mpr hn, h.few t, (pool_ok n (h.pool n hn)).1⟩, ⟨(show LCore (i + 1) (W.goneL (some t) n) from core_gone h.toLCore hn (by omega) (by omega) fun _ _ => by omega), ?_⟩, ?_⟩
  · show lenT (W.goneL (some t) n).tx ≤ _
    rw [gone_tx]
    have := lenT_out h.kn (h.txl hn)
    have := h.sum
    omega
  · show (W.goneL (some t) n).book = _
    simp only [Book.dn]
    rw [h.sd hn]
    exact book_side (gone_other W _ n) (gone_out h.toLCore hn) (gone_sideB h.toLCore hn) (gone_lostL h.toLCore hn) (by rw [gone_al]; exact (outN_sort h.an n).symm)
end
end Tw
namespace Tw
open PySem PySem.Spec PyProof.Rows L2
theorem cutS_to (x : Str) (k : Nat) : cutS x none (some (k : Int)) = ⟨(x.cps.toList.take k).toArray⟩ := by
  unfold cutS
  have e1 : HT.sIx x.length 0 none = 0 := rfl
  have e2 : HT.sIx x.length x.length (some (k : Int)) = min k x.length := HT.sIx_nat _ _ _
  rw [e1, e2, List.drop_zero, Nat.sub_zero]
  congr 2
  have hl : x.cps.toList.length = x.length := Array.length_toList
  rw [← hl, ← List.take_eq_take_min]
theorem cutS_from (x : Str) (k : Nat) : cutS x (some (k : Int)) none = ⟨(x.cps.toList.drop k).toArray⟩ := by
  unfold cutS
  have e1 : HT.sIx x.length 0 (some (k : Int)) = min k x.length := HT.sIx_nat _ _ _
  have e2 : HT.sIx x.length x.length none = x.length := rfl
  have hl : x.cps.toList.length = x.length := Array.length_toList
  rw [e1, e2]
  congr 2
  rw [List.take_of_length_le (by rw [List.length_drop]; omega)]
  by_cases h : k ≤ x.length
  · rw [Nat.min_eq_left h]
  · rw [Nat.min_eq_right (by omega), List.drop_eq_nil_of_le (by omega), List.drop_eq_nil_of_le (by omega)]
theorem to_len (x : Str) (k : Nat) : (cutS x none (some (k : Int))).length = min k x.length := by
  rw [cutS_to]
  show (x.cps.toList.take k).toArray.size = _
  rw [List.size_toArray, List.length_take, Array.length_toList]
  rfl
theorem from_len (x : Str) (k : Nat) : (cutS x (some (k : Int)) none).length = x.length - k := by
  rw [cutS_from]
  show (x.cps.toList.drop k).toArray.size = _
  rw [List.size_toArray, List.length_drop, Array.length_toList]
  rfl
section
variable {i : Nat} {W W' : RW}
abbrev RW.chgW (W : RW) (n x : Str) (ms : List Int) : RW := { W with tx := putT W.tx n x, mo := putMo W.mo n ms }
theorem mo_ne {l : List (Str × List Int)} {n o : Str} {ms : List Int} (h : o ≠ n) : (putMo l n ms).lookup o = l.lookup o := lookup_map_ne h
theorem chg_ne {n x o : Str} {ms : List Int} (h : o ≠ n) : (W.chgW n x ms).part o = W.part o := part_eq (put_ne h) (mo_ne h)
theorem chg_eq (h : LCore i W) {n x : Str} {ms : List Int} (hn : n ∈ W.names) : (W.chgW n x ms).part n = ⟨n, x, sortE ms⟩ := part_is (put_eq _ _ _) (lookup_map_eq (h.keys ▸ h.sub n hn))
theorem not_other (h : LCore i W) {n o : Str} (hn : n ∈ W.names) (ho : o ∈ W.side (!W.sdOf n)) : o ≠ n := fun e => by
  subst e
  have := sd_of h.dj ho
  revert this
  cases W.sdOf o <;> simp
theorem chg_side (h : LCore i W) {n x : Str} {ms : List Int} (hn : n ∈ W.names) : (W.side (W.sdOf n)).map (W.chgW n x ms).part = chgP (W.book.side (W.sdOf n)) ⟨n, x, sortE ms⟩ := by
  rw [bk_side]
  exact (chgP_map W.part (W.chgW n x ms).part (fun _ => rfl) (p := ⟨n, x, sortE ms⟩) rfl (chg_eq h hn) fun o _ e => chg_ne e).symm
theorem chg_book (h : LCore i W) {n x : Str} {ms : List Int} (hn : n ∈ W.names) : (W.chgW n x ms).book = W.book.withSide (W.sdOf n) (chgP (W.book.side (W.sdOf n)) ⟨n, x, sortE ms⟩) := by
  rw [← with_kz]
  have e1 : ∀ s, (W.chgW n x ms).side s = W.side s := fun s => by cases s <;> rfl
  refine book_side (e1 _) (fun o ho => chg_ne (not_other h hn ho)) ?_ rfl rfl
  rw [e1]
  exact chg_side h hn
theorem core_chg {i' : Nat} (h : LCore i W) {n x : Str} {ms : List Int} (hi : i ≤ i') (hi2 : i' ≤ 42) (hn : n ∈ W.names)
    (ht : ∀ ts : List Int, ts.length ≤ i → (∀ q ∈ W.mo, InT ts q.2) → ∃ ts' : List Int, ts'.length ≤ i' ∧ (∀ k ∈ ts, k ∈ ts') ∧ InT ts' ms) : LCore i' (W.chgW n x ms) := by
  have e1 : ∀ s, (W.chgW n x ms).side s = W.side s := fun s => by cases s <;> rfl
  have ek : (W.chgW n x ms).keys = W.keys := put_keys (h.sub n hn)
  refine ⟨hi2, ?_, ek ▸ h.kn, ?_, h.nn, fun o ho => ek ▸ h.sub o ho, h.pool, h.fm, h.as, fun l hl s o ho => e1 s ▸ h.ls l hl s o ho, h.ne, ?_⟩
  · show (putMo W.mo n ms).map Prod.fst = (W.chgW n x ms).keys
    rw [putMo_keys, h.keys, ek]
    rfl
  · have := congrArg List.length ek
    unfold RW.keys at this
    rw [List.length_map, List.length_map] at this
    rw [this]
    exact Nat.le_trans h.kl hi
  · obtain ⟨ts, h1, h2, h3⟩ := h.tm
    obtain ⟨ts', g1, g2, g3⟩ := ht ts h1 h2
    refine ⟨ts', g1, fun q hq => ?_, fun l hl s => ⟨(h3 l hl s).nd, fun k hk => g2 k ((h3 l hl s).sub k hk)⟩⟩
    obtain ⟨q', hq', rfl⟩ := List.mem_map.mp hq
    split
    · exact g3
    · exact ⟨(h2 q' hq').nd, fun k hk => g2 k ((h2 q' hq').sub k hk)⟩
theorem late_in {ts ms : List Int} {t : Int} (h : InT ts ms) : InT (t :: ts) (lateL ms t) := ⟨late_nd h.nd, fun k hk => by
  rcases late_mem.mp hk with h1 | rfl
  · exact List.mem_cons_of_mem _ (h.sub k h1)
  · exact List.mem_cons_self⟩
theorem fits_chg (h : LInv i W) (hi : i < 42) {t : Int} {n x : Str} (hn : n ∈ W.names) (hx : x.length ≤ (W.txt n).length + 63) : LInv (i + 1) (W.chgL t n x) ∧ (W.chgL t n x).book = W.book.txt t n x := by
  refine ⟨⟨(show LCore (i + 1) (W.chgW n x (lateL (W.mom n) t)) from core_chg h.toLCore (by omega) (by omega) hn fun ts h1 h2 => ⟨t :: ts, by rw [List.length_cons]; omega, fun k hk => List.mem_cons_of_mem _ hk, late_in (h2 _ (h.mol hn).2)⟩), ?_⟩, ?_⟩
  · show lenT (putT W.tx n x) ≤ _
    have := lenT_put (x := x) h.kn (h.txl hn)
    have := h.sum
    omega
  · obtain ⟨ts, h1, h2, h3⟩ := h.tm
    unfold Book.txt
    rw [h.sd hn, h.pt hn]
    show _ = W.book.withSide (W.sdOf n) (chgP (W.book.side (W.sdOf n)) ⟨n, x, rise (sortE (W.mom n) ++ [t])⟩)
    rw [rise_late (h2 _ (h.mol hn).2).nd]
    exact chg_book h.toLCore hn
theorem fits_change (h : LInv i W) (hi : i < 42) {t : Int} {n x : Str} (hd : Drawn W (.change t n x)) : Fits i W (.change t n x) := by
  obtain ⟨hn, hx⟩ := hd
  have := fits_chg (t := t) h hi hn (x := x) (by omega)
  exact ⟨⟨bk_has.mpr hn, h.few t⟩, this.1, this.2⟩
theorem fits_move (h : LInv i W) (hi : i < 42) {t : Int} {n a : Str} (hd : Drawn W (.move t n a)) : Fits i W (.move t n a) := by
  obtain ⟨hn, ha⟩ := hd
  have hns := names_sd h.dj hn
  have hpl := pool_ok n (h.pool n hn)
  have e1 : (W.doesL (.move t n a)).side (W.sdOf n) = insN ((W.side (W.sdOf n)).erase n) a n := with_side _ _ _
  have e2 : (W.doesL (.move t n a)).side (!W.sdOf n) = W.side (!W.sdOf n) := with_other _ _ _
  have e3 : (W.doesL (.move t n a)).tx = W.tx := by show (W.withSide _ _).tx = _; cases W.sdOf n <;> rfl
  have e4 : (W.doesL (.move t n a)).mo = W.mo := by show (W.withSide _ _).mo = _; cases W.sdOf n <;> rfl
  have e5 : (W.doesL (.move t n a)).ks = W.ks := by show (W.withSide _ _).ks = _; cases W.sdOf n <;> rfl
  have e6 : (W.doesL (.move t n a)).al = W.al := by show (W.withSide _ _).al = _; cases W.sdOf n <;> rfl
  generalize hW : W.doesL (.move t n a) = W' at e1 e2 e3 e4 e5 e6
  have hp : (W'.side (W.sdOf n)).Perm (W.side (W.sdOf n)) := by
    rw [e1]
    exact (insN_perm _ _ _).trans (List.perm_cons_erase hns).symm
  have hN := names_same e2 hp
  have po : W'.part = W.part := by funext o; exact part_eq (by rw [e3]) (by rw [e4])
  have ek : W'.keys = W.keys := by unfold RW.keys; rw [e3]
  refine ⟨⟨bk_has.mpr hn, fun e => ?_, ?_⟩, ?_, ?_⟩
  · rcases ha with ha | ha
    · exact absurd ha e
    · exact ⟨bk_has.mpr (side_names ha.1), by rw [h.sd (side_names ha.1), h.sd hn, sd_of h.dj ha.1]⟩
  · rcases ha with ha | ha
    · rw [ha]; exact hpl.2
    · exact fun e => ha.2 e.symm
  · rw [hW]
    refine ⟨⟨by omega, by rw [e3, e4]; exact h.keys, ek ▸ h.kn, by rw [e3]; have := h.kl; omega, hN.nodup_iff.mpr h.nn, fun o ho => ek ▸ h.sub o (hN.mem_iff.mp ho), fun o ho => h.pool o (hN.mem_iff.mp ho), by rw [e5, e6]; exact h.fm, fun o ho => hN.mem_iff.mpr (h.as o (e6 ▸ ho)), fun l hl s o ho => ?_, fun l hl => h.ne l (e5 ▸ hl), ?_⟩, by rw [e3]; have := h.sum; omega⟩
    · exact mem_side_eq e2 (h.ls l (e5 ▸ hl) s o ho) fun es => by
        subst es
        exact hp.mem_iff.mpr (h.ls l (e5 ▸ hl) _ o ho)
    · obtain ⟨ts, h1, h2, h3⟩ := h.tm
      exact ⟨ts, by omega, fun q hq => h2 q (e4 ▸ hq), fun l hl => h3 l (e5 ▸ hl)⟩
  · rw [hW]
    simp only [Book.dn]
    rw [h.sd hn, h.pt hn, ← with_kz]
    refine book_side e2 (fun o _ => by rw [po]) ?_ (by rw [e5]; rfl) (by rw [e6]; rfl)
    rw [e1, po, bk_side, outP_map W.part (fun _ => rfl) (h.nd _)]
    refine (insP_map W.part (fun _ => rfl) ((h.nd _).erase n) ?_ n).symm
    rcases ha with ha | ha
    · exact .inl ha
    · exact .inr ((List.mem_erase_of_ne ha.2).mpr ha.1)
end
end Tw
namespace Tw
open PySem PySem.Spec PyProof.Rows L2
section
variable {i : Nat} {W W' : RW}
abbrev RW.lkW (W : RW) (al : List Str) (ks : List Link) : RW := { W with al := al, ks := ks }
theorem lkW_side (al : List Str) (ks : List Link) (s : Bool) : (W.lkW al ks).side s = W.side s := by cases s <;> rfl
theorem lkW_book (al : List Str) (ks : List Link) : (W.lkW al ks).book = { W.book with k := sortE (ks.map srtL), z := sortE al } := rfl
theorem inv_lk {al : List Str} {ks : List Link} (h : LInv i W) (hi : i < 42) (hf : (al ++ tied ks).Nodup) (ha : ∀ o ∈ al, o ∈ W.names) (hl : ∀ l ∈ ks, ∀ b, ∀ o ∈ l.side b, o ∈ W.side b) (he : ∀ l ∈ ks, ∀ b, l.side b ≠ [])
    (ht : ∀ ts : List Int, (∀ l ∈ W.ks, ∀ s, InT ts (l.lost s)) → ∀ l ∈ ks, ∀ s, InT ts (l.lost s)) : LInv (i + 1) (W.lkW al ks) :=
  ⟨⟨by omega, h.keys, h.kn, (by have := h.kl; show W.tx.length ≤ i + 1; omega), h.nn, h.sub, h.pool, hf, ha, fun l hl' s o ho => (lkW_side al ks s).symm ▸ hl l hl' s o ho, he, by
    obtain ⟨ts, h1, h2, h3⟩ := h.tm
    exact ⟨ts, by omega, h2, ht ts h3⟩⟩, by have := h.sum; show lenT W.tx ≤ 63 * (i + 1); omega⟩
theorem at_tied {n : Str} {j : Nat} (h : W.at? n = some j) : n ∈ tied W.ks := by
  obtain ⟨l, hj, hn⟩ := at_of h
  exact List.mem_flatMap.mpr ⟨l, List.mem_of_getElem? hj, hn⟩
theorem none_tied {n : Str} (h : W.at? n = none) : n ∉ tied W.ks := fun hn => by
  obtain ⟨l, hl, hn⟩ := List.mem_flatMap.mp hn
  exact at_none h l hl hn
theorem lone_facts {s : Bool} {n : Str} (h : n ∈ W.lone s) : n ∈ W.side s ∧ n ∉ W.al ∧ W.at? n = none := by
  obtain ⟨h1, h2⟩ := List.mem_filter.mp h
  rw [Bool.and_eq_true] at h2
  refine ⟨h1, by simpa using h2.1, by simpa using h2.2⟩
theorem z_iff {n : Str} : n ∈ W.book.z ↔ n ∈ W.al := sortE_mem
theorem fits_alone (h : LInv i W) (hi : i < 42) {t : Int} {n : Str} (hd : Drawn W (.alone t n)) : Fits i W (.alone t n) := by
  obtain ⟨s, hs⟩ : ∃ s, n ∈ W.lone s := by
    rcases List.mem_append.mp (show n ∈ W.lone false ++ W.lone true from hd) with h | h
    · exact ⟨_, h⟩
    · exact ⟨_, h⟩
  obtain ⟨h1, h2, h3⟩ := lone_facts hs
  have hn := side_names h1
  refine ⟨⟨bk_has.mpr hn, lk_none h3, fun e => h2 (z_iff.mp e)⟩, inv_lk (al := W.al ++ [n]) (ks := W.ks) h hi ?_ (fun o ho => ?_) (fun l hl b o ho => h.ls l hl b o ho) h.ne fun ts ht => ht, ?_⟩
  · have hp : (W.al ++ [n] ++ tied W.ks).Perm (n :: (W.al ++ tied W.ks)) := by
      rw [List.append_assoc]
      exact List.perm_middle
    refine hp.nodup_iff.mpr (List.nodup_cons.mpr ⟨fun e => ?_, h.fm⟩)
    rcases List.mem_append.mp e with e | e
    · exact h2 e
    · exact none_tied h3 e
  · rcases List.mem_append.mp ho with ho | ho
    · exact h.as o ho
    · rw [List.mem_singleton.mp ho]; exact hn
  · show (W.lkW (W.al ++ [n]) W.ks).book = { W.book with z := addN W.book.z n }
    rw [lkW_book, show W.book.z = sortE W.al from rfl, addN_sort]
    rfl
theorem fits_lack (h : LInv i W) (hi : i < 42) {t : Int} {n : Str} (hd : Drawn W (.lack t n)) : Fits i W (.lack t n) := by
  have hn : n ∈ W.al := hd
  refine ⟨⟨bk_has.mpr (h.as n hn), z_iff.mpr hn⟩, inv_lk (al := W.al.erase n) (ks := W.ks) h hi (h.fm.sublist (List.erase_sublist.append (List.Sublist.refl _))) (fun o ho => h.as o (List.mem_of_mem_erase ho)) (fun l hl b o ho => h.ls l hl b o ho) h.ne fun ts ht => ht, ?_⟩
  show (W.lkW (W.al.erase n) W.ks).book = { W.book with z := outN W.book.z n }
  rw [lkW_book, show W.book.z = sortE W.al from rfl, outN_sort h.an]
  rfl
theorem fits_link (h : LInv i W) (hi : i < 42) {t : Int} {a c : List Str} (hd : Drawn W (.link t a c)) : Fits i W (.link t a c) := by
  obtain ⟨ha, hc⟩ := hd
  have na := ha.nd ((h.nd false).sublist List.filter_sublist)
  have nc := hc.nd ((h.nd true).sublist List.filter_sublist)
  have fa := fun n hn => lone_facts (ha.sub n hn)
  have fc := fun n hn => lone_facts (hc.sub n hn)
  have hks : tied (W.ks ++ [(⟨a, c, t, [], []⟩ : Link)]) = tied W.ks ++ (a ++ c) := by
    unfold tied
    rw [List.flatMap_append]
    simp
  have hm : ∀ l ∈ W.ks ++ [(⟨a, c, t, [], []⟩ : Link)], l ∈ W.ks ∨ l = ⟨a, c, t, [], []⟩ := fun l hl => by
    rcases List.mem_append.mp hl with hl | hl
    · exact .inl hl
    · exact .inr (List.mem_singleton.mp hl)
  have out : ∀ n, n ∉ W.al → W.at? n = none → n ∉ W.al ++ tied W.ks := fun n h1 h2 e => by
    rcases List.mem_append.mp e with e | e
    · exact h1 e
    · exact none_tied h2 e
  refine ⟨⟨fun n hn => ?_, fun n hn => ?_, Nat.le_trans ha.le (by decide), Nat.le_trans hc.le (by decide)⟩, inv_lk (al := W.al) (ks := W.ks ++ [(⟨a, c, t, [], []⟩ : Link)]) h hi ?_ h.as (fun l hl b o ho => ?_) (fun l hl b => ?_) (fun ts ht l hl s => ?_), ?_⟩
  · obtain ⟨h1, h2, h3⟩ := fa n hn
    exact ⟨bk_has.mpr (side_names h1), by rw [h.sd (side_names h1), sd_of h.dj h1], lk_none h3, fun e => h2 (z_iff.mp e)⟩
  · obtain ⟨h1, h2, h3⟩ := fc n hn
    exact ⟨bk_has.mpr (side_names h1), by rw [h.sd (side_names h1), sd_of h.dj h1], lk_none h3, fun e => h2 (z_iff.mp e)⟩
  · rw [hks, ← List.append_assoc, List.nodup_append]
    refine ⟨h.fm, List.nodup_append.mpr ⟨na, nc, fun x hx y hy e => ?_⟩, fun x hx y hy e => ?_⟩
    · subst e
      exact h.dj x (fa x hx).1 (fc x hy).1
    · subst e
      rcases List.mem_append.mp hy with hy | hy
      · exact out x (fa x hy).2.1 (fa x hy).2.2 hx
      · exact out x (fc x hy).2.1 (fc x hy).2.2 hx
  · rcases hm l hl with hl | rfl
    · exact h.ls l hl b o ho
    · cases b
      · exact (fa o ho).1
      · exact (fc o ho).1
  · rcases hm l hl with hl | rfl
    · exact h.ne l hl b
    · cases b
      · exact ha.ne
      · exact hc.ne
  · rcases hm l hl with hl | rfl
    · exact ht l hl s
    · cases s <;> exact ⟨List.nodup_nil, fun k hk => by cases hk⟩
  · show (W.lkW W.al (W.ks ++ [(⟨a, c, t, [], []⟩ : Link)])).book = { W.book with k := exch W.book.k none (some ⟨sortE a, sortE c, t, [], []⟩) }
    rw [lkW_book, show W.book.k = sortE (W.ks.map srtL) from rfl, exch_in, List.map_append]
    simp only [List.map_cons, List.map_nil, srtL, sortE_nil]
    rfl
theorem fits_loose (h : LInv i W) (hi : i < 42) {t : Int} {n : Str} (hd : Drawn W (.loose t n)) : Fits i W (.loose t n) := by
  obtain ⟨hn, hs⟩ := hd
  obtain ⟨j, e⟩ := Option.isSome_iff_exists.mp hs
  obtain ⟨l, hj, hnl⟩ := at_of e
  have hlk := h.lk_some hj hnl
  have hW : W.doesL (.loose t n) = W.lkW W.al (W.ks.eraseIdx j) := by
    show (match W.at? n with | some j => { W with ks := W.ks.eraseIdx j } | none => W) = _
    rw [e]
  have hsub : ∀ l ∈ W.ks.eraseIdx j, l ∈ W.ks := fun l hl => List.mem_of_mem_eraseIdx hl
  unfold Fits
  rw [hW]
  refine ⟨⟨bk_has.mpr hn, by rw [hlk]; rfl⟩, inv_lk h hi (h.fm.sublist ((List.Sublist.refl _).append (tied_erase_sub _ _))) h.as (fun l hl => h.ls l (hsub l hl)) (fun l hl => h.ne l (hsub l hl)) fun ts ht l hl => ht l (hsub l hl), ?_⟩
  show _ = { W.book with k := exch W.book.k (W.book.lk n) none }
  rw [hlk, lkW_book, show W.book.k = sortE (W.ks.map srtL) from rfl, exch_out h.srt_nd (get_srt hj), erase_map]
  rfl
theorem fits_step (h : LInv i W) (hi : i < 42) {t : Int} {n : Str} (hd : Drawn W (.step t n)) : Fits i W (.step t n) := by
  obtain ⟨hn, hs⟩ := hd
  obtain ⟨j, e⟩ := Option.isSome_iff_exists.mp hs
  obtain ⟨l, hj, hnl⟩ := at_of e
  have hlk := h.lk_some hj hnl
  have hl0 := List.mem_of_getElem? hj
  have hW : W.doesL (.step t n) = W.lkW W.al (W.ks.eraseIdx j ++ [(⟨l.a, l.b, t, [], []⟩ : Link)]) := by
    show (match W.at? n with
      | some j => match W.ks[j]? with
        | some l => { W with ks := W.ks.eraseIdx j ++ [(⟨l.a, l.b, t, [], []⟩ : Link)] }
        | none => W
      | none => W) = _
    rw [e]
    simp only
    rw [hj]
  have hks : (tied (W.ks.eraseIdx j ++ [(⟨l.a, l.b, t, [], []⟩ : Link)])).Perm (tied W.ks) := by
    refine List.Perm.trans ?_ (tied_erase_perm hj).symm
    unfold tied
    rw [List.flatMap_append]
    simp
  have hm : ∀ l' ∈ W.ks.eraseIdx j ++ [(⟨l.a, l.b, t, [], []⟩ : Link)], l' ∈ W.ks ∨ l' = ⟨l.a, l.b, t, [], []⟩ := fun l' hl => by
    rcases List.mem_append.mp hl with hl | hl
    · exact .inl (List.mem_of_mem_eraseIdx hl)
    · exact .inr (List.mem_singleton.mp hl)
  unfold Fits
  rw [hW]
  refine ⟨⟨bk_has.mpr hn, by rw [hlk]; rfl⟩, inv_lk (al := W.al) (ks := W.ks.eraseIdx j ++ [(⟨l.a, l.b, t, [], []⟩ : Link)]) h hi ((hks.append_left _).nodup_iff.mpr h.fm) h.as (fun l' hl b o ho => ?_) (fun l' hl b => ?_) (fun ts ht l' hl s => ?_), ?_⟩
  · rcases hm l' hl with hl | rfl
    · exact h.ls l' hl b o ho
    · refine h.ls l hl0 b o ?_
      cases b <;> exact ho
  · rcases hm l' hl with hl | rfl
    · exact h.ne l' hl b
    · have := h.ne l hl0 b
      cases b <;> exact this
  · rcases hm l' hl with hl | rfl
    · exact ht l' hl s
    · cases s <;> exact ⟨List.nodup_nil, fun k hk => by cases hk⟩
  · simp only [Book.dn]
    rw [hlk]
    simp only
    rw [lkW_book, show W.book.k = sortE (W.ks.map srtL) from rfl, exch_set h.srt_nd (get_srt hj), List.map_append, ← erase_map, show sortE ((W.ks.map srtL).eraseIdx j ++ [(⟨l.a, l.b, t, [], []⟩ : Link)].map srtL) = sortE ((W.ks.map srtL).set j { srtL l with t := t, la := [], lb := [] }) by
      refine sortE_congr (List.Perm.trans ?_ (perm_set _ (get_srt hj)))
      simp only [List.map_cons, List.map_nil, srtL, sortE_nil]
      exact List.Perm.refl _]
    rfl
end
end Tw
namespace Tw
open PySem PySem.Spec PyProof.Rows L2
section
variable {i : Nat} {W W' : RW}
theorem alike_facts (h : LCore i W) {n o : Str} (ho : o ∈ W.alike n) : W.at? o = W.at? n ∧ (n ∈ W.al ↔ o ∈ W.al) := by
  unfold RW.alike at ho
  simp only at ho
  split at ho
  · rename_i hs
    have e := of_decide_eq_true (List.mem_filter.mp ho).2
    obtain ⟨j, hj⟩ := Option.isSome_iff_exists.mp hs
    refine ⟨e, fun h1 => absurd (at_tied hj) (h.ak h1), fun h1 => absurd (at_tied (e.trans hj)) (h.ak h1)⟩
  · rename_i hs
    have hn : W.at? n = none := by cases e : W.at? n with | none => rfl | some j => rw [e] at hs; exact absurd rfl hs
    split at ho
    · rename_i hz
      have e := of_decide_eq_true (List.mem_filter.mp ho).2
      exact ⟨by rw [hn, at_none_of (h.ak e)], fun _ => e, fun _ => hz⟩
    · rename_i hz
      have e := lone_facts (of_decide_eq_true (List.mem_filter.mp ho).2)
      exact ⟨by rw [hn, e.2.2], fun h1 => absurd h1 hz, fun h1 => absurd h1 e.2.1⟩
theorem lates_in {ts ms xs : List Int} (h : InT ts ms) (h2 : InT ts xs) : InT ts (xs.foldl lateL ms) := ⟨lates_nd h.nd, fun k hk => by
  rcases lates_mem.mp hk with h1 | h1
  · exact h.sub k h1
  · exact h2.sub k h1⟩
theorem gone_fewerL (h : LCore i W) {n o : Str} (ho : o ∈ W.names) (hn : ∀ l ∈ W.ks, o ∈ l.a ++ l.b → n ∈ l.side (W.sdOf o)) (hne : n ≠ o) : sortE ((W.goneL none o).ks.map srtL) = fewerL W.book.k (W.sdOf o) o := by
  unfold fewerL
  cases e : W.at? o with
  | none => rw [gone_ks0 e, find_none e]; rfl
  | some j =>
    obtain ⟨l, hj, hnl⟩ := at_of e
    have hl := List.mem_of_getElem? hj
    rw [gone_ks1 e hj, h.find hj hnl]
    simp only
    have hc : ¬ (l.side (W.sdOf o)).erase o = [] := fun c => by
      have := (List.mem_erase_of_ne hne).mpr (hn l hl hnl)
      rw [c] at this
      exact List.not_mem_nil this
    rw [if_neg hc, show W.book.k = sortE (W.ks.map srtL) from rfl, exch_set h.srt_nd (get_srt hj), map_set', srt_lose0 (h.sn hl _)]
theorem with_with (b : Book) (s : Bool) (p q : List Part) (k : List Link) (z : List Str) : { (b.withSide s p).withSide s q with k := k, z := z } = { b.withSide s q with k := k, z := z } := by cases s <;> rfl
theorem fits_join (h : LInv i W) (hi : i < 42) {t : Int} {n o : Str} (hd : Drawn W (.join t n o)) : Fits i W (.join t n o) := by
  obtain ⟨hn, ho⟩ := hd
  obtain ⟨ho1, hne⟩ := alike_side ho
  obtain ⟨ha, hz⟩ := alike_facts h.toLCore ho
  have hon := side_names ho1
  have hso : W.sdOf o = W.sdOf n := sd_of h.dj ho1
  have hlk : W.book.lk n = W.book.lk o := by
    cases e : W.at? n with
    | none => rw [lk_none e, lk_none (ha.trans e)]
    | some j =>
      obtain ⟨l, hj, hnl⟩ := at_of e
      obtain ⟨l', hj', hnl'⟩ := at_of (ha.trans e)
      rw [hj] at hj'
      rw [h.lk_some hj hnl, h.lk_some hj ((Option.some.inj hj').symm ▸ hnl')]
  have ho2 : o ∈ (W.chgW n (W.txt n ++ W.txt o) ((W.mom o).foldl lateL (W.mom n))).names := hon
  have hc : LCore i (W.chgW n (W.txt n ++ W.txt o) ((W.mom o).foldl lateL (W.mom n))) := core_chg h.toLCore (Nat.le_refl _) h.i42 hn fun ts h1 h2 => ⟨ts, h1, fun _ hk => hk, lates_in (h2 _ (h.mol hn).2) (h2 _ (h.mol hon).2)⟩
  have hcb := chg_book h.toLCore (x := W.txt n ++ W.txt o) (ms := (W.mom o).foldl lateL (W.mom n)) hn
  have hlen := lenT_put (x := W.txt n ++ W.txt o) h.kn (h.txl hn)
  have hx : (W.chgW n (W.txt n ++ W.txt o) ((W.mom o).foldl lateL (W.mom n))).txt o = W.txt o := by
    show ((putT W.tx n _).lookup o).getD "" = _
    rw [put_ne hne]
    rfl
  have hg := gone_fewerL (n := n) hc ho2 (fun l hl hol => by
    have hol' := h.in_sd (l := l) hl hol
    obtain ⟨j, hj⟩ := List.mem_iff_getElem?.mp (show l ∈ W.ks from hl)
    have e1 := h.at_ hj hol
    rw [ha] at e1
    obtain ⟨l', h1, h2⟩ := at_of e1
    rw [hj] at h1
    obtain rfl := Option.some.inj h1
    show n ∈ l.side (W.sdOf o)
    rw [hso]
    exact h.in_sd hl h2) (fun e => hne e.symm)
  have hb := book_side (gone_other (W.chgW n (W.txt n ++ W.txt o) ((W.mom o).foldl lateL (W.mom n))) none o) (gone_out hc ho2) (gone_sideB hc (t := none) ho2) hg (z := outN (sortE W.al) o) (by rw [gone_al]; exact (outN_sort h.an o).symm)
  refine ⟨⟨bk_has.mpr hn, bk_has.mpr hon, by rw [h.sd hn, h.sd hon, hso], fun e => hne e.symm, hlk, by rw [z_iff, z_iff]; exact hz, h.few t⟩, ⟨(show LCore (i + 1) ((W.chgW n (W.txt n ++ W.txt o) ((W.mom o).foldl lateL (W.mom n))).goneL none o) from core_gone hc ho2 (by omega) (by omega) fun _ e => by cases e), ?_⟩, ?_⟩
  · show lenT ((W.chgW n (W.txt n ++ W.txt o) ((W.mom o).foldl lateL (W.mom n))).goneL none o).tx ≤ _
    rw [gone_tx]
    have h1 := lenT_out hc.kn (hc.txl ho2)
    rw [hx] at h1
    have h2 := h.sum
    rw [str_len_app] at hlen
    have h3 : lenT (W.chgW n (W.txt n ++ W.txt o) ((W.mom o).foldl lateL (W.mom n))).tx = lenT (putT W.tx n (W.txt n ++ W.txt o)) := rfl
    omega
  · show ((W.chgW n (W.txt n ++ W.txt o) ((W.mom o).foldl lateL (W.mom n))).goneL none o).book = _
    obtain ⟨ts, h1, h2, h3⟩ := h.tm
    simp only [Book.dn]
    rw [h.sd hn, h.pt hn, h.pt hon]
    show _ = { W.book.withSide (W.sdOf n) (outP (chgP (W.book.side (W.sdOf n)) ⟨n, W.txt n ++ W.txt o, rise (sortE (W.mom n) ++ sortE (W.mom o))⟩) o) with k := fewerL W.book.k (W.sdOf n) o, z := outN W.book.z o }
    rw [rise_lates (h2 _ (h.mol hn).2).nd, hb]
    have es : (W.chgW n (W.txt n ++ W.txt o) ((W.mom o).foldl lateL (W.mom n))).sdOf o = W.sdOf n := hso
    rw [es, hcb, with_with, show (W.book.withSide (W.sdOf n) (chgP (W.book.side (W.sdOf n)) ⟨n, W.txt n ++ W.txt o, sortE ((W.mom o).foldl lateL (W.mom n))⟩)).side (W.sdOf n) = chgP (W.book.side (W.sdOf n)) ⟨n, W.txt n ++ W.txt o, sortE ((W.mom o).foldl lateL (W.mom n))⟩ by cases W.sdOf n <;> rfl]
    congr 1
    cases W.sdOf n <;> rfl
theorem part_side (W : RW) (n : Str) (k : Nat) (m : Str) : (W.partL n k m).side (W.sdOf n) = insN (W.side (W.sdOf n)) n m := by
  unfold RW.partL
  simp only
  generalize W.sdOf n = s
  split
  · split
    · cases s <;> rfl
    · cases s <;> rfl
  · split
    · cases s <;> rfl
    · cases s <;> rfl
theorem part_other (W : RW) (n : Str) (k : Nat) (m : Str) : (W.partL n k m).side (!W.sdOf n) = W.side (!W.sdOf n) := by
  unfold RW.partL
  simp only
  generalize W.sdOf n = s
  split
  · split
    · cases s <;> rfl
    · cases s <;> rfl
  · split
    · cases s <;> rfl
    · cases s <;> rfl
theorem part_tx (W : RW) (n : Str) (k : Nat) (m : Str) : (W.partL n k m).tx = putT (putT W.tx m (cutS (W.txt n) (some (k : Int)) none)) n (cutS (W.txt n) none (some (k : Int))) := by
  unfold RW.partL
  simp only
  split
  · split <;> rfl
  · split <;> rfl
theorem part_mo (W : RW) (n : Str) (k : Nat) (m : Str) : (W.partL n k m).mo = W.mo ++ [(m, W.mom n)] := by
  unfold RW.partL
  simp only
  split
  · split <;> rfl
  · split <;> rfl
theorem part_at {n : Str} {k : Nat} {m : Str} {j : Nat} {l : Link} (h : W.at? n = some j) (hj : W.ks[j]? = some l) : (W.partL n k m).al = W.al ∧ (W.partL n k m).ks = W.ks.set j (l.withSide (W.sdOf n) (l.side (W.sdOf n) ++ [m])) := by
  unfold RW.partL
  simp only
  rw [h]
  simp only
  rw [hj]
  refine ⟨?_, rfl⟩
  cases W.sdOf n <;> rfl
theorem part_no {n : Str} {k : Nat} {m : Str} (h : W.at? n = none) : (W.partL n k m).al = (if n ∈ W.al then W.al ++ [m] else W.al) ∧ (W.partL n k m).ks = W.ks := by
  unfold RW.partL
  simp only
  rw [h]
  simp only
  split
  · refine ⟨rfl, ?_⟩
    cases W.sdOf n <;> rfl
  · cases W.sdOf n <;> exact ⟨rfl, rfl⟩
theorem with_ab {l : Link} {s : Bool} {m : Str} : ((l.withSide s (l.side s ++ [m])).a ++ (l.withSide s (l.side s ++ [m])).b).Perm (m :: (l.a ++ l.b)) := by
  cases s with
  | false =>
    show (l.a ++ [m] ++ l.b).Perm _
    rw [List.append_assoc]
    exact List.perm_middle
  | true =>
    show (l.a ++ (l.b ++ [m])).Perm _
    rw [← List.append_assoc]
    exact List.perm_append_comm
theorem lwith_side (l : Link) (s : Bool) (ns : List Str) : (l.withSide s ns).side s = ns := by cases s <;> rfl
theorem lwith_other (l : Link) (s : Bool) (ns : List Str) : (l.withSide s ns).side (!s) = l.side (!s) := by cases s <;> rfl
theorem lwith_lost (l : Link) (s : Bool) (ns : List Str) (b : Bool) : (l.withSide s ns).lost b = l.lost b := by cases s <;> cases b <;> rfl
theorem srt_with (l : Link) (s : Bool) (m : Str) : srtL (l.withSide s (l.side s ++ [m])) = (srtL l).withSide s (addN ((srtL l).side s) m) := by
  rw [srt_side, addN_sort]
  cases s <;> rfl
theorem bool_or (s b : Bool) : b = s ∨ b = !s := by cases s <;> cases b <;> simp
theorem fits_part (h : LInv i W) (hi : i < 42) {t : Int} {n m : Str} {k : Nat} (hd : Drawn W (.part t n k m)) : Fits i W (.part t n k m) := by
  obtain ⟨hn, h1, h2, hmp, hmk⟩ := hd
  have hmn := h.toLCore.fresh hmk
  have hnm : n ≠ m := fun e => by subst e; exact hmn hn
  have hm2 : m ∉ W.mo.map Prod.fst := by rw [h.keys]; exact hmk
  have hne : ∀ o ∈ W.names, o ≠ m := fun o ho e => by subst e; exact hmn ho
  have hmt : m ∉ W.al ++ tied W.ks := fun e => by
    rcases List.mem_append.mp e with e | e
    · exact hmn (h.as m e)
    · exact hmn (tied_names h.toLCore e)
  have e1 := part_side W n k m
  have e2 := part_other W n k m
  have e3 := part_tx W n k m
  have e4 := part_mo W n k m
  have ek : (W.al = (W.partL n k m).al ∧ n ∉ W.al ∧ W.at? n = none ∧ (W.partL n k m).ks = W.ks) ∨ ((W.partL n k m).al = W.al ++ [m] ∧ n ∈ W.al ∧ W.at? n = none ∧ (W.partL n k m).ks = W.ks) ∨ ∃ j l, W.at? n = some j ∧ W.ks[j]? = some l ∧ n ∈ l.a ++ l.b ∧ n ∉ W.al ∧ (W.partL n k m).al = W.al ∧ (W.partL n k m).ks = W.ks.set j (l.withSide (W.sdOf n) (l.side (W.sdOf n) ++ [m])) := by
    cases e : W.at? n with
    | none =>
      obtain ⟨a, b⟩ := part_no (k := k) (m := m) e
      by_cases c : n ∈ W.al
      · rw [if_pos c] at a
        exact .inr (.inl ⟨a, c, rfl, b⟩)
      · rw [if_neg c] at a
        exact .inl ⟨a.symm, c, rfl, b⟩
    | some j =>
      obtain ⟨l, hj, hnl⟩ := at_of e
      obtain ⟨a, b⟩ := part_at (k := k) (m := m) e hj
      exact .inr (.inr ⟨j, l, rfl, hj, hnl, fun c => h.ak c (at_tied e), a, b⟩)
  have hlk : ∀ l' ∈ (W.partL n k m).ks, l' ∈ W.ks ∨ ∃ l ∈ W.ks, l' = l.withSide (W.sdOf n) (l.side (W.sdOf n) ++ [m]) := fun l' hl' => by
    rcases ek with ⟨_, _, _, b⟩ | ⟨_, _, _, b⟩ | ⟨j, l, _, hj, _, _, _, b⟩
    · exact .inl (b ▸ hl')
    · exact .inl (b ▸ hl')
    · rw [b] at hl'
      rcases mem_set_ne hl' with rfl | ⟨k, _, e⟩
      · exact .inr ⟨l, List.mem_of_getElem? hj, rfl⟩
      · exact .inl (List.mem_of_getElem? e)
  have hW : W.doesL (.part t n k m) = W.partL n k m := rfl
  unfold Fits
  rw [hW]
  generalize W.partL n k m = W' at e1 e2 e3 e4 ek hlk
  have po : ∀ o ∈ W.names, o ≠ n → W'.part o = W.part o := fun o ho e => part_eq (by rw [e3, put_ne e, put_ne (hne o ho)]) (by rw [e4, lookup_app_ne (hne o ho)])
  have pm : W'.part m = ⟨m, cutS (W.txt n) (some (k : Int)) none, sortE (W.mom n)⟩ := part_is (by rw [e3, put_ne fun e => hnm e.symm, put_eq]) (by rw [e4, lookup_app_eq hm2])
  have pn : W'.part n = ⟨n, cutS (W.txt n) none (some (k : Int)), sortE (W.mom n)⟩ := part_is (by rw [e3, put_eq]) (by rw [e4, lookup_app_ne hnm, (h.mol hn).1])
  have hnk : n ∈ (putT W.tx m (cutS (W.txt n) (some (k : Int)) none)).map Prod.fst := by
    rw [putT_new hmk, List.map_append]
    exact List.mem_append_left _ (h.sub n hn)
  refine ⟨⟨bk_has.mpr hn, bk_hasnt hmn, h1, ?_, (pool_ok n (h.pool n hn)).2⟩, ⟨core_add (s := W.sdOf n) (n := m) (ms := W.mom n) h.toLCore rfl (by omega) hmk hmp e2 (e1 ▸ insN_perm _ _ _) ?_ e4 ?_ (fun o ho => ?_) (fun l' hl' b o ho => ?_) (fun l' hl' b => ?_) (fun ts h1 h2 h3 => ?_), ?_⟩, ?_⟩
  · rw [h.pt hn]
    exact h2
  · unfold RW.keys
    rw [e3, put_keys hnk, putT_new hmk, List.map_append]
    rfl
  · rcases ek with ⟨a, _, _, b⟩ | ⟨a, _, _, b⟩ | ⟨j, l, _, hj, _, _, a, b⟩
    · rw [b, ← a]; exact h.fm
    · rw [a, b, List.append_assoc]
      exact (List.perm_middle (a := m)).nodup_iff.mpr (List.nodup_cons.mpr ⟨hmt, h.fm⟩)
    · rw [a, b]
      have := ((tied_set_perm (m := m) hj (with_ab (s := W.sdOf n))).append_left W.al).trans List.perm_middle
      exact this.nodup_iff.mpr (List.nodup_cons.mpr ⟨hmt, h.fm⟩)
  · rcases ek with ⟨a, _, _, b⟩ | ⟨a, _, _, b⟩ | ⟨j, l, _, hj, _, _, a, b⟩
    · exact .inl (h.as o (a.symm ▸ ho))
    · rw [a] at ho
      rcases List.mem_append.mp ho with ho | ho
      · exact .inl (h.as o ho)
      · exact .inr (List.mem_singleton.mp ho)
    · exact .inl (h.as o (a ▸ ho))
  · rcases hlk l' hl' with hl | ⟨l, hl, rfl⟩
    · exact .inl (h.ls l' hl b o ho)
    · rcases bool_or (W.sdOf n) b with rfl | rfl
      · rw [lwith_side] at ho
        rcases List.mem_append.mp ho with ho | ho
        · exact .inl (h.ls l hl _ o ho)
        · exact .inr ⟨rfl, List.mem_singleton.mp ho⟩
      · rw [lwith_other] at ho
        exact .inl (h.ls l hl _ o ho)
  · rcases hlk l' hl' with hl | ⟨l, hl, rfl⟩
    · exact h.ne l' hl b
    · rcases bool_or (W.sdOf n) b with rfl | rfl
      · rw [lwith_side]
        simp
      · rw [lwith_other]
        exact h.ne l hl _
  · refine ⟨ts, by omega, fun _ hk => hk, h2 _ (h.mol hn).2, fun l' hl' s => ?_⟩
    rcases hlk l' hl' with hl | ⟨l, hl, rfl⟩
    · exact h3 l' hl s
    · rw [lwith_lost]
      exact h3 l hl s
  · rw [e3]
    have a1 := lenT_new (x := cutS (W.txt n) (some (k : Int)) none) hmk
    have a2 := lenT_put (l := putT W.tx m (cutS (W.txt n) (some (k : Int)) none)) (n := n) (x := cutS (W.txt n) none (some (k : Int))) (y := W.txt n) (by rw [putT_new hmk]; exact nd_new h.kn hmk) (by rw [put_ne hnm]; exact h.txl hn)
    rw [from_len] at a1
    rw [to_len] at a2
    have := h.sum
    omega
  · have hside : insP (chgP (W.book.side (W.sdOf n)) ⟨n, cutS (W.txt n) none (some (k : Int)), sortE (W.mom n)⟩) ⟨m, cutS (W.txt n) (some (k : Int)) none, sortE (W.mom n)⟩ n = (W'.side (W.sdOf n)).map W'.part := by
      rw [bk_side, chgP_map W.part W'.part (fun _ => rfl) (n := n) rfl pn (fun o ho e => po o (side_names ho) e), ← pm, insP_map W'.part (fun _ => rfl) (h.nd _) (.inr (names_sd h.dj hn)), e1]
    simp only [Book.dn]
    rw [h.sd hn, h.pt hn]
    show _ = { W.book.withSide (W.sdOf n) (insP (chgP (W.book.side (W.sdOf n)) ⟨n, cutS (W.txt n) none (some (k : Int)), sortE (W.mom n)⟩) ⟨m, cutS (W.txt n) (some (k : Int)) none, sortE (W.mom n)⟩ n) with k := moreL W.book.k (W.sdOf n) n m, z := if n ∈ W.book.z then addN W.book.z m else W.book.z }
    rw [hside]
    refine book_side e2 (fun o ho => po o (side_names ho) (not_other h.toLCore hn ho)) rfl ?_ ?_
    · unfold moreL
      rcases ek with ⟨a, _, e, b⟩ | ⟨a, _, e, b⟩ | ⟨j, l, e, hj, hnl, _, a, b⟩
      · rw [find_none e, b]; rfl
      · rw [find_none e, b]; rfl
      · rw [h.find hj hnl, b]
        simp only
        rw [show W.book.k = sortE (W.ks.map srtL) from rfl, exch_set h.srt_nd (get_srt hj), map_set', srt_with]
    · rcases ek with ⟨a, c, e, b⟩ | ⟨a, c, e, b⟩ | ⟨j, l, e, hj, hnl, c, a, b⟩
      · rw [if_neg fun g => c (z_iff.mp g), ← a]; rfl
      · rw [if_pos (z_iff.mpr c), a, show W.book.z = sortE W.al from rfl, addN_sort]
      · rw [if_neg fun g => c (z_iff.mp g), a]; rfl
end
end Tw
namespace Tw
open PySem PySem.Spec PyProof.Rows L2
abbrev isBeg (x : Str) (i : Nat) : Bool := wAt x i && (decide (i = 0) || !wAt x (i - 1))
abbrev begOf (x : Str) (i : Nat) : List (Nat × Nat) := ((List.range i).filter (isBeg x)).map fun p => (p, wEnd x p)
structure SpI (x : Str) (i : Nat) (st : List (Nat × Nat) × Option Nat) : Prop where
  all : st.1 ++ (st.2.map fun b => (b, wEnd x b)).toList = begOf x i
  fin : ∀ b, st.2 = some b → wEnd x b = wEnd x i
  op : st.2.isSome = (decide (0 < i) && wAt x (i - 1))
theorem begOf_succ (x : Str) (i : Nat) : begOf x (i + 1) = begOf x i ++ if isBeg x i = true then [(i, wEnd x i)] else [] := by
  unfold begOf
  rw [List.range_succ, List.filter_append, List.map_append]
  congr 1
  by_cases h : isBeg x i = true
  · rw [if_pos h, List.filter_cons_of_pos h]; rfl
  · rw [if_neg h, List.filter_cons_of_neg h]; rfl
theorem sp_step {x : Str} {i c : Nat} {st : List (Nat × Nat) × Option Nat} (h : SpI x i st) (hi : i < x.length) (hc : isW c = wAt x i) : SpI x (i + 1) (spStep st i c) := by
  obtain ⟨a, b, d⟩ := h
  obtain ⟨l, o⟩ := st
  have hsub : i + 1 - 1 = i := rfl
  have h0 : decide (0 < i + 1) = true := decide_eq_true (by omega)
  unfold spStep
  rw [hc]
  have hb : isBeg x i = (wAt x i && !o.isSome) := by
    simp only at d
    rw [d]
    by_cases e : i = 0
    · subst e; simp [isBeg]
    · unfold isBeg
      rw [decide_eq_false e, decide_eq_true (show 0 < i by omega)]
      simp
  cases o with
  | none =>
    simp only [Option.map_none, Option.toList_none, List.append_nil] at a
    cases hw : wAt x i with
    | true =>
      simp only
      refine ⟨?_, fun b e => ?_, by rw [hsub, hw, h0]; rfl⟩
      · rw [begOf_succ, hb, hw, if_pos (show (true && !(none : Option Nat).isSome) = true from rfl), ← a]; rfl
      · cases e
        exact wEnd_step hi hw
    | false =>
      simp only
      refine ⟨?_, fun b e => (by cases e), by rw [hsub, hw, h0]; rfl⟩
      rw [begOf_succ, hb, hw, if_neg (by simp), a]
      simp
  | some p =>
    simp only [Option.map_some, Option.toList_some] at a
    have hp := b p rfl
    cases hw : wAt x i with
    | true =>
      simp only
      refine ⟨?_, fun b e => ?_, by rw [hsub, hw, h0]; rfl⟩
      · rw [begOf_succ, hb, hw, if_neg (by simp), List.append_nil, ← a]; rfl
      · cases e
        rw [hp]
        exact wEnd_step hi hw
    | false =>
      simp only
      refine ⟨?_, fun b e => (by cases e), by rw [hsub, hw, h0]; rfl⟩
      rw [begOf_succ, hb, hw, if_neg (by simp), List.append_nil, ← a, hp, wEnd_stop (.inr hw)]
      simp
theorem sp_zero (x : Str) : SpI x 0 ([], none) := ⟨rfl, (fun b e => by cases e), rfl⟩
theorem app_getD {x : Str} {i : Nat} (h : i < x.length) : (x ++ " ").cps.getD i 0 = x.cps.getD i 0 := by
  show (x.cps ++ (" " : Str).cps).getD i 0 = _
  rw [Array.getD_eq_getD_getElem?, Array.getD_eq_getD_getElem?, Array.getElem?_append_left h]
theorem app_getD_end (x : Str) : (x ++ " ").cps.getD x.length 0 = 32 := by
  show (x.cps ++ (" " : Str).cps).getD x.length 0 = _
  rw [Array.getD_eq_getD_getElem?]
  show ((x.cps ++ (" " : Str).cps)[x.cps.size]?).getD 0 = 32
  rw [Array.getElem?_append_right (Nat.le_refl _)]
  rw [Nat.sub_self]
  rfl
theorem sp_at (x : Str) : ∀ i, i ≤ x.length → SpI x i (spAt (x ++ " ") i)
  | 0, _ => sp_zero x
  | i + 1, h => by
    have ih := sp_at x i (by omega)
    have := sp_step ih (c := (x ++ " ").cps.getD i 0) (by omega) (by rw [app_getD (by omega)]; rfl)
    exact this
theorem spans_eq (x : Str) : spans x = (begs x).map fun p => (p, wEnd x p) := by
  have h := sp_at x x.length (Nat.le_refl _)
  unfold spans
  show (spStep (spAt (x ++ " ") x.length) x.length ((x ++ " ").cps.getD x.length 0)).1 = begOf x x.length
  rw [app_getD_end]
  generalize spAt (x ++ " ") x.length = st at h
  obtain ⟨a, b, d⟩ := h
  obtain ⟨l, o⟩ := st
  unfold spStep
  rw [show isW 32 = false by decide]
  cases o with
  | none =>
    simp only [Option.map_none, Option.toList_none, List.append_nil] at a
    exact a
  | some p =>
    simp only [Option.map_some, Option.toList_some] at a
    have hp := b p rfl
    rw [wEnd_stop (.inl (Nat.le_refl _))] at hp
    rw [hp] at a
    exact a
theorem word_len : ∀ o ∈ (["new", "7", "One"] : List Str), o.length ≤ 3 := by decide +kernel
section
variable {i : Nat} {W W' : RW}
theorem fits_word (h : LInv i W) (hi : i < 42) {t : Int} {n o : Str} {k : Nat} (hd : Drawn W (.word t n k o)) : Extra W (.word t n k o) ∧ Fits i W (.word t n k o) := by
  obtain ⟨hn, hs, ho⟩ := hd
  have ho3 := word_len o ho
  obtain ⟨p, hp⟩ : ∃ p, (begs (W.txt n))[k]? = some p := by
    unfold wordedL at hs
    cases e : (begs (W.txt n))[k]? with
    | none => rw [e] at hs; cases hs
    | some p => exact ⟨p, rfl⟩
  have hsp : (spans (W.txt n))[k]? = some (p, wEnd (W.txt n) p) := by rw [spans_eq, List.getElem?_map, hp]; rfl
  have hw : wordedL (W.txt n) k o = some (cutS (W.txt n) none (some (p : Int)) ++ o ++ cutS (W.txt n) (some (wEnd (W.txt n) p : Int)) none) := by
    unfold wordedL
    rw [hp]
  have hle : p ≤ wEnd (W.txt n) p := Nat.le_add_right _ _
  have hlen : (cutS (W.txt n) none (some (p : Int)) ++ o ++ cutS (W.txt n) (some (wEnd (W.txt n) p : Int)) none).length ≤ (W.txt n).length + 63 := by
    rw [str_len_app, str_len_app, to_len, from_len]
    omega
  have hc := fits_chg (t := t) h hi hn hlen
  have hW : W.doesL (.word t n k o) = W.chgL t n (cutS (W.txt n) none (some (p : Int)) ++ o ++ cutS (W.txt n) (some (wEnd (W.txt n) p : Int)) none) := by
    show (match wordedL (W.txt n) k o with | some x => W.chgL t n x | none => W) = _
    rw [hw]
  unfold Fits
  rw [hW]
  refine ⟨by show (wordedL (W.txt n) k o).isSome = true; rw [hw]; rfl, ⟨bk_has.mpr hn, h.few t, ?_, by omega⟩, hc.1, ?_⟩
  · rw [h.pt hn]
    exact (List.getElem?_eq_some_iff.mp hsp).1
  · rw [hc.2]
    simp only [Book.dn]
    rw [h.pt hn]
    show _ = match (spans (W.txt n))[k]? with
      | some (p, q) => W.book.txt t n (cutS (W.txt n) none (some (p : Int)) ++ o ++ cutS (W.txt n) (some (q : Int)) none)
      | none => W.book
    rw [hsp]
theorem fits_all (h : LInv i W) (hi : i < 42) (d : Deed) (hd : Drawn W d) : Extra W d ∧ Fits i W d := by
  cases d with
  | put => exact ⟨trivial, fits_put h hi hd⟩
  | take => exact ⟨trivial, fits_take h hi hd⟩
  | part => exact ⟨trivial, fits_part h hi hd⟩
  | join => exact ⟨trivial, fits_join h hi hd⟩
  | move => exact ⟨trivial, fits_move h hi hd⟩
  | change => exact ⟨trivial, fits_change h hi hd⟩
  | word => exact fits_word h hi hd
  | link => exact ⟨trivial, fits_link h hi hd⟩
  | loose => exact ⟨trivial, fits_loose h hi hd⟩
  | step => exact ⟨trivial, fits_step h hi hd⟩
  | alone => exact ⟨trivial, fits_alone h hi hd⟩
  | lack => exact ⟨trivial, fits_lack h hi hd⟩
end
theorem math_ok : MathOk LInv where
  zero := linv_zero
  ok := fun _ _ h => h.inv
  small := fun _ _ h => h.small
  closed := fun _ _ h => h.toLCore.closed
  rows := fun _ _ h => h.rows
  step := fun i W d h hi hd => by
    obtain ⟨e, a, b, c⟩ := fits_all h hi d hd
    exact ⟨e, a, b, c⟩
end Tw
namespace Tw
open PySem PySem.Spec PyProof.Rows L2 TwHd
section
variable {w : World} {K : PySem.W.Frag} {h : Heap} {mg : Str → Option Value}
theorem fnd (X : K.In h) (G : h.Ns mainGlobals mg) (c : SaysY w K) {x : Str} {p : Nat} (i : Nat) (h1 : fn[i]? = some (dd x p)) (h2 : fa[i]? = some (.glo x)) : Fnd K mg x p := by
  obtain ⟨fd, F⟩ := c.t.d.def_ i h1
  exact ⟨He.ga K x, fd, F, He.glo_ok X G (c.t.d.fact i h2)⟩
theorem fz_of_sq {H : Hp} {a : Addr} {xs : List V} (ho : Only H) (h : SqL K H a xs) : FzL K H a xs := by
  rcases h with (h | h) | h
  · rcases ho a with e | ⟨o, ys, e⟩
    · rw [h] at e; cases e
    · rw [h] at e; cases e
  · exact .inl h
  · exact .inr h
theorem rel_ref {a : Addr} {u : Value} (h : RelV (.ref a) u) : ∃ _ : Unit, u = .ref a := ⟨(), h⟩
theorem wld (X : K.In h) (G : h.Ns mainGlobals mg) (c : SaysY w K) : Wld K mg w where
  f_names_in := fnd X G c 0 rfl rfl
  f_has_part := fnd X G c 1 rfl rfl
  f_side_of := fnd X G c 2 rfl rfl
  f_part_named := fnd X G c 3 rfl rfl
  f_moments_of := fnd X G c 4 rfl rfl
  f_link_of := fnd X G c 5 rfl rfl
  f_stale_since := fnd X G c 6 rfl rfl
  f_state_of := fnd X G c 7 rfl rfl
  f_states := fnd X G c 8 rfl rfl
  f_lacking := fnd X G c 9 rfl rfl
  f_stale := fnd X G c 10 rfl rfl
  f_in_step := fnd X G c 11 rfl rfl
  f_parts_with := fnd X G c 12 rfl rfl
  f_parts_without := fnd X G c 13 rfl rfl
  f_parts_changed := fnd X G c 14 rfl rfl
  f_rising_with := fnd X G c 15 rfl rfl
  f_word_spans := fnd X G c 16 rfl rfl
  f_names_with := fnd X G c 17 rfl rfl
  f_names_without := fnd X G c 18 rfl rfl
  f_side_changed := fnd X G c 19 rfl rfl
  f_links_exchanged := fnd X G c 20 rfl rfl
  f_links_more := fnd X G c 21 rfl rfl
  f_links_fewer := fnd X G c 22 rfl rfl
  f_links_lost := fnd X G c 23 rfl rfl
  f_with_side := fnd X G c 24 rfl rfl
  f_look_behind := fnd X G c 25 rfl rfl
  f_is_alone := fnd X G c 26 rfl rfl
  f_put_done := fnd X G c 27 rfl rfl
  f_take_done := fnd X G c 28 rfl rfl
  f_part_done := fnd X G c 29 rfl rfl
  f_join_done := fnd X G c 30 rfl rfl
  f_move_done := fnd X G c 31 rfl rfl
  f_text_changed := fnd X G c 32 rfl rfl
  f_change_done := fnd X G c 33 rfl rfl
  f_word_done := fnd X G c 34 rfl rfl
  f_link_done := fnd X G c 35 rfl rfl
  f_own_link := fnd X G c 36 rfl rfl
  f_loose_done := fnd X G c 37 rfl rfl
  f_step_done := fnd X G c 38 rfl rfl
  f_alone_done := fnd X G c 39 rfl rfl
  f_lack_done := fnd X G c 40 rfl rfl
  f_done := fnd X G c 41 rfl rfl
  f_law_mixed := fnd X G c 42 rfl rfl
  f_law_numbers := fnd X G c 43 rfl rfl
  f_law_next := fnd X G c 44 rfl rfl
  f_law_pool := fnd X G c 45 rfl rfl
  f_law_moment := fnd X G c 46 rfl rfl
  f_law_text := fnd X G c 47 rfl rfl
  f_law_same := fnd X G c 48 rfl rfl
  f_law_standing := fnd X G c 49 rfl rfl
  f_law_standings := fnd X G c 50 rfl rfl
  f_law_lacking := fnd X G c 51 rfl rfl
  f_law_stale := fnd X G c 52 rfl rfl
  f_law_world := fnd X G c 53 rfl rfl
  f_law_book_of := fnd X G c 54 rfl rfl
  f_law_side := fnd X G c 55 rfl rfl
  f_law_link_at := fnd X G c 56 rfl rfl
  f_law_behind := fnd X G c 57 rfl rfl
  f_law_late := fnd X G c 58 rfl rfl
  f_law_gone := fnd X G c 59 rfl rfl
  f_law_worded := fnd X G c 60 rfl rfl
  f_law_does_parts := fnd X G c 61 rfl rfl
  f_law_does := fnd X G c 62 rfl rfl
  f_law_one_of := fnd X G c 63 rfl rfl
  f_law_fresh := fnd X G c 64 rfl rfl
  f_law_lone := fnd X G c 65 rfl rfl
  f_law_alike := fnd X G c 66 rfl rfl
  f_law_put := fnd X G c 67 rfl rfl
  f_law_link_deed := fnd X G c 68 rfl rfl
  f_law_named_deed := fnd X G c 69 rfl rfl
  f_law_deed := fnd X G c 70 rfl rfl
  f_law_some_deeds := fnd X G c 71 rfl rfl
  f_law_right := fnd X G c 72 rfl rfl
  b_len := He.free_ok X G (c.t.d.fact 75 (f := .free "len") rfl)
  b_list := He.free_ok X G (c.t.d.fact 76 (f := .free "list") rfl)
  b_tuple := He.free_ok X G (c.t.d.fact 77 (f := .free "tuple") rfl)
  b_sorted := He.free_ok X G (c.t.d.fact 78 (f := .free "sorted") rfl)
  b_set := He.free_ok X G (c.t.d.fact 79 (f := .free "set") rfl)
  b_min := He.free_ok X G (c.t.d.fact 80 (f := .free "min") rfl)
  b_enumerate := He.free_ok X G (c.t.d.fact 81 (f := .free "enumerate") rfl)
  b_range := He.free_ok X G (c.t.d.fact 82 (f := .free "range") rfl)
  b_zip := He.free_ok X G (c.t.d.fact 83 (f := .free "zip") rfl)
  b_isinstance := He.free_ok X G (c.t.d.fact 84 (f := .free "isinstance") rfl)
  b_int := He.free_ok X G (c.t.d.fact 85 (f := .free "int") rfl)
  b_str := He.free_ok X G (c.t.d.fact 86 (f := .free "str") rfl)
  b_bool := He.free_ok X G (c.t.d.fact 87 (f := .free "bool") rfl)
  b_all := He.free_ok X G (c.t.d.fact 88 (f := .free "all") rfl)
  b_any := He.free_ok X G (c.t.d.fact 89 (f := .free "any") rfl)
  b_sum := He.free_ok X G (c.t.d.fact 90 (f := .free "sum") rfl)
  tab := by
    obtain ⟨es, n, KD⟩ := c.t.tab 0 rfl
    refine ⟨He.ga K "DEEDS", es, n, He.glo_ok X G (c.t.d.fact 74 (f := .glo "DEEDS") rfl), KD, fun q hq => ?_⟩
    have gl : mg q.2 = some (.ref (He.ga K q.2)) := by
      simp only [List.mem_cons, List.not_mem_nil, or_false] at hq
      rcases hq with rfl | rfl | rfl | rfl | rfl | rfl | rfl | rfl | rfl | rfl | rfl | rfl
      · exact He.glo_ok X G (c.t.d.fact 27 (f := .glo "put_done") rfl)
      · exact He.glo_ok X G (c.t.d.fact 28 (f := .glo "take_done") rfl)
      · exact He.glo_ok X G (c.t.d.fact 29 (f := .glo "part_done") rfl)
      · exact He.glo_ok X G (c.t.d.fact 30 (f := .glo "join_done") rfl)
      · exact He.glo_ok X G (c.t.d.fact 31 (f := .glo "move_done") rfl)
      · exact He.glo_ok X G (c.t.d.fact 33 (f := .glo "change_done") rfl)
      · exact He.glo_ok X G (c.t.d.fact 34 (f := .glo "word_done") rfl)
      · exact He.glo_ok X G (c.t.d.fact 35 (f := .glo "link_done") rfl)
      · exact He.glo_ok X G (c.t.d.fact 37 (f := .glo "loose_done") rfl)
      · exact He.glo_ok X G (c.t.d.fact 38 (f := .glo "step_done") rfl)
      · exact He.glo_ok X G (c.t.d.fact 39 (f := .glo "alone_done") rfl)
      · exact He.glo_ok X G (c.t.d.fact 40 (f := .glo "lack_done") rfl)
    obtain ⟨u, hu, hr⟩ := He.valsB_ok c.v (q := (q.1, .glo q.2)) (by
      show (q.1, He.Dv.glo q.2) ∈ ([("put", "put_done"), ("take", "take_done"), ("part", "part_done"), ("join", "join_done"), ("move", "move_done"), ("change", "change_done"), ("word", "word_done"), ("link", "link_done"), ("loose", "loose_done"), ("step", "step_done"), ("alone", "alone_done"), ("lack", "lack_done")] : List (Str × Str)).map fun q => (q.1, He.Dv.glo q.2)
      exact List.mem_map.mpr ⟨q, hq, rfl⟩)
    obtain ⟨t, rfl⟩ := rel_ref hr
    exact ⟨_, gl, hu⟩
end
end Tw
open PySem PySem.W PySem.Calls PyProof.Rows
theorem PySem.Challenge.cw_twainkeep_k32_whole_states_by_deeds_holds : PySem.Challenge.rw_twainkeep_k32_whole_states_by_deeds.Holds := by
  w_on; o_law
  refine HandSHeadRun.head_any (r := OpenLaw.row PySem.Challenge.rw_twainkeep_k32_whole_states_by_deeds) (q := view (OpenLaw.row PySem.Challenge.rw_twainkeep_k32_whole_states_by_deeds).prog [87]) (H := TwHd.hk) (ob := TwHd.ob) (M := 20000) (loose := TwHd.names) (d := HandSHeadRun.topDef (OpenLaw.row PySem.Challenge.rw_twainkeep_k32_whole_states_by_deeds).prog 87) (kwd := []) TwHd.ob_eq
    (by kernel_rfl) (fun s => by kernel_rfl) TwHd.run (by kernel_rfl) (by kernel_rfl) (by kernel_rfl) (by rfl) (by first | assumption | decide +kernel) (by decide +kernel) ⟨rfl, rfl, rfl, rfl, rfl, by decide +kernel⟩ ?hw ?hc
  case hw => w_witness2
  case hc =>
    refine L2.walk_ofE (l := PySem.Challenge.rw_twainkeep_k32_whole_states_by_deeds) (n := 63) (k := 10) (x := "_law_script") (CX := L2.CX0) rfl (by decide) (by kernel_rfl) ⟨rfl, by decide, by decide⟩ ?F (fun _ _ _ _ z => z)
    intro w mg fa h Y G hmg0
    obtain ⟨K, KX, c⟩ := Y
    have hmg : mg ("law" : PySem.Str) = some (.ref fa) := by
      have e : (HandSHeadRun.topDef (OpenLaw.row PySem.Challenge.rw_twainkeep_k32_whole_states_by_deeds).prog 87).name = ("law" : PySem.Str) := by kernel_rfl
      rw [← e]
      exact hmg0
    obtain ⟨fd, F⟩ := c.t.d.def_ 73 (d := TwHd.dd "law" 87) rfl
    have e := hmg.symm.trans (He.glo_ok KX G (c.t.d.fact 73 (f := .glo "law") rfl))
    cases e
    have W := Tw.wld KX G c
    have b := L2.FunD.bindsA (ps := ["_law_script"]) F fun _ _ _ _ _ _ us hl => match us, hl with | [_], _ => rfl
    exact ⟨K, fd, Tw.Sp_law K, KX, fun s v => b s [v] rfl, fun H a ns hl ho hS => ⟨a, ns, rfl, Tw.fz_of_sq ho hS, hl, fun _ => rfl⟩, fun base _ _ => Tw.law_ok Tw.math_ok W F⟩
