import PyProof.Rows.All
import Wide.All
import OpenK.AllK
import Wide.FinOn
import KE.KStateDown
import HandS.ForMost
import HandS.HeadEnd
import HandS.HeadHook4
import HandS.HeadWalk
import HandS.NestedK
import HandS.Head2
import PySem.Challenge.RW_wheelmarks_k94_whole_split_and_joined_at
import HandS.Flow
import HandS.TupAny
import HandS.NoneIn
import HandS.IsInst
import HandS.Star
import HandS.Lambda
import HandS.Defaults
import HandS.Deep
import KE.KSortKey
import KE.SortCalls
import KE.GoesEnum
import PyProof.SumAny
import PyProof.DictUpdate
import KE.KDictPairs
import KE.KItemsList
import HandS.ListItems
import HandS.Conv
import HandS.Zip
import HandS.DictComp
import HandS.TupSets
import HandS.Strs
import KE.SortData
import HandS.Small
set_option Elab.async false
set_option linter.all false
set_option maxRecDepth 100000
set_option maxHeartbeats 0
namespace Wd
open PySem
def top (i : Nat) : Stmt := PySem.Challenge.pw_wheelmarks_k94_whole_split_and_joined_at.main.body.getD i (.Pass ⟨0, 0, 0, 0⟩)
end Wd
namespace Wm
open PySem PySem.Spec PyProof.Rows L2
open Wd (top)
def dD (x : Str) (i : Nat) : He.DefD := ⟨(x, none), x, x, defArgs (top i), defBody (top i), defScope (top i), [], []⟩
def fn0 : List He.DefD := [dD "is_number" 7, dD "tupled" 8, dD "set_of" 9, dD "is_tuple_of" 10, dD "divisor" 11, dD "multiple" 12, dD "inverse" 13, dD "class_of" 14, dD "in_class" 15, dD "turned_class" 16, dD "class_behind" 17, dD "class_of_both" 18, dD "wheel_names" 21, dD "check_wheels" 22, dD "check_ends" 23, dD "begin_table" 24, dD "saying_off" 25, dD "unkept" 26, dD "is_begins" 27, dD "is_setting" 28, dD "spots_of" 32, dD "narrowed" 33, dD "first_table" 34, dD "kept_table" 35, dD "can_be_kept" 36, dD "steps_of" 37, dD "rows_between" 38, dD "all_rings" 39, dD "class_table" 41, dD "sure_late" 42]
def fn1 : List He.DefD := [dD "sure_lates" 43, dD "lots_by" 44, dD "hang_together" 45, dD "unlike_rows" 48, dD "check_names" 49, dD "both_together" 50, dD "joined" 51, dD "check_both" 52, dD "agreed" 53, dD "sure_across" 54, dD "pairs_of" 55, dD "letter" 56, dD "lots_without" 57, dD "split_at" 58, dD "cut_off" 59, dD "bridged" 60, dD "is_bridge" 61, dD "left_class" 63, dD "laid_by" 64, dD "least_setting" 65, dD "hinders_by" 66, dD "hinders" 67, dD "setting_with" 68, dD "_law_box" 70, dD "_law_take" 71, dD "_law_cells" 72, dD "_law_of" 73, dD "_law_pick" 74, dD "_law_lists" 75, dD "_law_same" 76]
def fn2 : List He.DefD := [dD "_law_hall" 77, dD "_law_gcd" 78, dD "_law_kit" 79, dD "_law_lcm" 80, dD "_law_parts" 81, dD "_law_sures_right" 82, dD "_law_laid_right" 83, dD "_law_wheel_right" 84, dD "_law_rings_right" 85, dD "_law_case_right" 86, dD "_law_by_hand_right" 87, dD "_law_right" 88, dD "law" 89]
def fn : List He.DefD := fn0 ++ fn1 ++ fn2
def fa0 : List He.Fa := [.glo "is_number", .glo "tupled", .glo "set_of", .glo "is_tuple_of", .glo "divisor", .glo "multiple", .glo "inverse", .glo "class_of", .glo "in_class", .glo "turned_class", .glo "class_behind", .glo "class_of_both", .glo "wheel_names", .glo "check_wheels", .glo "check_ends", .glo "begin_table", .glo "saying_off", .glo "unkept", .glo "is_begins", .glo "is_setting", .glo "spots_of", .glo "narrowed", .glo "first_table", .glo "kept_table", .glo "can_be_kept", .glo "steps_of", .glo "rows_between", .glo "all_rings", .glo "class_table", .glo "sure_late"]
def fa1 : List He.Fa := [.glo "sure_lates", .glo "lots_by", .glo "hang_together", .glo "unlike_rows", .glo "check_names", .glo "both_together", .glo "joined", .glo "check_both", .glo "agreed", .glo "sure_across", .glo "pairs_of", .glo "letter", .glo "lots_without", .glo "split_at", .glo "cut_off", .glo "bridged", .glo "is_bridge", .glo "left_class", .glo "laid_by", .glo "least_setting", .glo "hinders_by", .glo "hinders", .glo "setting_with", .glo "_law_box", .glo "_law_take", .glo "_law_cells", .glo "_law_of", .glo "_law_pick", .glo "_law_lists", .glo "_law_same"]
def fa2 : List He.Fa := [.glo "_law_hall", .glo "_law_gcd", .glo "_law_kit", .glo "_law_lcm", .glo "_law_parts", .glo "_law_sures_right", .glo "_law_laid_right", .glo "_law_wheel_right", .glo "_law_rings_right", .glo "_law_case_right", .glo "_law_by_hand_right", .glo "_law_right", .glo "law", .str "CRANK" "", .int "PAIR" (2), .int "AHEAD" (1), .int "BACK" (-1), .int "UNSURE" (1), .free "abs", .free "all", .free "bool", .free "dict", .free "enumerate", .free "int", .free "isinstance", .free "len", .free "list", .free "min", .free "range", .free "set"]
def fa3 : List He.Fa := [.free "sorted", .free "str", .free "sum", .free "tuple", .free "zip"]
def fa : List He.Fa := fa0 ++ fa1 ++ fa2 ++ fa3
def loose0 : List Str := ["is_number", "tupled", "set_of", "is_tuple_of", "divisor", "multiple", "inverse", "class_of", "in_class", "turned_class", "class_behind", "class_of_both", "wheel_names", "check_wheels", "check_ends", "begin_table", "saying_off", "unkept", "is_begins", "is_setting", "spots_of", "narrowed", "first_table", "kept_table", "can_be_kept", "steps_of", "rows_between", "all_rings", "class_table", "sure_late"]
def loose1 : List Str := ["sure_lates", "lots_by", "hang_together", "unlike_rows", "check_names", "both_together", "joined", "check_both", "agreed", "sure_across", "pairs_of", "letter", "lots_without", "split_at", "cut_off", "bridged", "is_bridge", "left_class", "laid_by", "least_setting", "hinders_by", "hinders", "setting_with", "_law_box", "_law_take", "_law_cells", "_law_of", "_law_pick", "_law_lists", "_law_same"]
def loose2 : List Str := ["_law_hall", "_law_gcd", "_law_kit", "_law_lcm", "_law_parts", "_law_sures_right", "_law_laid_right", "_law_wheel_right", "_law_rings_right", "_law_case_right", "_law_by_hand_right", "_law_right", "NoWheel", "Twice", "NoSetting", "Unfit", "CRANK", "PAIR", "AHEAD", "BACK", "UNSURE"]
def loose : List Str := loose0 ++ loose1 ++ loose2
abbrev R : PySem.W.OpenRow := PySem.W.OpenLaw.row PySem.Challenge.rw_wheelmarks_k94_whole_split_and_joined_at
def tf : List He.Defn := [("class_of_both", none)]
abbrev hk : PySem.W.Hook := He.hookX 4 fa fn [] tf fun _ => true
def ob (s : PySem.W.SharedT) : He.AlX := He.obsX 4 fa fn [] tf (fun _ => true) (HandSHeadRun.getT s)
theorem ob_eq (s : PySem.W.SharedT) : ob s = hk.obs s.abs := He.obsX_eq (HandSHeadRun.getT_eq s)
theorem run (w : World) : HandSHeadRun.RunEq R (PySem.W.view R.prog [89]) hk ob 20000 loose w := by
  intro os
  kernel_rfl
end Wm

set_option Elab.async false
set_option linter.all false
set_option maxRecDepth 100000
set_option maxHeartbeats 1000000
/-! Z0: the end, from what is known of the law's promise. -/
section
open PySem PySem.W PySem.Calls PyProof.Rows
theorem Wm.end_of (F : ∀ (w : World) (mg : PySem.Str → Option Value) (fa : Addr) (h : Heap) (K : PySem.W.Frag), K.In h → h.Ns mainGlobals mg → He.SaysX Wm.fa Wm.fn [] Wm.tf (fun _ => true) w h K → mg ("law" : PySem.Str) = some (.ref fa) →
    LamX.LawAtS PySem.Challenge.rw_wheelmarks_k94_whole_split_and_joined_at w K L2.CX0 14 63 "_law_script" mg fa h) : PySem.Challenge.rw_wheelmarks_k94_whole_split_and_joined_at.Holds := by
  w_on; o_law
  refine HandSHeadRun.head_any (r := OpenLaw.row PySem.Challenge.rw_wheelmarks_k94_whole_split_and_joined_at) (q := view (OpenLaw.row PySem.Challenge.rw_wheelmarks_k94_whole_split_and_joined_at).prog [89]) (H := Wm.hk) (ob := Wm.ob) (M := 20000) (loose := Wm.loose) (d := HandSHeadRun.topDef (OpenLaw.row PySem.Challenge.rw_wheelmarks_k94_whole_split_and_joined_at).prog 89) (kwd := []) Wm.ob_eq
    (by kernel_rfl) (fun s => by kernel_rfl) Wm.run (by kernel_rfl) (by kernel_rfl) (by kernel_rfl) (by rfl) (by first | assumption | decide +kernel) (by decide +kernel) ⟨rfl, rfl, rfl, rfl, rfl, by decide +kernel⟩ ?hw ?hc
  case hw => w_witness2
  case hc =>
    refine LamX.walk_ofTsE (l := PySem.Challenge.rw_wheelmarks_k94_whole_split_and_joined_at) (n := 63) (k := 14) (x := "_law_script") (CX := fun _ => L2.CX0) rfl (by decide) (by kernel_rfl) ⟨rfl, by decide, by decide⟩ ?F (fun _ _ _ _ _ z => z)
    intro w mg fa h Y G hmg0
    obtain ⟨K, KX, c⟩ := Y
    have hmg : mg ("law" : PySem.Str) = some (.ref fa) := by
      have e : (HandSHeadRun.topDef (OpenLaw.row PySem.Challenge.rw_wheelmarks_k94_whole_split_and_joined_at).prog 89).name = ("law" : PySem.Str) := by kernel_rfl
      rw [← e]
      exact hmg0
    exact ⟨K, KX, F w mg fa h K KX G c hmg⟩
end

set_option maxHeartbeats 200000
set_option Elab.async false
set_option linter.all false
set_option maxRecDepth 100000
/-! D1: a layer of data over the hand layer: what stands in a def's names as plain data, without heaps. -/
namespace Wd
open PySem L2

/-! ### data -/
inductive Dt where
  | non | bl (b : Bool) | int (i : Int) | str (x : Str)
  | lst (xs : List Dt) | tup (xs : List Dt) | pt (xs : List Dt)
  | dk (ks : List (Str × Dt)) | dt (ks : List ((Str × Str) × Dt))
  | fl (ns : List Int) | ad (a : Addr)

/-- a tuple (pt: one known to be without a dict) -/
def Dt.isT : Dt → Bool
  | .tup _ => true
  | .pt _ => true
  | _ => false
mutual
/-- a value stands for a datum in an abstract heap -/
inductive Rp (K : PySem.W.Frag) (H : Hp) : V → Dt → Prop
  | non : Rp K H .non .non
  | bl (b : Bool) : Rp K H (.bl b) (.bl b)
  | int (i : Int) : Rp K H (.int i) (.int i)
  | str (x : Str) : Rp K H (.str x) (.str x)
  | lst {a : Addr} {xs : List V} {ds : List Dt} : H a = some (.lst xs) → Ra K H xs ds → Rp K H (.ref a) (.lst ds)
  | tup {a : Addr} {xs : List V} {ds : List Dt} : H a = some (.tup xs) → Ra K H xs ds → Rp K H (.ref a) (.tup ds)
  | ftup {a : Addr} {o : Obj} {xs : List V} {ds : List Dt} : H a = some (.frz o (.tup xs)) → (∀ d ∈ ds, d.isT = true) → Ra K H xs ds → Rp K H (.ref a) (.tup ds)
  | pt {a : Addr} {o : Obj} {xs : List V} {ds : List Dt} : H a = some (.frz o (.tup xs)) → o.dict = none → (∀ d ∈ ds, d.isT = true) → Ra K H xs ds → Rp K H (.ref a) (.pt ds)
  | dk {a : Addr} {xs : List (Key × V)} {ks : List (Str × Dt)} : H a = some (.dK xs) → Rk K H xs ks → Rp K H (.ref a) (.dk ks)
  | dt {a : Addr} {xs : List (List Key × V)} {ks : List ((Str × Str) × Dt)} : H a = some (.dT xs) → Rt K H xs ks → Rp K H (.ref a) (.dt ks)
  | fl {a : Addr} {ns : List Int} : SqL K H a (ns.map V.int) → Rp K H (.ref a) (.fl ns)
  | ad (a : Addr) : Rp K H (.ref a) (.ad a)
inductive Ra (K : PySem.W.Frag) (H : Hp) : List V → List Dt → Prop
  | nil : Ra K H [] []
  | cons {v : V} {vs : List V} {d : Dt} {ds : List Dt} : Rp K H v d → Ra K H vs ds → Ra K H (v :: vs) (d :: ds)
inductive Rk (K : PySem.W.Frag) (H : Hp) : List (Key × V) → List (Str × Dt) → Prop
  | nil : Rk K H [] []
  | cons {x : Str} {v : V} {r : List (Key × V)} {d : Dt} {ks : List (Str × Dt)} : Rp K H v d → Rk K H r ks → Rk K H ((Sum.inr x, v) :: r) ((x, d) :: ks)
inductive Rt (K : PySem.W.Frag) (H : Hp) : List (List Key × V) → List ((Str × Str) × Dt) → Prop
  | nil : Rt K H [] []
  | cons {x y : Str} {v : V} {r : List (List Key × V)} {d : Dt} {ks : List ((Str × Str) × Dt)} : Rp K H v d → Rt K H r ks → Rt K H (([Sum.inr x, Sum.inr y], v) :: r) (((x, y), d) :: ks)
end
section
variable {K : PySem.W.Frag} {H H' : Hp}
mutual
theorem Rp.mono (e : Same H H') : ∀ {v : V} {d : Dt}, Rp K H v d → Rp K H' v d
  | _, _, .non => .non
  | _, _, .bl b => .bl b
  | _, _, .int i => .int i
  | _, _, .str x => .str x
  | _, _, .lst h r => .lst (e _ _ h) (r.mono e)
  | _, _, .tup h r => .tup (e _ _ h) (r.mono e)
  | _, _, .ftup h c r => .ftup (e _ _ h) c (r.mono e)
  | _, _, .pt h n c r => .pt (e _ _ h) n c (r.mono e)
  | _, _, .dk h r => .dk (e _ _ h) (r.mono e)
  | _, _, .dt h r => .dt (e _ _ h) (r.mono e)
  | _, _, .fl h => .fl (e.seq h)
  | _, _, .ad a => .ad a
theorem Ra.mono (e : Same H H') : ∀ {vs : List V} {ds : List Dt}, Ra K H vs ds → Ra K H' vs ds
  | _, _, .nil => .nil
  | _, _, .cons h r => .cons (h.mono e) (r.mono e)
theorem Rk.mono (e : Same H H') : ∀ {vs : List (Key × V)} {ds : List (Str × Dt)}, Rk K H vs ds → Rk K H' vs ds
  | _, _, .nil => .nil
  | _, _, .cons h r => .cons (h.mono e) (r.mono e)
theorem Rt.mono (e : Same H H') : ∀ {vs : List (List Key × V)} {ds : List ((Str × Str) × Dt)}, Rt K H vs ds → Rt K H' vs ds
  | _, _, .nil => .nil
  | _, _, .cons h r => .cons (h.mono e) (r.mono e)
end
theorem Ra.length : ∀ {vs : List V} {ds : List Dt}, Ra K H vs ds → vs.length = ds.length
  | _, _, .nil => rfl
  | _, _, .cons _ r => by rw [List.length_cons, List.length_cons, r.length]
theorem Ra.get : ∀ {vs : List V} {ds : List Dt} {i : Nat} {d : Dt}, Ra K H vs ds → ds[i]? = some d → ∃ v, vs[i]? = some v ∧ Rp K H v d
  | _, _, _, _, .nil, e => by simp at e
  | _, _, 0, _, .cons h _, e => by simp at e; subst e; exact ⟨_, rfl, h⟩
  | _, _, i + 1, d, .cons _ r, e => by
    obtain ⟨v, h1, h2⟩ := r.get (i := i) (d := d) (by simpa using e)
    exact ⟨v, by simpa using h1, h2⟩
theorem Ra.get' : ∀ {vs : List V} {ds : List Dt} {i : Nat} {v : V}, Ra K H vs ds → vs[i]? = some v → ∃ d, ds[i]? = some d ∧ Rp K H v d
  | _, _, _, _, .nil, e => by simp at e
  | _, _, 0, _, .cons h _, e => by simp at e; subst e; exact ⟨_, rfl, h⟩
  | _, _, i + 1, d, .cons _ r, e => by
    obtain ⟨v, h1, h2⟩ := r.get' (i := i) (v := d) (by simpa using e)
    exact ⟨v, by simpa using h1, h2⟩
theorem Ra.append : ∀ {vs ws : List V} {ds es : List Dt}, Ra K H vs ds → Ra K H ws es → Ra K H (vs ++ ws) (ds ++ es)
  | _, _, _, _, .nil, s => s
  | _, _, _, _, .cons h r, s => .cons h (r.append s)
theorem Ra.take : ∀ {vs : List V} {ds : List Dt} (n : Nat), Ra K H vs ds → Ra K H (vs.take n) (ds.take n)
  | _, _, 0, _ => .nil
  | _, _, _ + 1, .nil => .nil
  | _, _, n + 1, .cons h r => .cons h (r.take n)
theorem Ra.drop : ∀ {vs : List V} {ds : List Dt} (n : Nat), Ra K H vs ds → Ra K H (vs.drop n) (ds.drop n)
  | _, _, 0, r => r
  | _, _, _ + 1, .nil => .nil
  | _, _, n + 1, .cons _ r => r.drop n
theorem Ra.set : ∀ {vs : List V} {ds : List Dt} {v : V} {d : Dt} (n : Nat), Rp K H v d → Ra K H vs ds → Ra K H (vs.set n v) (ds.set n d)
  | _, _, _, _, _, _, .nil => .nil
  | _, _, _, _, 0, q, .cons _ r => .cons q r
  | _, _, _, _, n + 1, q, .cons h r => .cons h (r.set n q)
theorem Ra.eraseIdx : ∀ {vs : List V} {ds : List Dt} (n : Nat), Ra K H vs ds → Ra K H (vs.eraseIdx n) (ds.eraseIdx n)
  | _, _, _, .nil => .nil
  | _, _, 0, .cons _ r => r
  | _, _, n + 1, .cons h r => .cons h (r.eraseIdx n)
theorem Ra.reverse {vs : List V} {ds : List Dt} (r : Ra K H vs ds) : Ra K H vs.reverse ds.reverse := by
  induction r using Ra.rec (motive_1 := fun _ _ _ => True) (motive_3 := fun _ _ _ => True) (motive_4 := fun _ _ _ => True) with
  | nil => exact .nil
  | cons h _ _ ih =>
    rw [List.reverse_cons, List.reverse_cons]
    exact ih.append (.cons h .nil)
  | _ => trivial
theorem Ra.snoc {vs : List V} {ds : List Dt} {v : V} {d : Dt} (r : Ra K H vs ds) (h : Rp K H v d) : Ra K H (vs ++ [v]) (ds ++ [d]) := r.append (.cons h .nil)
theorem Ra.ints : ∀ (ns : List Int), Ra K H (ns.map V.int) (ns.map Dt.int)
  | [] => .nil
  | n :: ns => .cons (.int n) (Ra.ints ns)
theorem Ra.strs : ∀ (ns : List Str), Ra K H (ns.map V.str) (ns.map Dt.str)
  | [] => .nil
  | n :: ns => .cons (.str n) (Ra.strs ns)
theorem Rp.int_inv {v : V} {i : Int} (h : Rp K H v (.int i)) : v = .int i := by cases h; rfl
theorem Rp.str_inv {v : V} {x : Str} (h : Rp K H v (.str x)) : v = .str x := by cases h; rfl
theorem Rp.bl_inv {v : V} {b : Bool} (h : Rp K H v (.bl b)) : v = .bl b := by cases h; rfl
theorem Rp.non_inv {v : V} (h : Rp K H v .non) : v = .non := by cases h; rfl
theorem Rp.lst_inv {v : V} {ds : List Dt} (h : Rp K H v (.lst ds)) : ∃ a xs, v = .ref a ∧ H a = some (.lst xs) ∧ Ra K H xs ds := by cases h with | lst h r => exact ⟨_, _, rfl, h, r⟩
theorem Rp.tup_inv {v : V} {ds : List Dt} (h : Rp K H v (.tup ds)) : ∃ a xs, v = .ref a ∧ Rd H a (.tup xs) ∧ Ra K H xs ds := by
  cases h with
  | tup h r => exact ⟨_, _, rfl, .inl h, r⟩
  | ftup h c r => exact ⟨_, _, rfl, .inr ⟨_, h⟩, r⟩
theorem Rp.tup_exact {v : V} {ds : List Dt} (h : Rp K H v (.tup ds)) (n : ∃ d ∈ ds, d.isT = false) : ∃ a xs, v = .ref a ∧ H a = some (.tup xs) ∧ Ra K H xs ds := by
  cases h with
  | tup h r => exact ⟨_, _, rfl, h, r⟩
  | ftup h c r =>
    obtain ⟨d, m, e⟩ := n
    rw [c d m] at e; cases e
theorem Rp.pt_inv {v : V} {ds : List Dt} (h : Rp K H v (.pt ds)) : ∃ a xs o, v = .ref a ∧ H a = some (.frz o (.tup xs)) ∧ o.dict = none ∧ (∀ d ∈ ds, d.isT = true) ∧ Ra K H xs ds := by cases h with | pt h n c r => exact ⟨_, _, _, rfl, h, n, c, r⟩
theorem Rp.unpt {v : V} {ds : List Dt} (h : Rp K H v (.pt ds)) : Rp K H v (.tup ds) := by cases h with | pt h n c r => exact .ftup h c r
theorem Same.rd {a : Addr} {u : HO} (e : Same H H') (h : Rd H a u) : Rd H' a u := by
  rcases h with h | ⟨o, h⟩
  · exact .inl (e _ _ h)
  · exact .inr ⟨o, e _ _ h⟩
theorem Rp.dk_inv {v : V} {ks : List (Str × Dt)} (h : Rp K H v (.dk ks)) : ∃ a xs, v = .ref a ∧ H a = some (.dK xs) ∧ Rk K H xs ks := by cases h with | dk h r => exact ⟨_, _, rfl, h, r⟩
theorem Rp.dt_inv {v : V} {ks : List ((Str × Str) × Dt)} (h : Rp K H v (.dt ks)) : ∃ a xs, v = .ref a ∧ H a = some (.dT xs) ∧ Rt K H xs ks := by cases h with | dt h r => exact ⟨_, _, rfl, h, r⟩
theorem Rp.fl_inv {v : V} {ns : List Int} (h : Rp K H v (.fl ns)) : ∃ a, v = .ref a ∧ SqL K H a (ns.map V.int) := by cases h with | fl h => exact ⟨_, rfl, h⟩
theorem Rp.ad_inv {v : V} {a : Addr} (h : Rp K H v (.ad a)) : v = .ref a := by cases h; rfl
theorem Ra.strs_inv : ∀ {vs : List V} {xs : List Str}, Ra K H vs (xs.map Dt.str) → vs = xs.map V.str
  | _, [], .nil => rfl
  | _, x :: xs, .cons h r => by rw [h.str_inv, r.strs_inv]; rfl
theorem Ra.ints_inv : ∀ {vs : List V} {xs : List Int}, Ra K H vs (xs.map Dt.int) → vs = xs.map V.int
  | _, [], .nil => rfl
  | _, x :: xs, .cons h r => by rw [h.int_inv, r.ints_inv]; rfl
theorem Ra.bls_inv : ∀ {vs : List V} {xs : List Bool}, Ra K H vs (xs.map Dt.bl) → vs = xs.map V.bl
  | _, [], .nil => rfl
  | _, x :: xs, .cons h r => by rw [h.bl_inv, r.bls_inv]; rfl

/-- what an object of its own stands for -/
def Ob (K : PySem.W.Frag) (H : Hp) : HO → Dt → Prop
  | .lst xs, .lst ds => Ra K H xs ds
  | .dK xs, .dk ks => Rk K H xs ks
  | .dT xs, .dt ks => Rt K H xs ks
  | _, _ => False
theorem Ob.mono (e : Same H H') {u : HO} {d : Dt} (h : Ob K H u d) : Ob K H' u d := by
  cases u <;> cases d <;> first | exact Ra.mono e h | exact Rk.mono e h | exact Rt.mono e h | exact h
theorem Ob.lst_inv {u : HO} {ds : List Dt} (h : Ob K H u (.lst ds)) : ∃ xs, u = .lst xs ∧ Ra K H xs ds := by
  cases u <;> first | exact ⟨_, rfl, h⟩ | exact h.elim
theorem Ob.dk_inv {u : HO} {ks : List (Str × Dt)} (h : Ob K H u (.dk ks)) : ∃ xs, u = .dK xs ∧ Rk K H xs ks := by
  cases u <;> first | exact ⟨_, rfl, h⟩ | exact h.elim
theorem Ob.dt_inv {u : HO} {ks : List ((Str × Str) × Dt)} (h : Ob K H u (.dt ks)) : ∃ xs, u = .dT xs ∧ Rt K H xs ks := by
  cases u <;> first | exact ⟨_, rfl, h⟩ | exact h.elim
/-- .. and as a value -/
theorem Ob.rp {u : HO} {d : Dt} {a : Addr} (ha : H a = some u) (h : Ob K H u d) : Rp K H (.ref a) d := by
  cases u <;> cases d <;> first | exact .lst ha h | exact .dk ha h | exact .dt ha h | exact h.elim
theorem Same.upd {H : Hp} {p : Addr} {u : HO} (h : H p = none) : Same H (upd H p u) := fun b o e => by
  rw [upd_ne (ne_of_none e h)]
  exact e
end

/-! ### names -/
/-- what a name holds: nothing known; a datum; an object of the def's own at l, which may change -/
inductive Sl where
  | emp | dat (d : Dt) | own (l : Addr) (d : Dt)
/-- the one table of code objects that may grow (a def with a lambda has it), and the name that its code objects bear -/
class Tb where
  P : Addr
  q : Str
def Own (G : List Sl) (x : Addr) : Prop := ∃ (i : Nat) (d : Dt), G[i]? = some (.own x d)
def NT (u : HO) : Prop := ∀ ps, u ≠ .tbl ps
/-- what a def may hold as its own -/
def Mb : HO → Prop
  | .lst _ => True
  | .dK _ => True
  | .dT _ => True
  | _ => False
theorem Mb.nt {u : HO} (h : Mb u) : NT u := fun ps z => by subst z; exact h
/-- nothing at p but, it may be, a table -/
def Fr (H : Hp) (p : Addr) : Prop := ∀ u, H p = some u → ¬ NT u
theorem Fr.of {H : Hp} {p : Addr} (h : H p = none) : Fr H p := fun u e => by rw [h] at e; cases e
theorem Fr.ne {H : Hp} {p x : Addr} {u : HO} (h : Fr H p) (e : H x = some u) (n : NT u) : x ≠ p := fun z => by subst z; exact h u e n
def NoT (H : Hp) : Prop := ∀ x ps, H x ≠ some (.tbl ps)
theorem not_tbl {H : Hp} {x : Addr} {u : HO} (n : NoT H) (h : H x = some u) : NT u := fun ps z => by subst z; exact n x ps h
theorem Fr.sub {F H : Hp} {p : Addr} (n : NoT F) (s : Same F H) (h : Fr H p) : F p = none := by
  cases c : F p with
  | none => rfl
  | some w => exact (h w (s p w c) (not_tbl n c)).elim
theorem NoT.upd {H : Hp} {p : Addr} {u : HO} (h : NoT H) (hu : NT u) : NoT (upd H p u) := fun x ps e => by
  by_cases q : x = p
  · subst q; rw [upd_same] at e; exact hu ps (Option.some.inj e)
  · rw [upd_ne q] at e; exact h x ps e
structure Gr [B : Tb] (H H1 H' H2 : Hp) : Prop where
  b : Same H H'
  s : Same H' H2
  a : LamX.ExtN H1 H2
  o : ∀ x u, H1 x = some u → Mb u → H x = none → H' x = none
  t : LamX.TabS H1 B.P B.q → LamX.TabS H2 B.P B.q
  n : NoT H → NoT H'
section
variable [B : Tb]
theorem Gr.of {H H1 H' H2 : Hp} (b : Same H H') (s : Same H' H2) (a : Same H1 H2) (o : ∀ x u, H1 x = some u → H x = none → H' x = none) (n : NoT H → NoT H') : Gr H H1 H' H2 := ⟨b, s, fun x u h _ => a x u h, fun x u h _ => o x u h, fun t => t.ext a, n⟩
theorem Gr.refl {H H1 : Hp} (h : Same H H1) : Gr H H1 H H1 := .of (Same.refl H) h (Same.refl H1) (fun _ _ _ h => h) fun h => h
theorem Gr.trans {H H1 H' H2 H'' H3 : Hp} (g : Gr H H1 H' H2) (k : Gr H' H2 H'' H3) : Gr H H1 H'' H3 :=
  ⟨g.b.trans k.b, k.s, g.a.trans k.a, fun x u h1 n h2 => k.o x u (g.a x u h1 n.nt) n (g.o x u h1 n h2), fun t => k.t (g.t t), fun h => k.n (g.n h)⟩
/-- a new object, laid and known for good -/
theorem Gr.new {H H1 : Hp} {p : Addr} {u : HO} (h : Same H H1) (hp : H1 p = none) (hu : NT u := by intro _ z; cases z) : Gr H H1 (upd H p u) (upd H1 p u) :=
  .of (Same.upd (h.free hp)) (fun b o e => by
    by_cases q : b = p
    · subst q; rw [upd_same] at e ⊢; exact e
    · rw [upd_ne q] at e ⊢; exact h b o e) (Same.upd hp) (fun x v h1 h2 => by rw [upd_ne (ne_of_none h1 hp)]; exact h2) fun n => n.upd hu
end
structure En (K : PySem.W.Frag) [B : Tb] (H0 F H H1 : Hp) (σ : L2.St) (G : List Sl) : Prop where
  b : Same H0 H
  s : Same H H1
  f : Same F H1
  o : ∀ x u, F x = some u → Mb u → H0 x = none → H x = none
  len : σ.length = G.length
  dat : ∀ (i : Nat) (d : Dt), G[i]? = some (.dat d) → ∃ v, σ[i]? = some (some v) ∧ Rp K H v d
  own : ∀ (i : Nat) (l : Addr) (d : Dt), G[i]? = some (.own l d) → σ[i]? = some (some (.ref l)) ∧ F l = none ∧ H l = none ∧ ∃ u, H1 l = some u ∧ Ob K H u d
  nd : ∀ (i j : Nat) (l : Addr) (d e : Dt), G[i]? = some (.own l d) → G[j]? = some (.own l e) → i = j
  fp : NoT F
  p : NoT H
  tab : LamX.TabS H1 B.P B.q
structure Stp [B : Tb] (G G' : List Sl) (H H1 H' H2 : Hp) : Prop where
  b : Same H H'
  k : ∀ x u, H1 x = some u → ¬ Own G x → NT u → H2 x = some u
  o : ∀ x u, H1 x = some u → Mb u → H x = none → ¬ Own G x → H' x = none
  w : ∀ x, Own G' x → Own G x
  t : ∀ x u, H1 x = some u → NT u → ∃ v, H2 x = some v ∧ NT v ∧ (Mb u → Mb v)
section
variable {K : PySem.W.Frag} [B : Tb] {H0 F H H1 H' H2 H'' H3 : Hp} {σ : L2.St} {G G' G'' : List Sl}
theorem ob_mb {H : Hp} {u : HO} {d : Dt} (q : Ob K H u d) : Mb u := by
  cases u <;> cases d <;> first | trivial | exact q
theorem ob_ne {H : Hp} {u : HO} {d : Dt} (q : Ob K H u d) : NT u := fun ps z => by subst z; cases d <;> exact q
theorem tab_upd {H : Hp} {l : Addr} {u v : HO} {d : Dt} (h : H l = some v) (q : Ob K H2 v d) (t : LamX.TabS H B.P B.q) : LamX.TabS (upd H l u) B.P B.q := by
  obtain ⟨ps, h1, h2, h3⟩ := t
  have n1 : B.P ≠ l := fun z => by subst z; rw [h1] at h; cases h; cases d <;> exact q
  refine ⟨ps, by rw [upd_ne n1]; exact h1, h2, fun pos cv hc => ?_⟩
  obtain ⟨c, e1, e2⟩ := h3 pos cv hc
  refine ⟨c, e1, ?_⟩
  have n2 : c ≠ l := fun z => by subst z; rw [e2] at h; unfold LamX.CodeO at h; cases h; cases d <;> exact q
  rw [upd_ne n2]; exact e2
theorem Stp.refl : Stp G G H H1 H H1 := ⟨Same.refl H, fun _ _ h _ _ => h, fun _ _ _ _ h _ => h, fun _ h => h, fun _ u h n => ⟨u, h, n, id⟩⟩
theorem Stp.trans (a : Stp G G' H H1 H' H2) (c : Stp G' G'' H' H2 H'' H3) : Stp G G'' H H1 H'' H3 :=
  ⟨a.b.trans c.b, fun x u h n m => c.k x u (a.k x u h n m) (fun z => n (a.w x z)) m, fun x u h m h0 n => let ⟨v, hv, _, mv⟩ := a.t x u h m.nt; c.o x v hv (mv m) (a.o x u h m h0 n) fun z => n (a.w x z), fun x h => a.w x (c.w x h), fun x u h m => let ⟨v, hv, mv, f⟩ := a.t x u h m; let ⟨v', h', m', f'⟩ := c.t x v hv mv; ⟨v', h', m', fun z => f' (f z)⟩⟩
theorem Gr.stp (g : Gr H H1 H' H2) : Stp G G H H1 H' H2 := ⟨g.b, fun x u h _ m => g.a x u h m, fun x u h m h0 _ => g.o x u h m h0, fun _ h => h, fun x u h m => ⟨u, g.a x u h m, m, id⟩⟩
theorem En.gr (I : En K H0 F H H1 σ G) (g : Gr H H1 H' H2) : En K H0 F H' H2 σ G :=
  ⟨I.b.trans g.b, g.s, fun x u h => g.a x u (I.f x u h) (not_tbl I.fp h), fun x u h1 m h2 => g.o x u (I.f x u h1) m (I.o x u h1 m h2), I.len, fun i d h => let ⟨v, e, r⟩ := I.dat i d h; ⟨v, e, r.mono g.b⟩,
    fun i l d h => let ⟨e, f, n, u, hu, q⟩ := I.own i l d h; ⟨e, f, g.o l u hu (ob_mb q) n, u, g.a l u hu (ob_ne q), q.mono g.b⟩, I.nd, I.fp, g.n I.p, g.t I.tab⟩
theorem En.ownH (I : En K H0 F H H1 σ G) {x : Addr} (h : Own G x) : ∃ u, H1 x = some u ∧ NT u := by
  obtain ⟨i, d, e⟩ := h
  obtain ⟨_, _, _, u, hu, q⟩ := I.own i x d e
  exact ⟨u, hu, ob_ne q⟩
/-- a datum is stored in a name -/
theorem En.set (I : En K H0 F H H1 σ G) {v : V} {d : Dt} (i : Nat) (r : Rp K H v d) : En K H0 F H H1 (σ.set i (some v)) (G.set i (.dat d)) := by
  refine ⟨I.b, I.s, I.f, I.o, by rw [List.length_set, List.length_set]; exact I.len, fun j e h => ?_, fun j l e h => ?_, fun j k l e e' h h' => ?_, I.fp, I.p, I.tab⟩
  · by_cases q : i = j
    · subst q
      by_cases hi : i < G.length
      · rw [List.getElem?_set_self hi] at h
        injection h with h; injection h with h; subst h
        exact ⟨v, by rw [List.getElem?_set_self (by rw [I.len]; exact hi)], r⟩
      · rw [List.getElem?_eq_none (by rw [List.length_set]; omega)] at h; cases h
    · rw [List.getElem?_set_ne q] at h ⊢
      exact I.dat j e h
  · by_cases q : i = j
    · subst q
      by_cases hi : i < G.length
      · rw [List.getElem?_set_self hi] at h; injection h with h; cases h
      · rw [List.getElem?_eq_none (by rw [List.length_set]; omega)] at h; cases h
    · rw [List.getElem?_set_ne q] at h ⊢
      exact I.own j l e h
  · have aux : ∀ (j : Nat) (e : Dt), (G.set i (.dat d))[j]? = some (.own l e) → G[j]? = some (.own l e) := fun j e h => by
      by_cases q : i = j
      · subst q
        by_cases hi : i < G.length
        · rw [List.getElem?_set_self hi] at h; injection h with h; cases h
        · rw [List.getElem?_eq_none (by rw [List.length_set]; omega)] at h; cases h
      · rw [List.getElem?_set_ne q] at h; exact h
    exact I.nd j k l e e' (aux j e h) (aux k e' h')
theorem set_own {G : List Sl} {i j : Nat} {s : Sl} {l : Addr} {e : Dt} (h : (G.set i s)[j]? = some (.own l e)) : (j ≠ i ∧ G[j]? = some (.own l e)) ∨ (j = i ∧ s = .own l e) := by
  by_cases q : i = j
  · subst q
    by_cases hi : i < G.length
    · rw [List.getElem?_set_self hi] at h; exact .inr ⟨rfl, Option.some.inj h⟩
    · rw [List.getElem?_eq_none (by rw [List.length_set]; omega)] at h; cases h
  · rw [List.getElem?_set_ne q] at h; exact .inl ⟨fun z => q z.symm, h⟩
theorem set_dat {G : List Sl} {i j : Nat} {s : Sl} {e : Dt} (h : (G.set i s)[j]? = some (.dat e)) : (j ≠ i ∧ G[j]? = some (.dat e)) ∨ (j = i ∧ s = .dat e) := by
  by_cases q : i = j
  · subst q
    by_cases hi : i < G.length
    · rw [List.getElem?_set_self hi] at h; exact .inr ⟨rfl, Option.some.inj h⟩
    · rw [List.getElem?_eq_none (by rw [List.length_set]; omega)] at h; cases h
  · rw [List.getElem?_set_ne q] at h; exact .inl ⟨fun z => q z.symm, h⟩
theorem set_lt {α : Type} {G : List α} {i : Nat} {s t : α} (h : (G.set i s)[i]? = some t) : i < G.length := by
  have := (List.getElem?_eq_some_iff.mp h).1
  rw [List.length_set] at this
  exact this
/-- nothing is known of a name any more -/
theorem En.forget (I : En K H0 F H H1 σ G) (i : Nat) (x : Option V) : En K H0 F H H1 (σ.set i x) (G.set i .emp) := by
  refine ⟨I.b, I.s, I.f, I.o, by rw [List.length_set, List.length_set]; exact I.len, fun j e h => ?_, fun j l e h => ?_, fun j k l e e' h h' => ?_, I.fp, I.p, I.tab⟩
  · rcases set_dat h with ⟨n, h⟩ | ⟨_, h⟩
    · rw [List.getElem?_set_ne (Ne.symm n)]; exact I.dat j e h
    · cases h
  · rcases set_own h with ⟨n, h⟩ | ⟨_, h⟩
    · rw [List.getElem?_set_ne (Ne.symm n)]; exact I.own j l e h
    · cases h
  · rcases set_own h with ⟨_, h⟩ | ⟨_, h⟩
    · rcases set_own h' with ⟨_, h'⟩ | ⟨_, h'⟩
      · exact I.nd j k l e e' h h'
      · cases h'
    · cases h
theorem En.drop (I : En K H0 F H H1 σ G) (i : Nat) : En K H0 F H H1 σ (G.set i .emp) := by
  refine ⟨I.b, I.s, I.f, I.o, by rw [List.length_set]; exact I.len, fun j e h => ?_, fun j l e h => ?_, fun j k l e e' h h' => ?_, I.fp, I.p, I.tab⟩
  · rcases set_dat h with ⟨n, h⟩ | ⟨_, h⟩
    · exact I.dat j e h
    · cases h
  · rcases set_own h with ⟨n, h⟩ | ⟨_, h⟩
    · exact I.own j l e h
    · cases h
  · rcases set_own h with ⟨_, h⟩ | ⟨_, h⟩
    · rcases set_own h' with ⟨_, h'⟩ | ⟨_, h'⟩
      · exact I.nd j k l e e' h h'
      · cases h'
    · cases h
/-- a new object comes to a name -/
theorem En.setOwn (I : En K H0 F H H1 σ G) {p : Addr} {u : HO} {d : Dt} (i : Nat) (hF : F p = none) (hp : H p = none) (hu : H1 p = some u) (q : Ob K H u d) (hn : ¬ Own G p) : En K H0 F H H1 (σ.set i (some (.ref p))) (G.set i (.own p d)) := by
  refine ⟨I.b, I.s, I.f, I.o, by rw [List.length_set, List.length_set]; exact I.len, fun j e h => ?_, fun j l e h => ?_, fun j k l e e' h h' => ?_, I.fp, I.p, I.tab⟩
  · rcases set_dat h with ⟨n, h⟩ | ⟨_, h⟩
    · rw [List.getElem?_set_ne (Ne.symm n)]; exact I.dat j e h
    · cases h
  · rcases set_own h with ⟨n, h'⟩ | ⟨n, h'⟩
    · rw [List.getElem?_set_ne (Ne.symm n)]; exact I.own j l e h'
    · subst n
      have hi := set_lt h
      injection h' with h1 h2
      subst h1 h2
      exact ⟨by rw [List.getElem?_set_self (by rw [I.len]; exact hi)], hF, hp, u, hu, q⟩
  · rcases set_own h with ⟨_, h1⟩ | ⟨n1, h1⟩
    · rcases set_own h' with ⟨_, h2⟩ | ⟨_, h2⟩
      · exact I.nd j k l e e' h1 h2
      · injection h2 with h2 _; subst h2; exact absurd ⟨j, e, h1⟩ hn
    · rcases set_own h' with ⟨_, h2⟩ | ⟨n2, h2⟩
      · injection h1 with h1 _; subst h1; exact absurd ⟨k, e', h2⟩ hn
      · rw [n1, n2]
/-- an object of one's own is written -/
theorem En.write (I : En K H0 F H H1 σ G) {i : Nat} {l : Addr} {d d' : Dt} {u : HO} (h : G[i]? = some (.own l d)) (q : Ob K H u d') : En K H0 F H (upd H1 l u) σ (G.set i (.own l d')) ∧ Stp G (G.set i (.own l d')) H H1 H (upd H1 l u) := by
  obtain ⟨e1, e2, e3, u0, e4, e5⟩ := I.own i l d h
  refine ⟨⟨I.b, fun b o e => ?_, fun b o e => ?_, I.o, by rw [List.length_set]; exact I.len, fun j e h' => ?_, fun j m e h' => ?_, fun j k m e e' h1 h2 => ?_, I.fp, I.p, tab_upd e4 e5 I.tab⟩, ⟨Same.refl H, fun x v hx hn _ => ?_, fun x v _ _ h0 _ => h0, fun x hx => ?_, fun x v hx m => ?_⟩⟩
  · rw [upd_ne (ne_of_none e e3)]; exact I.s b o e
  · rw [upd_ne (ne_of_none e e2)]; exact I.f b o e
  · rcases set_dat h' with ⟨n, h'⟩ | ⟨_, h'⟩
    · exact I.dat j e h'
    · cases h'
  · rcases set_own h' with ⟨n, h2⟩ | ⟨n, h2⟩
    · obtain ⟨a1, a2, a3, v, a4, a5⟩ := I.own j m e h2
      have hne : m ≠ l := fun z => by subst z; exact n (I.nd j i m e d h2 h)
      exact ⟨a1, a2, a3, v, by rw [upd_ne hne]; exact a4, a5⟩
    · subst n
      injection h2 with h2 h3
      subst h2 h3
      exact ⟨e1, e2, e3, u, upd_same, q⟩
  · have aux : ∀ (j : Nat) (e : Dt), (G.set i (.own l d'))[j]? = some (.own m e) → ∃ e0, G[j]? = some (.own m e0) := fun j e z => by
      rcases set_own z with ⟨_, z⟩ | ⟨z1, z2⟩
      · exact ⟨e, z⟩
      · injection z2 with z2 _; subst z2; rw [z1]; exact ⟨d, h⟩
    obtain ⟨f1, g1⟩ := aux j e h1
    obtain ⟨f2, g2⟩ := aux k e' h2
    exact I.nd j k m f1 f2 g1 g2
  · rw [upd_ne (fun z => hn (by rw [z]; exact ⟨i, d, h⟩))]; exact hx
  · obtain ⟨j, e, hj⟩ := hx
    rcases set_own hj with ⟨_, z⟩ | ⟨z1, z2⟩
    · exact ⟨j, e, z⟩
    · injection z2 with z2 _; subst z2; exact ⟨i, d, h⟩
  · by_cases c : x = l
    · subst c; exact ⟨u, upd_same, ob_ne q, fun _ => ob_mb q⟩
    · exact ⟨v, by rw [upd_ne c]; exact hx, m, id⟩
/-- an object of one's own becomes a datum -/
theorem En.freeze (I : En K H0 F H H1 σ G) {i : Nat} {l : Addr} {d : Dt} (h : G[i]? = some (.own l d)) : ∃ H', En K H0 F H' H1 σ (G.set i (.dat d)) ∧ Stp G (G.set i (.dat d)) H H1 H' H1 ∧ Rp K H' (.ref l) d := by
  obtain ⟨e1, e2, e3, u, e4, e5⟩ := I.own i l d h
  have hs : Same H (upd H l u) := Same.upd e3
  have hr : Rp K (upd H l u) (.ref l) d := Ob.rp upd_same (e5.mono hs)
  refine ⟨upd H l u, ⟨I.b.trans hs, fun b o e => ?_, I.f, fun x v hx m h0 => ?_, by rw [List.length_set]; exact I.len, fun j e h' => ?_, fun j m e h' => ?_, fun j k m e e' h1 h2 => ?_, I.fp, I.p.upd (ob_ne e5), I.tab⟩, ⟨hs, fun x v hx _ _ => hx, fun x v hx _ h0 hn => ?_, fun x hx => ?_, fun x v hx m => ⟨v, hx, m, id⟩⟩, hr⟩
  · by_cases q : b = l
    · subst q; rw [upd_same] at e; rw [e4]; exact e
    · rw [upd_ne q] at e; exact I.s b o e
  · rw [upd_ne (ne_of_none hx e2)]; exact I.o x v hx m h0
  · rcases set_dat h' with ⟨n, h'⟩ | ⟨n, h'⟩
    · obtain ⟨v, a, r⟩ := I.dat j e h'
      exact ⟨v, a, r.mono hs⟩
    · injection h' with h'; subst h'; rw [n]; exact ⟨_, e1, hr⟩
  · rcases set_own h' with ⟨n, h2⟩ | ⟨_, h2⟩
    · obtain ⟨a1, a2, a3, v, a4, a5⟩ := I.own j m e h2
      have hne : m ≠ l := fun z => by subst z; exact n (I.nd j i m e d h2 h)
      exact ⟨a1, a2, by rw [upd_ne hne]; exact a3, v, a4, a5.mono hs⟩
    · cases h2
  · rcases set_own h1 with ⟨_, h1⟩ | ⟨_, h1⟩
    · rcases set_own h2 with ⟨_, h2⟩ | ⟨_, h2⟩
      · exact I.nd j k m e e' h1 h2
      · cases h2
    · cases h1
  · rw [upd_ne (fun z => hn (by rw [z]; exact ⟨i, d, h⟩))]; exact h0
  · obtain ⟨j, e, hj⟩ := hx
    rcases set_own hj with ⟨_, z⟩ | ⟨_, z2⟩
    · exact ⟨j, e, z⟩
    · cases z2
end
end Wd

set_option Elab.async false
set_option linter.all false
set_option maxRecDepth 100000
/-! D2: what an expression, a test, a statement does to data: rules from the left. -/
namespace Wd
open PySem L2
variable [B : Tb]
section
variable (K : PySem.W.Frag)
/-- an expression comes to a datum -/
def EX (te : TE) (G : List Sl) (P : Dt → List Sl → Prop) : Prop := ∀ (H0 F H H1 : Hp) (σ : L2.St) (Q : VK), En K H0 F H H1 σ G →
  (∀ v d G' H' H2, En K H0 F H' H2 σ G' → Stp G G' H H1 H' H2 → Rp K H' v d → P d G' → Q v H2) → te σ H1 Q
/-- .. to a new object -/
def EF (te : TE) (G : List Sl) (P : Dt → List Sl → Prop) : Prop := ∀ (H0 F H H1 : Hp) (σ : L2.St) (Q : VK), En K H0 F H H1 σ G →
  (∀ p d u G' H' H2, En K H0 F H' H2 σ G' → Stp G G' H H1 H' H2 → Fr H1 p → H' p = none → H2 p = some u → Ob K H' u d → P d G' → Q (.ref p) H2) → te σ H1 Q
/-- several, from the left -/
def EA (ta : TA) (G : List Sl) (P : List Dt → List Sl → Prop) : Prop := ∀ (H0 F H H1 : Hp) (σ : L2.St) (Q : List V → Hp → Prop), En K H0 F H H1 σ G →
  (∀ vs ds G' H' H2, En K H0 F H' H2 σ G' → Stp G G' H H1 H' H2 → Ra K H' vs ds → P ds G' → Q vs H2) → ta σ H1 Q
/-- a test -/
def TX (tt : TT) (G : List Sl) (P : Bool → List Sl → Prop) : Prop := ∀ (H0 F H H1 : Hp) (σ : L2.St) (Q : Bool → Hp → Prop), En K H0 F H H1 σ G →
  (∀ b G' H' H2, En K H0 F H' H2 σ G' → Stp G G' H H1 H' H2 → P b G' → Q b H2) → tt σ H1 Q
/-- a statement: R of what is handed back, N of what follows -/
def SX (t : TS) (G : List Sl) (R : Dt → List Sl → Prop) (N : List Sl → Prop) : Prop := ∀ (H0 F H H1 : Hp) (σ : L2.St) (D : Ends), En K H0 F H H1 σ G →
  (∀ v d σ' G' H' H2, En K H0 F H' H2 σ' G' → Rp K H' v d → R d G' → D.rt v H2) → (∀ σ' G' H' H2, En K H0 F H' H2 σ' G' → N G' → D.nx σ' H2) → t D σ H1
/-- a target -/
def GX (g : TG) (d : Dt) (G : List Sl) (P : List Sl → Prop) : Prop := ∀ (H0 F H H1 : Hp) (σ : L2.St) (v : V) (Q : L2.St → Hp → Prop), En K H0 F H H1 σ G → Rp K H v d →
  (∀ σ' G', En K H0 F H H1 σ' G' → (∀ x, Own G' x → Own G x) → P G' → Q σ' H1) → g v σ H1 Q
def GXs (g : TGs) (ds : List Dt) (G : List Sl) (P : List Sl → Prop) : Prop := ∀ (H0 F H H1 : Hp) (σ : L2.St) (vs : List V) (Q : L2.St → Hp → Prop), En K H0 F H H1 σ G → Ra K H vs ds →
  (∀ σ' G', En K H0 F H H1 σ' G' → (∀ x, Own G' x → Own G x) → P G' → Q σ' H1) → g vs σ H1 Q
/-- what is walked: the data ds, whatever else is new -/
def ItOk (J : It) (Hb : Hp) (ds : List Dt) : Prop := ∀ (i : Nat) (H H1 : Hp), Same Hb H → Same H H1 → (∀ d, ds[i]? = some d → J.go i H1 ∧ ∀ x H2, J.yld i H1 x H2 → ∃ H', Gr H H1 H' H2 ∧ Rp K H' x d) ∧ (i = ds.length → J.stop i H1)
def IX (wi : TI) (G : List Sl) (P : List Dt → List Sl → Prop) : Prop := ∀ (H0 F H H1 : Hp) (σ : L2.St) (R : It → Hp → Prop), En K H0 F H H1 σ G →
  (∀ J ds G' H' H2, En K H0 F H' H2 σ G' → Stp G G' H H1 H' H2 → ItOk K J H' ds → P ds G' → R J H2) → wi σ H1 R
/-- a two-place operation on data; a one-place one; a call of a built-in thing -/
def OD (r : R2) (x y : Dt) (P : Dt → Prop) : Prop := ∀ (H H1 : Hp) (a b : V) (Q : VK), Same H H1 → Rp K H a x → Rp K H b y → (∀ v d H' H2, Gr H H1 H' H2 → Rp K H' v d → P d → Q v H2) → r a b H1 Q
def UD (r : V → Hp → VK → Prop) (x : Dt) (P : Dt → Prop) : Prop := ∀ (H H1 : Hp) (a : V) (Q : VK), Same H H1 → Rp K H a x → (∀ v d H' H2, Gr H H1 H' H2 → Rp K H' v d → P d → Q v H2) → r a H1 Q
def CD (r : List V → Hp → VK → Prop) (xs : List Dt) (P : Dt → Prop) : Prop := ∀ (H H1 : Hp) (vs : List V) (Q : VK), Same H H1 → Ra K H vs xs → (∀ v d H' H2, Gr H H1 H' H2 → Rp K H' v d → P d → Q v H2) → r vs H1 Q
/-- .. to a new object -/
def OF (r : R2) (x y : Dt) (P : Dt → Prop) : Prop := ∀ (H H1 : Hp) (a b : V) (Q : VK), Same H H1 → Rp K H a x → Rp K H b y → (∀ p d u H' H2, Gr H H1 H' H2 → Fr H1 p → H' p = none → H2 p = some u → Ob K H' u d → P d → Q (.ref p) H2) → r a b H1 Q
def CF (r : List V → Hp → VK → Prop) (xs : List Dt) (P : Dt → Prop) : Prop := ∀ (H H1 : Hp) (vs : List V) (Q : VK), Same H H1 → Ra K H vs xs → (∀ p d u H' H2, Gr H H1 H' H2 → Fr H1 p → H' p = none → H2 p = some u → Ob K H' u d → P d → Q (.ref p) H2) → r vs H1 Q
end
section
variable {K : PySem.W.Frag} {G : List Sl} {P : Dt → List Sl → Prop} {te ta tb : TE}
theorem EX.imp {P' : Dt → List Sl → Prop} (h : EX K te G P) (f : ∀ d G', P d G' → P' d G') : EX K te G P' := fun H0 F H H1 σ Q I q => h H0 F H H1 σ Q I fun v d G' H' H2 I' s r p => q v d G' H' H2 I' s r (f d G' p)
theorem EF.imp {P' : Dt → List Sl → Prop} (h : EF K te G P) (f : ∀ d G', P d G' → P' d G') : EF K te G P' := fun H0 F H H1 σ Q I q => h H0 F H H1 σ Q I fun p d u G' H' H2 I' s a1 a2 a3 a4 z => q p d u G' H' H2 I' s a1 a2 a3 a4 (f d G' z)
theorem EA.imp {ta : TA} {P P' : List Dt → List Sl → Prop} (h : EA K ta G P) (f : ∀ d G', P d G' → P' d G') : EA K ta G P' := fun H0 F H H1 σ Q I q => h H0 F H H1 σ Q I fun v d G' H' H2 I' s r p => q v d G' H' H2 I' s r (f d G' p)
theorem TX.imp {tt : TT} {P P' : Bool → List Sl → Prop} (h : TX K tt G P) (f : ∀ d G', P d G' → P' d G') : TX K tt G P' := fun H0 F H H1 σ Q I q => h H0 F H H1 σ Q I fun v d G' H' I' s p => q v d G' H' I' s (f v d p)
theorem SX.imp {t : TS} {R R' : Dt → List Sl → Prop} {N N' : List Sl → Prop} (h : SX K t G R N) (f : ∀ d G', R d G' → R' d G') (g : ∀ G', N G' → N' G') : SX K t G R' N' :=
  fun H0 F H H1 σ D I q1 q2 => h H0 F H H1 σ D I (fun v d σ' G' H' H2 I' r p => q1 v d σ' G' H' H2 I' r (f d G' p)) fun σ' G' H' H2 I' p => q2 σ' G' H' H2 I' (g G' p)
/-- a new object is a datum, if nobody changes it -/
theorem ex_of (h : EF K te G P) : EX K te G P := by
  intro H0 F H H1 σ Q I q
  refine h H0 F H H1 σ Q I fun p d u G' H' H2 I' s a1 a2 a3 a4 z => ?_
  have hs : Same H' (upd H' p u) := Same.upd a2
  have np : ∀ x v, H1 x = some v → NT v → x ≠ p := fun x v e n => a1.ne e n
  refine q (.ref p) d G' (upd H' p u) H2 ⟨I'.b.trans hs, fun b o e => ?_, I'.f, fun x v hx m h0 => ?_, I'.len, fun i e h => ?_, fun i l e h => ?_, I'.nd, I'.fp, I'.p.upd (ob_ne a4), I'.tab⟩ ⟨s.b.trans hs, s.k, fun x v hx m h0 hn => ?_, s.w, s.t⟩ (Ob.rp upd_same (a4.mono hs)) z
  · by_cases c : b = p
    · subst c; rw [upd_same] at e; rw [a3]; exact e
    · rw [upd_ne c] at e; exact I'.s b o e
  · rw [upd_ne (np x v (I.f x v hx) (not_tbl I.fp hx))]; exact I'.o x v hx m h0
  · obtain ⟨v, e1, r⟩ := I'.dat i e h
    exact ⟨v, e1, r.mono hs⟩
  · obtain ⟨e1, e2, e3, v, e4, e5⟩ := I'.own i l e h
    obtain ⟨w', hw, nw⟩ := I.ownH (s.w l ⟨i, e, h⟩)
    exact ⟨e1, e2, by rw [upd_ne (np l w' hw nw)]; exact e3, v, e4, e5.mono hs⟩
  · rw [upd_ne (np x v hx m.nt)]; exact s.o x v hx m h0 hn

/-! ### expressions -/
theorem ex_var {i : Nat} {d : Dt} (h : G[i]? = some (.dat d)) (p : P d G) : EX K (tVar i) G P := fun H0 F H H1 σ Q I q => by
  obtain ⟨v, e, r⟩ := I.dat i d h
  exact ⟨v, e, q v d G H H1 I Stp.refl r p⟩
/-- a plain tuple is a tuple -/
theorem ex_pt (h : EX K te G fun d G1 => ∃ ds, d = .pt ds ∧ P (.tup ds) G1) : EX K te G P := fun H0 F H H1 σ Q I q => h H0 F H H1 σ Q I fun v d G' H' H2 I' s r ⟨ds, e, p⟩ => by
  subst e
  exact q v _ G' H' H2 I' s r.unpt p
theorem ex_varP {i : Nat} {ds : List Dt} (h : G[i]? = some (.dat (.pt ds))) (p : P (.tup ds) G) : EX K (tVar i) G P := ex_pt (ex_var h ⟨ds, rfl, p⟩)
/-- an object of one's own is handed on for good -/
theorem ex_own {i : Nat} {l : Addr} {d : Dt} (h : G[i]? = some (.own l d)) (p : P d (G.set i (.dat d))) : EX K (tVar i) G P := fun H0 F H H1 σ Q I q => by
  obtain ⟨H', I', s, r⟩ := I.freeze h
  exact ⟨.ref l, (I.own i l d h).1, q _ d _ H' H1 I' s r p⟩
theorem ex_int {i : Int} (p : P (.int i) G) : EX K (tC (.int i)) G P := fun H0 F H H1 σ Q I q => q _ _ G H H1 I Stp.refl (.int i) p
theorem ex_str {x : Str} (p : P (.str x) G) : EX K (tC (.str x)) G P := fun H0 F H H1 σ Q I q => q _ _ G H H1 I Stp.refl (.str x) p
theorem ex_bl {b : Bool} (p : P (.bl b) G) : EX K (tC (.bl b)) G P := fun H0 F H H1 σ Q I q => q _ _ G H H1 I Stp.refl (.bl b) p
theorem ex_non (p : P .non G) : EX K (tC .non) G P := fun H0 F H H1 σ Q I q => q _ _ G H H1 I Stp.refl .non p
theorem ex_op {r : R2} (h : EX K ta G fun x G1 => EX K tb G1 fun y G2 => OD K r x y fun d => P d G2) : EX K (tOp r ta tb) G P := fun H0 F H H1 σ Q I q =>
  h H0 F H H1 σ _ I fun v1 x G1 Ha Hb I1 s1 r1 h1 => h1 H0 F Ha Hb σ _ I1 fun v2 y G2 Hc Hd I2 s2 r2 h2 =>
    h2 Hc Hd v1 v2 Q I2.s (r1.mono s2.b) r2 fun v d H' H2 g r p => q v d G2 H' H2 (I2.gr g) (s1.trans (s2.trans g.stp)) r p
theorem stp_fresh {G G' : List Sl} {H H1 H' H2 : Hp} {p : Addr} (s : Stp G G' H H1 H' H2) (h : Fr H2 p) : Fr H1 p := fun w e n => by
  obtain ⟨v, hv, nv, _⟩ := s.t p w e n
  exact h v hv nv
theorem ef_op {r : R2} (h : EX K ta G fun x G1 => EX K tb G1 fun y G2 => OF K r x y fun d => P d G2) : EF K (tOp r ta tb) G P := fun H0 F H H1 σ Q I q =>
  h H0 F H H1 σ _ I fun v1 x G1 Ha Hb I1 s1 r1 h1 => h1 H0 F Ha Hb σ _ I1 fun v2 y G2 Hc Hd I2 s2 r2 h2 =>
    h2 Hc Hd v1 v2 Q I2.s (r1.mono s2.b) r2 fun p d u H' H2 g a1 a2 a3 a4 z => q p d u G2 H' H2 (I2.gr g) (s1.trans (s2.trans g.stp)) (stp_fresh (s1.trans s2) a1) a2 a3 a4 z
theorem ex_un {r : V → Hp → VK → Prop} (h : EX K ta G fun x G1 => UD K r x fun d => P d G1) : EX K (tUn r ta) G P := fun H0 F H H1 σ Q I q =>
  h H0 F H H1 σ _ I fun v1 x G1 Ha Hb I1 s1 r1 h1 => h1 Ha Hb v1 Q I1.s r1 fun v d H' H2 g r p => q v d G1 H' H2 (I1.gr g) (s1.trans g.stp) r p
theorem ex_if {t : TT} (h : TX K t G fun b G1 => (b = true → EX K ta G1 P) ∧ (b = false → EX K tb G1 P)) : EX K (tIf t ta tb) G P := fun H0 F H H1 σ Q I q =>
  h H0 F H H1 σ _ I fun b G1 Ha Hb I1 s1 ⟨h1, h2⟩ => by
    cases b with
    | true => exact h1 rfl H0 F Ha Hb σ Q I1 fun v d G' H' H2 I' s r p => q v d G' H' H2 I' (s1.trans s) r p
    | false => exact h2 rfl H0 F Ha Hb σ Q I1 fun v d G' H' H2 I' s r p => q v d G' H' H2 I' (s1.trans s) r p
theorem ex_andV (h : EX K ta G fun x G1 => ∃ b, x = .bl b ∧ (b = true → EX K tb G1 P) ∧ (b = false → P (.bl false) G1)) : EX K (tAndV ta tb) G P := fun H0 F H H1 σ Q I q =>
  h H0 F H H1 σ _ I fun v x G1 Ha Hb I1 s1 r1 ⟨b, e, h1, h2⟩ => by
    subst e
    refine ⟨b, r1.bl_inv, ?_⟩
    cases b with
    | true => exact h1 rfl H0 F Ha Hb σ Q I1 fun v d G' H' H2 I' s r p => q v d G' H' H2 I' (s1.trans s) r p
    | false => exact q _ _ G1 Ha Hb I1 s1 (.bl false) (h2 rfl)
theorem ex_orV (h : EX K ta G fun x G1 => ∃ b, x = .bl b ∧ (b = true → P (.bl true) G1) ∧ (b = false → EX K tb G1 P)) : EX K (tOrV ta tb) G P := fun H0 F H H1 σ Q I q =>
  h H0 F H H1 σ _ I fun v x G1 Ha Hb I1 s1 r1 ⟨b, e, h1, h2⟩ => by
    subst e
    refine ⟨b, r1.bl_inv, ?_⟩
    cases b with
    | false => exact h2 rfl H0 F Ha Hb σ Q I1 fun v d G' H' H2 I' s r p => q v d G' H' H2 I' (s1.trans s) r p
    | true => exact q _ _ G1 Ha Hb I1 s1 (.bl true) (h1 rfl)
theorem ex_notV (h : EX K ta G fun x G1 => ∃ b, x = .bl b ∧ P (.bl (!b)) G1) : EX K (tNotV ta) G P := fun H0 F H H1 σ Q I q =>
  h H0 F H H1 σ _ I fun v x G1 Ha Hb I1 s1 r1 ⟨b, e, h1⟩ => by
    subst e
    exact ⟨b, r1.bl_inv, q _ _ G1 Ha Hb I1 s1 (.bl _) h1⟩
/-- a test whose value is wanted, none handed on -/
def Dt.isN : Dt → Bool
  | .non => true
  | _ => false
theorem Rp.isN {H : Hp} {v : V} {d : Dt} (r : Rp K H v d) : decide (v = .non) = d.isN := by cases r <;> rfl
theorem ex_isN (h : EX K ta G fun x G1 => P (.bl x.isN) G1) : EX K (tIsN ta) G P := fun H0 F H H1 σ Q I q =>
  h H0 F H H1 σ _ I fun v x G1 Ha Hb I1 s1 r1 h1 => q _ _ G1 Ha Hb I1 s1 (by rw [r1.isN]; exact .bl _) h1
theorem ex_notN (h : EX K ta G fun x G1 => P (.bl (!x.isN)) G1) : EX K (tNotN ta) G P := fun H0 F H H1 σ Q I q =>
  h H0 F H H1 σ _ I fun v x G1 Ha Hb I1 s1 r1 h1 => q _ _ G1 Ha Hb I1 s1 (by rw [r1.isN]; exact .bl _) h1

/-! ### several -/
theorem ea_nil {P : List Dt → List Sl → Prop} (p : P [] G) : EA K tNil G P := fun H0 F H H1 σ Q I q => q [] [] G H H1 I Stp.refl .nil p
theorem ea_cons {P : List Dt → List Sl → Prop} {t : TA} (h : EX K te G fun d G1 => EA K t G1 fun ds G2 => P (d :: ds) G2) : EA K (tCons te t) G P := fun H0 F H H1 σ Q I q =>
  h H0 F H H1 σ _ I fun v d G1 Ha Hb I1 s1 r1 h1 => h1 H0 F Ha Hb σ _ I1 fun vs ds G2 Hc Hd I2 s2 r2 p => q _ _ G2 Hc Hd I2 (s1.trans s2) (.cons (r1.mono s2.b) r2) p
/-- a star: a list or a tuple -/
def Dt.seq : Dt → Option (List Dt)
  | .lst ds => some ds
  | .tup ds => some ds
  | _ => none
theorem ea_star {P : List Dt → List Sl → Prop} {t : TA} (h : EX K te G fun d G1 => ∃ es, d.seq = some es ∧ EA K t G1 fun ds G2 => P (es ++ ds) G2) : EA K (StX.tStar K te t) G P := fun H0 F H H1 σ Q I q =>
  h H0 F H H1 σ _ I fun v d G1 Ha Hb I1 s1 r1 ⟨es, e, h1⟩ => by
    cases d with
    | lst ds =>
      cases e
      obtain ⟨a, xs, e2, h2, r2⟩ := r1.lst_inv
      exact ⟨a, xs, e2, .inr (SqL.of (I1.s _ _ h2)), h1 H0 F Ha Hb σ _ I1 fun vs ds G2 Hc Hd I2 s2 r3 p => q _ _ G2 Hc Hd I2 (s1.trans s2) ((r2.mono s2.b).append r3) p⟩
    | tup ds =>
      cases e
      obtain ⟨a, xs, e2, h2, r2⟩ := r1.tup_inv
      exact ⟨a, xs, e2, .inl (.inl (Same.rd I1.s h2)), h1 H0 F Ha Hb σ _ I1 fun vs ds G2 Hc Hd I2 s2 r3 p => q _ _ G2 Hc Hd I2 (s1.trans s2) ((r2.mono s2.b).append r3) p⟩
    | _ => cases e
theorem ex_tup {ta : TA} (h : EA K ta G fun ds G1 => ds.length ≤ sizeLine ∧ P (.tup ds) G1) : EX K (tTup ta) G P := fun H0 F H H1 σ Q I q =>
  h H0 F H H1 σ _ I fun vs ds G1 Ha Hb I1 s1 r1 ⟨hl, p⟩ => ⟨by rw [r1.length]; exact hl, fun a ha => by
    have g : Gr Ha Hb (upd Ha a (.tup vs)) (upd Hb a (.tup vs)) := Gr.new I1.s ha
    exact q _ _ G1 _ _ (I1.gr g) (s1.trans g.stp) (.tup upd_same (r1.mono g.b)) p⟩
theorem ef_lst {ta : TA} (h : EA K ta G fun ds G1 => ds.length ≤ sizeLine ∧ P (.lst ds) G1) : EF K (tLst ta) G P := fun H0 F H H1 σ Q I q =>
  h H0 F H H1 σ _ I fun vs ds G1 Ha Hb I1 s1 r1 ⟨hl, p⟩ => ⟨by rw [r1.length]; exact hl, fun a ha => by
    have hs : Same Hb (upd Hb a (.lst vs)) := Same.upd ha
    have g : Gr Ha Hb Ha (upd Hb a (.lst vs)) := .of (Same.refl _) (I1.s.trans hs) hs (fun _ _ _ z => z) id
    exact q a (.lst ds) _ G1 _ _ (I1.gr g) (s1.trans g.stp) (stp_fresh s1 (.of ha)) (I1.s.free ha) upd_same r1 p⟩
theorem ef_dnewK (p : P (.dk []) G) : EF K tDNewK G P := fun H0 F H H1 σ Q I q => fun a ha => by
  have hs : Same H1 (upd H1 a (.dK [])) := Same.upd ha
  have g : Gr H H1 H (upd H1 a (.dK [])) := .of (Same.refl _) (I.s.trans hs) hs (fun _ _ _ z => z) id
  exact q a (.dk []) _ G _ _ (I.gr g) g.stp (.of ha) (I.s.free ha) upd_same Rk.nil p
theorem ef_dnewT (p : P (.dt []) G) : EF K tDNewT G P := fun H0 F H H1 σ Q I q => fun a ha => by
  have hs : Same H1 (upd H1 a (.dT [])) := Same.upd ha
  have g : Gr H H1 H (upd H1 a (.dT [])) := .of (Same.refl _) (I.s.trans hs) hs (fun _ _ _ z => z) id
  exact q a (.dt []) _ G _ _ (I.gr g) g.stp (.of ha) (I.s.free ha) upd_same Rt.nil p
theorem ex_cb {r : List V → Hp → VK → Prop} {ta : TA} (h : EA K ta G fun ds G1 => CD K r ds fun d => P d G1) : EX K (tCB r ta) G P := fun H0 F H H1 σ Q I q =>
  h H0 F H H1 σ _ I fun vs ds G1 Ha Hb I1 s1 r1 h1 => h1 Ha Hb vs Q I1.s r1 fun v d H' H2 g r p => q v d G1 H' H2 (I1.gr g) (s1.trans g.stp) r p
theorem ef_cb {r : List V → Hp → VK → Prop} {ta : TA} (h : EA K ta G fun ds G1 => CF K r ds fun d => P d G1) : EF K (tCB r ta) G P := fun H0 F H H1 σ Q I q =>
  h H0 F H H1 σ _ I fun vs ds G1 Ha Hb I1 s1 r1 h1 => h1 Ha Hb vs Q I1.s r1 fun p d u H' H2 g a1 a2 a3 a4 z => q p d u G1 H' H2 (I1.gr g) (s1.trans g.stp) (stp_fresh s1 a1) a2 a3 a4 z

/-! ### promises -/
variable {α : Type} {enc : α → List Dt} {st : α → Dt} {ok : α → Prop} {post : α → Dt → Prop} {postO : α → Dt → Dt → Prop}
/-- data in, a datum out, nothing changed -/
def SpP (K : PySem.W.Frag) (enc : α → List Dt) (ok : α → Prop) (post : α → Dt → Prop) : Sp := fun vs H1 Q _ => ∃ (H : Hp) (x : α), Same H H1 ∧ NoT H ∧ LamX.TabS H1 B.P B.q ∧ Ra K H vs (enc x) ∧ ok x ∧
  ∀ v d H' H2, Gr H H1 H' H2 → Rp K H' v d → post x d → Q v H2
/-- .. a new object out -/
def SpN (K : PySem.W.Frag) (enc : α → List Dt) (ok : α → Prop) (post : α → Dt → Prop) : Sp := fun vs H1 Q _ => ∃ (H : Hp) (x : α), Same H H1 ∧ NoT H ∧ LamX.TabS H1 B.P B.q ∧ Ra K H vs (enc x) ∧ ok x ∧
  ∀ p d u H' H2, Gr H H1 H' H2 → Fr H1 p → H' p = none → H2 p = some u → Ob K H' u d → post x d → Q (.ref p) H2
/-- growth, but for the object at l -/
structure GrO (l : Addr) (H H1 H' H2 : Hp) : Prop where
  b : Same H H'
  s : Same H' H2
  a : ∀ y w, H1 y = some w → y ≠ l → NT w → H2 y = some w
  o : ∀ y w, H1 y = some w → Mb w → H y = none → y ≠ l → H' y = none
  t : LamX.TabS H2 B.P B.q
  n : NoT H'
/-- the j-th argument an object that may change -/
def SpO (K : PySem.W.Frag) (j : Nat) (enc : α → List Dt) (st : α → Dt) (ok : α → Prop) (post : α → Dt → Dt → Prop) : Sp := fun vs H1 Q _ => ∃ (H : Hp) (x : α) (l : Addr) (us : List V) (u : HO),
  vs = us.take j ++ .ref l :: us.drop j ∧ Same H H1 ∧ NoT H ∧ LamX.TabS H1 B.P B.q ∧ Ra K H us (enc x) ∧ H l = none ∧ H1 l = some u ∧ Ob K H u (st x) ∧ ok x ∧
  ∀ v d s H' H2 u', GrO l H H1 H' H2 → H' l = none → H2 l = some u' → Ob K H' u' s → Rp K H' v d → post x d s → Q v H2
theorem ex_call {ta : TA} (h : EA K ta G fun ds G1 => ∃ x, ds = enc x ∧ ok x ∧ ∀ d, post x d → P d G1) : EX K (tCall (SpP K enc ok post) [] E0 ta) G P := fun H0 F H H1 σ Q I q =>
  h H0 F H H1 σ _ I fun vs ds G1 Ha Hb I1 s1 r1 ⟨x, e, ho, h1⟩ => by
    subst e
    rw [List.append_nil]
    exact ⟨Ha, x, I1.s, I1.p, I1.tab, r1, ho, fun v d H' H2 g r p => q v d G1 H' H2 (I1.gr g) (s1.trans g.stp) r (h1 d p)⟩
theorem ef_call {ta : TA} (h : EA K ta G fun ds G1 => ∃ x, ds = enc x ∧ ok x ∧ ∀ d, post x d → P d G1) : EF K (tCall (SpN K enc ok post) [] E0 ta) G P := fun H0 F H H1 σ Q I q =>
  h H0 F H H1 σ _ I fun vs ds G1 Ha Hb I1 s1 r1 ⟨x, e, ho, h1⟩ => by
    subst e
    rw [List.append_nil]
    exact ⟨Ha, x, I1.s, I1.p, I1.tab, r1, ho, fun p d u H' H2 g a1 a2 a3 a4 z => q p d u G1 H' H2 (I1.gr g) (s1.trans g.stp) (stp_fresh s1 a1) a2 a3 a4 (h1 d z)⟩
/-- behind a call that changed the object in a name -/
theorem own_after {H0 F H H1 H' H2 : Hp} {σ : L2.St} {G : List Sl} {i : Nat} {l : Addr} {s0 s : Dt} {u : HO} (I : En K H0 F H H1 σ G) (hG : G[i]? = some (.own l s0)) (g : GrO l H H1 H' H2)
    (e5 : H' l = none) (e6 : H2 l = some u) (e7 : Ob K H' u s) : En K H0 F H' H2 σ (G.set i (.own l s)) ∧ Stp G (G.set i (.own l s)) H H1 H' H2 := by
  obtain ⟨a1, a2, a3, u0, a4, a5⟩ := I.own i l s0 hG
  have ow : ∀ (k : Nat) (m : Addr) (e : Dt), (G.set i (.own l s))[k]? = some (.own m e) → ∃ e0, G[k]? = some (.own m e0) := fun k m e z => by
    rcases set_own z with ⟨_, z⟩ | ⟨z1, z2⟩
    · exact ⟨e, z⟩
    · injection z2 with z2 _; subst z2; rw [z1]; exact ⟨s0, hG⟩
  refine ⟨⟨I.b.trans g.b, g.s, fun b o e => g.a b o (I.f b o e) (ne_of_none e a2) (not_tbl I.fp e), fun x v hx m h0 => g.o x v (I.f x v hx) m (I.o x v hx m h0) (ne_of_none hx a2), by rw [List.length_set]; exact I.len, fun k e h => ?_, fun k m e h => ?_, fun k k' m e e' h h' => ?_, I.fp, g.n, g.t⟩,
    ⟨g.b, fun x v hx hn => g.a x v hx fun z => hn (by rw [z]; exact ⟨i, s0, hG⟩), fun x v hx m h0 hn => g.o x v hx m h0 fun z => hn (by rw [z]; exact ⟨i, s0, hG⟩), fun x ⟨k, e, h⟩ => ?_, fun x v hx m => ?_⟩⟩
  · rcases set_dat h with ⟨n, h⟩ | ⟨_, h⟩
    · obtain ⟨v, b1, b2⟩ := I.dat k e h
      exact ⟨v, b1, b2.mono g.b⟩
    · cases h
  · rcases set_own h with ⟨n, h'⟩ | ⟨n, h'⟩
    · obtain ⟨b1, b2, b3, v, b4, b5⟩ := I.own k m e h'
      have hne : m ≠ l := fun z => by subst z; exact n (I.nd k i m e s0 h' hG)
      exact ⟨b1, b2, g.o m v b4 (ob_mb b5) b3 hne, v, g.a m v b4 hne (ob_ne b5), b5.mono g.b⟩
    · injection h' with h1 h2
      subst h1 h2 n
      exact ⟨a1, a2, e5, u, e6, e7⟩
  · obtain ⟨f1, g1⟩ := ow k m e h
    obtain ⟨f2, g2⟩ := ow k' m e' h'
    exact I.nd k k' m f1 f2 g1 g2
  · obtain ⟨f1, g1⟩ := ow k x e h
    exact ⟨k, f1, g1⟩
  · by_cases c : x = l
    · rw [c]; exact ⟨u, e6, ob_ne e7, fun _ => ob_mb e7⟩
    · exact ⟨v, g.a x v hx c m, m, id⟩
theorem ex_callO {i : Nat} {ta : TA} (hG : ∃ l d, G[i]? = some (.own l d)) (h : EA K ta G fun ds G1 => ∃ l s x, G1[i]? = some (.own l s) ∧ ds = enc x ∧ s = st x ∧ ok x ∧ ∀ d s', postO x d s' → P d (G1.set i (.own l s'))) :
    EX K (tCall (SpO K 0 enc st ok postO) [] E0 (tCons (tVar i) ta)) G P := fun H0 F H H1 σ Q I q => by
  obtain ⟨l0, d0, h0⟩ := hG
  obtain ⟨z0, _⟩ := I.own i l0 d0 h0
  refine ⟨.ref l0, z0, h H0 F H H1 σ _ I fun vs ds G1 Ha Hb I1 s1 r1 ⟨l, s, x, hG, e, es, ho, h1⟩ => ?_⟩
  subst e es
  obtain ⟨a1, a2, a3, u0, a4, a5⟩ := I1.own i l _ hG
  have el : l0 = l := by rw [z0] at a1; injection a1 with a1; injection a1 with a1; injection a1
  subst el
  rw [List.append_nil]
  refine ⟨Ha, x, l0, vs, u0, rfl, I1.s, I1.p, I1.tab, r1, a3, a4, a5, ho, fun v d s' H' H2 u' g e5 e6 e7 r p => ?_⟩
  obtain ⟨I2, s2⟩ := own_after I1 hG g e5 e6 e7
  exact q v d _ H' H2 I2 (s1.trans s2) r (h1 d s' p)
theorem ex_callO1 {i : Nat} {t0 : TE} {ta : TA} (h : EX K t0 G fun a G0 => (∃ l d, G0[i]? = some (.own l d)) ∧ EA K ta G0 fun ds G1 => ∃ l s x, G1[i]? = some (.own l s) ∧ a :: ds = enc x ∧ s = st x ∧ ok x ∧ ∀ d s', postO x d s' → P d (G1.set i (.own l s'))) :
    EX K (tCall (SpO K 1 enc st ok postO) [] E0 (tCons t0 (tCons (tVar i) ta))) G P := fun H0 F H H1 σ Q I q =>
  h H0 F H H1 σ _ I fun v0 a G0 Hc Hd I0 s0 r0 ⟨⟨l0, d0, h0⟩, h⟩ => by
    obtain ⟨z0, _⟩ := I0.own i l0 d0 h0
    refine ⟨.ref l0, z0, h H0 F Hc Hd σ _ I0 fun vs ds G1 Ha Hb I1 s1 r1 ⟨l, s, x, hG, e, es, ho, h1⟩ => ?_⟩
    subst es
    obtain ⟨a1, a2, a3, u0, a4, a5⟩ := I1.own i l _ hG
    have el : l0 = l := by rw [z0] at a1; injection a1 with a1; injection a1 with a1; injection a1
    subst el
    rw [List.append_nil]
    refine ⟨Ha, x, l0, v0 :: vs, u0, rfl, I1.s, I1.p, I1.tab, by rw [← e]; exact .cons (r0.mono s1.b) r1, a3, a4, a5, ho, fun v d s' H' H2 u' g e5 e6 e7 r p => ?_⟩
    obtain ⟨I2, s2⟩ := own_after I1 hG g e5 e6 e7
    exact q v d _ H' H2 I2 (s0.trans (s1.trans s2)) r (h1 d s' p)
/-- a new object handed to a def that may change it -/
theorem ex_callOF (h : EF K te G fun s G1 => ∃ x, enc x = [] ∧ s = st x ∧ ok x ∧ ∀ d s', postO x d s' → P d G1) : EX K (tCall (SpO K 0 enc st ok postO) [] E0 (tCons te tNil)) G P := fun H0 F H H1 σ Q I q =>
  h H0 F H H1 σ _ I fun p s u G1 Ha Hb I1 s1 a1 a2 a3 a4 ⟨x, e, es, ho, h1⟩ => by
    subst es
    have np : ¬ Own G1 p := fun z => by
      obtain ⟨w, hw, nw⟩ := I.ownH (s1.w p z)
      exact a1 w hw nw
    refine ⟨Ha, x, p, [], u, rfl, I1.s, I1.p, I1.tab, by rw [e]; exact .nil, a2, a3, a4, ho, fun v d s' H' H2 u' g e5 e6 e7 r z => ?_⟩
    have hF : F p = none := a1.sub I.fp I.f
    refine q v d G1 H' H2 ⟨I1.b.trans g.b, g.s, fun b o e => g.a b o (I1.f b o e) (ne_of_none e hF) (not_tbl I1.fp e), fun x v hx m h0 => g.o x v (I1.f x v hx) m (I1.o x v hx m h0) (ne_of_none hx hF), I1.len, fun k e h => ?_, fun k m e h => ?_, I1.nd, I1.fp, g.n, g.t⟩
      ⟨s1.b.trans g.b, fun y w hy hn hw => g.a y w (s1.k y w hy hn hw) (a1.ne hy hw) hw, fun y w hy m h0 hn => ?_, s1.w, fun y w hy m => ?_⟩ r (h1 d s' z)
    · obtain ⟨v, b1, b2⟩ := I1.dat k e h
      exact ⟨v, b1, b2.mono g.b⟩
    · obtain ⟨b1, b2, b3, v, b4, b5⟩ := I1.own k m e h
      have hne : m ≠ p := fun z => np (by rw [← z]; exact ⟨k, e, h⟩)
      exact ⟨b1, b2, g.o m v b4 (ob_mb b5) b3 hne, v, g.a m v b4 hne (ob_ne b5), b5.mono g.b⟩
    · obtain ⟨w2, hw2, m2, f2⟩ := s1.t y w hy m.nt
      exact g.o y w2 hw2 (f2 m) (s1.o y w hy m h0 hn) (a1.ne hy m.nt)
    · obtain ⟨w2, hw2, m2, f2⟩ := s1.t y w hy m
      exact ⟨w2, g.a y w2 hw2 (a1.ne hy m) m2, m2, f2⟩
end
end Wd

set_option Elab.async false
set_option linter.all false
set_option maxRecDepth 100000
/-! D3: tests, statements, targets, loops, comprehensions, whole defs, over data. -/
namespace Wd
open PySem L2
variable [B : Tb]
section
variable {K : PySem.W.Frag} {G : List Sl} {P : Dt → List Sl → Prop} {PB : Bool → List Sl → Prop} {te ta tb : TE}
/-! ### tests -/
theorem tx_test (h : EX K te G fun d G1 => ∃ b, d = .bl b ∧ PB b G1) : TX K (tTest te) G PB := fun H0 F H H1 σ Q I q =>
  h H0 F H H1 σ _ I fun v d G1 Ha Hb I1 s1 r1 ⟨b, e, p⟩ => by subst e; exact ⟨b, r1.bl_inv, q b G1 Ha Hb I1 s1 p⟩
theorem tx_B (h : EX K te G fun d G1 => ∃ b, d = .bl b ∧ PB b G1) : TX K (tB te) G PB := tx_test h
theorem tx_and {t u : TT} (h : TX K t G fun b G1 => (b = true → TX K u G1 PB) ∧ (b = false → PB false G1)) : TX K (tAnd t u) G PB := fun H0 F H H1 σ Q I q =>
  h H0 F H H1 σ _ I fun b G1 Ha Hb I1 s1 ⟨h1, h2⟩ => by
    cases b with
    | true => exact h1 rfl H0 F Ha Hb σ Q I1 fun b G' H' H2 I' s p => q b G' H' H2 I' (s1.trans s) p
    | false => exact q false G1 Ha Hb I1 s1 (h2 rfl)
theorem tx_or {t u : TT} (h : TX K t G fun b G1 => (b = true → PB true G1) ∧ (b = false → TX K u G1 PB)) : TX K (tOr t u) G PB := fun H0 F H H1 σ Q I q =>
  h H0 F H H1 σ _ I fun b G1 Ha Hb I1 s1 ⟨h1, h2⟩ => by
    cases b with
    | false => exact h2 rfl H0 F Ha Hb σ Q I1 fun b G' H' H2 I' s p => q b G' H' H2 I' (s1.trans s) p
    | true => exact q true G1 Ha Hb I1 s1 (h1 rfl)
theorem tx_not {t : TT} (h : TX K t G fun b G1 => PB (!b) G1) : TX K (tNot t) G PB := fun H0 F H H1 σ Q I q =>
  h H0 F H H1 σ _ I fun b G1 Ha Hb I1 s1 p => q _ G1 Ha Hb I1 s1 p
theorem tx_yes (p : PB true G) : TX K tYes G PB := fun H0 F H H1 σ Q I q => q true G H H1 I Stp.refl p
/-- a datum's truth -/
def Dt.tru : Dt → Option Bool
  | .non => some false
  | .bl b => some b
  | .int i => some (i != 0)
  | .lst xs => some !xs.isEmpty
  | .tup xs => some !xs.isEmpty
  | .dk xs => some !xs.isEmpty
  | _ => none
theorem Ra.emp {H : Hp} {vs : List V} {ds : List Dt} (r : Ra K H vs ds) : vs.isEmpty = ds.isEmpty := by cases r <;> rfl
theorem Rk.emp {H : Hp} {vs : List (Key × V)} {ds : List (Str × Dt)} (r : Rk K H vs ds) : vs.isEmpty = ds.isEmpty := by cases r <;> rfl
theorem tru_of {H H1 : Hp} {v : V} {d : Dt} {b : Bool} (r : Rp K H v d) (s : Same H H1) (e : d.tru = some b) : TruV K v H1 b := by
  cases d with
  | non => cases r; exact (Option.some.inj e).symm
  | bl b => cases r; exact (Option.some.inj e).symm
  | int i => cases r; exact (Option.some.inj e).symm
  | lst ds =>
    obtain ⟨a, xs, rfl, h, r⟩ := r.lst_inv
    exact .inl ⟨xs, SqL.of (s _ _ h), by rw [r.emp]; exact (Option.some.inj e).symm⟩
  | tup ds =>
    obtain ⟨a, xs, rfl, h, r⟩ := r.tup_inv
    exact .inr (.inl ⟨xs, .inl (Same.rd s h), by rw [r.emp]; exact (Option.some.inj e).symm⟩)
  | dk ds =>
    obtain ⟨a, xs, rfl, h, r⟩ := r.dk_inv
    exact .inr (.inr ⟨xs, s _ _ h, by rw [r.emp]; exact (Option.some.inj e).symm⟩)
  | _ => cases e
theorem tx_truth (h : EX K te G fun d G1 => ∃ b, d.tru = some b ∧ PB b G1) : TX K (fun σ H Q => te σ H fun x H' => ∃ k, TruV K x H' k ∧ Q k H') G PB := fun H0 F H H1 σ Q I q =>
  h H0 F H H1 σ _ I fun v d G1 Ha Hb I1 s1 r1 ⟨b, e, p⟩ => ⟨b, tru_of r1 I1.s e, q b G1 Ha Hb I1 s1 p⟩
theorem ex_orT (h : EX K ta G fun d G1 => ∃ b, d.tru = some b ∧ (b = true → P d G1) ∧ (b = false → EX K tb G1 P)) : EX K (tOrT K ta tb) G P := fun H0 F H H1 σ Q I q =>
  h H0 F H H1 σ _ I fun v d G1 Ha Hb I1 s1 r1 ⟨b, e, h1, h2⟩ => ⟨b, tru_of r1 I1.s e, by
    cases b with
    | true => exact q v d G1 Ha Hb I1 s1 r1 (h1 rfl)
    | false => exact h2 rfl H0 F Ha Hb σ Q I1 fun v d G' H' H2 I' s r p => q v d G' H' H2 I' (s1.trans s) r p⟩

/-! ### targets -/
theorem gx_name {i : Nat} {d : Dt} {N : List Sl → Prop} (p : N (G.set i (.dat d))) : GX K (gName i) d G N := fun H0 F H H1 σ v Q I r q =>
  q _ _ (I.set i r) (fun x ⟨j, e, h⟩ => by
    rcases set_own h with ⟨_, h⟩ | ⟨_, h⟩
    · exact ⟨j, e, h⟩
    · cases h) p
theorem gxs_nil {N : List Sl → Prop} (p : N G) : GXs K gNil [] G N := fun H0 F H H1 σ vs Q I r q => by cases r; exact ⟨rfl, q σ G I (fun _ h => h) p⟩
theorem gxs_cons {g : TG} {gs : TGs} {d : Dt} {ds : List Dt} {N : List Sl → Prop} (h : GX K g d G fun G1 => GXs K gs ds G1 N) : GXs K (gCons g gs) (d :: ds) G N := fun H0 F H H1 σ vs Q I r q => by
  cases r with
  | cons r1 r2 => exact ⟨_, _, rfl, h H0 F H H1 σ _ _ I r1 fun σ1 G1 I1 o1 h1 => h1 H0 F H H1 σ1 _ _ I1 r2 fun σ2 G2 I2 o2 p => q σ2 G2 I2 (fun x z => o1 x (o2 x z)) p⟩
theorem gx_tup {n : Nat} {gs : TGs} {ds : List Dt} {N : List Sl → Prop} (hl : ds.length = n) (h : GXs K gs ds G N) : GX K (gTup K n gs) (.tup ds) G N := fun H0 F H H1 σ v Q I r q => by
  obtain ⟨a, xs, rfl, e, r⟩ := r.tup_inv
  exact ⟨a, xs, rfl, .inl (Same.rd I.s e), by rw [r.length]; exact hl, h H0 F H H1 σ xs Q I r q⟩
theorem gx_unl {n : Nat} {gs : TGs} {ds : List Dt} {N : List Sl → Prop} (hl : ds.length = n) (h : GXs K gs ds G N) : GX K (gUnl K n gs) (.lst ds) G N := fun H0 F H H1 σ v Q I r q => by
  obtain ⟨a, xs, rfl, e, r⟩ := r.lst_inv
  exact ⟨a, xs, rfl, SqL.of (I.s _ _ e), by rw [r.length]; exact hl, h H0 F H H1 σ xs Q I r q⟩

/-! ### statements -/
variable {R : Dt → List Sl → Prop} {N : List Sl → Prop} {t u : TS}
theorem sx_seq (h : SX K t G R fun G1 => SX K u G1 R N) : SX K (tSeq t u) G R N := fun H0 F H H1 σ D I q1 q2 =>
  h H0 F H H1 σ _ I (fun v d σ' G' H' H2 I' r p => q1 v d σ' G' H' H2 I' r p) fun σ' G' H' H2 I' h' => h' H0 F H' H2 σ' D I' q1 q2
theorem sx_next (p : N G) : SX K tNext G R N := fun H0 F H H1 σ D I q1 q2 => q2 σ G H H1 I p
theorem sx_ret (h : EX K te G R) : SX K (tRet te) G R N := fun H0 F H H1 σ D I q1 q2 => h H0 F H H1 σ _ I fun v d G' H' H2 I' s r p => q1 v d σ G' H' H2 I' r p
theorem sx_retN (p : R .non G) : SX K tRetN G R N := fun H0 F H H1 σ D I q1 q2 => q1 .non .non σ G H H1 I .non p
theorem sx_drop (h : EX K te G fun _ G1 => N G1) : SX K (tDrop te) G R N := fun H0 F H H1 σ D I q1 q2 => h H0 F H H1 σ _ I fun v d G' H' H2 I' s r p => q2 σ G' H' H2 I' p
theorem sx_if {tc : TT} (h : TX K tc G fun b G1 => (b = true → SX K t G1 R N) ∧ (b = false → SX K u G1 R N)) : SX K (tIfS tc t u) G R N := fun H0 F H H1 σ D I q1 q2 =>
  h H0 F H H1 σ _ I fun b G1 Ha Hb I1 s1 ⟨h1, h2⟩ => by
    cases b with
    | true => exact h1 rfl H0 F Ha Hb σ D I1 q1 q2
    | false => exact h2 rfl H0 F Ha Hb σ D I1 q1 q2
theorem sx_never (h : False) : SX K tNever G R N := h.elim
theorem sx_asg {g : TG} (h : EX K te G fun d G1 => GX K g d G1 N) : SX K (tAsg te g) G R N := fun H0 F H H1 σ D I q1 q2 =>
  h H0 F H H1 σ _ I fun v d G1 Ha Hb I1 s1 r1 h1 => h1 H0 F Ha Hb σ v _ I1 r1 fun σ' G' I' _ p => q2 σ' G' Ha Hb I' p
theorem sx_set {i : Nat} (h : EX K te G fun d G1 => N (G1.set i (.dat d))) : SX K (tAsg te (gName i)) G R N := sx_asg (h.imp fun _ _ p => gx_name p)
theorem fresh_own {H0 F H H1 H' H2 : Hp} {σ : L2.St} {G' : List Sl} {p : Addr} (I : En K H0 F H H1 σ G) (s : Stp G G' H H1 H' H2) (a : Fr H1 p) : F p = none ∧ ¬ Own G' p :=
  ⟨a.sub I.fp I.f, fun z => by
    obtain ⟨w, hw, nw⟩ := I.ownH (s.w p z)
    exact a w hw nw⟩
/-- a name gets a new object, which may change -/
theorem sx_new {i : Nat} (h : EF K te G fun d G1 => ∀ p, N (G1.set i (.own p d))) : SX K (tAsg te (gName i)) G R N := fun H0 F H H1 σ D I q1 q2 =>
  h H0 F H H1 σ _ I fun p d u G1 Ha Hb I1 s1 a1 a2 a3 a4 z => by
    obtain ⟨f1, f2⟩ := fresh_own I s1 a1
    exact q2 _ _ Ha Hb (I1.setOwn i f1 a2 a3 a4 f2) (z p)
/-- a, b = x, y: both data -/
theorem sx_par {i j : Nat} (h : EX K ta G fun d G1 => EX K tb G1 fun e G2 => N ((G2.set i (.dat d)).set j (.dat e))) : SX K (tPar i j (tCons ta (tCons tb tNil))) G R N := fun H0 F H H1 σ D I q1 q2 =>
  h H0 F H H1 σ _ I fun v d G1 Ha Hb I1 s1 r1 h1 => h1 H0 F Ha Hb σ _ I1 fun w e G2 Hc Hd I2 s2 r2 p => ⟨v, w, rfl, q2 _ _ Hc Hd ((I2.set i (r1.mono s2.b)).set j r2) p⟩
/-- the second a new object -/
theorem sx_parN {i j : Nat} (h : EX K ta G fun d G1 => EF K tb G1 fun e G2 => ∀ p, N ((G2.set i (.dat d)).set j (.own p e))) : SX K (tPar i j (tCons ta (tCons tb tNil))) G R N := fun H0 F H H1 σ D I q1 q2 =>
  h H0 F H H1 σ _ I fun v d G1 Ha Hb I1 s1 r1 h1 => h1 H0 F Ha Hb σ _ I1 fun p e u G2 Hc Hd I2 s2 a1 a2 a3 a4 z => by
    obtain ⟨f1, f2⟩ := fresh_own I1 s2 a1
    refine ⟨v, .ref p, rfl, q2 _ _ Hc Hd ((I2.set i (r1.mono s2.b)).setOwn j f1 a2 a3 a4 fun ⟨k, c, h⟩ => ?_) (z p)⟩
    rcases set_own h with ⟨_, h⟩ | ⟨_, h⟩
    · exact f2 ⟨k, c, h⟩
    · cases h
/-- the first a new object, the second a datum -/
theorem sx_parM {i j : Nat} (hij : i ≠ j) (h : EF K ta G fun d G1 => EX K tb G1 fun e G2 => ∀ p, N ((G2.set i (.own p d)).set j (.dat e))) : SX K (tPar i j (tCons ta (tCons tb tNil))) G R N := fun H0 F H H1 σ D I q1 q2 =>
  h H0 F H H1 σ _ I fun p d u G1 Ha Hb I1 s1 a1 a2 a3 a4 h1 => h1 H0 F Ha Hb σ _ I1 fun w e G2 Hc Hd I2 s2 r2 z => by
    obtain ⟨f1, f2⟩ := fresh_own I s1 a1
    have f3 : ¬ Own G2 p := fun z => f2 (s2.w p z)
    exact ⟨.ref p, w, rfl, q2 _ _ Hc Hd ((I2.setOwn i f1 (s2.o p u a3 (ob_mb a4) a2 f2) (s2.k p u a3 f2 (ob_ne a4)) (a4.mono s2.b) f3).set j r2) (z p)⟩
/-- both new objects -/
theorem sx_parNN {i j : Nat} (h : EF K ta G fun d G1 => EF K tb G1 fun e G2 => ∀ p q, N ((G2.set i (.own p d)).set j (.own q e))) : SX K (tPar i j (tCons ta (tCons tb tNil))) G R N := fun H0 F H H1 σ D I q1 q2 =>
  h H0 F H H1 σ _ I fun p d u G1 Ha Hb I1 s1 a1 a2 a3 a4 h1 => h1 H0 F Ha Hb σ _ I1 fun p' e u' G2 Hc Hd I2 s2 b1 b2 b3 b4 z => by
    obtain ⟨f1, f2⟩ := fresh_own I s1 a1
    obtain ⟨g1, g2⟩ := fresh_own I1 s2 b1
    have f3 : ¬ Own G2 p := fun z => f2 (s2.w p z)
    have ne : p' ≠ p := (b1.ne a3 (ob_ne a4)).symm
    have I3 := I2.setOwn i f1 (s2.o p u a3 (ob_mb a4) a2 f2) (s2.k p u a3 f2 (ob_ne a4)) (a4.mono s2.b) f3
    refine ⟨.ref p, .ref p', rfl, q2 _ _ Hc Hd (I3.setOwn j g1 b2 b3 b4 fun ⟨k, c, h⟩ => ?_) (z p p')⟩
    rcases set_own h with ⟨_, h⟩ | ⟨_, h⟩
    · exact g2 ⟨k, c, h⟩
    · injection h with h _; exact ne h.symm
/-- l.append(e), l.extend([..]) -/
theorem sx_append {i : Nat} (hG : ∃ l d, G[i]? = some (.own l d)) (h : EX K te G fun d G1 => ∃ l ds, G1[i]? = some (.own l (.lst ds)) ∧ ds.length < sizeLine ∧ N (G1.set i (.own l (.lst (ds ++ [d])))))
    (hk : ∃ l ds, G[i]? = some (.own l (.lst ds))) : SX K (tDrop (tBM K "list" rAppend (tVar i) (tCons te tNil))) G R N := fun H0 F H H1 σ D I q1 q2 => by
  obtain ⟨l0, ds0, h0⟩ := hk
  obtain ⟨z0, _, _, u0, z1, z2⟩ := I.own i l0 _ h0
  obtain ⟨xs0, e0, _⟩ := z2.lst_inv
  subst e0
  refine ⟨.ref l0, z0, .inl ⟨rfl, xs0, SqL.of z1⟩, h H0 F H H1 σ _ I fun v d G1 Ha Hb I1 s1 r1 ⟨l, ds, hG, hl, p⟩ => ?_⟩
  obtain ⟨a1, a2, a3, u, a4, a5⟩ := I1.own i l _ hG
  have el : l0 = l := by rw [z0] at a1; injection a1 with a1; injection a1 with a1; injection a1
  subst el
  obtain ⟨xs, e, r⟩ := a5.lst_inv
  subst e
  refine ⟨l0, xs, v, rfl, rfl, a4, by rw [r.length]; exact hl, ?_⟩
  exact q2 _ _ _ _ (I1.write (u := .lst (xs ++ [v])) (d' := .lst (ds ++ [d])) hG (r.snoc r1)).1 p
theorem sx_extend {i : Nat} (hk : ∃ l ds, G[i]? = some (.own l (.lst ds))) (h : EF K te G fun d G1 => ∃ l ds es, d = .lst es ∧ G1[i]? = some (.own l (.lst ds)) ∧ ds.length + es.length ≤ sizeLine ∧ N (G1.set i (.own l (.lst (ds ++ es))))) :
    SX K (tDrop (tBM K "list" rExtend (tVar i) (tCons te tNil))) G R N := fun H0 F H H1 σ D I q1 q2 => by
  obtain ⟨l0, ds0, h0⟩ := hk
  obtain ⟨z0, _, _, u0, z1, z2⟩ := I.own i l0 _ h0
  obtain ⟨xs0, e0, _⟩ := z2.lst_inv
  subst e0
  refine ⟨.ref l0, z0, .inl ⟨rfl, xs0, SqL.of z1⟩, h H0 F H H1 σ _ I fun b d u G1 Ha Hb I1 s1 b1 b2 b3 b4 ⟨l, ds, es, ed, hG, hl, p⟩ => ?_⟩
  subst ed
  obtain ⟨ys, ey, ry⟩ := b4.lst_inv
  subst ey
  obtain ⟨a1, a2, a3, u, a4, a5⟩ := I1.own i l _ hG
  have el : l0 = l := by rw [z0] at a1; injection a1 with a1; injection a1 with a1; injection a1
  subst el
  obtain ⟨xs, e, r⟩ := a5.lst_inv
  subst e
  refine ⟨l0, b, xs, ys, rfl, rfl, a4, b3, by rw [r.length, ry.length]; exact hl, ?_⟩
  exact q2 _ _ _ _ (I1.write (u := .lst (xs ++ ys)) (d' := .lst (ds ++ es)) hG (r.append ry)).1 p

/-! ### loops -/
theorem En.rebase {H0 F Ha Hb H H1 : Hp} {σ σ0 : L2.St} {G0 : List Sl} (I0 : En K H0 F Ha Hb σ0 G0) (I : En K H0 F H H1 σ G) (s : Same Ha H) : En K Ha F H H1 σ G :=
  ⟨s, I.s, I.f, fun x u h1 m h2 => I.o x u h1 m (I0.b.free h2), I.len, I.dat, I.own, I.nd, I.fp, I.p, I.tab⟩
theorem En.unbase {H0 F Ha Hb H H1 : Hp} {σ σ0 : L2.St} {G0 : List Sl} (I0 : En K H0 F Ha Hb σ0 G0) (I : En K Ha F H H1 σ G) : En K H0 F H H1 σ G :=
  ⟨I0.b.trans I.b, I.s, I.f, fun x u h1 m h2 => I.o x u h1 m (I0.o x u h1 m h2), I.len, I.dat, I.own, I.nd, I.fp, I.p, I.tab⟩
theorem sx_while {tc : TT} (W : Nat → List Sl → Prop) (m : Nat) (w0 : W m G) (h : ∀ m G, W m G → TX K tc G fun b G1 => (b = true → SX K t G1 R fun G2 => ∃ m', m' < m ∧ W m' G2) ∧ (b = false → N G1)) : SX K (tWhile tc t) G R N := fun H0 F H H1 σ D I q1 q2 => by
  refine ⟨fun m σ H1 => ∃ G H, En K H0 F H H1 σ G ∧ W m G, ⟨m, G, H, I, w0⟩, ?_⟩
  rintro m σ H1 ⟨G, H, I, w⟩
  refine h m G w H0 F H H1 σ _ I fun b G1 Ha Hb I1 s1 ⟨h1, h2⟩ => ?_
  cases b with
  | true =>
    refine ⟨fun σ H1 => ∃ m', m' < m ∧ ∃ G H, En K H0 F H H1 σ G ∧ W m' G, fun _ _ z => z, ?_⟩
    exact h1 rfl H0 F Ha Hb σ _ I1 q1 fun σ' G' H' H2 I' ⟨m', lt, w'⟩ => ⟨m', lt, G', H', I', w'⟩
  | false => exact q2 σ G1 Ha Hb I1 (h2 rfl)
theorem sx_for {wi : TI} {g : TG} (h : IX K wi G fun ds G1 => ∃ W : Nat → List Sl → Prop, W 0 G1 ∧ (∀ i d G2, ds[i]? = some d → W i G2 → GX K g d G2 fun G3 => SX K t G3 R (W (i + 1))) ∧ ∀ G2, W ds.length G2 → N G2) : SX K (tFor wi g t) G R N := fun H0 F H H1 σ D I q1 q2 =>
  h H0 F H H1 σ _ I fun J ds G1 Ha Hb I1 s1 hJ ⟨W, w0, hs, hd⟩ => by
    refine ⟨fun i m σ H1 => m = ds.length - i ∧ i ≤ ds.length ∧ ∃ G2 H, En K H0 F H H1 σ G2 ∧ Same Ha H ∧ W i G2, ⟨ds.length, by omega, Nat.zero_le _, G1, Ha, I1, Same.refl _, w0⟩, ?_⟩
    rintro i m σ H1 ⟨rfl, hi, G2, H, I2, sb, w⟩
    obtain ⟨j1, j2⟩ := hJ i H H1 sb I2.s
    by_cases hlt : i < ds.length
    · obtain ⟨jg, jy⟩ := j1 ds[i] (List.getElem?_eq_getElem hlt)
      refine .inr ⟨jg, fun σ H1 => ∃ m', m' < ds.length - i ∧ m' = ds.length - (i + 1) ∧ i + 1 ≤ ds.length ∧ ∃ G2 H, En K H0 F H H1 σ G2 ∧ Same Ha H ∧ W (i + 1) G2, fun σ' H' ⟨m', a, b, c⟩ => ⟨m', a, b, c⟩, fun x H2 hy => ?_⟩
      obtain ⟨H', g1, r⟩ := jy x H2 hy
      have I3 := I2.gr g1
      refine hs i ds[i] G2 (List.getElem?_eq_getElem hlt) w H0 F H' H2 σ x _ I3 r fun σ3 G3 I4 _ h3 => ?_
      refine h3 Ha F H' H2 σ3 _ (I1.rebase I4 (sb.trans g1.b)) (fun v d σ4 G4 H4 H5 I5 r5 p5 => q1 v d σ4 G4 H4 H5 (I1.unbase I5) r5 p5) fun σ4 G4 H4 H5 I5 w5 => ⟨_, by omega, rfl, hlt, G4, H4, I1.unbase I5, I5.b, w5⟩
    · have e : i = ds.length := by omega
      exact .inl ⟨j2 e, q2 σ G2 H H1 I2 (hd G2 (e ▸ w))⟩
end
end Wd

set_option Elab.async false
set_option linter.all false
set_option maxRecDepth 100000
/-! D4: comprehensions and whole defs over data. -/
namespace Wd
open PySem L2
variable [B : Tb]
/-- a target that stores in the names ts alone -/
def Tch (g : TG) (ts : List Nat) : Prop := ∀ (v : V) (σ : L2.St) (H : Hp) (Q Q' : L2.St → Hp → Prop), g v σ H Q → (∀ σ' H', Q σ' H' → σ'.length = σ.length → (∀ j, j ∉ ts → σ'[j]? = σ[j]?) → Q' σ' H') → g v σ H Q'
def Tchs (g : TGs) (ts : List Nat) : Prop := ∀ (v : List V) (σ : L2.St) (H : Hp) (Q Q' : L2.St → Hp → Prop), g v σ H Q → (∀ σ' H', Q σ' H' → σ'.length = σ.length → (∀ j, j ∉ ts → σ'[j]? = σ[j]?) → Q' σ' H') → g v σ H Q'
theorem tch_name (i : Nat) : Tch (gName i) [i] := fun v σ H Q Q' h f => f _ _ h (by rw [List.length_set]) fun j hj => by rw [List.getElem?_set_ne fun z => hj (by rw [z]; exact List.mem_singleton.mpr rfl)]
theorem tchs_nil : Tchs gNil [] := fun v σ H Q Q' h f => ⟨h.1, f _ _ h.2 rfl fun _ _ => rfl⟩
theorem tchs_cons {g : TG} {gs : TGs} {ts ts' : List Nat} (h : Tch g ts) (h' : Tchs gs ts') : Tchs (gCons g gs) (ts ++ ts') := fun vs σ H Q Q' ⟨v, r, e, q⟩ f => by
  refine ⟨v, r, e, h v σ H _ _ q fun σ1 H1 q1 l1 a1 => h' r σ1 H1 _ _ q1 fun σ2 H2 q2 l2 a2 => f σ2 H2 q2 (l2.trans l1) fun j hj => ?_⟩
  rw [a2 j fun z => hj (List.mem_append_right _ z), a1 j fun z => hj (List.mem_append_left _ z)]
theorem tch_tup {K : PySem.W.Frag} {n : Nat} {gs : TGs} {ts : List Nat} (h : Tchs gs ts) : Tch (gTup K n gs) ts := fun v σ H Q Q' ⟨a, xs, e, h1, h2, q⟩ f => ⟨a, xs, e, h1, h2, h xs σ H _ _ q f⟩
theorem wipe_in {σ : L2.St} {i : Nat} (hi : i < σ.length) : ∀ {vs : List Nat}, i ∈ vs → (wipe σ vs)[i]? = some none
  | v :: vs, h => by
    unfold wipe
    by_cases e : v = i
    · subst e; rw [List.getElem?_set_self (by rw [wipe_length]; exact hi)]
    · rw [List.getElem?_set_ne e]
      rcases List.mem_cons.mp h with z | z
      · exact absurd z.symm e
      · exact wipe_in hi z
theorem wipe_eq {σ σ' : L2.St} {vs : List Nat} (hl : σ'.length = σ.length) (h : ∀ j, j ∉ vs → σ'[j]? = σ[j]?) : wipe σ' vs = wipe σ vs := by
  apply List.ext_getElem?
  intro i
  by_cases hv : i ∈ vs
  · by_cases hi : i < σ.length
    · rw [wipe_in hi hv, wipe_in (hl ▸ hi) hv]
    · rw [List.getElem?_eq_none (by rw [wipe_length]; omega), List.getElem?_eq_none (by rw [wipe_length]; omega)]
  · rw [wipe_out hv, wipe_out hv]; exact h i hv
/-- no object of the def's own stands in these names -/
def NoOwn (vs : List Nat) (G : List Sl) : Prop := ∀ i ∈ vs, ∀ (l : Addr) (d : Dt), G[i]? ≠ some (.own l d)
def wipeG (G : List Sl) : List Nat → List Sl
  | [] => G
  | v :: vs => (wipeG G vs).set v .emp
def Agr (vs : List Nat) (G G' : List Sl) : Prop := ∀ j, j ∉ vs → G'[j]? = G[j]?
theorem Agr.refl {vs : List Nat} {G : List Sl} : Agr vs G G := fun _ _ => rfl
theorem Agr.set {vs : List Nat} {G G' : List Sl} {k : Nat} {s : Sl} (h : Agr vs G G') (hk : k ∈ vs) : Agr vs G (G'.set k s) := fun j hj => by
  rw [List.getElem?_set_ne (fun (z : k = j) => hj (by rw [← z]; exact hk))]; exact h j hj
section
variable {K : PySem.W.Frag} {H0 F H H1 Ha Hb He Hf : Hp} {σ σ2 : L2.St} {G G1 G4 : List Sl} {vs : List Nat}
theorem En.wipe (I : En K H0 F H H1 σ G) : ∀ vs : List Nat, En K H0 F H H1 (wipe σ vs) (wipeG G vs)
  | [] => I
  | v :: vs => (En.wipe I vs).forget v none
theorem wipeG_own {x : Addr} : ∀ {vs : List Nat}, Own (wipeG G vs) x → Own G x
  | [], h => h
  | v :: vs, ⟨i, d, h⟩ => by
    rcases set_own h with ⟨_, h⟩ | ⟨_, h⟩
    · exact wipeG_own (vs := vs) ⟨i, d, h⟩
    · cases h
theorem En.back (I1 : En K H0 F Ha Hb σ G1) (I5 : En K H0 F He Hf σ2 G4) (hv : NoOwn vs G1) (ag : Agr vs G1 G4) (hs : ∀ j, j ∉ vs → σ2[j]? = σ[j]?) (sb : Same Ha He) : En K H0 F He Hf σ G1 := by
  refine ⟨I5.b, I5.s, I5.f, I5.o, I1.len, fun i d h => ?_, fun i l d h => ?_, I1.nd, I5.fp, I5.p, I5.tab⟩
  · by_cases o : i ∈ vs
    · obtain ⟨v, e, r⟩ := I1.dat i d h
      exact ⟨v, e, r.mono sb⟩
    · obtain ⟨v, e, r⟩ := I5.dat i d ((ag i o).trans h)
      exact ⟨v, (hs i o).symm.trans e, r⟩
  · have o : i ∉ vs := fun m => hv i m l d h
    obtain ⟨e, r⟩ := I5.own i l d ((ag i o).trans h)
    exact ⟨(hs i o).symm.trans e, r⟩
theorem tab_lst {H : Hp} {l : Addr} {u : HO} {acc : List V} (h : H l = some (.lst acc)) (t : LamX.TabS H B.P B.q) : LamX.TabS (upd H l u) B.P B.q := by
  obtain ⟨ps, h1, h2, h3⟩ := t
  have n1 : B.P ≠ l := fun z => by subst z; rw [h1] at h; cases h
  refine ⟨ps, by rw [upd_ne n1]; exact h1, h2, fun pos cv hc => ?_⟩
  obtain ⟨c, e1, e2⟩ := h3 pos cv hc
  refine ⟨c, e1, ?_⟩
  have n2 : c ≠ l := fun z => by subst z; rw [e2] at h; unfold LamX.CodeO at h; cases h
  rw [upd_ne n2]; exact e2
theorem En.bump {p : Addr} {u : HO} {acc : List V} (hA : Hf p = some (.lst acc)) (I : En K H0 F He Hf σ G) (hF : F p = none) (hH : He p = none) (hO : ¬ Own G p) : En K H0 F He (upd Hf p u) σ G :=
  ⟨I.b, fun b o e => by rw [upd_ne (ne_of_none e hH)]; exact I.s b o e, fun b o e => by rw [upd_ne (ne_of_none e hF)]; exact I.f b o e, I.o, I.len, I.dat, fun i l d h => by
    obtain ⟨e1, e2, e3, v, e4, e5⟩ := I.own i l d h
    exact ⟨e1, e2, e3, v, by rw [upd_ne fun z => hO (by rw [← z]; exact ⟨i, d, h⟩)]; exact e4, e5⟩, I.nd, I.fp, I.p, tab_lst hA I.tab⟩
end
theorem take_snoc {α : Type} {l : List α} {i : Nat} {x : α} (h : l[i]? = some x) : l.take (i + 1) = l.take i ++ [x] := by
  rw [List.take_succ, h]; rfl
section
variable {K : PySem.W.Frag} {G : List Sl} {P : Dt → List Sl → Prop} {te : TE} {wi : TI} {g : TG} {tt : TT} {vs ts : List Nat}
/-- one turn of a comprehension's block, whatever became of the new list at D -/
theorem lc_turn {H0 F Hs H1s Ha Hb H H1 H' H2 : Hp} {σ : L2.St} {G1 : List Sl} {D : Addr} {acc : List V} {x : V} {d : Dt} {f : Dt → Option Dt} {Nx : Hp → Prop} (ht : Tch g ts) (hsub : ∀ i ∈ ts, i ∈ vs) (hv : NoOwn vs G1) (hb : Hb D = none) (I1 : En K H0 F Ha Hb σ G1) (s1 : Stp G G1 Hs H1s Ha Hb)
    (I2 : En K H0 F H H1 σ G1) (sb : Same Ha H) (S : Stp G G1 Hs H1s H H1) (hD : H D = none) (hA : H1 D = some (.lst acc)) (hz : acc.length < sizeLine) (g1 : Gr H H1 H' H2) (r : Rp K H' x d)
    (hs : GX K g d (wipeG G1 vs) fun G2 => TX K tt G2 fun b G3 => (b = true → EX K te G3 fun e G4 => Agr vs G1 G4 ∧ f d = some e) ∧ (b = false → Agr vs G1 G3 ∧ f d = none))
    (k : ∀ He Hf acc', En K H0 F He Hf σ G1 → Same H He → Stp G G1 Hs H1s He Hf → He D = none → Hf D = some (.lst acc') → (∃ ys, acc' = acc ++ ys ∧ Ra K He ys (f d).toList) → Nx Hf) :
    g x (wipe σ vs) H2 fun σ2 H2 => wipe σ2 vs = wipe σ vs ∧ tt σ2 H2 fun b H3 => if b = true then te σ2 H3 fun y H4 => ∃ acc, H4 D = some (.lst acc) ∧ acc.length < sizeLine ∧ Nx (upd H4 D (.lst (acc ++ [y]))) else Nx H3 := by
  have I3 := (I2.gr g1).wipe vs
  have hO1 : ¬ Own G1 D := fun z => by obtain ⟨w, hw, _⟩ := I1.ownH z; rw [hb] at hw; cases hw
  have nL : ∀ xs : List V, NT (.lst xs) := fun xs ps z => by cases z
  have hF : F D = none := by
    cases c : F D with
    | none => rfl
    | some w => rw [I1.f D w c] at hb; cases hb
  have hS : Fr H1s D := stp_fresh s1 (.of hb)
  refine ht x _ H2 (fun σ' Hx => Hx = H2 ∧ ∃ G', En K H0 F H' H2 σ' G' ∧ (∀ x, Own G' x → Own G1 x) ∧ TX K tt G' fun b G3 => (b = true → EX K te G3 fun e G4 => Agr vs G1 G4 ∧ f d = some e) ∧ (b = false → Agr vs G1 G3 ∧ f d = none)) _
    (hs H0 F H' H2 _ x _ I3 r fun σ' G' I' o' p' => ⟨rfl, G', I', fun z q => wipeG_own (o' z q), p'⟩) ?_
  rintro σ2 Hx ⟨rfl, G2, I4, o4, h4⟩ l2 a2
  have hσ : ∀ j, j ∉ vs → σ2[j]? = σ[j]? := fun j hj => (a2 j fun z => hj (hsub j z)).trans (wipe_out hj)
  refine ⟨wipe_eq (by rw [l2, wipe_length]) hσ, h4 H0 F H' _ σ2 _ I4 fun b G3 Hc Hd I5 s5 ⟨c1, c2⟩ => ?_⟩
  have hO2 : ¬ Own G2 D := fun z => hO1 (o4 D z)
  have own2 : ∀ y, ¬ Own G y → ¬ Own G2 y := fun y n z => n (s1.w y (o4 y z))
  cases b with
  | true =>
    refine c1 rfl H0 F Hc Hd σ2 _ I5 fun y e G4 He Hf I6 s6 r6 ⟨ag, ef⟩ => ?_
    have s7 := s5.trans s6
    have hDf : Hf D = some (.lst acc) := s7.k D _ (g1.a D _ hA (nL _)) hO2 (nL _)
    have hDe : He D = none := s7.o D _ (g1.a D _ hA (nL _)) trivial (g1.o D _ hA trivial hD) hO2
    refine ⟨acc, hDf, hz, k He _ (acc ++ [y]) ((I1.back I6 hv ag hσ (sb.trans (g1.b.trans s7.b))).bump hDf hF hDe hO1) (g1.b.trans s7.b) ⟨S.b.trans (g1.b.trans s7.b), fun z u hz hn m => ?_, fun z u hz m h0 hn => ?_, s1.w, fun z u hz m => ?_⟩ hDe upd_same ⟨[y], rfl, by rw [ef]; exact .cons r6 .nil⟩⟩
    · rw [upd_ne (hS.ne hz m)]
      exact s7.k z u (g1.a z u (S.k z u hz hn m) m) (own2 z hn) m
    · exact s7.o z u (g1.a z u (S.k z u hz hn m.nt) m.nt) m (g1.o z u (S.k z u hz hn m.nt) m (S.o z u hz m h0 hn)) (own2 z hn)
    · obtain ⟨v1, e1, m1, f1⟩ := S.t z u hz m
      obtain ⟨v2, e2, m2, f2⟩ := s7.t z v1 (g1.a z v1 e1 m1) m1
      exact ⟨v2, by rw [upd_ne (hS.ne hz m)]; exact e2, m2, fun w => f2 (f1 w)⟩
  | false =>
    obtain ⟨ag, ef⟩ := c2 rfl
    refine k Hc Hd acc (I1.back I5 hv ag hσ (sb.trans (g1.b.trans s5.b))) (g1.b.trans s5.b) ⟨S.b.trans (g1.b.trans s5.b), fun z u hz hn m => s5.k z u (g1.a z u (S.k z u hz hn m) m) (own2 z hn) m, fun z u hz m h0 hn => s5.o z u (g1.a z u (S.k z u hz hn m.nt) m.nt) m (g1.o z u (S.k z u hz hn m.nt) m (S.o z u hz m h0 hn)) (own2 z hn), s1.w, fun z u hz m => ?_⟩
      (s5.o D _ (g1.a D _ hA (nL _)) trivial (g1.o D _ hA trivial hD) hO2) (s5.k D _ (g1.a D _ hA (nL _)) hO2 (nL _)) ⟨[], by rw [List.append_nil], by rw [ef]; exact .nil⟩
    obtain ⟨v1, e1, m1, f1⟩ := S.t z u hz m
    obtain ⟨v2, e2, m2, f2⟩ := s5.t z v1 (g1.a z v1 e1 m1) m1
    exact ⟨v2, e2, m2, fun w => f2 (f1 w)⟩
/-- [e for tg in .. if ..] -/
theorem ef_lc (ht : Tch g ts) (hsub : ∀ i ∈ ts, i ∈ vs) (h : IX K wi G fun ds G1 => NoOwn vs G1 ∧ ds.length ≤ sizeLine ∧ ∃ f : Dt → Option Dt,
    (∀ d ∈ ds, GX K g d (wipeG G1 vs) fun G2 => TX K tt G2 fun b G3 => (b = true → EX K te G3 fun e G4 => Agr vs G1 G4 ∧ f d = some e) ∧ (b = false → Agr vs G1 G3 ∧ f d = none)) ∧ P (.lst (ds.filterMap f)) G1) : EF K (tLc wi g tt te vs) G P := fun H0 F Hs H1s σ Q I q =>
  h H0 F Hs H1s σ _ I fun J ds G1 Ha Hb I1 s1 hJ ⟨hv, hl, f, hs, p⟩ => fun D hD => by
    have hO1 : ¬ Own G1 D := fun z => by obtain ⟨w, hw, _⟩ := I1.ownH z; rw [hD] at hw; cases hw
    have g0 : Gr Ha Hb Ha (upd Hb D (.lst [])) := .of (Same.refl _) (I1.s.trans (Same.upd hD)) (Same.upd hD) (fun _ _ _ z => z) id
    refine ⟨fun i m H1 => m = ds.length - i ∧ i ≤ ds.length ∧ ∃ H acc, En K H0 F H H1 σ G1 ∧ Same Ha H ∧ Stp G G1 Hs H1s H H1 ∧ H D = none ∧ H1 D = some (.lst acc) ∧ acc.length ≤ i ∧ Ra K H acc ((ds.take i).filterMap f),
      ⟨ds.length, by omega, Nat.zero_le _, Ha, [], I1.gr g0, Same.refl _, s1.trans g0.stp, I1.s.free hD, upd_same, Nat.le_refl _, .nil⟩, ?_⟩
    rintro i m H1 ⟨rfl, hi, H, acc, I2, sb, S, hDn, hA, hal, hr⟩
    obtain ⟨j1, j2⟩ := hJ i H H1 sb I2.s
    by_cases hlt : i < ds.length
    · have hd : ds[i]? = some ds[i] := List.getElem?_eq_getElem hlt
      obtain ⟨jg, jy⟩ := j1 _ hd
      refine .inr ⟨jg, fun H1 => i + 1 ≤ ds.length ∧ ∃ H acc, En K H0 F H H1 σ G1 ∧ Same Ha H ∧ Stp G G1 Hs H1s H H1 ∧ H D = none ∧ H1 D = some (.lst acc) ∧ acc.length ≤ i + 1 ∧ Ra K H acc ((ds.take (i + 1)).filterMap f), fun H' z => ⟨_, by omega, rfl, z⟩, fun x H2 hy => ?_⟩
      obtain ⟨H', g1, r⟩ := jy x H2 hy
      refine lc_turn ht hsub hv hD I1 s1 I2 sb S hDn hA (by omega) g1 r (hs _ (List.mem_of_getElem? hd)) fun He Hf acc' I6 s6 S6 e1 e2 ⟨ys, e3, e4⟩ => ⟨hlt, He, acc', I6, sb.trans s6, S6, e1, e2, ?_, ?_⟩
      · rw [e3, List.length_append, e4.length]
        have : (f ds[i]).toList.length ≤ 1 := by cases f ds[i] <;> simp
        omega
      · rw [e3, take_snoc hd, List.filterMap_append]
        refine (hr.mono s6).append ?_
        have e5 : [ds[i]].filterMap f = (f ds[i]).toList := by cases e : f ds[i] <;> simp [e]
        rw [e5]; exact e4
    · have e : i = ds.length := by omega
      refine .inl ⟨j2 e, ?_⟩
      rw [e, List.take_length] at hr
      exact q D (.lst (ds.filterMap f)) _ G1 H H1 I2 S (stp_fresh s1 (.of hD)) hDn hA hr p

/-! ### whole defs -/
section
variable {Pr : Program} {w : World} {mg : Str → Option Value} {base : Heap} {f : Addr} {fd : FuncData} {x : Str} {st : Stmt} {N ps : List Str} {k : Nat}
variable {α : Type} {enc : α → List Dt} {sta : α → Dt} {ok : α → Prop} {post : α → Dt → Prop} {postO : α → Dt → Dt → Prop}
abbrev FnP (K : PySem.W.Frag) (x : Str) (st : Stmt) (f : Addr) (fd : FuncData) : Prop := FunD K x x (defArgs st) (defBody st) (defScope st) [] [] f fd
/-- the names at a def's entry -/
def G0 (N : List Str) (ds : List Sl) : List Sl := ds ++ List.replicate (N.length - ds.length) .emp
theorem start_get {N : List Str} {vs : List V} {i : Nat} (hi : i < vs.length) : (L2.start N vs)[i]? = some (vs[i]?) := by
  unfold L2.start
  rw [List.getElem?_append_left (by rw [List.length_map]; exact hi), List.getElem?_map, List.getElem?_eq_getElem hi]; rfl
/-- a heap without its tables -/
def cutT (H : Hp) : Hp := fun y => match H y with
  | some (.tbl _) => none
  | o => o
theorem cutT_no (H : Hp) : NoT (cutT H) := fun x ps e => by
  unfold cutT at e
  split at e
  · cases e
  · rename_i o h
    exact h ps e
theorem cutT_sub (H : Hp) : Same (cutT H) H := fun x u e => by
  unfold cutT at e
  split at e
  · cases e
  · exact e
theorem cutT_of {H : Hp} {x : Addr} {u : HO} (h : H x = some u) (n : NT u) : cutT H x = some u := by
  unfold cutT
  split
  · rename_i ps e
    rw [h] at e; exact absurd (Option.some.inj e) (n ps)
  · exact h
theorem cutT_fr {H : Hp} {p : Addr} (h : cutT H p = none) : Fr H p := fun u e n => by rw [cutT_of e n] at h; cases h
theorem gr_cut {K : PySem.W.Frag} {H H1 H' H2 : Hp} {σ : L2.St} {G : List Sl} (I : En K H (cutT H1) H' H2 σ G) : Gr H H1 H' H2 :=
  ⟨I.b, I.s, fun x u h n => I.f x u (cutT_of h n), fun x u h n => I.o x u (cutT_of h n.nt) n, fun _ => I.tab, fun _ => I.p⟩
theorem en_start {H H1 : Hp} {vs : List V} {ds : List Dt} (s : Same H H1) (hn : NoT H) (ht : LamX.TabS H1 B.P B.q) (r : Ra K H vs ds) (hl : ds.length ≤ N.length) : En K H (cutT H1) H H1 (L2.start N vs) (G0 N (ds.map .dat)) := by
  have hlv := r.length
  refine ⟨Same.refl _, s, cutT_sub _, fun _ _ _ _ h => h, ?_, fun i d h => ?_, fun i l d h => ?_, fun i j l d e h _ => ?_, cutT_no _, hn, ht⟩
  · unfold L2.start G0
    simp only [List.length_append, List.length_map, List.length_replicate, hlv]
  · unfold G0 at h
    by_cases hi : i < ds.length
    · rw [List.getElem?_append_left (by rw [List.length_map]; exact hi), List.getElem?_map, List.getElem?_eq_getElem hi] at h
      injection h with h; injection h with h
      obtain ⟨v, e, q⟩ := r.get (i := i) (d := d) (by rw [List.getElem?_eq_getElem hi, h])
      exact ⟨v, by rw [start_get (by omega), e], q⟩
    · rw [List.getElem?_append_right (by rw [List.length_map]; omega), List.getElem?_replicate] at h
      split at h <;> cases h
  all_goals
    unfold G0 at h
    exfalso
    by_cases hi : i < ds.length
    · rw [List.getElem?_append_left (by rw [List.length_map]; exact hi), List.getElem?_map, List.getElem?_eq_getElem hi] at h
      injection h with h; injection h
    · rw [List.getElem?_append_right (by rw [List.length_map]; omega), List.getElem?_replicate] at h
      split at h <;> cases h
theorem fn_P (F : FnP K x st f fd) (S : FnScope N ps (defScope st)) (hl : ∀ y, (enc y).length = ps.length) (hn : ps.length ≤ N.length)
    (hb : ∀ (cdv : Value) (A : Around) (outer : List Env) (s : Shared) (H : Hp) (E : XK), Room k (A.deeper (PyProof.Rows.envOfC x (defScope st) s.heap.objs.size f cdv)) →
      ∃ t, PSs (cxOf CX0 Pr w K mg base N x (defScope st) f cdv A outer s H E).nox (defBody st) t ∧ ∀ y, ok y → SX K t (G0 N ((enc y).map .dat)) (fun d _ => post y d) (fun _ => post y .non)) : FnOk Pr w K mg base CX0 (k + 1) f fd ps (SpP K enc ok post) := by
  refine F.ok S (fun vs H Q E h => ?_) (fun cdv A outer s H vs Q E hr h => ?_)
  · obtain ⟨_, y, _, _, _, r, _⟩ := h
    rw [r.length, hl]
  · obtain ⟨H0, y, sm, hn', ht', r, ho, q⟩ := h
    obtain ⟨t, ht, hs⟩ := hb cdv A outer s H E hr
    refine ⟨t, ht.nox, hs y ho H0 _ H0 H _ _ (en_start sm hn' ht' r (by rw [hl]; exact hn)) (fun v d σ' G' H' H2 I' r' p => q v d H' H2 (gr_cut I') r' p) fun σ' G' H' H2 I' p => q .non .non H' H2 (gr_cut I') .non p⟩

/-- a def that hands back a new object -/
def SXF (K : PySem.W.Frag) (t : TS) (G : List Sl) (R : Dt → Prop) : Prop := ∀ (H0 F H H1 : Hp) (σ : L2.St) (D : Ends), En K H0 F H H1 σ G →
  (∀ p d u σ' G' H' H2, En K H0 F H' H2 σ' G' → F p = none → H' p = none → H2 p = some u → Ob K H' u d → R d → D.rt (.ref p) H2) → t D σ H1
theorem sxf_seq {G : List Sl} {t u : TS} {R : Dt → Prop} (h : SX K t G (fun _ _ => False) fun G1 => SXF K u G1 R) : SXF K (tSeq t u) G R := fun H0 F H H1 σ D I q =>
  h H0 F H H1 σ _ I (fun _ _ _ _ _ _ _ _ z => z.elim) fun σ' G' H' H2 I' h' => h' H0 F H' H2 σ' D I' q
/-- return of a name that holds an object of one's own -/
theorem sxf_ret {G : List Sl} {i : Nat} {l : Addr} {d : Dt} {R : Dt → Prop} (h : G[i]? = some (.own l d)) (p : R d) : SXF K (tRet (tVar i)) G R := fun H0 F H H1 σ D I q => by
  obtain ⟨e1, e2, e3, u, e4, e5⟩ := I.own i l d h
  exact ⟨.ref l, e1, q l d u σ G H H1 I e2 e3 e4 e5 p⟩
theorem sxf_retF {te : TE} {G : List Sl} {R : Dt → Prop} (h : EF K te G fun d _ => R d) : SXF K (tRet te) G R := fun H0 F H H1 σ D I q => h H0 F H H1 σ _ I fun p d u G' H' H2 I' s a1 a2 a3 a4 z => by
  exact q p d u σ G' H' H2 I' (a1.sub I.fp I.f) a2 a3 a4 z
theorem fn_N (F : FnP K x st f fd) (S : FnScope N ps (defScope st)) (hl : ∀ y, (enc y).length = ps.length) (hn : ps.length ≤ N.length)
    (hb : ∀ (cdv : Value) (A : Around) (outer : List Env) (s : Shared) (H : Hp) (E : XK), Room k (A.deeper (PyProof.Rows.envOfC x (defScope st) s.heap.objs.size f cdv)) →
      ∃ t, PSs (cxOf CX0 Pr w K mg base N x (defScope st) f cdv A outer s H E).nox (defBody st) t ∧ ∀ y, ok y → SXF K t (G0 N ((enc y).map .dat)) (post y)) : FnOk Pr w K mg base CX0 (k + 1) f fd ps (SpN K enc ok post) := by
  refine F.ok S (fun vs H Q E h => ?_) (fun cdv A outer s H vs Q E hr h => ?_)
  · obtain ⟨_, y, _, _, _, r, _⟩ := h
    rw [r.length, hl]
  · obtain ⟨H0, y, sm, hn', ht', r, ho, q⟩ := h
    obtain ⟨t, ht, hs⟩ := hb cdv A outer s H E hr
    exact ⟨t, ht.nox, hs y ho H0 _ H0 H _ _ (en_start sm hn' ht' r (by rw [hl]; exact hn)) fun p d u σ' G' H' H2 I' a1 a2 a3 a4 z => q p d u H' H2 (gr_cut I') (cutT_fr a1) a2 a3 a4 z⟩
/-- the names of a def whose j-th argument may change -/
def GO (N : List Str) (j : Nat) (l : Addr) (s : Dt) (ds : List Dt) : List Sl := G0 N ((ds.take j).map .dat ++ .own l s :: (ds.drop j).map .dat)
theorem en_startO {H H1 : Hp} {vs : List V} {ds : List Dt} {j : Nat} {l : Addr} {s0 : Dt} {u : HO} (s : Same H H1) (hn : NoT H) (ht : LamX.TabS H1 B.P B.q) (r : Ra K H vs ds) (hj : j ≤ ds.length) (hl : ds.length + 1 ≤ N.length) (e1 : H l = none) (e2 : H1 l = some u) (e3 : Ob K H u s0) :
    En K H (fun y => if y = l then none else cutT H1 y) H H1 (L2.start N (vs.take j ++ .ref l :: vs.drop j)) (GO N j l s0 ds) := by
  have hlv := r.length
  have hlen : (vs.take j ++ .ref l :: vs.drop j).length = ds.length + 1 := by rw [List.length_append, List.length_cons, List.length_take, List.length_drop]; omega
  have hlen2 : ((ds.take j).map Sl.dat ++ .own l s0 :: (ds.drop j).map Sl.dat).length = ds.length + 1 := by rw [List.length_append, List.length_cons, List.length_map, List.length_map, List.length_take, List.length_drop]; omega
  have key : ∀ (i : Nat) (c : Sl), (GO N j l s0 ds)[i]? = some c → c = .emp ∨ (i = j ∧ c = .own l s0 ∧ (L2.start N (vs.take j ++ .ref l :: vs.drop j))[i]? = some (some (.ref l))) ∨ ∃ d v, c = .dat d ∧ (L2.start N (vs.take j ++ .ref l :: vs.drop j))[i]? = some (some v) ∧ Rp K H v d := fun i c h => by
    unfold GO G0 at h
    by_cases hi : i < ds.length + 1
    · rw [List.getElem?_append_left (by rw [hlen2]; exact hi)] at h
      rw [start_get (by rw [hlen]; exact hi)]
      rcases Nat.lt_trichotomy i j with c1 | c1 | c1
      · rw [List.getElem?_append_left (by rw [List.length_map, List.length_take]; omega), List.getElem?_map, List.getElem?_take_of_lt c1] at h
        rw [List.getElem?_append_left (by rw [List.length_take]; omega), List.getElem?_take_of_lt c1]
        obtain ⟨d, hd⟩ : ∃ d, ds[i]? = some d := ⟨ds[i], List.getElem?_eq_getElem (by omega)⟩
        rw [hd] at h
        obtain ⟨v, ev, q⟩ := r.get hd
        exact .inr (.inr ⟨d, v, (Option.some.inj h).symm, by rw [ev], q⟩)
      · subst c1
        rw [List.getElem?_append_right (by rw [List.length_map, List.length_take]; omega), List.length_map, List.length_take, Nat.min_eq_left hj, Nat.sub_self] at h
        rw [List.getElem?_append_right (by rw [List.length_take]; omega), List.length_take, Nat.min_eq_left (by omega), Nat.sub_self]
        exact .inr (.inl ⟨rfl, (Option.some.inj h).symm, rfl⟩)
      · rw [List.getElem?_append_right (by rw [List.length_map, List.length_take]; omega), List.length_map, List.length_take, Nat.min_eq_left hj] at h
        rw [List.getElem?_append_right (by rw [List.length_take]; omega), List.length_take, Nat.min_eq_left (by omega)]
        obtain ⟨m, hm⟩ : ∃ m, i - j = m + 1 := ⟨i - j - 1, by omega⟩
        rw [hm, List.getElem?_cons_succ, List.getElem?_map, List.getElem?_drop] at h
        rw [hm, List.getElem?_cons_succ, List.getElem?_drop]
        obtain ⟨d, hd⟩ : ∃ d, ds[j + m]? = some d := ⟨ds[j + m], List.getElem?_eq_getElem (by omega)⟩
        rw [hd] at h
        obtain ⟨v, ev, q⟩ := r.get hd
        exact .inr (.inr ⟨d, v, (Option.some.inj h).symm, by rw [ev], q⟩)
    · rw [List.getElem?_append_right (by rw [hlen2]; omega), List.getElem?_replicate] at h
      split at h
      · exact .inl (Option.some.inj h).symm
      · cases h
  refine ⟨Same.refl _, s, fun b o e => ?_, fun _ _ _ _ h => h, ?_, fun i d h => ?_, fun i m d h => ?_, fun i i' m d e h h' => ?_, fun x ps e => ?_, hn, ht⟩
  · by_cases c : b = l
    · simp [c] at e
    · exact cutT_sub _ _ _ (by simpa [c] using e)
  · unfold L2.start GO G0
    rw [hlen2]
    simp only [List.length_append, List.length_map, List.length_replicate, List.length_cons, List.length_take, List.length_drop]
    omega
  · rcases key i _ h with c | ⟨_, c, _⟩ | ⟨d', v, c, e, q⟩
    · cases c
    · cases c
    · injection c with c; subst c; exact ⟨v, e, q⟩
  · rcases key i _ h with c | ⟨_, c, e⟩ | ⟨d', v, c, _, _⟩
    · cases c
    · injection c with c1 c2; subst c1 c2
      exact ⟨e, by simp, e1, u, e2, e3⟩
    · cases c
  · rcases key i _ h with c | ⟨n1, _, _⟩ | ⟨_, _, c, _, _⟩
    · cases c
    · rcases key i' _ h' with c | ⟨n2, _, _⟩ | ⟨_, _, c, _, _⟩
      · cases c
      · rw [n1, n2]
      · cases c
    · cases c
  · by_cases c : x = l
    · simp [c] at e
    · exact cutT_no _ _ _ (by simpa [c] using e)
theorem fn_O {j : Nat} (F : FnP K x st f fd) (S : FnScope N ps (defScope st)) (hl : ∀ y, (enc y).length + 1 = ps.length) (hn : ps.length ≤ N.length) (hj : j + 1 ≤ ps.length)
    (hb : ∀ (cdv : Value) (A : Around) (outer : List Env) (s : Shared) (H : Hp) (E : XK), Room k (A.deeper (PyProof.Rows.envOfC x (defScope st) s.heap.objs.size f cdv)) →
      ∃ t, PSs (cxOf CX0 Pr w K mg base N x (defScope st) f cdv A outer s H E).nox (defBody st) t ∧ ∀ y, ok y → ∀ l, SX K t (GO N j l (sta y) (enc y)) (fun d G => ∃ s, G[j]? = some (.own l s) ∧ postO y d s) (fun G => ∃ s, G[j]? = some (.own l s) ∧ postO y .non s)) :
    FnOk Pr w K mg base CX0 (k + 1) f fd ps (SpO K j enc sta ok postO) := by
  refine F.ok S (fun vs H Q E h => ?_) (fun cdv A outer s H vs Q E hr h => ?_)
  · obtain ⟨_, y, _, us, _, rfl, _, _, _, r, _⟩ := h
    have := r.length
    have := hl y
    rw [List.length_append, List.length_cons, List.length_take, List.length_drop]
    omega
  · obtain ⟨H0, y, l, us, u, rfl, sm, hn', ht', r, e1, e2, e3, ho, q⟩ := h
    obtain ⟨t, ht, hs⟩ := hb cdv A outer s H E hr
    have := hl y
    have fin : ∀ {v d s' σ' G' H' H2}, En K H0 (fun y => if y = l then none else cutT H y) H' H2 σ' G' → Rp K H' v d → G'[j]? = some (.own l s') → postO y d s' → Q v H2 := fun {v d s' σ' G' H' H2} I' r' hG p => by
      obtain ⟨a1, a2, a3, u', a4, a5⟩ := I'.own j l s' hG
      exact q v d s' H' H2 u' ⟨I'.b, I'.s, fun z w hz hne m => I'.f z w (by simpa [hne] using cutT_of hz m), fun z w hz m h0 hne => I'.o z w (by simpa [hne] using cutT_of hz m.nt) m h0, I'.tab, I'.p⟩ a3 a4 a5 r' p
    exact ⟨t, ht.nox, hs y ho l H0 _ H0 H _ _ (en_startO sm hn' ht' r (by omega) (by omega) e1 e2 e3) (fun v d σ' G' H' H2 I' r' ⟨s', hG, p⟩ => fin I' r' hG p) fun σ' G' H' H2 I' ⟨s', hG, p⟩ => fin I' .non hG p⟩
end
end
end Wd

set_option Elab.async false
set_option linter.all false
set_option maxRecDepth 100000
/-! D5: operations on data. -/
namespace Wd
open PySem L2

/-! ### data as the library's own -/
mutual
def Dt.pd : Dt → PyData
  | .non => .none
  | .bl b => .bool b
  | .int i => .int i
  | .str x => .str x
  | .lst xs => .list (Dt.pds xs)
  | .tup xs => .tuple (Dt.pds xs)
  | .pt _ => .dict []
  | .dk _ => .dict []
  | .dt _ => .dict []
  | .fl _ => .dict []
  | .ad _ => .dict []
def Dt.pds : List Dt → List PyData
  | [] => []
  | x :: xs => x.pd :: Dt.pds xs
end
mutual
/-- numbers, texts, None, tuples and lists of these, no deeper than n -/
def Dt.pl : Nat → Dt → Bool
  | _, .non => true
  | _, .int _ => true
  | _, .str x => PyData.strOk x
  | n + 1, .lst xs => Dt.pls n xs
  | n + 1, .tup xs => Dt.pls n xs
  | _, _ => false
def Dt.pls : Nat → List Dt → Bool
  | _, [] => true
  | n, x :: xs => Dt.pl n x && Dt.pls n xs
end
theorem Dt.pds_eq : ∀ xs : List Dt, Dt.pds xs = xs.map Dt.pd
  | [] => rfl
  | x :: xs => by rw [Dt.pds, Dt.pds_eq xs]; rfl
theorem Dt.pls_all : ∀ (n : Nat) (xs : List Dt), Dt.pls n xs = xs.all (Dt.pl n)
  | _, [] => rfl
  | n, x :: xs => by rw [Dt.pls, Dt.pls_all n xs]; rfl
section
variable {K : PySem.W.Frag} {H : Hp}
mutual
theorem Rp.dp : ∀ {v : V} {d : Dt} (n : Nat), Rp K H v d → Dt.pl n d = true → Dp K H v d.pd
  | _, _, _, .non, _ => .non
  | _, _, _, .int i, _ => .int i
  | _, _, _, .str x, _ => .str x
  | _, _, _, .bl _, h => by simp [Dt.pl] at h
  | _, _, _, .pt _ _ _ _, h => by simp [Dt.pl] at h
  | _, _, _, .dk _ _, h => by simp [Dt.pl] at h
  | _, _, _, .dt _ _, h => by simp [Dt.pl] at h
  | _, _, _, .fl _, h => by simp [Dt.pl] at h
  | _, _, _, .ad _, h => by simp [Dt.pl] at h
  | _, _, 0, .lst _ _, h => by simp [Dt.pl] at h
  | _, _, 0, .tup _ _, h => by simp [Dt.pl] at h
  | _, _, 0, .ftup _ _ _, h => by simp [Dt.pl] at h
  | _, _, n + 1, .lst a r, h => .lst (SqL.of a) (r.dp n (by simpa [Dt.pl] using h))
  | _, _, n + 1, .tup a r, h => .tup (SqT.of a) (r.dp n (by simpa [Dt.pl] using h))
  | _, _, n + 1, .ftup a _ r, h => .tup (.inl (.inr ⟨_, a⟩)) (r.dp n (by simpa [Dt.pl] using h))
theorem Ra.dp : ∀ {vs : List V} {ds : List Dt} (n : Nat), Ra K H vs ds → Dt.pls n ds = true → DpAll K H vs (Dt.pds ds)
  | _, _, _, .nil, _ => .nil
  | _, _, n, .cons a r, h => by
    rw [Dt.pls, Bool.and_eq_true] at h
    exact .cons (a.dp n h.1) (r.dp n h.2)
end
end
mutual
theorem pl_depth : ∀ (n : Nat) (d : Dt), Dt.pl n d = true → d.pd.depth ≤ n ∧ d.pd.canLay0 = true
  | _, .non, _ => by simp [Dt.pd, PyData.depth, PyData.canLay0]
  | _, .int _, _ => by simp [Dt.pd, PyData.depth, PyData.canLay0]
  | _, .str x, h => by
    refine ⟨by simp [Dt.pd, PyData.depth], ?_⟩
    simpa [Dt.pd, PyData.canLay0, Dt.pl] using h
  | _, .bl _, h => by simp [Dt.pl] at h
  | _, .pt _, h => by simp [Dt.pl] at h
  | _, .dk _, h => by simp [Dt.pl] at h
  | _, .dt _, h => by simp [Dt.pl] at h
  | _, .fl _, h => by simp [Dt.pl] at h
  | _, .ad _, h => by simp [Dt.pl] at h
  | 0, .lst _, h => by simp [Dt.pl] at h
  | 0, .tup _, h => by simp [Dt.pl] at h
  | n + 1, .lst xs, h => by
    obtain ⟨h1, h2⟩ := pls_depth n xs (by simpa [Dt.pl] using h)
    constructor
    · simp only [Dt.pd, PyData.depth]; omega
    · simpa only [Dt.pd, PyData.canLay0] using h2
  | n + 1, .tup xs, h => by
    obtain ⟨h1, h2⟩ := pls_depth n xs (by simpa [Dt.pl] using h)
    constructor
    · simp only [Dt.pd, PyData.depth]; omega
    · simpa only [Dt.pd, PyData.canLay0] using h2
theorem pls_depth : ∀ (n : Nat) (xs : List Dt), Dt.pls n xs = true → PyData.depthAll (Dt.pds xs) ≤ n ∧ PyData.canLayAll0 (Dt.pds xs) = true
  | _, [], _ => by simp [Dt.pds, PyData.depthAll, PyData.canLayAll0]
  | n, x :: xs, h => by
    rw [Dt.pls, Bool.and_eq_true] at h
    obtain ⟨a1, a2⟩ := pl_depth n x h.1
    obtain ⟨b1, b2⟩ := pls_depth n xs h.2
    simp only [Dt.pds, PyData.depthAll, PyData.canLayAll0, Bool.and_eq_true]
    exact ⟨by omega, a2, b2⟩
end
theorem pl_shaped {n : Nat} {d : Dt} (hn : n ≤ 64) (h : Dt.pl n d = true) : SeqAt.shaped d.pd = true := by
  obtain ⟨a, b⟩ := pl_depth n d h
  unfold SeqAt.shaped
  rw [b, Bool.true_and]
  exact decide_eq_true (by omega)
mutual
theorem pl_eqv : ∀ (n : Nat) (d e : Dt), Dt.pl n d = true → Dt.pl n e = true → (PyData.eqv d.pd e.pd = true ↔ d = e)
  | n, .non, e, _, he => by cases e <;> simp [Dt.pd, PyData.eqv]
  | n, .int _, e, _, he => by cases e <;> simp_all [Dt.pd, PyData.eqv, Dt.pl]
  | n, .str _, e, _, he => by cases e <;> simp [Dt.pd, PyData.eqv]
  | _, .bl _, _, h, _ => by simp [Dt.pl] at h
  | _, .pt _, _, h, _ => by simp [Dt.pl] at h
  | _, .dk _, _, h, _ => by simp [Dt.pl] at h
  | _, .dt _, _, h, _ => by simp [Dt.pl] at h
  | _, .fl _, _, h, _ => by simp [Dt.pl] at h
  | _, .ad _, _, h, _ => by simp [Dt.pl] at h
  | 0, .lst _, _, h, _ => by simp [Dt.pl] at h
  | 0, .tup _, _, h, _ => by simp [Dt.pl] at h
  | n + 1, .lst xs, e, h, he => by
    cases e with
    | lst ys =>
      have := pls_eqv n xs ys (by simpa [Dt.pl] using h) (by simpa [Dt.pl] using he)
      simpa only [Dt.pd, PyData.eqv, Dt.lst.injEq] using this
    | _ => simp [Dt.pd, PyData.eqv]
  | n + 1, .tup xs, e, h, he => by
    cases e with
    | tup ys =>
      have := pls_eqv n xs ys (by simpa [Dt.pl] using h) (by simpa [Dt.pl] using he)
      simpa only [Dt.pd, PyData.eqv, Dt.tup.injEq] using this
    | _ => simp [Dt.pd, PyData.eqv]
theorem pls_eqv : ∀ (n : Nat) (xs ys : List Dt), Dt.pls n xs = true → Dt.pls n ys = true → (PyData.eqvAll (Dt.pds xs) (Dt.pds ys) = true ↔ xs = ys)
  | _, [], ys, _, _ => by cases ys <;> simp [Dt.pds, PyData.eqvAll]
  | n, x :: xs, [], _, _ => by simp [Dt.pds, PyData.eqvAll]
  | n, x :: xs, y :: ys, h, he => by
    rw [Dt.pls, Bool.and_eq_true] at h he
    simp only [Dt.pds, PyData.eqvAll, Bool.and_eq_true, List.cons.injEq]
    rw [pl_eqv n x y h.1 he.1, pls_eqv n xs ys h.2 he.2]
end

section
variable {K : PySem.W.Frag} {H H' : Hp}
theorem Same.sq {a : Addr} {xs : List V} (s : Same H H') (h : SqT K H a xs) : SqT K H' a xs := by
  rcases h with h | h
  · exact .inl (Same.rd s h)
  · exact .inr h
mutual
theorem dp_same (s : Same H H') : ∀ {v : V} {d : PyData}, Dp K H v d → Dp K H' v d
  | _, _, .non => .non
  | _, _, .bl b => .bl b
  | _, _, .int i => .int i
  | _, _, .str x => .str x
  | _, _, .lst h r => .lst (s.seq h) (dps_same s r)
  | _, _, .tup h r => .tup (Same.sq s h) (dps_same s r)
theorem dps_same (s : Same H H') : ∀ {vs : List V} {ds : List PyData}, DpAll K H vs ds → DpAll K H' vs ds
  | _, _, .nil => .nil
  | _, _, .cons h r => .cons (dp_same s h) (dps_same s r)
end
end
variable [B : Tb]
section
variable {K : PySem.W.Frag} {G : List Sl} {P : Dt → List Sl → Prop} {Q : Dt → Prop} {te ta tb : TE}
theorem Ra.atI {H : Hp} {vs : List V} {ds : List Dt} {i : Int} {d : Dt} (r : Ra K H vs ds) (h : atI ds i = some d) : ∃ v, L2.atI vs i = some v ∧ Rp K H v d := by
  unfold L2.atI at h ⊢
  rw [r.length]
  cases e : ixN ds.length i with
  | none => rw [e] at h; cases h
  | some j => rw [e] at h; exact r.get h

/-! ### two places -/
theorem od_int {g : Int → Int → Int} {i j : Int} (p : Q (.int (g i j))) : OD K (rI0 fun i j => .int (g i j)) (.int i) (.int j) Q := fun H H1 a b W s r1 r2 k => by
  rw [r1.int_inv, r2.int_inv]
  exact ⟨i, j, rfl, rfl, k _ _ H H1 (Gr.refl s) (.int _) p⟩
theorem od_bool {g : Int → Int → Bool} {i j : Int} (p : Q (.bl (g i j))) : OD K (rI0 fun i j => .bl (g i j)) (.int i) (.int j) Q := fun H H1 a b W s r1 r2 k => by
  rw [r1.int_inv, r2.int_inv]
  exact ⟨i, j, rfl, rfl, k _ _ H H1 (Gr.refl s) (.bl _) p⟩
theorem od_intC {C : Int → Int → Prop} {g : Int → Int → Int} {i j : Int} (c : C i j) (p : Q (.int (g i j))) : OD K (rI C fun i j => .int (g i j)) (.int i) (.int j) Q := fun H H1 a b W s r1 r2 k => by
  rw [r1.int_inv, r2.int_inv]
  exact ⟨i, j, rfl, rfl, c, k _ _ H H1 (Gr.refl s) (.int _) p⟩
theorem od_eqI {i j : Int} (p : Q (.bl (decide (i = j)))) : OD K rEq (.int i) (.int j) Q := fun H H1 a b W s r1 r2 k => by
  rw [r1.int_inv, r2.int_inv]
  have e : decide (V.int i = V.int j) = decide (i = j) := by simp
  exact ⟨rfl, by rw [e]; exact k _ _ H H1 (Gr.refl s) (.bl _) p⟩
theorem od_neI {i j : Int} (p : Q (.bl (!decide (i = j)))) : OD K rNe (.int i) (.int j) Q := fun H H1 a b W s r1 r2 k => by
  rw [r1.int_inv, r2.int_inv]
  have e : decide (V.int i = V.int j) = decide (i = j) := by simp
  exact ⟨rfl, by rw [e]; exact k _ _ H H1 (Gr.refl s) (.bl _) p⟩
theorem od_eqS {i j : Str} (p : Q (.bl (decide (i = j)))) : OD K rEq (.str i) (.str j) Q := fun H H1 a b W s r1 r2 k => by
  rw [r1.str_inv, r2.str_inv]
  have e : decide (V.str i = V.str j) = decide (i = j) := by simp
  exact ⟨rfl, by rw [e]; exact k _ _ H H1 (Gr.refl s) (.bl _) p⟩
theorem od_neS {i j : Str} (p : Q (.bl (!decide (i = j)))) : OD K rNe (.str i) (.str j) Q := fun H H1 a b W s r1 r2 k => by
  rw [r1.str_inv, r2.str_inv]
  have e : decide (V.str i = V.str j) = decide (i = j) := by simp
  exact ⟨rfl, by rw [e]; exact k _ _ H H1 (Gr.refl s) (.bl _) p⟩
theorem od_eqB {i j : Bool} (p : Q (.bl (decide (i = j)))) : OD K rEq (.bl i) (.bl j) Q := fun H H1 a b W s r1 r2 k => by
  rw [r1.bl_inv, r2.bl_inv]
  have e : decide (V.bl i = V.bl j) = decide (i = j) := by simp
  exact ⟨rfl, by rw [e]; exact k _ _ H H1 (Gr.refl s) (.bl _) p⟩
theorem od_neB {i j : Bool} (p : Q (.bl (!decide (i = j)))) : OD K rNe (.bl i) (.bl j) Q := fun H H1 a b W s r1 r2 k => by
  rw [r1.bl_inv, r2.bl_inv]
  have e : decide (V.bl i = V.bl j) = decide (i = j) := by simp
  exact ⟨rfl, by rw [e]; exact k _ _ H H1 (Gr.refl s) (.bl _) p⟩
/-- == of data, no bools within -/
theorem od_eqD {n : Nat} {x y : Dt} (hn : n ≤ 64) (hx : Dt.pl n x = true) (hy : Dt.pl n y = true) (p : ∀ b : Bool, (b = true ↔ x = y) → Q (.bl b)) : OD K (rEqD K) x y Q := fun H H1 a b W s r1 r2 k =>
  ⟨x.pd, y.pd, (r1.mono s).dp n hx, (r2.mono s).dp n hy, pl_shaped hn hx, pl_shaped hn hy, k _ _ H H1 (Gr.refl s) (.bl _) (p _ (pl_eqv n x y hx hy))⟩
theorem od_neD {n : Nat} {x y : Dt} (hn : n ≤ 64) (hx : Dt.pl n x = true) (hy : Dt.pl n y = true) (p : ∀ b : Bool, (b = true ↔ x ≠ y) → Q (.bl b)) : OD K (rNeD K) x y Q := fun H H1 a b W s r1 r2 k =>
  ⟨x.pd, y.pd, (r1.mono s).dp n hx, (r2.mono s).dp n hy, pl_shaped hn hx, pl_shaped hn hy, k _ _ H H1 (Gr.refl s) (.bl _) (p _ (by
    rw [Bool.not_eq_true', ← Bool.not_eq_true, pl_eqv n x y hx hy]))⟩
/-- x in [..], data -/
theorem any_eqv {n : Nat} {x : Dt} (hx : Dt.pl n x = true) : ∀ {ds : List Dt}, Dt.pls n ds = true → (((Dt.pds ds).any fun z => PyData.eqv z x.pd) = true ↔ x ∈ ds)
  | [], _ => by simp [Dt.pds]
  | d :: ds, h => by
    rw [Dt.pls, Bool.and_eq_true] at h
    rw [Dt.pds, List.any_cons, Bool.or_eq_true, pl_eqv n d x h.1 hx, any_eqv hx h.2, List.mem_cons, eq_comm]
theorem od_inD {n : Nat} {x : Dt} {ds : List Dt} (hn : n < 64) (hx : Dt.pl n x = true) (hd : Dt.pls n ds = true) (p : ∀ b : Bool, (b = true ↔ x ∈ ds) → Q (.bl b)) : OD K (rInD K) x (.lst ds) Q := fun H H1 a b W s r1 r2 k => by
  have hl : Dt.pl (n + 1) (.lst ds) = true := by rw [Dt.pl]; exact hd
  exact ⟨x.pd, Dt.pds ds, (r1.mono s).dp n hx, (r2.mono s).dp (n + 1) hl, pl_shaped (by omega) hx, pl_shaped (d := .lst ds) (by omega) hl, k _ _ H H1 (Gr.refl s) (.bl _) (p _ (any_eqv hx hd))⟩
theorem od_notInD {n : Nat} {x : Dt} {ds : List Dt} (hn : n < 64) (hx : Dt.pl n x = true) (hd : Dt.pls n ds = true) (p : ∀ b : Bool, (b = true ↔ x ∉ ds) → Q (.bl b)) : OD K (rNotInD K) x (.lst ds) Q := fun H H1 a b W s r1 r2 k => by
  have hl : Dt.pl (n + 1) (.lst ds) = true := by rw [Dt.pl]; exact hd
  exact ⟨x.pd, Dt.pds ds, (r1.mono s).dp n hx, (r2.mono s).dp (n + 1) hl, pl_shaped (by omega) hx, pl_shaped (d := .lst ds) (by omega) hl, k _ _ H H1 (Gr.refl s) (.bl _) (p _ (by
    rw [Bool.not_eq_true', ← Bool.not_eq_true, any_eqv hx hd]))⟩
/-- a text in a list or tuple of texts -/
theorem inV_str (x : Str) : ∀ xs : List Str, inV (.str x) (xs.map V.str) = decide (x ∈ xs)
  | [] => rfl
  | y :: ys => by
    have ih := inV_str x ys
    unfold inV at ih ⊢
    rw [List.map_cons, List.any_cons, ih]
    show (y == x || decide (x ∈ ys)) = decide (x ∈ y :: ys)
    by_cases e : y = x
    · subst e; simp
    · have e' : ¬ x = y := fun z => e z.symm
      simp [e, e', List.mem_cons]
theorem od_inS {neg : Bool} {x : Str} {d : Dt} {xs : List Str} (hd : d.seq = some (xs.map Dt.str)) (p : Q (.bl (if neg then !decide (x ∈ xs) else decide (x ∈ xs)))) : OD K (rIn K neg) (.str x) d Q := fun H H1 a b W s r1 r2 k => by
  rw [r1.str_inv]
  have fl : ∀ xs : List Str, (xs.map V.str).all flatV = true := fun xs => by rw [List.all_eq_true]; intro v hv; obtain ⟨z, _, rfl⟩ := List.mem_map.mp hv; rfl
  have fin : W (.bl (if neg then !inV (.str x) (xs.map V.str) else inV (.str x) (xs.map V.str))) H1 := by
    rw [inV_str]; exact k _ _ H H1 (Gr.refl s) (.bl _) p
  cases d with
  | lst ds =>
    cases hd
    obtain ⟨l, vs, rfl, h, r⟩ := r2.lst_inv
    cases r.strs_inv
    exact ⟨l, _, rfl, .inl (SqL.of (s _ _ h)), rfl, fl xs, fin⟩
  | tup ds =>
    cases hd
    obtain ⟨l, vs, rfl, h, r⟩ := r2.tup_inv
    cases r.strs_inv
    exact ⟨l, _, rfl, .inr (.inl (Same.rd s h)), rfl, fl xs, fin⟩
  | _ => cases hd
/-- an item -/
theorem od_ix {x : Dt} {ds : List Dt} {i : Int} {d : Dt} (hx : x.seq = some ds) (h : atI ds i = some d) (p : Q d) : OD K (rIx K) x (.int i) Q := fun H H1 a b W s r1 r2 k => by
  rw [r2.int_inv]
  cases x with
  | lst es =>
    cases hx
    obtain ⟨l, vs, rfl, e, r⟩ := r1.lst_inv
    obtain ⟨v, e1, e2⟩ := r.atI h
    exact .inl ⟨l, vs, i, v, rfl, rfl, SqL.of (s _ _ e), e1, k v d H H1 (Gr.refl s) e2 p⟩
  | tup es =>
    cases hx
    obtain ⟨l, vs, rfl, e, r⟩ := r1.tup_inv
    obtain ⟨v, e1, e2⟩ := r.atI h
    exact .inr (.inl ⟨l, vs, i, v, rfl, rfl, .inl (Same.rd s e), e1, k v d H H1 (Gr.refl s) e2 p⟩)
  | _ => cases hx
theorem od_ixFl {ns : List Int} {i n : Int} (h : atI ns i = some n) (p : Q (.int n)) : OD K (rIx K) (.fl ns) (.int i) Q := fun H H1 a b W s r1 r2 k => by
  rw [r2.int_inv]
  obtain ⟨l, rfl, e⟩ := r1.fl_inv
  refine .inl ⟨l, _, i, .int n, rfl, rfl, s.seq e, ?_, k _ _ H H1 (Gr.refl s) (.int n) p⟩
  unfold atI at h ⊢
  rw [List.length_map]
  cases q : ixN ns.length i with
  | none => rw [q] at h; cases h
  | some j => rw [q] at h; show (ns.map V.int)[j]? = _; rw [List.getElem?_map, show ns[j]? = some n from h]; rfl
theorem od_ixS {x : Str} {i : Int} {c : Nat} (hl : x.length ≤ sizeLine) (h : atI x.cps.toList i = some c) (p : Q (.str ⟨#[c]⟩)) : OD K (rIx K) (.str x) (.int i) Q := fun H H1 a b W s r1 r2 k => by
  rw [r1.str_inv, r2.int_inv]
  exact .inr (.inr ⟨x, i, c, rfl, rfl, hl, h, k _ _ H H1 (Gr.refl s) (.str _) p⟩)
theorem od_addS {x y : Str} (hl : x.length + y.length ≤ sizeLine) (p : Q (.str (x ++ y))) : OD K (fun x y H Q => ∃ i j, x = .str i ∧ y = .str j ∧ i.length + j.length ≤ sizeLine ∧ Q (.str (i ++ j)) H) (.str x) (.str y) Q := fun H H1 a b W s r1 r2 k => by
  rw [r1.str_inv, r2.str_inv]
  exact ⟨x, y, rfl, rfl, hl, k _ _ H H1 (Gr.refl s) (.str _) p⟩
theorem od_ltS {x y : Str} (p : Q (.bl (decide (x.cps.toList < y.cps.toList)))) : OD K (fun x y H Q => ∃ i j, x = .str i ∧ y = .str j ∧ Q (.bl (decide (i.cps.toList < j.cps.toList))) H) (.str x) (.str y) Q := fun H H1 a b W s r1 r2 k => by
  rw [r1.str_inv, r2.str_inv]
  exact ⟨x, y, rfl, rfl, k _ _ H H1 (Gr.refl s) (.bl _) p⟩
/-- tuple + tuple -/
theorem od_catT {xs ys : List Dt} (hl : xs.length + ys.length ≤ sizeLine) (p : Q (.tup (xs ++ ys))) : OD K (rCatA K) (.tup xs) (.tup ys) Q := fun H H1 a b W s r1 r2 k => by
  obtain ⟨l, vs, rfl, e, r⟩ := r1.tup_inv
  obtain ⟨m, ws, rfl, e', r'⟩ := r2.tup_inv
  refine ⟨l, m, vs, ws, rfl, rfl, .inl (Same.rd s e), .inl (Same.rd s e'), by rw [r.length, r'.length]; exact hl, fun z => ?_, fun _ z => ?_, fun _ _ q hq => ?_⟩
  · subst z; cases r; exact k _ _ H H1 (Gr.refl s) r2 p
  · subst z; cases r'; rw [List.append_nil] at p; exact k _ _ H H1 (Gr.refl s) r1 p
  · have g := Gr.new (u := .tup (vs ++ ws)) s hq
    exact k _ _ _ _ g (.tup upd_same ((r.append r').mono g.b)) p
/-- list + list: a new list -/
theorem of_cat {xs ys : List Dt} (hl : xs.length + ys.length ≤ sizeLine) (p : Q (.lst (xs ++ ys))) : OF K rCat (.lst xs) (.lst ys) Q := fun H H1 a b W s r1 r2 k => by
  obtain ⟨l, vs, rfl, e, r⟩ := r1.lst_inv
  obtain ⟨m, ws, rfl, e', r'⟩ := r2.lst_inv
  refine ⟨l, m, vs, ws, rfl, rfl, s _ _ e, s _ _ e', by rw [r.length, r'.length]; exact hl, fun q hq => ?_⟩
  have g : Gr H H1 H (upd H1 q (.lst (vs ++ ws))) := (.of (Same.refl _) (s.trans (Same.upd hq)) (Same.upd hq) (fun _ _ _ z => z) id)
  exact k q (.lst (xs ++ ys)) _ _ _ g (.of hq) (s.free hq) upd_same (r.append r') p
theorem ud_neg {i : Int} (p : Q (.int (-i))) : UD K (rU fun i => .int (-i)) (.int i) Q := fun H H1 a W s r k => by
  rw [r.int_inv]
  exact ⟨i, rfl, k _ _ H H1 (Gr.refl s) (.int _) p⟩

/-! ### slices -/
def EO (K : PySem.W.Frag) (to : TO) (G : List Sl) (P : Option Int → List Sl → Prop) : Prop := ∀ (H0 F H H1 : Hp) (σ : L2.St) (Q : Option Int → Hp → Prop), En K H0 F H H1 σ G →
  (∀ o G' H' H2, En K H0 F H' H2 σ G' → Stp G G' H H1 H' H2 → P o G' → Q o H2) → to σ H1 Q
theorem eo_none {P : Option Int → List Sl → Prop} (p : P none G) : EO K tNoPart G P := fun H0 F H H1 σ Q I q => q none G H H1 I Stp.refl p
theorem eo_some {P : Option Int → List Sl → Prop} (h : EX K te G fun d G1 => ∃ i, d = .int i ∧ P (some i) G1) : EO K (tPart te) G P := fun H0 F H H1 σ Q I q =>
  h H0 F H H1 σ _ I fun v d G1 Ha Hb I1 s1 r1 ⟨i, e, p⟩ => by subst e; exact ⟨i, r1.int_inv, q _ G1 Ha Hb I1 s1 p⟩
def cutD {α : Type} (xs : List α) (lo hi : Option Int) : List α := (xs.drop (HT.sIx xs.length 0 lo)).take (HT.sIx xs.length xs.length hi - HT.sIx xs.length 0 lo)
theorem Ra.cut {H : Hp} {vs : List V} {ds : List Dt} (r : Ra K H vs ds) (lo hi : Option Int) : Ra K H (cutV vs lo hi) (cutD ds lo hi) := by
  unfold cutV cutD
  rw [r.length]
  exact (r.drop _).take _
theorem ex_slT {tl th : TO} (h : EX K te G fun d G1 => EO K tl G1 fun lo G2 => EO K th G2 fun hi G3 => ∃ ds, d = .tup ds ∧ P (.tup (cutD ds lo hi)) G3) : EX K (tSl (rSlA K) te tl th) G P := fun H0 F H H1 σ Q I q =>
  h H0 F H H1 σ _ I fun v d G1 Ha Hb I1 s1 r1 h1 => h1 H0 F Ha Hb σ _ I1 fun lo G2 Hc Hd I2 s2 h2 => h2 H0 F Hc Hd σ _ I2 fun hi G3 He Hf I3 s3 ⟨ds, e, p⟩ => by
    subst e
    have r0 := r1.mono (s2.b.trans s3.b)
    obtain ⟨a, xs, rfl, ha, r⟩ := r0.tup_inv
    refine ⟨a, xs, rfl, .inl (Same.rd I3.s ha), fun z => ?_, fun _ b hb => ?_⟩
    · have e : cutD ds lo hi = ds := by
        unfold cutD
        rw [r.length] at z
        rw [z.1, z.2, List.drop_zero, Nat.sub_zero, List.take_length]
      rw [e] at p
      exact q _ _ G3 He Hf I3 (s1.trans (s2.trans s3)) r0 p
    · have g := Gr.new (u := .tup (cutV xs lo hi)) I3.s hb
      exact q _ _ G3 _ _ (I3.gr g) ((s1.trans (s2.trans s3)).trans g.stp) (.tup upd_same ((r.cut lo hi).mono g.b)) p
theorem ef_slL {tl th : TO} (h : EX K te G fun d G1 => EO K tl G1 fun lo G2 => EO K th G2 fun hi G3 => ∃ ds, d = .lst ds ∧ P (.lst (cutD ds lo hi)) G3) : EF K (tSl (rSlL K) te tl th) G P := fun H0 F H H1 σ Q I q =>
  h H0 F H H1 σ _ I fun v d G1 Ha Hb I1 s1 r1 h1 => h1 H0 F Ha Hb σ _ I1 fun lo G2 Hc Hd I2 s2 h2 => h2 H0 F Hc Hd σ _ I2 fun hi G3 He Hf I3 s3 ⟨ds, e, p⟩ => by
    subst e
    obtain ⟨a, xs, rfl, ha, r⟩ := (r1.mono (s2.b.trans s3.b)).lst_inv
    refine ⟨a, xs, rfl, SqL.of (I3.s _ _ ha), fun b hb => ?_⟩
    have g : Gr He Hf He (upd Hf b (.lst (cutV xs lo hi))) := (.of (Same.refl _) (I3.s.trans (Same.upd hb)) (Same.upd hb) (fun _ _ _ z => z) id)
    exact q b (.lst (cutD ds lo hi)) _ G3 _ _ (I3.gr g) ((s1.trans (s2.trans s3)).trans g.stp) (stp_fresh (s1.trans (s2.trans s3)) (.of hb)) (I3.s.free hb) upd_same (r.cut lo hi) p
theorem ef_slFl {tl th : TO} (h : EX K te G fun d G1 => EO K tl G1 fun lo G2 => EO K th G2 fun hi G3 => ∃ ns, d = .fl ns ∧ P (.lst ((cutD ns lo hi).map .int)) G3) : EF K (tSl (rSlL K) te tl th) G P := fun H0 F H H1 σ Q I q =>
  h H0 F H H1 σ _ I fun v d G1 Ha Hb I1 s1 r1 h1 => h1 H0 F Ha Hb σ _ I1 fun lo G2 Hc Hd I2 s2 h2 => h2 H0 F Hc Hd σ _ I2 fun hi G3 He Hf I3 s3 ⟨ns, e, p⟩ => by
    subst e
    obtain ⟨a, rfl, ha⟩ := (r1.mono (s2.b.trans s3.b)).fl_inv
    refine ⟨a, _, rfl, I3.s.seq ha, fun b hb => ?_⟩
    have ec : cutV (ns.map V.int) lo hi = (cutD ns lo hi).map V.int := by
      unfold cutV cutD
      rw [List.length_map, List.map_take, List.map_drop]
    rw [ec]
    have g : Gr He Hf He (upd Hf b (.lst ((cutD ns lo hi).map V.int))) := (.of (Same.refl _) (I3.s.trans (Same.upd hb)) (Same.upd hb) (fun _ _ _ z => z) id)
    exact q b (.lst ((cutD ns lo hi).map .int)) _ G3 _ _ (I3.gr g) ((s1.trans (s2.trans s3)).trans g.stp) (stp_fresh (s1.trans (s2.trans s3)) (.of hb)) (I3.s.free hb) upd_same (Ra.ints _) p

/-! ### what is walked -/
theorem ix_list {tl : TE} {PI : List Dt → List Sl → Prop} (h : EX K tl G fun d G1 => ∃ ds, d = .lst ds ∧ PI ds G1) : IX K (iList K tl) G PI := fun H0 F H H1 σ R I q =>
  h H0 F H H1 σ _ I fun v d G1 Ha Hb I1 s1 r1 ⟨ds, e, p⟩ => by
    subst e
    obtain ⟨a, xs, rfl, ha, r⟩ := r1.lst_inv
    refine ⟨a, rfl, ⟨xs, SqL.of (I1.s _ _ ha)⟩, q _ ds G1 Ha Hb I1 s1 (fun i H H1 sb ss => ⟨fun d hd => ?_, fun e => ⟨xs, SqL.of (ss _ _ (sb _ _ ha)), by rw [r.length, e]; exact Nat.le_refl _⟩⟩) p⟩
    obtain ⟨x, hx, rx⟩ := r.get hd
    refine ⟨⟨xs, x, SqL.of (ss _ _ (sb _ _ ha)), hx⟩, fun y H2 ⟨e1, e2⟩ => ⟨H, by rw [e1]; exact Gr.refl ss, ?_⟩⟩
    have e3 := e2 xs (SqL.of (ss _ _ (sb _ _ ha)))
    rw [hx] at e3
    cases e3
    exact rx.mono sb
theorem ix_tup {tl : TE} {PI : List Dt → List Sl → Prop} (h : EX K tl G fun d G1 => ∃ ds, d = .tup ds ∧ PI ds G1) : IX K (iTup K tl) G PI := fun H0 F H H1 σ R I q =>
  h H0 F H H1 σ _ I fun v d G1 Ha Hb I1 s1 r1 ⟨ds, e, p⟩ => by
    subst e
    obtain ⟨a, xs, rfl, ha, r⟩ := r1.tup_inv
    refine ⟨a, rfl, ⟨xs, .inl (Same.rd I1.s ha)⟩, q _ ds G1 Ha Hb I1 s1 (fun i H H1 sb ss => ⟨fun d hd => ?_, fun e => ⟨xs, .inl (Same.rd ss (Same.rd sb ha)), by rw [r.length, e]; exact Nat.le_refl _⟩⟩) p⟩
    obtain ⟨x, hx, rx⟩ := r.get hd
    refine ⟨⟨xs, x, .inl (Same.rd ss (Same.rd sb ha)), hx⟩, fun y H2 ⟨e1, e2⟩ => ⟨H, by rw [e1]; exact Gr.refl ss, ?_⟩⟩
    have e3 := e2 xs (.inl (Same.rd ss (Same.rd sb ha)))
    rw [hx] at e3
    cases e3
    exact rx.mono sb
def rgD (lo : Int) (n : Nat) : List Dt := (List.range n).map fun i => Dt.int (lo + (i : Nat))
theorem rg_ok (lo : Int) (n : Nat) (Hb : Hp) : ItOk K (Itr lo n) Hb (rgD lo n) := fun i H H1 sb ss => by
  refine ⟨fun d hd => ?_, fun e => by show n ≤ i; rw [e]; simp [rgD]⟩
  unfold rgD at hd
  rw [List.getElem?_map] at hd
  by_cases hi : i < n
  · rw [List.getElem?_range hi] at hd
    cases hd
    exact ⟨hi, fun x H2 ⟨e1, e2⟩ => ⟨H, by rw [e1]; exact Gr.refl ss, by rw [e2]; exact .int _⟩⟩
  · rw [List.getElem?_eq_none (by simp; omega)] at hd; cases hd
theorem ix_rng1 {ta : TA} {PI : List Dt → List Sl → Prop} (h : EA K ta G fun ds G1 => ∃ j : Int, ds = [.int j] ∧ -(2 ^ 62) ≤ j ∧ j < 2 ^ 62 ∧ PI (rgD 0 j.toNat) G1) : IX K (iRng1 ta) G PI := fun H0 F H H1 σ R I q =>
  h H0 F H H1 σ _ I fun vs ds G1 Ha Hb I1 s1 r1 ⟨j, e, h1, h2, p⟩ => by
    subst e
    cases r1 with
    | cons r rr =>
      cases rr
      exact ⟨j, by rw [r.int_inv], h1, h2, q _ _ G1 Ha Hb I1 s1 (rg_ok 0 _ _) p⟩
theorem ix_rng2 {ta : TA} {PI : List Dt → List Sl → Prop} (h : EA K ta G fun ds G1 => ∃ i j : Int, ds = [.int i, .int j] ∧ (-(2 ^ 62) ≤ i ∧ i < 2 ^ 62 ∧ -(2 ^ 62) ≤ j ∧ j < 2 ^ 62) ∧ PI (rgD i (j - i).toNat) G1) : IX K (iRng2 ta) G PI := fun H0 F H H1 σ R I q =>
  h H0 F H H1 σ _ I fun vs ds G1 Ha Hb I1 s1 r1 ⟨i, j, e, h1, p⟩ => by
    subst e
    cases r1 with
    | cons r rr =>
      cases rr with
      | cons r' rr =>
        cases rr
        exact ⟨i, j, by rw [r.int_inv, r'.int_inv], h1, q _ _ G1 Ha Hb I1 s1 (rg_ok _ _ _) p⟩
/-- the pairs (place, item) -/
def enD (ds : List Dt) : List Dt := (List.range ds.length).map fun i => Dt.tup [.int ((i : Nat) : Int), ds.getD i .non]
omit [B : Tb] in
theorem enD_get {ds : List Dt} {i : Nat} {e : Dt} (h : (enD ds)[i]? = some e) : ∃ d, ds[i]? = some d ∧ e = .tup [.int ((i : Nat) : Int), d] := by
  unfold enD at h
  rw [List.getElem?_map] at h
  by_cases hi : i < ds.length
  · rw [List.getElem?_range hi] at h
    refine ⟨ds[i], List.getElem?_eq_getElem hi, ?_⟩
    have := Option.some.inj h
    rw [← this]
    simp [List.getD_eq_getElem?_getD, List.getElem?_eq_getElem hi]
  · rw [List.getElem?_eq_none (by simp; omega)] at h; cases h
omit [B : Tb] in
theorem enD_len (ds : List Dt) : (enD ds).length = ds.length := by simp [enD]
theorem ix_enum {ta : TA} {PI : List Dt → List Sl → Prop} (h : EA K ta G fun ds G1 => ∃ es, ds = [.lst es] ∧ PI (enD es) G1) : IX K (iEnum K ta) G PI := fun H0 F H H1 σ R I q =>
  h H0 F H H1 σ _ I fun vs ds G1 Ha Hb I1 s1 r1 ⟨es, e, p⟩ => by
    subst e
    cases r1 with
    | cons r rr =>
      cases rr
      obtain ⟨a, xs, rfl, ha, r⟩ := r.lst_inv
      refine ⟨a, xs, rfl, SqL.of (I1.s _ _ ha), q _ _ G1 Ha Hb I1 s1 (fun i H H1 sb ss => ⟨fun d hd => ?_, fun e => ⟨xs, SqL.of (ss _ _ (sb _ _ ha)), by rw [r.length, e, enD_len]; exact Nat.le_refl _⟩⟩) p⟩
      obtain ⟨d', hd', rfl⟩ := enD_get hd
      obtain ⟨x, hx, rx⟩ := r.get hd'
      refine ⟨⟨xs, x, SqL.of (ss _ _ (sb _ _ ha)), hx⟩, fun y H2 ⟨T, x', e1, e2, e3, e4⟩ => ?_⟩
      have e5 := e4 xs (SqL.of (ss _ _ (sb _ _ ha)))
      rw [hx] at e5
      cases e5
      subst e1 e3
      have g := Gr.new (u := .tup [.int ((i : Nat) : Int), x]) ss e2
      exact ⟨_, g, .tup upd_same (.cons (.int _) (.cons ((rx.mono sb).mono g.b) .nil))⟩

/-! ### calls of built-in things -/
theorem cd_len {d : Dt} {ds : List Dt} (hd : d.seq = some ds) (p : Q (.int (ds.length : Int))) : CD K (fun xs H Q => ∃ p ys, xs = [.ref p] ∧ (SqL K H p ys ∨ SqT K H p ys) ∧ Q (.int ys.length) H) [d] Q := fun H H1 vs W s r k => by
  cases r with
  | cons r rr =>
    cases rr
    cases d with
    | lst es =>
      cases hd
      obtain ⟨a, xs, rfl, e, r⟩ := r.lst_inv
      exact ⟨a, xs, rfl, .inl (SqL.of (s _ _ e)), by rw [r.length]; exact k _ _ H H1 (Gr.refl s) (.int _) p⟩
    | tup es =>
      cases hd
      obtain ⟨a, xs, rfl, e, r⟩ := r.tup_inv
      exact ⟨a, xs, rfl, .inr (.inl (Same.rd s e)), by rw [r.length]; exact k _ _ H H1 (Gr.refl s) (.int _) p⟩
    | _ => cases hd
theorem cd_lenFl {ns : List Int} (p : Q (.int (ns.length : Int))) : CD K (fun xs H Q => ∃ p ys, xs = [.ref p] ∧ (SqL K H p ys ∨ SqT K H p ys) ∧ Q (.int ys.length) H) [.fl ns] Q := fun H H1 vs W s r k => by
  cases r with
  | cons r rr =>
    cases rr
    obtain ⟨a, rfl, e⟩ := r.fl_inv
    exact ⟨a, _, rfl, .inl (s.seq e), by rw [List.length_map]; exact k _ _ H H1 (Gr.refl s) (.int _) p⟩
theorem cd_tuple {d : Dt} {ds : List Dt} (hd : d.seq = some ds) (p : Q (.tup ds)) : CD K (fun xs H Q => ∃ p ys, xs = [.ref p] ∧ ((SqL K H p ys ∧ ∀ l, H l = none → Q (.ref l) (upd H l (.tup ys))) ∨ (SqT K H p ys ∧ Q (.ref p) H))) [d] Q := fun H H1 vs W s r k => by
  cases r with
  | cons r rr =>
    cases rr
    cases d with
    | lst es =>
      cases hd
      obtain ⟨a, xs, rfl, e, r⟩ := r.lst_inv
      refine ⟨a, xs, rfl, .inl ⟨SqL.of (s _ _ e), fun l hl => ?_⟩⟩
      have g := Gr.new (u := .tup xs) s hl
      exact k _ _ _ _ g (.tup upd_same (r.mono g.b)) p
    | tup es =>
      cases hd
      obtain ⟨a, xs, rfl, e, r'⟩ := r.tup_inv
      exact ⟨a, xs, rfl, .inr ⟨.inl (Same.rd s e), k _ _ H H1 (Gr.refl s) r p⟩⟩
    | _ => cases hd
theorem cf_list {d : Dt} {ds : List Dt} (hd : d.seq = some ds) (p : Q (.lst ds)) : CF K (fun xs H Q => ∃ p ys, xs = [.ref p] ∧ (SqL K H p ys ∨ SqT K H p ys) ∧ ∀ l, H l = none → Q (.ref l) (upd H l (.lst ys))) [d] Q := fun H H1 vs W s r k => by
  have fin : ∀ {xs : List V}, Ra K H xs ds → ∀ l, H1 l = none → W (.ref l) (upd H1 l (.lst xs)) := fun {xs} r l hl =>
    k l (.lst ds) _ H _ (.of (Same.refl _) (s.trans (Same.upd hl)) (Same.upd hl) (fun _ _ _ z => z) id) (.of hl) (s.free hl) upd_same r p
  cases r with
  | cons r rr =>
    cases rr
    cases d with
    | lst es =>
      cases hd
      obtain ⟨a, xs, rfl, e, r⟩ := r.lst_inv
      exact ⟨a, xs, rfl, .inl (SqL.of (s _ _ e)), fin r⟩
    | tup es =>
      cases hd
      obtain ⟨a, xs, rfl, e, r⟩ := r.tup_inv
      exact ⟨a, xs, rfl, .inr (.inl (Same.rd s e)), fin r⟩
    | _ => cases hd
theorem cd_abs {i : Int} (p : Q (.int (if i < 0 then -i else i))) : CD K (fun xs H Q => ∃ i, xs = [.int i] ∧ Q (.int (if i < 0 then -i else i)) H) [.int i] Q := fun H H1 vs W s r k => by
  cases r with
  | cons r rr => cases rr; exact ⟨i, by rw [r.int_inv], k _ _ H H1 (Gr.refl s) (.int _) p⟩
theorem cd_min {i j : Int} (p : Q (.int (if j < i then j else i))) : CD K (fun xs H Q => ∃ i j, xs = [.int i, .int j] ∧ Q (.int (if j < i then j else i)) H) [.int i, .int j] Q := fun H H1 vs W s r k => by
  cases r with
  | cons r rr =>
    cases rr with
    | cons r' rr => cases rr; exact ⟨i, j, by rw [r.int_inv, r'.int_inv], k _ _ H H1 (Gr.refl s) (.int _) p⟩
theorem cd_intI {i : Int} (p : Q (.int i)) : CD K (fun xs H Q => (∃ i, xs = [.int i] ∧ Q (.int i) H) ∨ ∃ k, xs = [.bl k] ∧ Q (.int (if k then 1 else 0)) H) [.int i] Q := fun H H1 vs W s r k => by
  cases r with
  | cons r rr => cases rr; exact .inl ⟨i, by rw [r.int_inv], k _ _ H H1 (Gr.refl s) (.int _) p⟩
theorem cd_intB {b : Bool} (p : Q (.int (if b then 1 else 0))) : CD K (fun xs H Q => (∃ i, xs = [.int i] ∧ Q (.int i) H) ∨ ∃ k, xs = [.bl k] ∧ Q (.int (if k then 1 else 0)) H) [.bl b] Q := fun H H1 vs W s r k => by
  cases r with
  | cons r rr => cases rr; exact .inr ⟨b, by rw [r.bl_inv], k _ _ H H1 (Gr.refl s) (.int _) p⟩
theorem cd_all {bs : List Bool} (p : Q (.bl (bs.all id))) : CD K (rAll K) [.lst (bs.map .bl)] Q := fun H H1 vs W s r k => by
  cases r with
  | cons r rr =>
    cases rr
    obtain ⟨a, xs, rfl, e, r⟩ := r.lst_inv
    cases r.bls_inv
    exact ⟨a, bs, rfl, SqL.of (s _ _ e), k _ _ H H1 (Gr.refl s) (.bl _) p⟩
end
end Wd

set_option Elab.async false
set_option linter.all false
set_option maxRecDepth 100000
/-! D6: the text, what the module's names hold. -/
namespace Wd
open PySem L2
theorem bt_abs : bootBuiltins "abs" = some (.builtin "abs") := by decide +kernel
theorem bt_all : bootBuiltins "all" = some (.builtin "all") := by decide +kernel
theorem bt_dict : bootBuiltins "dict" = some (.type "dict") := by decide +kernel
theorem bt_enumerate : bootBuiltins "enumerate" = some (.type "enumerate") := by decide +kernel
theorem bt_int : bootBuiltins "int" = some (.type "int") := by decide +kernel
theorem bt_bool : bootBuiltins "bool" = some (.type "bool") := by decide +kernel
theorem bt_str : bootBuiltins "str" = some (.type "str") := by decide +kernel
theorem bt_list : bootBuiltins "list" = some (.type "list") := by decide +kernel
theorem bt_tuple : bootBuiltins "tuple" = some (.type "tuple") := by decide +kernel
theorem bt_set : bootBuiltins "set" = some (.type "set") := by decide +kernel
theorem bt_isinstance : bootBuiltins "isinstance" = some (.builtin "isinstance") := by decide +kernel
theorem bt_len : bootBuiltins "len" = some (.builtin "len") := by decide +kernel
theorem bt_min : bootBuiltins "min" = some (.builtin "min") := by decide +kernel
theorem bt_sorted : bootBuiltins "sorted" = some (.builtin "sorted") := by decide +kernel
theorem bt_sum : bootBuiltins "sum" = some (.builtin "sum") := by decide +kernel
theorem bt_zip : bootBuiltins "zip" = some (.type "zip") := by decide +kernel
theorem bt_range : bootBuiltins "range" = some (.type "range") := by decide +kernel
/-- the module's names: the built-in ones are free, the constants -/
structure Tx (K : PySem.W.Frag) (mg : Str → Option Value) : Prop where
  abs_ : mg "abs" = none
  all_ : mg "all" = none
  bool_ : mg "bool" = none
  dict_ : mg "dict" = none
  enumerate_ : mg "enumerate" = none
  int_ : mg "int" = none
  isinstance_ : mg "isinstance" = none
  len_ : mg "len" = none
  list_ : mg "list" = none
  min_ : mg "min" = none
  range_ : mg "range" = none
  set_ : mg "set" = none
  sorted_ : mg "sorted" = none
  str_ : mg "str" = none
  sum_ : mg "sum" = none
  tuple_ : mg "tuple" = none
  zip_ : mg "zip" = none
  crank : ∃ u, mg "CRANK" = some u ∧ RelV (.str "") u
  pair : ∃ u, mg "PAIR" = some u ∧ RelV (.int 2) u
  ahead : ∃ u, mg "AHEAD" = some u ∧ RelV (.int 1) u
  back : ∃ u, mg "BACK" = some u ∧ RelV (.int (-1)) u
  unsure : ∃ u, mg "UNSURE" = some u ∧ RelV (.int 1) u
variable [B : Tb]
omit [B : Tb] in
theorem pe_k {X : Cx} {x : Str} {v : V} {pos : Pos} (h : ∃ u, X.mg x = some u ∧ RelV v u) (hg : Gl X x) (hd : (x == ("__debug__" : Str)) = false := by decide) : PE X (.Name x pos) (tC v) := by
  obtain ⟨u, h1, h2⟩ := h
  exact pe_glob hg h1 h2 hd
theorem pgn {X : Cx} {i : Nat} {x : Str} {pos : Pos} (hN : X.N.Nodup) (hi : X.N[i]? = some x) (hx : Loc X.env.scope x := by first | exact Or.inl rfl | exact Or.inr rfl) (hf : X.fn x = true ∨ X.env.scope.names.lookup x = some .local := by first | exact .inl rfl | exact .inr rfl | assumption) : PG X (.Name x pos) (gName i) := pg_name hN hi hx hf
theorem pst {X : Cx} {pos pos' : Pos} {i : Nat} {x : Str} {e : Expr} {te : TE} (hN : X.N.Nodup) (hi : X.N[i]? = some x) (he : PE X e te) (hx : Loc X.env.scope x := by first | exact Or.inl rfl | exact Or.inr rfl) (hs : swapsWith e (some (.Name x pos')) pos.line X.env = pure false := by rfl) (hf : X.fn x = true ∨ X.env.scope.names.lookup x = some .local := by first | exact .inl rfl | exact .inr rfl | assumption) :
    PS X (.Assign [.Name x pos'] e pos) (tAsg te (gName i)) := ps_set hN hi hx he hs hf
/-- a def of the module that may be called by its name -/
structure Cal (Pr : Program) (w : World) (K : PySem.W.Frag) (mg : Str → Option Value) (base : Heap) (k : Nat) (x : Str) (sp : Sp) : Prop where
  ex : ∃ (f : Addr) (fd : FuncData) (ps : List Str), FnOk Pr w K mg base CX0 k f fd ps sp ∧ mg x = some (.ref f) ∧ PySem.W.keepIn K (.ref f) = true ∧ Binds K fd ps []
theorem cal_of {Pr : Program} {w : World} {K : PySem.W.Frag} {mg : Str → Option Value} {base : Heap} {f : Addr} {fd : FuncData} {x : Str} {st : Stmt} {ps : List Str} {k : Nat} {sp : Sp} (F : FnP K x st f fd) (gf : mg x = some (.ref f)) (h : FnOk Pr w K mg base CX0 k f fd ps sp) (hb : Binds K fd ps []) : Cal Pr w K mg base k x sp :=
  ⟨f, fd, ps, h, gf, F.kp, hb⟩
theorem pe_c {X : Cx} {k j : Nat} {x : Str} {sp : Sp} {e : Expr} {es : List Expr} {t : TA} {p pos : Pos} (c : Cal X.prog X.w X.K X.mg X.base k x sp) (hr : Room j X.A) (hk : k ≤ j) (hg : Gl X x) (ha : PA X (e :: es) t)
    (hdb : (x == ("__debug__" : Str)) = false := by decide) (he : starEach (e :: es) X.env = (false, eval e X.env) :: starEach es X.env := by rfl) (hpl : (backTo pos (starEach es X.env)).any (·.1) = false := by rfl) :
    PE X (.Call (.Name x p) (e :: es) [] pos) (tCall sp [] E0 t) := by
  obtain ⟨f, fd, ps, F, hm, kp, b⟩ := c.ex
  exact pe_call F (hr.mono hk) hg hm kp b .nil pass0 ha hdb he hpl
theorem pe_c0 {X : Cx} {k j : Nat} {x : Str} {sp : Sp} {p pos : Pos} (c : Cal X.prog X.w X.K X.mg X.base k x sp) (hr : Room j X.A) (hk : k ≤ j) (hg : Gl X x) (hdb : (x == ("__debug__" : Str)) = false := by decide) :
    PE X (.Call (.Name x p) [] [] pos) (tCall sp [] E0 tNil) := by
  obtain ⟨f, fd, ps, F, hm, kp, b⟩ := c.ex
  exact pe_call0 F (hr.mono hk) hg hm kp b .nil pass0 hdb
end Wd

set_option Elab.async false
set_option linter.all false
set_option maxRecDepth 100000
/-! D7: dicts, lists of one's own, isinstance, over data. -/
namespace Wd
open PySem L2
/-! ### dicts as lists of data -/
def gk {κ : Type} [DecidableEq κ] (ks : List (κ × Dt)) (k : κ) : Option Dt := (ks.find? fun kv => decide (kv.1 = k)).map (·.2)
def pk {κ : Type} [DecidableEq κ] (ks : List (κ × Dt)) (k : κ) (v : Dt) : List (κ × Dt) :=
  if (ks.any fun kv => decide (kv.1 = k)) = true then ks.map (fun kv => if kv.1 = k then (kv.1, v) else kv) else ks ++ [(k, v)]
section
variable {κ : Type} [DecidableEq κ] {ks : List (κ × Dt)} {k : κ} {v : Dt}
theorem gk_nil : gk ([] : List (κ × Dt)) k = none := rfl
theorem gk_cons {k' : κ} {d : Dt} : gk ((k', d) :: ks) k = if k' = k then some d else gk ks k := by
  unfold gk
  rw [List.find?_cons]
  by_cases h : k' = k
  · simp [h]
  · simp [h]
theorem pk_nil : pk ([] : List (κ × Dt)) k v = [(k, v)] := rfl
theorem pk_cons {k' : κ} {d : Dt} : pk ((k', d) :: ks) k v = if k' = k then (k', v) :: ks.map (fun kv => if kv.1 = k then (kv.1, v) else kv) else (k', d) :: pk ks k v := by
  unfold pk
  by_cases h : k' = k
  · simp [h]
  · simp only [List.any_cons, h, decide_false, Bool.false_or, if_false, List.map_cons, List.cons_append]
    split <;> rfl
theorem pk_len : (pk ks k v).length ≤ ks.length + 1 := by
  unfold pk
  split
  · rw [List.length_map]; omega
  · rw [List.length_append]; exact Nat.le_refl _
theorem gk_pk (j : κ) : gk (pk ks k v) j = if k = j then some v else gk ks j := by
  unfold pk
  split
  · rename_i h
    induction ks with
    | nil => simp at h
    | cons p ks ih =>
      obtain ⟨a, d⟩ := p
      rw [List.map_cons]
      by_cases e : a = k
      · subst e
        simp only [if_true, gk_cons]
        by_cases q : a = j
        · simp [q]
        · simp only [q, if_false]
          clear ih h
          induction ks with
          | nil => rfl
          | cons p ks ih =>
            obtain ⟨b, d'⟩ := p
            rw [List.map_cons, gk_cons]
            by_cases e2 : b = a
            · subst e2; simp only [if_true, gk_cons, q, if_false]; exact ih
            · simp only [e2, if_false, gk_cons]
              by_cases q2 : b = j
              · simp [q2]
              · simp only [q2, if_false]; exact ih
      · simp only [e, if_false, gk_cons]
        rw [List.any_cons] at h
        simp only [e, decide_false, Bool.false_or] at h
        by_cases q : a = j
        · subst q
          simp only [if_true]
          rw [if_neg (fun z => e z.symm)]
        · simp only [q, if_false]; exact ih h
  · rename_i h
    induction ks with
    | nil => rw [List.nil_append, gk_cons, gk_nil]
    | cons p ks ih =>
      obtain ⟨a, d⟩ := p
      rw [List.any_cons, Bool.or_eq_true, not_or] at h
      have ha : a ≠ k := by simpa using h.1
      rw [List.cons_append, gk_cons, ih h.2, gk_cons]
      by_cases q : a = j
      · subst q; simp [Ne.symm ha]
      · simp [q]
end
section
variable {K : PySem.W.Frag} {H : Hp}
theorem Rk.get : ∀ {xs : List (Key × V)} {ks : List (Str × Dt)} (x : Str), Rk K H xs ks → (gk ks x = none ∧ valV xs (Sum.inr x) = none) ∨ ∃ v d, gk ks x = some d ∧ valV xs (Sum.inr x) = some v ∧ Rp K H v d
  | _, _, x, .nil => .inl ⟨rfl, rfl⟩
  | _, _, x, .cons (x := y) (v := v) (d := d) (r := r) h t => by
    rw [gk_cons]
    by_cases e : y = x
    · subst e
      refine .inr ⟨v, d, by simp, ?_, h⟩
      unfold valV; simp
    · have e2 : valV ((Sum.inr y, v) :: r) (Sum.inr x) = valV r (Sum.inr x) := by
        unfold valV
        rw [List.find?_cons]
        have : decide ((Sum.inr y : Key) = Sum.inr x) = false := decide_eq_false fun z => e (Sum.inr.inj z)
        simp only [this]
      rw [e2, if_neg e]
      exact t.get x
theorem Rt.get : ∀ {xs : List (List Key × V)} {ks : List ((Str × Str) × Dt)} (x : Str × Str), Rt K H xs ks → (gk ks x = none ∧ valV xs [Sum.inr x.1, Sum.inr x.2] = none) ∨ ∃ v d, gk ks x = some d ∧ valV xs [Sum.inr x.1, Sum.inr x.2] = some v ∧ Rp K H v d
  | _, _, x, .nil => .inl ⟨rfl, rfl⟩
  | _, _, x, .cons (x := y) (y := z) (v := v) (d := d) (r := r) h t => by
    rw [gk_cons]
    by_cases e : (y, z) = x
    · subst e
      refine .inr ⟨v, d, by simp, ?_, h⟩
      unfold valV; simp
    · have e2 : valV (([Sum.inr y, Sum.inr z], v) :: r) [Sum.inr x.1, Sum.inr x.2] = valV r [Sum.inr x.1, Sum.inr x.2] := by
        unfold valV
        rw [List.find?_cons]
        have : decide (([Sum.inr y, Sum.inr z] : List Key) = [Sum.inr x.1, Sum.inr x.2]) = false := decide_eq_false fun q => e (by
          simp only [List.cons.injEq, Sum.inr.injEq, and_true] at q
          exact Prod.ext q.1 q.2)
        simp only [this]
      rw [e2, if_neg e]
      exact t.get x
theorem Rk.setAll {x : Str} {v : V} {d : Dt} (h : Rp K H v d) : ∀ {xs : List (Key × V)} {ks : List (Str × Dt)}, Rk K H xs ks → Rk K H (xs.map fun kv => if kv.1 = Sum.inr x then (kv.1, v) else kv) (ks.map fun kv => if kv.1 = x then (kv.1, d) else kv)
  | _, _, .nil => .nil
  | _, _, .cons (x := y) q t => by
    rw [List.map_cons, List.map_cons]
    by_cases e : y = x
    · subst e
      simp only [if_true]
      exact .cons h (t.setAll h)
    · have : (Sum.inr y : Key) ≠ Sum.inr x := fun z => e (Sum.inr.inj z)
      simp only [e, this, if_false]
      exact .cons q (t.setAll h)
theorem Rk.any {x : Str} : ∀ {xs : List (Key × V)} {ks : List (Str × Dt)}, Rk K H xs ks → (xs.any fun kv => decide (kv.1 = Sum.inr x)) = ks.any fun kv => decide (kv.1 = x)
  | _, _, .nil => rfl
  | _, _, .cons (x := y) q t => by
    rw [List.any_cons, List.any_cons, t.any]
    congr 1
    exact decide_eq_decide.mpr ⟨fun z => Sum.inr.inj z, fun z => congrArg Sum.inr z⟩
theorem Rk.snoc : ∀ {xs : List (Key × V)} {ks : List (Str × Dt)} {x : Str} {v : V} {d : Dt}, Rk K H xs ks → Rp K H v d → Rk K H (xs ++ [(Sum.inr x, v)]) (ks ++ [(x, d)])
  | _, _, _, _, _, .nil, h => .cons h .nil
  | _, _, _, _, _, .cons q t, h => .cons q (t.snoc h)
theorem Rk.put {xs : List (Key × V)} {ks : List (Str × Dt)} {x : Str} {v : V} {d : Dt} (r : Rk K H xs ks) (h : Rp K H v d) : Rk K H (putK xs (Sum.inr x) v) (pk ks x d) := by
  unfold putK pk
  rw [r.any]
  split
  · exact r.setAll h
  · exact r.snoc h
theorem Rt.setAll {x : Str × Str} {v : V} {d : Dt} (h : Rp K H v d) : ∀ {xs : List (List Key × V)} {ks : List ((Str × Str) × Dt)}, Rt K H xs ks → Rt K H (xs.map fun kv => if kv.1 = [Sum.inr x.1, Sum.inr x.2] then (kv.1, v) else kv) (ks.map fun kv => if kv.1 = x then (kv.1, d) else kv)
  | _, _, .nil => .nil
  | _, _, .cons (x := y) (y := z) q t => by
    rw [List.map_cons, List.map_cons]
    by_cases e : (y, z) = x
    · subst e
      simp only [if_true]
      exact .cons h (t.setAll (x := (y, z)) h)
    · have : ([Sum.inr y, Sum.inr z] : List Key) ≠ [Sum.inr x.1, Sum.inr x.2] := fun q => e (by
        simp only [List.cons.injEq, Sum.inr.injEq, and_true] at q
        exact Prod.ext q.1 q.2)
      simp only [e, this, if_false]
      exact .cons q (t.setAll h)
theorem Rt.any {x : Str × Str} : ∀ {xs : List (List Key × V)} {ks : List ((Str × Str) × Dt)}, Rt K H xs ks → (xs.any fun kv => decide (kv.1 = [Sum.inr x.1, Sum.inr x.2])) = ks.any fun kv => decide (kv.1 = x)
  | _, _, .nil => rfl
  | _, _, .cons (x := y) (y := z) q t => by
    rw [List.any_cons, List.any_cons, t.any]
    congr 1
    refine decide_eq_decide.mpr ⟨fun q => ?_, fun q => by rw [← q]⟩
    simp only [List.cons.injEq, Sum.inr.injEq, and_true] at q
    exact Prod.ext q.1 q.2
theorem Rt.snoc : ∀ {xs : List (List Key × V)} {ks : List ((Str × Str) × Dt)} {x : Str × Str} {v : V} {d : Dt}, Rt K H xs ks → Rp K H v d → Rt K H (xs ++ [([Sum.inr x.1, Sum.inr x.2], v)]) (ks ++ [(x, d)])
  | _, _, (_, _), _, _, .nil, h => .cons h .nil
  | _, _, _, _, _, .cons q t, h => .cons q (t.snoc h)
theorem Rt.put {xs : List (List Key × V)} {ks : List ((Str × Str) × Dt)} {x : Str × Str} {v : V} {d : Dt} (r : Rt K H xs ks) (h : Rp K H v d) : Rt K H (putK xs [Sum.inr x.1, Sum.inr x.2] v) (pk ks x d) := by
  unfold putK pk
  rw [r.any]
  split
  · exact r.setAll h
  · exact r.snoc h
theorem Rk.length : ∀ {xs : List (Key × V)} {ks : List (Str × Dt)}, Rk K H xs ks → xs.length = ks.length
  | _, _, .nil => rfl
  | _, _, .cons _ t => by rw [List.length_cons, List.length_cons, t.length]
theorem Rt.length : ∀ {xs : List (List Key × V)} {ks : List ((Str × Str) × Dt)}, Rt K H xs ks → xs.length = ks.length
  | _, _, .nil => rfl
  | _, _, .cons _ t => by rw [List.length_cons, List.length_cons, t.length]
/-- a key as a datum; a lookup in a dict's datum -/
def Dt.look : Dt → Dt → Option (Option Dt)
  | .dk ks, .str x => some (gk ks x)
  | .dt ks, .tup [.str x, .str y] => some (gk ks (x, y))
  | _, _ => none
/-- .. and a store -/
def Dt.put : Dt → Dt → Dt → Option Dt
  | .dk ks, .str x, v => if ks.length < sizeLine then some (.dk (pk ks x v)) else none
  | .dt ks, .tup [.str x, .str y], v => if ks.length < sizeLine then some (.dt (pk ks (x, y) v)) else none
  | _, _, _ => none
theorem Ra.two {vs : List V} {x y : Str} (r : Ra K H vs [.str x, .str y]) : vs = [.str x, .str y] := by
  cases r with
  | cons a r =>
    cases r with
    | cons b r =>
      cases r
      rw [a.str_inv, b.str_inv]
/-- the lookup, of an object or a value -/
theorem look_get {H1 : Hp} {a : Addr} {u : HO} {y : V} {d e : Dt} {r : Option Dt} (hu : H1 a = some u) (q : Ob K H u d) (s : Same H H1) (ry : Rp K H y e) (h : d.look e = some r) : ∃ o, DGet H1 a y o ∧ (r = none → o = none) ∧ ∀ d', r = some d' → ∃ v, o = some v ∧ Rp K H v d' := by
  cases d with
  | dk ks =>
    obtain ⟨xs, rfl, r'⟩ := Ob.dk_inv q
    cases e with
    | str x =>
      cases h
      rw [ry.str_inv]
      refine ⟨valV xs (Sum.inr x), DGet.k (k := Sum.inr x) hu, fun z => ?_, fun d' z => ?_⟩
      · rcases r'.get x with ⟨_, h2⟩ | ⟨v, d, h1, _, _⟩
        · exact h2
        · rw [h1] at z; cases z
      · rcases r'.get x with ⟨h1, _⟩ | ⟨v, d, h1, h2, h3⟩
        · rw [h1] at z; cases z
        · rw [h1] at z; cases z; exact ⟨v, h2, h3⟩
    | _ => cases h
  | dt ks =>
    obtain ⟨xs, rfl, r'⟩ := Ob.dt_inv q
    cases e with
    | tup es =>
      match es, h with
      | [.str x, .str z], h =>
        cases h
        obtain ⟨b, ws, rfl, hb, rb⟩ := ry.tup_exact ⟨_, List.mem_cons_self .., rfl⟩
        rw [rb.two] at hb
        refine ⟨valV xs [Sum.inr x, Sum.inr z], DGet.t (k := [Sum.inr x, Sum.inr z]) hu (s _ _ hb), fun z' => ?_, fun d' z' => ?_⟩
        · rcases r'.get (x, z) with ⟨_, h2⟩ | ⟨v, d, h1, _, _⟩
          · exact h2
          · rw [h1] at z'; cases z'
        · rcases r'.get (x, z) with ⟨h1, _⟩ | ⟨v, d, h1, h2, h3⟩
          · rw [h1] at z'; cases z'
          · rw [h1] at z'; cases z'; exact ⟨v, h2, h3⟩
    | _ => cases h
  | _ => cases h
theorem Rp.dict {v : V} {d e : Dt} {r : Option Dt} (h : d.look e = some r) (q : Rp K H v d) : ∃ a u, v = .ref a ∧ H a = some u ∧ Ob K H u d := by
  cases q with
  | dk h' r' => exact ⟨_, _, rfl, h', r'⟩
  | dt h' r' => exact ⟨_, _, rfl, h', r'⟩
  | _ => cases h
theorem put_get {H1 : Hp} {a : Addr} {u : HO} {y v : V} {d e z d' : Dt} (hu : H1 a = some u) (q : Ob K H u d) (s : Same H H1) (ry : Rp K H y e) (rz : Rp K H v z) (h : d.put e z = some d') : ∃ u', Ob K H u' d' ∧ DPut H1 a y v (upd H1 a u') := by
  cases d with
  | dk ks =>
    obtain ⟨xs, rfl, r'⟩ := Ob.dk_inv q
    cases e with
    | str x =>
      rw [ry.str_inv]
      simp only [Dt.put] at h
      split at h
      · rename_i hl
        cases h
        exact ⟨.dK (putK xs (Sum.inr x) v), r'.put rz, DPut.k (k := Sum.inr x) hu (by rw [r'.length]; exact hl)⟩
      · cases h
    | _ => cases h
  | dt ks =>
    obtain ⟨xs, rfl, r'⟩ := Ob.dt_inv q
    cases e with
    | tup es =>
      match es, h with
      | [.str x, .str z'], h =>
        simp only [Dt.put] at h
        split at h
        · rename_i hl
          cases h
          obtain ⟨b, ws, rfl, hb, rb⟩ := ry.tup_exact ⟨_, List.mem_cons_self .., rfl⟩
          rw [rb.two] at hb
          exact ⟨.dT (putK xs [Sum.inr x, Sum.inr z'] v), r'.put (x := (x, z')) rz, DPut.t (k := [Sum.inr x, Sum.inr z']) hu (s _ _ hb) (by rw [r'.length]; exact hl)⟩
        · cases h
    | _ => cases h
  | _ => cases h
end
variable [B : Tb]
section
variable {K : PySem.W.Frag} {G : List Sl} {P : Dt → List Sl → Prop} {te ta tb ty td tx : TE} {i : Nat}
/-- an own slot's value -/
theorem En.val {H0 F H H1 : Hp} {σ : L2.St} {l : Addr} {d : Dt} (I : En K H0 F H H1 σ G) (h : G[i]? = some (.own l d)) : σ[i]? = some (some (.ref l)) := (I.own i l d h).1
theorem own_eq {H0 F H H1 H' H2 : Hp} {σ : L2.St} {G1 : List Sl} {l m : Addr} {d e : Dt} (I : En K H0 F H H1 σ G) (J : En K H0 F H' H2 σ G1) (h : G[i]? = some (.own l d)) (h' : G1[i]? = some (.own m e)) : m = l := by
  have a := I.val h
  have b := J.val h'
  rw [a] at b; injection b with b; injection b with b; injection b with b; exact b.symm
/-! ### reading a dict -/
theorem ex_dget (h : EX K td G fun d G1 => EX K ty G1 fun e G2 => ∃ v, d.look e = some (some v) ∧ P v G2) : EX K (tDGet td ty) G P := fun H0 F H H1 σ Q I q =>
  h H0 F H H1 σ _ I fun v d G1 Ha Hb I1 s1 r1 h1 => h1 H0 F Ha Hb σ _ I1 fun w e G2 Hc Hd I2 s2 r2 ⟨x, e1, p⟩ => by
    obtain ⟨a, u, rfl, hu, ob⟩ := (r1.mono s2.b).dict e1
    obtain ⟨o, g, _, k⟩ := look_get (I2.s _ _ hu) ob I2.s r2 e1
    obtain ⟨z, rfl, rz⟩ := k x rfl
    exact ⟨a, z, rfl, g, q z x G2 Hc Hd I2 (s1.trans s2) rz p⟩
theorem ex_dgetO (hk : ∃ l d, G[i]? = some (.own l d)) (h : EX K ty G fun e G2 => ∃ l d v, G2[i]? = some (.own l d) ∧ d.look e = some (some v) ∧ P v G2) : EX K (tDGet (tVar i) ty) G P := fun H0 F H H1 σ Q I q => by
  obtain ⟨l0, d0, h0⟩ := hk
  refine ⟨.ref l0, I.val h0, h H0 F H H1 σ _ I fun w e G2 Hc Hd I2 s2 r2 ⟨l, d, x, hG, e1, p⟩ => ?_⟩
  obtain rfl := own_eq I I2 h0 hG
  obtain ⟨_, _, _, u, hu, ob⟩ := I2.own i l d hG
  obtain ⟨o, g, _, k⟩ := look_get hu ob I2.s r2 e1
  obtain ⟨z, rfl, rz⟩ := k x rfl
  exact ⟨l, z, rfl, g, q z x G2 Hc Hd I2 s2 rz p⟩
theorem ex_din (h : EX K ty G fun e G1 => EX K td G1 fun d G2 => ∃ r, d.look e = some r ∧ P (.bl r.isSome) G2) : EX K (tDIn ty td) G P := fun H0 F H H1 σ Q I q =>
  h H0 F H H1 σ _ I fun v e G1 Ha Hb I1 s1 r1 h1 => h1 H0 F Ha Hb σ _ I1 fun w d G2 Hc Hd I2 s2 r2 ⟨r, e1, p⟩ => by
    obtain ⟨a, u, rfl, hu, ob⟩ := r2.dict e1
    obtain ⟨o, g, k0, k⟩ := look_get (I2.s _ _ hu) ob I2.s (r1.mono s2.b) e1
    refine ⟨a, o, rfl, g, ?_⟩
    have : o.isSome = r.isSome := by
      cases r with
      | none => rw [k0 rfl]; rfl
      | some x => obtain ⟨z, rfl, _⟩ := k x rfl; rfl
    rw [this]
    exact q _ _ G2 Hc Hd I2 (s1.trans s2) (.bl _) p
theorem ex_dnotin (h : EX K ty G fun e G1 => EX K td G1 fun d G2 => ∃ r, d.look e = some r ∧ P (.bl (!r.isSome)) G2) : EX K (tDNotIn ty td) G P := fun H0 F H H1 σ Q I q =>
  h H0 F H H1 σ _ I fun v e G1 Ha Hb I1 s1 r1 h1 => h1 H0 F Ha Hb σ _ I1 fun w d G2 Hc Hd I2 s2 r2 ⟨r, e1, p⟩ => by
    obtain ⟨a, u, rfl, hu, ob⟩ := r2.dict e1
    obtain ⟨o, g, k0, k⟩ := look_get (I2.s _ _ hu) ob I2.s (r1.mono s2.b) e1
    refine ⟨a, o, rfl, g, ?_⟩
    have : o.isSome = r.isSome := by
      cases r with
      | none => rw [k0 rfl]; rfl
      | some x => obtain ⟨z, rfl, _⟩ := k x rfl; rfl
    rw [this]
    exact q _ _ G2 Hc Hd I2 (s1.trans s2) (.bl _) p
theorem ex_dinO (h : EX K ty G fun e G1 => ∃ l d r, G1[i]? = some (.own l d) ∧ d.look e = some r ∧ P (.bl r.isSome) G1) : EX K (tDIn ty (tVar i)) G P := fun H0 F H H1 σ Q I q =>
  h H0 F H H1 σ _ I fun v e G1 Ha Hb I1 s1 r1 ⟨l, d, r, hG, e1, p⟩ => by
    obtain ⟨ev, _, _, u, hu, ob⟩ := I1.own i l d hG
    obtain ⟨o, g, k0, k⟩ := look_get hu ob I1.s r1 e1
    refine ⟨.ref l, ev, l, o, rfl, g, ?_⟩
    have : o.isSome = r.isSome := by
      cases r with
      | none => rw [k0 rfl]; rfl
      | some x => obtain ⟨z, rfl, _⟩ := k x rfl; rfl
    rw [this]
    exact q _ _ G1 Ha Hb I1 s1 (.bl _) p
theorem ex_dnotinO (h : EX K ty G fun e G1 => ∃ l d r, G1[i]? = some (.own l d) ∧ d.look e = some r ∧ P (.bl (!r.isSome)) G1) : EX K (tDNotIn ty (tVar i)) G P := fun H0 F H H1 σ Q I q =>
  h H0 F H H1 σ _ I fun v e G1 Ha Hb I1 s1 r1 ⟨l, d, r, hG, e1, p⟩ => by
    obtain ⟨ev, _, _, u, hu, ob⟩ := I1.own i l d hG
    obtain ⟨o, g, k0, k⟩ := look_get hu ob I1.s r1 e1
    refine ⟨.ref l, ev, l, o, rfl, g, ?_⟩
    have : o.isSome = r.isSome := by
      cases r with
      | none => rw [k0 rfl]; rfl
      | some x => obtain ⟨z, rfl, _⟩ := k x rfl; rfl
    rw [this]
    exact q _ _ G1 Ha Hb I1 s1 (.bl _) p
theorem isD_of {H : Hp} {a : Addr} {u : HO} {d e : Dt} {r : Option Dt} {H1 : Hp} (hu : H1 a = some u) (q : Ob K H u d) (h : d.look e = some r) : IsD H1 a := by
  cases d with
  | dk ks => obtain ⟨xs, rfl, _⟩ := Ob.dk_inv q; exact .inl ⟨_, .inl hu⟩
  | dt ks => obtain ⟨xs, rfl, _⟩ := Ob.dt_inv q; exact .inr ⟨_, .inl hu⟩
  | _ => cases h
/-- d.get(y, z) -/
theorem ex_dget2 (h : EX K td G fun d G1 => (∃ e r, d.look e = some r) ∧ EX K ty G1 fun e G2 => EX K tx G2 fun z G3 => ∃ r, d.look e = some r ∧ P (r.getD z) G3) : EX K (tDGet2 td ty tx) G P := fun H0 F H H1 σ Q I q =>
  h H0 F H H1 σ _ I fun v d G1 Ha Hb I1 s1 r1 ⟨⟨e0, r0, h0⟩, h1⟩ => by
    obtain ⟨a, u, rfl, hu, ob⟩ := r1.dict h0
    refine ⟨a, rfl, isD_of (I1.s _ _ hu) ob h0, h1 H0 F Ha Hb σ _ I1 fun w e G2 Hc Hd I2 s2 r2 h2 => h2 H0 F Hc Hd σ _ I2 fun w' z G3 He Hf I3 s3 r3 ⟨r, e1, p⟩ => ?_⟩
    obtain ⟨o, g, k0, k⟩ := look_get (I3.s _ _ (s3.b _ _ (s2.b _ _ hu))) ((ob.mono s2.b).mono s3.b) I3.s (r2.mono s3.b) e1
    refine ⟨o, g, ?_⟩
    cases r with
    | none => rw [k0 rfl]; exact q _ _ G3 He Hf I3 (s1.trans (s2.trans s3)) r3 p
    | some x => obtain ⟨y, rfl, ry⟩ := k x rfl; exact q _ _ G3 He Hf I3 (s1.trans (s2.trans s3)) ry p
/-! ### writing a dict of one's own -/
variable {R : Dt → List Sl → Prop} {N : List Sl → Prop}
theorem sx_dput (h : EX K te G fun v G1 => (∃ l d, G1[i]? = some (.own l d)) ∧ EX K ty G1 fun e G2 => ∃ l d d', G2[i]? = some (.own l d) ∧ d.put e v = some d' ∧ N (G2.set i (.own l d'))) : SX K (sDPut (tVar i) ty te) G R N := fun H0 F H H1 σ D I q1 q2 =>
  h H0 F H H1 σ _ I fun v z G1 Ha Hb I1 s1 r1 ⟨⟨l0, d0, h0⟩, h1⟩ => by
    refine ⟨.ref l0, I1.val h0, h1 H0 F Ha Hb σ _ I1 fun w e G2 Hc Hd I2 s2 r2 ⟨l, d, d', hG, e1, p⟩ => ?_⟩
    obtain rfl := own_eq I1 I2 h0 hG
    obtain ⟨_, _, _, u, hu, ob⟩ := I2.own i l d hG
    obtain ⟨u', ob', g⟩ := put_get hu ob I2.s r2 (r1.mono s2.b) e1
    exact ⟨l, _, rfl, g, q2 _ _ _ _ (I2.write hG ob').1 p⟩
/-! ### lists of one's own -/
theorem own_lst {H0 F H H1 : Hp} {σ : L2.St} {l : Addr} {ds : List Dt} (I : En K H0 F H H1 σ G) (h : G[i]? = some (.own l (.lst ds))) : ∃ xs, σ[i]? = some (some (.ref l)) ∧ H1 l = some (.lst xs) ∧ Ra K H xs ds := by
  obtain ⟨a, _, _, u, e, o⟩ := I.own i l _ h
  obtain ⟨xs, rfl, r⟩ := o.lst_inv
  exact ⟨xs, a, e, r⟩
theorem Ra.dropLast {H : Hp} {xs : List V} {ds : List Dt} (r : Ra K H xs ds) : Ra K H xs.dropLast ds.dropLast := by
  rw [List.dropLast_eq_take, List.dropLast_eq_take, r.length]
  exact r.take _
theorem ex_pop (h : ∃ l ds d, G[i]? = some (.own l (.lst (ds ++ [d]))) ∧ P d (G.set i (.own l (.lst ds)))) : EX K (tBM0 K "list" rPop (tVar i)) G P := fun H0 F H H1 σ Q I q => by
  obtain ⟨l, ds, d, hG, p⟩ := h
  obtain ⟨xs, e1, e2, r⟩ := own_lst I hG
  have hl : xs.length = ds.length + 1 := by rw [r.length]; simp
  obtain ⟨v, hv, rv⟩ := r.get (i := ds.length) (d := d) (by simp)
  refine ⟨.ref l, e1, .inl ⟨rfl, xs, SqL.of e2⟩, l, xs, v, rfl, rfl, e2, by rw [hl]; exact hv, ?_⟩
  have rd := r.dropLast
  rw [List.dropLast_concat] at rd
  obtain ⟨I2, s2⟩ := I.write (u := .lst xs.dropLast) (d' := .lst ds) hG rd
  exact q v d _ _ _ I2 s2 rv p
theorem ex_popAt {ti : TE} (hk : ∃ l ds, G[i]? = some (.own l (.lst ds))) (h : EX K ti G fun y G1 => ∃ l ds k d, y = .int k ∧ G1[i]? = some (.own l (.lst ds)) ∧ 0 ≤ k ∧ k < (ds.length : Int) ∧ ds.length ≤ 1000000 ∧ ds[k.toNat]? = some d ∧ P d (G1.set i (.own l (.lst (ds.eraseIdx k.toNat))))) :
    EX K (tBM K "list" rPopAt (tVar i) (tCons ti tNil)) G P := fun H0 F H H1 σ Q I q => by
  obtain ⟨l0, ds0, h0⟩ := hk
  obtain ⟨xs0, e1, e2, _⟩ := own_lst I h0
  refine ⟨.ref l0, e1, .inl ⟨rfl, xs0, SqL.of e2⟩, h H0 F H H1 σ _ I fun v y G1 Ha Hb I1 s1 r1 ⟨l, ds, k, d, ey, hG, k0, k1, kl, hd, p⟩ => ?_⟩
  subst ey
  obtain rfl := own_eq I I1 h0 hG
  obtain ⟨xs, e3, e4, r⟩ := own_lst I1 hG
  rw [r1.int_inv]
  obtain ⟨w, hw, rw'⟩ := r.get hd
  have hl := r.length
  refine ⟨l, xs, k, k.toNat, w, rfl, rfl, e4, by omega, by omega, PySem.StrLaws.seqIndex_nonneg k0 (by omega), hw, ?_⟩
  obtain ⟨I2, s2⟩ := I1.write (u := .lst (xs.eraseIdx k.toNat)) (d' := .lst (ds.eraseIdx k.toNat)) hG (r.eraseIdx _)
  exact q w d _ _ _ I2 (s1.trans s2) rw' p
theorem ex_lenO (h : ∃ l ds, G[i]? = some (.own l (.lst ds)) ∧ P (.int (ds.length : Int)) G) : EX K (tCB (fun xs H Q => ∃ p ys, xs = [.ref p] ∧ (SqL K H p ys ∨ SqT K H p ys) ∧ Q (.int ys.length) H) (tCons (tVar i) tNil)) G P := fun H0 F H H1 σ Q I q => by
  obtain ⟨l, ds, hG, p⟩ := h
  obtain ⟨xs, e1, e2, r⟩ := own_lst I hG
  refine ⟨.ref l, e1, l, xs, rfl, .inl (SqL.of e2), ?_⟩
  rw [r.length]
  exact q _ _ G H H1 I Stp.refl (.int _) p
theorem ex_ixO {ti : TE} (hk : ∃ l ds, G[i]? = some (.own l (.lst ds))) (h : EX K ti G fun y G1 => ∃ l ds k d, y = .int k ∧ G1[i]? = some (.own l (.lst ds)) ∧ L2.atI ds k = some d ∧ P d G1) : EX K (tOp (rIx K) (tVar i) ti) G P := fun H0 F H H1 σ Q I q => by
  obtain ⟨l0, ds0, h0⟩ := hk
  refine ⟨.ref l0, I.val h0, h H0 F H H1 σ _ I fun v y G1 Ha Hb I1 s1 r1 ⟨l, ds, k, d, ey, hG, hd, p⟩ => ?_⟩
  subst ey
  obtain rfl := own_eq I I1 h0 hG
  obtain ⟨xs, e3, e4, r⟩ := own_lst I1 hG
  rw [r1.int_inv]
  obtain ⟨w, hw, rw'⟩ := r.atI hd
  exact .inl ⟨l, xs, k, w, rfl, rfl, SqL.of e4, hw, q w d G1 Ha Hb I1 s1 rw' p⟩
theorem sx_setL {ti : TE} (h : EX K te G fun d G1 => (∃ l ds, G1[i]? = some (.own l (.lst ds))) ∧ EX K ti G1 fun y G2 => ∃ l ds k j, y = .int k ∧ G2[i]? = some (.own l (.lst ds)) ∧ ixN ds.length k = some j ∧ N (G2.set i (.own l (.lst (ds.set j d))))) :
    SX K (tAsg te (gSub (tVar i) ti rSetL)) G R N := fun H0 F H H1 σ D I q1 q2 =>
  h H0 F H H1 σ _ I fun v d G1 Ha Hb I1 s1 r1 ⟨⟨l0, ds0, h0⟩, h1⟩ => by
    refine ⟨.ref l0, I1.val h0, h1 H0 F Ha Hb σ _ I1 fun w y G2 Hc Hd I2 s2 r2 ⟨l, ds, k, j, ey, hG, hj, p⟩ => ?_⟩
    subst ey
    obtain rfl := own_eq I1 I2 h0 hG
    obtain ⟨xs, e3, e4, r⟩ := own_lst I2 hG
    rw [r2.int_inv]
    refine ⟨l, xs, k, j, rfl, rfl, e4, by rw [r.length]; exact hj, ?_⟩
    exact q2 _ _ _ _ (I2.write (u := .lst (xs.set j v)) (d' := .lst (ds.set j d)) hG (r.set j (r1.mono s2.b))).1 p
end
end Wd

set_option Elab.async false
set_option linter.all false
set_option maxRecDepth 100000
/-! D8: isinstance, and what else of built-in things. -/
namespace Wd
open PySem L2
inductive Tn where
  | non | bool | int | str | lst | tup | dict
  deriving DecidableEq
def Tn.s : Tn → String
  | .non => "NoneType"
  | .bool => "bool"
  | .int => "int"
  | .str => "str"
  | .lst => "list"
  | .tup => "tuple"
  | .dict => "dict"
def Dt.tn : Dt → Tn
  | .non => .non
  | .bl _ => .bool
  | .int _ => .int
  | .str _ => .str
  | .lst _ => .lst
  | .tup _ => .tup
  | .pt _ => .tup
  | .dk _ => .dict
  | .dt _ => .dict
  | .fl _ => .lst
  | .ad _ => .non
def Dt.isAd : Dt → Bool
  | .ad _ => true
  | _ => false
def Tn.is : Tn → Tn → Bool
  | .bool, .int => true
  | a, b => decide (a = b)
theorem kit_bool (K : PySem.W.Frag) (a : Tn) : PySem.W.kitOne K (.type a.s) (.type "bool") = some (a.is .bool) := by cases a <;> kernel_rfl
theorem kit_int (K : PySem.W.Frag) (a : Tn) : PySem.W.kitOne K (.type a.s) (.type "int") = some (a.is .int) := by cases a <;> kernel_rfl
theorem kit_str (K : PySem.W.Frag) (a : Tn) : PySem.W.kitOne K (.type a.s) (.type "str") = some (a.is .str) := by cases a <;> kernel_rfl
theorem kit_lst (K : PySem.W.Frag) (a : Tn) : PySem.W.kitOne K (.type a.s) (.type "list") = some (a.is .lst) := by cases a <;> kernel_rfl
theorem kit_tup (K : PySem.W.Frag) (a : Tn) : PySem.W.kitOne K (.type a.s) (.type "tuple") = some (a.is .tup) := by cases a <;> kernel_rfl
theorem kit_lt (K : PySem.W.Frag) (a : Tn) : PySem.W.kitAny K (.type a.s) [.type "list", .type "tuple"] = some (a.is .lst || a.is .tup) := by cases a <;> kernel_rfl
theorem kit_bs (K : PySem.W.Frag) (a : Tn) : PySem.W.kitAny K (.type a.s) [.type "bool", .type "str"] = some (a.is .bool || a.is .str) := by cases a <;> kernel_rfl
section
variable {K : PySem.W.Frag} {H H1 : Hp}
theorem Rp.tyX {v : V} {d : Dt} (r : Rp K H v d) (hd : d.isAd = false) (s : Same H H1) : TyX K H1 v (.type d.tn.s) := by
  cases r with
  | non => exact .base .non
  | bl b => exact .base (.bl b)
  | int i => exact .base (.int i)
  | str x => exact .base (.str x)
  | lst h _ => exact .base (.lst (s _ _ h))
  | tup h _ => exact .base (.tup (s _ _ h))
  | ftup h _ _ => exact .fTuple (s _ _ h)
  | pt h _ _ _ => exact .fTuple (s _ _ h)
  | dk h _ => exact .base (.dK (s _ _ h))
  | dt h _ => exact .base (.dT (s _ _ h))
  | ad a => cases hd
  | fl h =>
    rcases s.seq h with (h | ⟨o, h⟩) | ⟨o, its, n, h, c, _⟩
    · exact .base (.lst h)
    · exact .base (.frz h)
    · exact .kList h c
end
variable [B : Tb]
section
variable {K : PySem.W.Frag} {G : List Sl} {P : Dt → List Sl → Prop} {te : TE}
theorem ex_isi {c : Tn} (hc : ∀ a : Tn, PySem.W.kitOne K (.type a.s) (.type c.s) = some (a.is c)) (h : EX K te G fun d G1 => d.isAd = false ∧ P (.bl (d.tn.is c)) G1) : EX K (tCB (rIsi K) (tCons te (tCons (tC (.ty c.s)) tNil))) G P := fun H0 F H H1 σ Q I q =>
  h H0 F H H1 σ _ I fun v d G1 Ha Hb I1 s1 r1 ⟨na, p⟩ => ⟨v, .ty c.s, .type d.tn.s, .type c.s, _, rfl, .ty _, r1.tyX na I1.s, hc _, q _ _ G1 Ha Hb I1 s1 (.bl _) p⟩
theorem ex_isi2 {a b : Tn} (hc : ∀ x : Tn, PySem.W.kitAny K (.type x.s) [.type a.s, .type b.s] = some (x.is a || x.is b)) (h : EX K te G fun d G1 => d.isAd = false ∧ P (.bl (d.tn.is a || d.tn.is b)) G1) :
    EX K (tCB (rIsiT K) (tCons te (tCons (tTup (tCons (tC (.ty a.s)) (tCons (tC (.ty b.s)) tNil))) tNil))) G P := fun H0 F H H1 σ Q I q =>
  h H0 F H H1 σ _ I fun v d G1 Ha Hb I1 s1 r1 ⟨na, p⟩ => ⟨by show 2 ≤ sizeLine; decide, fun t ht => by
    have g : Gr Ha Hb (upd Ha t (.tup [.ty a.s, .ty b.s])) (upd Hb t (.tup [.ty a.s, .ty b.s])) := Gr.new I1.s ht
    refine ⟨v, t, [.ty a.s, .ty b.s], .type d.tn.s, [.type a.s, .type b.s], _, rfl, upd_same, .cons (.ty _) (.cons (.ty _) .nil), (r1.mono g.b).tyX na g.s, hc _, q _ _ G1 _ _ (I1.gr g) (s1.trans g.stp) (.bl _) p⟩⟩
end
end Wd

set_option Elab.async false
set_option linter.all false
set_option maxRecDepth 100000
/-! M0: a, b = x, y by a tuple, one of the two a new object. -/
namespace Wd
open PySem L2
variable [B : Tb]
section
variable {K : PySem.W.Frag} {G : List Sl} {R : Dt → List Sl → Prop} {N : List Sl → Prop} {ta tb : TE}
/-- the tuple itself is forgotten -/
theorem tup2_stored {H0 F H' H2 : Hp} {σ : L2.St} {G2 : List Sl} {i j : Nat} {v w : V} {Q : L2.St → Hp → Prop} (I : En K H0 F H' H2 σ G2) (k : ∀ H3, En K H0 F H' H3 σ G2 → Same H2 H3 → Q ((σ.set i (some v)).set j (some w)) H3) :
    ∀ t, H2 t = none → gTup K 2 (gCons (gName i) (gCons (gName j) gNil)) (.ref t) σ (upd H2 t (.tup [v, w])) Q := fun t ht => by
  have g : Gr H' H2 H' (upd H2 t (.tup [v, w])) := .of (Same.refl _) (I.s.trans (Same.upd ht)) (Same.upd ht) (fun _ _ _ z => z) id
  exact ⟨t, [v, w], rfl, .inl (.inl upd_same), rfl, v, [w], rfl, w, [], rfl, rfl, k _ (I.gr g) (Same.upd ht)⟩
theorem sx_tupM {i j : Nat} (h : EF K ta G fun d G1 => EX K tb G1 fun e G2 => ∀ p, N ((G2.set i (.own p d)).set j (.dat e))) : SX K (tAsg (tTup (tCons ta (tCons tb tNil))) (gTup K 2 (gCons (gName i) (gCons (gName j) gNil)))) G R N := fun H0 F H H1 σ D I q1 q2 =>
  h H0 F H H1 σ _ I fun p d u G1 Ha Hb I1 s1 a1 a2 a3 a4 h1 => h1 H0 F Ha Hb σ _ I1 fun w e G2 Hc Hd I2 s2 r2 z => by
    obtain ⟨f1, f2⟩ := fresh_own I s1 a1
    have f3 : ¬ Own G2 p := fun z => f2 (s2.w p z)
    refine ⟨by show 2 ≤ sizeLine; decide, fun t ht => tup2_stored I2 (fun H3 I3 s3 => ?_) t ht⟩
    exact q2 _ _ Hc H3 ((I3.setOwn i f1 (s2.o p u a3 (ob_mb a4) a2 f2) (s3 _ _ (s2.k p u a3 f2 (ob_ne a4))) (a4.mono s2.b) f3).set j r2) (z p)
theorem sx_tupN {i j : Nat} (h : EX K ta G fun d G1 => EF K tb G1 fun e G2 => ∀ p, N ((G2.set i (.dat d)).set j (.own p e))) : SX K (tAsg (tTup (tCons ta (tCons tb tNil))) (gTup K 2 (gCons (gName i) (gCons (gName j) gNil)))) G R N := fun H0 F H H1 σ D I q1 q2 =>
  h H0 F H H1 σ _ I fun v d G1 Ha Hb I1 s1 r1 h1 => h1 H0 F Ha Hb σ _ I1 fun p e u G2 Hc Hd I2 s2 a1 a2 a3 a4 z => by
    obtain ⟨f1, f2⟩ := fresh_own I1 s2 a1
    refine ⟨by show 2 ≤ sizeLine; decide, fun t ht => tup2_stored I2 (fun H3 I3 s3 => ?_) t ht⟩
    refine q2 _ _ Hc H3 ((I3.set i (r1.mono s2.b)).setOwn j f1 a2 (s3 _ _ a3) a4 fun ⟨k, c, h⟩ => ?_) (z p)
    rcases set_own h with ⟨_, h⟩ | ⟨_, h⟩
    · exact f2 ⟨k, c, h⟩
    · cases h
theorem sx_forM {wi : TI} {g : TG} {t : TS} (h : IX K wi G fun ds G1 => ∃ (α : Type) (xs : List α) (E : α → Dt) (W : Nat → List Sl → Prop), ds = xs.map E ∧ W 0 G1 ∧
    (∀ (i : Nat) (x : α) (G2 : List Sl), xs[i]? = some x → W i G2 → GX K g (E x) G2 fun G3 => SX K t G3 R (W (i + 1))) ∧ ∀ G2, W xs.length G2 → N G2) : SX K (tFor wi g t) G R N := by
  refine sx_for fun H0 F H H1 σ Q I q => h H0 F H H1 σ Q I fun J ds G' H' H2 I' s hJ ⟨α, xs, E, W, e, w0, hs, hd⟩ => q J ds G' H' H2 I' s hJ ⟨W, w0, fun i d G2 hi hw => ?_, fun G2 hw => hd G2 (by rw [e, List.length_map] at hw; exact hw)⟩
  subst e
  rw [List.getElem?_map] at hi
  cases hx : xs[i]? with
  | none => rw [hx] at hi; cases hi
  | some x =>
    rw [hx] at hi
    obtain rfl := Option.some.inj hi
    exact hs i x G2 hx hw
end
end Wd

set_option Elab.async false
set_option linter.all false
set_option maxRecDepth 100000
set_option maxHeartbeats 1000000
/-! L1: sorted of two by a lambda that reads the second item. -/
namespace Wd
open PySem L2 PyProof.Rows PySem.Calls
/-- every object of a heap but the one at L -/
def allBut (h : Heap) (L : Addr) : List (Addr × Obj) := (List.range h.objs.size).filterMap fun b => if b = L then none else (h.get? b).map fun o => (b, o)
theorem allBut_mem {h : Heap} {L b : Addr} {o : Obj} (hb : b ≠ L) (e : h.get? b = some o) : (b, o) ∈ allBut h L := by
  unfold allBut
  rw [List.mem_filterMap]
  exact ⟨b, List.mem_range.mpr (Heap.lt_size e), by rw [if_neg hb, e]; rfl⟩
theorem allBut_of {h : Heap} {L : Addr} {p : Addr × Obj} (e : p ∈ allBut h L) : p.1 ≠ L ∧ h.get? p.1 = some p.2 := by
  unfold allBut at e
  rw [List.mem_filterMap] at e
  obtain ⟨b, _, e⟩ := e
  split at e
  · cases e
  · rename_i n
    cases q : h.get? b with
    | none => rw [q] at e; cases e
    | some o => rw [q] at e; cases e; exact ⟨n, q⟩
def emptyHeap : Heap := { objs := #[] }
theorem empty_get (b : Addr) : emptyHeap.get? b = none := by
  unfold emptyHeap
  exact Heap.get?_none_of_le (Nat.zero_le _)
section
variable {X : Cx} {pins : List (Addr × Obj)} {σ : L2.St} {H : Hp} {s : Shared} {Q : VK}
/-- a new list behind a call that may have made the frame's dict anew -/
theorem inv_new {h' : Heap} {tk : Nat} {D : Addr} {o : HO} (I : Inv X pins σ H s) (k : ∀ b u, b ≠ X.env.locals → s.heap.get? b = some u → h'.get? b = some u) (ns : ∀ m, s.heap.Ns X.env.locals m → h'.Ns X.env.locals m)
    (hD : H D = none) (hn : ∀ b u, s.heap.get? b = some u → b ≠ D) (new : ObjOk X.prog X.w (upd H D o) h' D o) : Inv X pins σ (upd H D o) { s with heap := h', toks := tk } := by
  have nD : ∀ b u, H b = some u → b ≠ D := fun b u e => ne_of_none e hD
  have nL : ∀ b u, H b = some u → b ≠ X.env.locals := fun b u e => ne_of_none e I.free
  refine I.step (g' := s.gens) (d' := s.drawn) (ch := []) (fun b hb => absurd hb (by simp)) (fun b o n _ _ e _ => k b o n e) (fun b o n _ _ e _ => ⟨o.slots, k b o n e⟩) (fun b o _ e n => by rw [upd_ne (hn b o e)]; exact n) (fun b o _ e => ?_)
    (fun b xs e => by rw [upd_ne (nD b _ e)]; exact e) (fun b o u e => by rw [upd_ne (nD b _ e)]; exact e) (fun b ps e => ⟨#[], by rw [upd_ne (nD b _ e)]; simpa using e⟩) ns (fun b u e => ?_) I.bare
  · by_cases z : b = X.env.locals
    · obtain ⟨m, hm, _⟩ := I.loc
      obtain ⟨o', _, _, e', _⟩ := ns m hm
      exact ⟨o', by rw [z]; exact e'⟩
    · exact ⟨o, k b o z e⟩
  · by_cases z : b = D
    · subst z; rw [upd_same] at e; cases e; exact new
    · rw [upd_ne z] at e
      refine (I.hok b u e).stay (fun c v hc q => k c v ?_ q) (fun c q => by rw [upd_ne (nD c _ q)]; exact q) fun c xs q => by rw [upd_ne (nD c _ q)]; exact q
      rcases hc with hc | hc
      · rw [hc]; exact nL b u e
      · exact nL c _ hc
theorem ns_fun {h : Heap} {L : Addr} {m m' : Str → Option Value} (a : h.Ns L m) (b : h.Ns L m') : m = m' := by
  obtain ⟨o, es, ep, e, d, _, f⟩ := a
  obtain ⟨o', es', ep', e', d', _, f'⟩ := b
  rw [e] at e'; cases e'
  rw [d] at d'; cases d'
  funext x
  rw [← f x, f' x]
theorem objOk_get {P : Program} {w : World} {H : Hp} {h : Heap} {a : Addr} {o : HO} (x : ObjOk P w H h a o) : ∃ u, h.get? a = some u := by
  cases o with
  | lst xs => obtain ⟨_, _, _, _, e⟩ := x; exact ⟨_, e⟩
  | tup xs => obtain ⟨_, _, _, _, e, _⟩ := x; exact ⟨_, e⟩
  | dK kvs => obtain ⟨_, _, _, _, o, _, _, e, _⟩ := x; exact ⟨_, e⟩
  | dT kvs => obtain ⟨_, _, _, _, o, _, _, e, _⟩ := x; exact ⟨_, e⟩
  | set S n => obtain ⟨o, _, _, _, e, _⟩ := x; exact ⟨_, e⟩
  | ins C dx fs => obtain ⟨_, _, _, e, _⟩ := x; exact ⟨_, e⟩
  | own y => obtain ⟨_, e⟩ := x; exact ⟨_, e⟩
  | xd fs => obtain ⟨_, ⟨_, _, _, e, _⟩, _⟩ := x; exact ⟨_, e⟩
  | rng lo hi => obtain ⟨_, _, _, e⟩ := x; exact ⟨_, e⟩
  | frz ob u => obtain ⟨e, _⟩ := x; exact ⟨_, e⟩
  | tbl ps => exact ⟨_, (show h.get? a = some _ from x)⟩
  | met f y => exact ⟨_, (show h.get? a = some _ from x)⟩
  | ext φ => obtain ⟨_, ⟨_, e⟩, _⟩ := x; exact ⟨_, e⟩
/-- the lambda's body: the second item of what it gets -/
theorem lam_turn {A : Around} {h : Heap} {tk : Nat} {L f c' a : Addr} {m : Str → Option Value} {y q : Str} {params : Arguments} {body : Expr} {scope : Scope} {pm ctv : Value} {u1 : Value} {k : Int} {t : Tok} {news : List (Addr × Obj)} {p1 p2 p3 : Pos} {j : Nat}
    (F : PyProof.Rows.Fr emptyHeap L h m) (N : News emptyHeap L h news) (hlim : h.NoLimit) (hf : h.get? f = some (PySem.W.kla_obj "<lambda>" q params body scope [] pm c' ctv)) (hc : h.CodeRec (.ref c') q) (ha : IsTup h a #[u1, .int k t]) (hA : A.depth < recursionLimit)
    (eb : body = .Subscript (.Name y p1) (.Constant (.int 1) j p2) p3) (hsc : scope.names = [(y, .local)]) (hk : scope.kind = .function) (hco : scope.isCoroutine = false) (hge : scope.isGenerator = false)
    (hb : ∀ (q : Str) (cl : List (Str × Addr)) (pm cv ctv v : Value), bindArgs (PySem.W.kla_fn "<lambda>" q params body scope cl pm cv ctv) ⟨[v], []⟩ = pure [(y, v)]) (hd : (y == ("__debug__" : Str)) = false) :
    wpAny (model X.prog X.w) A (call (.ref f) [.ref a]) (KskEnd emptyHeap L m news k { s with heap := h, toks := tk }) (fun _ _ => False) { s with heap := h, toks := tk } := by
  refine wpAny_call (PySem.W.kla_callFunE hA hf rfl hco hge rfl hc ?_)
  rw [hb]
  refine wpAny_pure (wpAny_newFunctionEnv (fun z hz => ?_) (fun z hz => ?_) (fun h₁ hns hsb => ⟨hlim.fresh _ hsb, ?_⟩) hk)
  · rw [hsc] at hz
    rw [List.mem_singleton.mp hz]
    exact fun e => by cases e
  · rw [List.mem_singleton.mp hz, hsc]
    simp [List.lookup]
  have kp : ∀ b o, h.get? b = some o → h₁.get? b = some o := fun b o e => hsb.extBut b o (Nat.ne_of_lt (Heap.lt_size e)) (Heap.get?_push_of_some _ e)
  subst eb
  refine PySem.W.kla_codeExpr (Subscript_ (wpAny_Name (wpAny_loadName_local hk ?_ hns (v := .ref a) ?_ ?_) hd))
  · show scope.names.lookup y = some .local
    rw [hsc]; simp [List.lookup]
  · simp [List.lookup]
  refine wpAny_Constant_int ?_
  refine subscriptTail_builtinR (x := .int k t) (ha.keeps kp).typeIs slot_tuple_getitem.lookup (getItem_tuple (j := 1) (Q := fun r s' => r = .int k t ∧ KskEnd emptyHeap L m news k { s with heap := h, toks := tk } r s') (ha.keeps kp) (by omega) (by omega) (by rfl) rfl ⟨rfl, ?_⟩) (by with_unfolding_all rfl)
  exact ⟨_, _, _, rfl, rfl, ⟨F.ns.keeps kp, fun b o e => kp b o (F.keep b o e), F.above⟩, fun p hp => ⟨kp _ _ (N p hp).1, (N p hp).2⟩⟩
/-- sorted([v1, v2], key=lambda y: y[1]) -/
theorem sorted_lam {l f c' a1 a2 : Addr} {x1 x2 : V} {k1 k2 : Int} {y q : Str} {params : Arguments} {body : Expr} {scope : Scope} {pm ctv : Value} {p1 p2 p3 : Pos} {j : Nat} (I : Inv X pins σ H s) (hl : SqL X.K H l [.ref a1, .ref a2]) (h1 : H a1 = some (.tup [x1, .int k1])) (h2 : H a2 = some (.tup [x2, .int k2]))
    (hf : s.heap.get? f = some (PySem.W.kla_obj "<lambda>" q params body scope [] pm c' ctv)) (hfL : f ≠ X.env.locals) (hc : H c' = some (LamX.CodeO c' q)) (hA : X.A.depth < recursionLimit)
    (eb : body = .Subscript (.Name y p1) (.Constant (.int 1) j p2) p3) (hsc : scope.names = [(y, .local)]) (hk : scope.kind = .function) (hco : scope.isCoroutine = false) (hge : scope.isGenerator = false)
    (hb : ∀ (q : Str) (cl : List (Str × Addr)) (pm cv ctv v : Value), bindArgs (PySem.W.kla_fn "<lambda>" q params body scope cl pm cv ctv) ⟨[v], []⟩ = pure [(y, v)]) (hd : (y == ("__debug__" : Str)) = false)
    (hQ : ∀ p, H p = none → (k1 ≤ k2 → Q (.ref p) (upd H p (.lst [.ref a1, .ref a2]))) ∧ (k2 ≤ k1 → Q (.ref p) (upd H p (.lst [.ref a2, .ref a1])))) :
    wpAny (model X.prog X.w) X.A (call (.builtin "sorted") [.ref l] [(Str.ofString "key", .ref f)]) (EP X pins σ Q) X.xe s := by
  obtain ⟨its, rv, hpl, hz⟩ := I.list hl
  obtain ⟨w1, w2, rfl, e1, e2⟩ := vals2 rv
  obtain rfl : w1 = Value.ref a1 := e1
  obtain rfl : w2 = Value.ref a2 := e2
  obtain ⟨m, hns, _⟩ := I.loc
  have tup : ∀ {a : Addr} {x : V} {k : Int}, H a = some (.tup [x, .int k]) → ∃ u t, IsTup s.heap a #[u, .int k t] ∧ a ≠ X.env.locals := fun {a x k} e => by
    obtain ⟨its, r, t, _⟩ := I.tuple (SqT.of e)
    obtain ⟨u, v, rfl, r1, r2⟩ := vals2 r
    obtain ⟨t', rfl⟩ := r2
    exact ⟨u, t', t, ne_of_none e I.free⟩
  obtain ⟨u1, t1, T1, n1⟩ := tup h1
  obtain ⟨u2, t2, T2, n2⟩ := tup h2
  have F : PyProof.Rows.Fr emptyHeap X.env.locals s.heap m := ⟨hns, fun b o e => (by rw [empty_get] at e; cases e), Nat.zero_le _⟩
  have N : News emptyHeap X.env.locals s.heap (allBut s.heap X.env.locals) := fun p hp => ⟨(allBut_of hp).2, (allBut_of hp).1, empty_get _⟩
  have get : ∀ {h : Heap} {own : List (Addr × Obj)}, News emptyHeap X.env.locals h (allBut s.heap X.env.locals ++ own) → ∀ b o, b ≠ X.env.locals → s.heap.get? b = some o → h.get? b = some o := fun {h own} N' b o n e => (N' (b, o) (List.mem_append_left _ (allBut_mem n e))).1
  have lim : ∀ {h : Heap} {own : List (Addr × Obj)}, News emptyHeap X.env.locals h (allBut s.heap X.env.locals ++ own) → h.NoLimit := fun {h own} N' => I.mod.nolimit.keeps fun b o e => get N' b o (fun z => by
    have := Heap.lt_size e
    rw [z] at this
    exact absurd (Nat.lt_of_lt_of_le this (Nat.le_trans I.ok.bsz I.ok.above)) (Nat.lt_irrefl _)) (I.bk b o e)
  have code : ∀ {h : Heap} {own : List (Addr × Obj)}, News emptyHeap X.env.locals h (allBut s.heap X.env.locals ++ own) → h.CodeRec (.ref c') q := fun {h own} N' => by
    obtain ⟨⟨oc, vs, t, hoc, hdc, hvc⟩, _, _⟩ := I.hok c' _ hc
    exact ⟨c', oc, vs, t, rfl, get N' _ _ (ne_of_none hc I.free) hoc, hdc, hvc⟩
  have tk : ∀ {h : Heap} {own : List (Addr × Obj)} {a : Addr} {its : Array Value}, News emptyHeap X.env.locals h (allBut s.heap X.env.locals ++ own) → a ≠ X.env.locals → IsTup s.heap a its → IsTup h a its := fun {h own a its} N' n ⟨o, e, r⟩ => ⟨o, get N' _ _ n e, r⟩
  have fin : ∀ {v : List V} {vs : List Value} {D c tk : Nat} {h' : Heap}, PyProof.Rows.Fr emptyHeap X.env.locals h' m → News emptyHeap X.env.locals h' ((D, PySem.W.listOf vs.toArray c) :: allBut s.heap X.env.locals) → (∀ q ∈ allBut s.heap X.env.locals, q.1 < D) → Vals v vs → v.length ≤ sizeLine →
      (H D = none → Q (.ref D) (upd H D (.lst v))) → EP X pins σ Q (.ref D) { s with heap := h', toks := tk } := fun {v vs D c tk h'} F' N' lt r hz q => by
    have nD := N' (D, PySem.W.listOf vs.toArray c) (List.mem_cons_self ..)
    have keep : ∀ b u, b ≠ X.env.locals → s.heap.get? b = some u → h'.get? b = some u := fun b u n e => (N' (b, u) (List.mem_cons_of_mem _ (allBut_mem n e))).1
    have ne : ∀ b u, s.heap.get? b = some u → b ≠ D := fun b u e => by
      by_cases z : b = X.env.locals
      · rw [z]; exact nD.2.1.symm
      · exact Nat.ne_of_lt (lt _ (allBut_mem z e))
    have hD : H D = none := by
      cases e : H D with
      | none => rfl
      | some o =>
        cases e' : s.heap.get? D with
        | some u => exact absurd rfl (ne D u e')
        | none =>
          obtain ⟨u, eu⟩ := objOk_get (I.hok D o e)
          rw [e'] at eu; cases eu
    refine ⟨.ref D, _, inv_new (o := .lst v) I keep (fun m' hm' => by have z := ns_fun hm' hns; subst z; exact F'.ns) hD ne (show ObjOk X.prog X.w (upd H D (.lst v)) h' D (.lst v) from ⟨hz, vs, c, r, nD.1⟩), rfl, q hD⟩
  refine ksk_two (b := false) k1 k2 F N hpl.isList (ksk_s1 _ _) (fun _ => ksk_l1 _ _) (fun _ => ksk_t1 _ _) (fun h tk' own F' N' => ?_) (fun h tk' own F' N' => ?_) (fun r D c h' tk' F' N' l1 => ?_) (fun r D c h' tk' F' N' l1 => ?_)
  · exact lam_turn F' N' (lim N') (get N' _ _ hfL hf) (code N') (tk N' n1 T1) hA eb hsc hk hco hge hb hd
  · exact lam_turn F' N' (lim N') (get N' _ _ hfL hf) (code N') (tk N' n2 T2) hA eb hsc hk hco hge hb hd
  · exact fin (v := [.ref a1, .ref a2]) (vs := [.ref a1, .ref a2]) F' N' l1 (.cons rfl (.cons rfl .nil)) hz fun hD => (hQ D hD).1 r
  · exact fin (v := [.ref a2, .ref a1]) (vs := [.ref a2, .ref a1]) F' N' l1 (.cons rfl (.cons rfl .nil)) hz fun hD => (hQ D hD).2 r

/-- sorted(e, key=lambda y: y[1]) -/
def tSortLam [B : Tb] (K : PySem.W.Frag) (t : TA) : TE := fun σ H Q => t σ H fun vs H1 => ∃ (l a1 a2 : Addr) (x1 x2 : V) (k1 k2 : Int), vs = [.ref l] ∧ LamX.TabS H1 B.P B.q ∧
  ∀ H2, LamX.ExtN H1 H2 → LamX.TabS H2 B.P B.q → SqL K H2 l [.ref a1, .ref a2] ∧ H2 a1 = some (.tup [x1, .int k1]) ∧ H2 a2 = some (.tup [x2, .int k2]) ∧
    ∀ p, H2 p = none → (k1 ≤ k2 → Q (.ref p) (upd H2 p (.lst [.ref a1, .ref a2]))) ∧ (k2 ≤ k1 → Q (.ref p) (upd H2 p (.lst [.ref a2, .ref a1])))
theorem pe_sortLam [B : Tb] {c : Addr} {y : Str} {params : Arguments} {body e : Expr} {scope : Scope} {t : TA} {p pos kpos lpos p1 p2 p3 : Pos} {j n : Nat} (hg : Gl X "sorted") (hm : X.mg "sorted" = none) (ha : PA X [e] t)
    (TB : LamX.TabB X.base X.mg c B.P) (hcode : X.env.code = .ref c) (hq : B.q = X.env.qual ++ "<lambda>") (hr : Room n X.A) (hdef : defaultsOf params X.env = ([], []))
    (eb : body = .Subscript (.Name y p1) (.Constant (.int 1) j p2) p3) (hsc : scope.names = [(y, .local)]) (hk : scope.kind = .function) (hco : scope.isCoroutine = false) (hge : scope.isGenerator = false)
    (hb : ∀ (q : Str) (cl : List (Str × Addr)) (pm cv ctv v : Value), bindArgs (PySem.W.kla_fn "<lambda>" q params body scope cl pm cv ctv) ⟨[v], []⟩ = pure [(y, v)]) (hd : (y == ("__debug__" : Str)) = false)
    (hstar : backTo pos (starEach [e] X.env) = (false, eval e X.env) :: backTo pos (starEach [] X.env) := by rfl) (hpl : (backTo pos (starEach [e] X.env)).any (·.1) = false := by rfl) :
    PE X (.Call (.Name "sorted" p) [e] [⟨some "key", .Lambda params body scope lpos, kpos⟩] pos) (tSortLam X.K t) := by
  refine ⟨fun pins s σ H Q I h => ?_⟩
  refine wpAny_Call_Name_kw (ld_blt I hg hm bt_sorted ?_ (by decide) (by decide))
  refine PyProof.Rows.callWith_kw (thn (ha.run pos pins s σ H _ I h) fun us s1 ⟨vs, H1, I1, r1, q1⟩ => ?_) hstar hpl rfl rfl
  obtain ⟨l, a1, a2, x1, x2, k1, k2, rfl, ht, hQ⟩ := q1
  obtain ⟨u, rfl, eu⟩ := vals1 r1
  obtain rfl : u = Value.ref l := eu
  show wpAny _ _ (evalAll ((do let v ← eval (.Lambda params body scope lpos) X.env; standAt pos; pure v) :: [])) _ _ s1
  refine wpAny_evalAll_cons (wpAny_bind ?_)
  refine LamX.lam_make2 (T := [(B.P, B.q)]) I1 TB hcode (by rw [← hq]; exact List.mem_singleton.mpr rfl) (fun p hp _ => by rw [List.mem_singleton.mp hp]; exact hq) (fun p hp => by rw [List.mem_singleton.mp hp]; exact ht) hdef (fun z hz e => by rw [hsc] at hz; rw [List.mem_singleton.mp hz] at e; cases e) fun f c' pm ctv H2 s2 I2 eN T2 hf hfn hfr hco' => ?_
  refine wpAny_bind (wpAny_standAt (wpAny_pure (wpAny_evalAll_nil ?_)))
  obtain ⟨hl, h1, h2, hQ⟩ := hQ H2 eN (T2 (B.P, B.q) (List.mem_singleton.mpr rfl))
  have ec : cloFrom X.env.cells scope.names [] = [] := by rw [hsc]; rfl
  rw [ec] at hf
  have hfL : f ≠ X.env.locals := fun z => by
    obtain ⟨m, ⟨o, es, ep, e, d, _⟩, _⟩ := I2.loc
    rw [z, e] at hf
    rw [Option.some.inj hf] at d
    cases d
  exact sorted_lam I2 hl h1 h2 hf hfL hco' hr.depth eb hsc hk hco hge hb hd hQ
end
/-! the data side: sorted of a new list of two classes -/
variable [B : Tb]
theorem ex_sortLam {K : PySem.W.Frag} {G : List Sl} {P : Dt → List Sl → Prop} {t : TA} (h : EA K t G fun ds G1 => ∃ a1 k1 a2 k2, ds = [.lst [.tup [a1, .int k1], .tup [a2, .int k2]]] ∧
    (k1 ≤ k2 → P (.lst [.tup [a1, .int k1], .tup [a2, .int k2]]) G1) ∧ (k2 ≤ k1 → P (.lst [.tup [a2, .int k2], .tup [a1, .int k1]]) G1)) : EX K (tSortLam K t) G P := fun H0 F H H1 σ Q I q =>
  h H0 F H H1 σ _ I fun vs ds G1 Ha Hb I1 s1 r1 ⟨a1, k1, a2, k2, e, p1, p2⟩ => by
    subst e
    cases r1 with
    | cons r1 rr =>
      cases rr
      obtain ⟨l, xs, rfl, hl, r⟩ := r1.lst_inv
      cases r with
      | cons ra r =>
        cases r with
        | cons rb r =>
          cases r
          obtain ⟨b1, ys, rfl, h1, r1'⟩ := ra.tup_exact ⟨.int k1, by simp, rfl⟩
          obtain ⟨b2, zs, rfl, h2, r2'⟩ := rb.tup_exact ⟨.int k2, by simp, rfl⟩
          cases r1' with
          | @cons v1 _ _ _ y1 r1' =>
            cases r1' with
            | cons y2 r1' =>
              cases r1'
              cases r2' with
              | @cons v2 _ _ _ z1 r2' =>
                cases r2' with
                | cons z2 r2' =>
                  cases r2'
                  rw [y2.int_inv] at h1
                  rw [z2.int_inv] at h2
                  refine ⟨l, b1, b2, v1, v2, k1, k2, rfl, I1.tab, fun H2 eN t2 => ?_⟩
                  have up : Same Ha H2 := fun b u e => eN b u (I1.s _ _ e) (not_tbl I1.p e)
                  refine ⟨SqL.of (up _ _ hl), up _ _ h1, up _ _ h2, fun p hp => ?_⟩
                  have fin : ∀ {c1 c2 : Addr} {d1 d2 : Dt}, Rp K Ha (.ref c1) d1 → Rp K Ha (.ref c2) d2 → P (.lst [d1, d2]) G1 → Q (.ref p) (upd H2 p (.lst [.ref c1, .ref c2])) := fun {c1 c2 d1 d2} q1 q2 z => by
                    have hs : Same Ha (upd Ha p (.lst [.ref c1, .ref c2])) := Same.upd (up.free hp)
                    have nt : NT (.lst [.ref c1, .ref c2]) := fun ps z => by cases z
                    have n1 : ∀ x u, Hb x = some u → NT u → x ≠ p := fun x u e n => ne_of_none (eN x u e n) hp
                    have g : Gr Ha Hb (upd Ha p (.lst [.ref c1, .ref c2])) (upd H2 p (.lst [.ref c1, .ref c2])) := by
                      refine ⟨hs, fun b o e => ?_, fun b o e n => ?_, fun b o e n h0 => ?_, fun _ => ?_, fun n => n.upd nt⟩
                      · by_cases w : b = p
                        · subst w; rw [upd_same] at e ⊢; exact e
                        · rw [upd_ne w] at e ⊢; exact up b o e
                      · rw [upd_ne (n1 b o e n)]; exact eN b o e n
                      · rw [upd_ne (n1 b o e n.nt)]; exact h0
                      · exact t2.ext (Same.upd hp)
                    exact q _ _ G1 _ _ (I1.gr g) (s1.trans g.stp) (.lst upd_same (.cons (q1.mono hs) (.cons (q2.mono hs) .nil))) z
                  have ea : Rp K Ha (.ref b1) (.tup [a1, .int k1]) := ra
                  exact ⟨fun le => fin ra rb (p1 le), fun le => fin rb ra (p2 le)⟩
end Wd

set_option Elab.async false
set_option linter.all false
set_option maxRecDepth 100000
namespace Wd
open PySem L2
variable [B : Tb]
variable {Pr : Program} {w : World} {K : PySem.W.Frag} {mg : Str → Option Value} {base : Heap} {f : Addr} {fd : FuncData}
local macro_rules | `(tactic| tm_at "ex") => `(tactic| first | with_reducible refine Exists.intro _ (And.intro rfl ?_) | fail)
local macro_rules | `(tactic| tm_at "ex") => `(tactic| first | with_reducible refine gxs_nil ?_ | fail)
local macro_rules | `(tactic| tm_at "ex") => `(tactic| first | with_reducible refine gxs_cons ?_ | fail)
local macro_rules | `(tactic| tm_at "ex") => `(tactic| first | with_reducible refine gx_tup (by with_unfolding_all exact rfl) ?_ | fail)
local macro_rules | `(tactic| tm_at "ex") => `(tactic| first | with_reducible refine gx_name ?_ | fail)
local macro_rules | `(tactic| tm_at "ex") => `(tactic| first | with_reducible refine sx_next ?_ | fail)
local macro_rules | `(tactic| tm_at "ex") => `(tactic| first | with_reducible refine sx_if ?_ | fail)
local macro_rules | `(tactic| tm_at "ex") => `(tactic| first | with_reducible refine sx_ret ?_ | fail)
local macro_rules | `(tactic| tm_at "ex") => `(tactic| first | with_reducible refine sx_asg ?_ | fail)
local macro_rules | `(tactic| tm_at "ex") => `(tactic| first | with_reducible refine sx_set ?_ | fail)
local macro_rules | `(tactic| tm_at "ex") => `(tactic| first | with_reducible refine sx_seq ?_ | fail)
local macro_rules | `(tactic| tm_at "ex") => `(tactic| first | with_reducible refine tx_not ?_ | fail)
local macro_rules | `(tactic| tm_at "ex") => `(tactic| first | with_reducible refine tx_or ?_ | fail)
local macro_rules | `(tactic| tm_at "ex") => `(tactic| first | with_reducible refine tx_and ?_ | fail)
local macro_rules | `(tactic| tm_at "ex") => `(tactic| first | with_reducible refine tx_B ?_ | fail)
local macro_rules | `(tactic| tm_at "ex") => `(tactic| first | with_reducible refine tx_test ?_ | fail)
local macro_rules | `(tactic| tm_at "ex") => `(tactic| first | with_reducible refine ud_neg ?_ | fail)
local macro_rules | `(tactic| tm_at "ex") => `(tactic| first | with_reducible refine od_ix (by with_unfolding_all exact rfl) (by with_unfolding_all exact rfl) ?_ | fail)
local macro_rules | `(tactic| tm_at "ex") => `(tactic| first | with_reducible refine od_neS ?_ | fail)
local macro_rules | `(tactic| tm_at "ex") => `(tactic| first | with_reducible refine od_eqS ?_ | fail)
local macro_rules | `(tactic| tm_at "ex") => `(tactic| first | with_reducible refine od_neI ?_ | fail)
local macro_rules | `(tactic| tm_at "ex") => `(tactic| first | with_reducible refine od_eqI ?_ | fail)
local macro_rules | `(tactic| tm_at "ex") => `(tactic| first | with_reducible refine od_intC ?_ ?_ | fail)
local macro_rules | `(tactic| tm_at "ex") => `(tactic| first | with_reducible refine od_bool ?_ | fail)
local macro_rules | `(tactic| tm_at "ex") => `(tactic| first | with_reducible refine od_int ?_ | fail)
local macro_rules | `(tactic| tm_at "ex") => `(tactic| first | with_reducible refine ef_call ?_ | fail)
local macro_rules | `(tactic| tm_at "ex") => `(tactic| first | with_reducible refine ef_lst ?_ | fail)
local macro_rules | `(tactic| tm_at "ex") => `(tactic| first | with_reducible refine ea_star ?_ | fail)
local macro_rules | `(tactic| tm_at "ex") => `(tactic| first | with_reducible refine ea_cons ?_ | fail)
local macro_rules | `(tactic| tm_at "ex") => `(tactic| first | with_reducible refine ea_nil ?_ | fail)
local macro_rules | `(tactic| tm_at "ex") => `(tactic| first | with_reducible refine ex_notN ?_ | fail)
local macro_rules | `(tactic| tm_at "ex") => `(tactic| first | with_reducible refine ex_isN ?_ | fail)
local macro_rules | `(tactic| tm_at "ex") => `(tactic| first | with_reducible refine ex_notV ?_ | fail)
local macro_rules | `(tactic| tm_at "ex") => `(tactic| first | with_reducible refine ex_orV ?_ | fail)
local macro_rules | `(tactic| tm_at "ex") => `(tactic| first | with_reducible refine ex_andV ?_ | fail)
local macro_rules | `(tactic| tm_at "ex") => `(tactic| first | with_reducible refine ex_if ?_ | fail)
local macro_rules | `(tactic| tm_at "ex") => `(tactic| first | with_reducible refine ex_cb ?_ | fail)
local macro_rules | `(tactic| tm_at "ex") => `(tactic| first | with_reducible refine ex_call ?_ | fail)
local macro_rules | `(tactic| tm_at "ex") => `(tactic| first | with_reducible refine ex_tup ?_ | fail)
local macro_rules | `(tactic| tm_at "ex") => `(tactic| first | with_reducible refine ex_un ?_ | fail)
local macro_rules | `(tactic| tm_at "ex") => `(tactic| first | with_reducible refine ex_op ?_ | fail)
local macro_rules | `(tactic| tm_at "ex") => `(tactic| first | with_reducible refine ex_non ?_ | fail)
local macro_rules | `(tactic| tm_at "ex") => `(tactic| first | with_reducible refine ex_bl ?_ | fail)
local macro_rules | `(tactic| tm_at "ex") => `(tactic| first | with_reducible refine ex_str ?_ | fail)
local macro_rules | `(tactic| tm_at "ex") => `(tactic| first | with_reducible refine ex_int ?_ | fail)
local macro_rules | `(tactic| tm_at "ex") => `(tactic| first | with_reducible refine ex_var (by with_unfolding_all exact rfl) ?_ | fail)
/-- a class of numbers as the program writes it -/
def cls (a m : Int) : Dt := .tup [.int (if 0 < m then a % m else a), .int m]
theorem sz {n : Nat} (h : n ≤ 1000) : n ≤ sizeLine := Nat.le_trans h (by decide)
theorem sc_class_of : FnScope ["late", "dial"] ["late", "dial"] (defScope (top 14)) := ⟨rfl, rfl, rfl, by decide +kernel, rfl, by decide +kernel, by decide +kernel⟩
abbrev sp_class_of (K : PySem.W.Frag) : Sp := SpP K (fun x : Int × Int => [.int x.1, .int x.2]) (fun x => True) (fun x d => d = cls x.1 x.2)
theorem ok_class_of (F : FnP K "class_of" (top 14) f fd) : FnOk Pr w K mg base CX0 1 f fd ["late", "dial"] (sp_class_of K) := by
  have nd := sc_class_of.nd
  refine fn_P F sc_class_of (fun _ => rfl) (by decide) fun cdv A outer s H E hr => ⟨_, (pss_one (ps_ret (pe_tup (pa_cons (pe_ifExp (pt_cmpR op_gt (pv 1) pe_int (nomark _)) (pe_op op_mod (pv 0) (pv 1)) (pv 0)) (pa_cons (pv 1) pa_nil))))), ?_⟩
  rintro ⟨a, m⟩ _
  dsimp only [cxOf]
  change SX K _ [.dat (.int a), .dat (.int m)] _ _
  repeat' tm_at "ex"
  refine ⟨fun h => ?_, fun h => ?_⟩
  · have h := of_decide_eq_true h
    repeat' tm_at "ex"
    · exact h
    · exact ⟨sz (by simp), by simp [cls, h]⟩
  · have h := of_decide_eq_false h
    repeat' tm_at "ex"
    exact ⟨sz (by simp), by simp [cls, h]⟩
theorem sc_divisor : FnScope ["first", "second"] ["first", "second"] (defScope (top 11)) := ⟨rfl, rfl, rfl, by decide +kernel, rfl, by decide +kernel, by decide +kernel⟩
abbrev sp_divisor (K : PySem.W.Frag) : Sp := SpP K (fun x : Int × Int => [.int x.1, .int x.2]) (fun x => 0 ≤ x.1 ∧ 0 ≤ x.2) (fun x d => d = .int (Int.gcd x.1 x.2))
theorem gcd_step {a b : Int} (ha : 0 ≤ a) (hb : 0 < b) : Int.gcd b (a % b) = Int.gcd a b := by
  obtain ⟨n, rfl⟩ := Int.eq_ofNat_of_zero_le ha
  obtain ⟨m, rfl⟩ := Int.eq_ofNat_of_zero_le (Int.le_of_lt hb)
  rw [← Int.natCast_emod]
  simp only [Int.gcd, Int.natAbs_natCast]
  rw [Nat.gcd_comm n m, Nat.gcd_rec m n, Nat.gcd_comm]
theorem ok_divisor (T : Tx K mg) (F : FnP K "divisor" (top 11) f fd) : FnOk Pr w K mg base CX0 1 f fd ["first", "second"] (sp_divisor K) := by
  have nd := sc_divisor.nd
  refine fn_P F sc_divisor (fun _ => rfl) (by decide) fun cdv A outer s H E hr => ⟨_, (pss_cons (ps_while PassesOwn.never (pt_cmpR op_ne (pv 1) pe_int (nomark _)) (pss_one (ps_par (i := 0) (j := 1) rfl nd rfl rfl (by decide) rfl rfl (pa_cons (pv 1) (pa_cons (pe_op op_mod (pv 0) (pv 1)) pa_nil)) (by rfl))))
    (pss_one (ps_ret (pe_callB call_abs rfl T.abs_ bt_abs (pa_cons (pv 0) pa_nil))))), ?_⟩
  rintro ⟨a0, b0⟩ ⟨ha0, hb0⟩
  dsimp only [cxOf]
  change SX K _ [.dat (.int a0), .dat (.int b0)] _ _
  tm_at "ex"
  refine sx_while (fun m G => ∃ a b : Int, G = [.dat (.int a), .dat (.int b)] ∧ 0 ≤ a ∧ 0 ≤ b ∧ m = b.toNat ∧ Int.gcd a b = Int.gcd a0 b0) _ ⟨a0, b0, rfl, ha0, hb0, rfl, rfl⟩ ?_
  rintro m _ ⟨a, b, rfl, ha, hb, rfl, hg⟩
  repeat' tm_at "ex"
  refine ⟨fun h => ?_, fun h => ?_⟩
  · have h : b ≠ 0 := by simpa using h
    refine sx_par ?_
    repeat' tm_at "ex"
    · show 0 < b
      omega
    · have h1 := Int.emod_nonneg a h
      have h2 := Int.emod_lt_of_pos a (show 0 < b by omega)
      exact ⟨(a % b).toNat, by omega, b, a % b, rfl, hb, h1, rfl, by rw [gcd_step ha (by omega), hg]⟩
  · have h : b = 0 := by simpa using h
    subst h
    repeat' tm_at "ex"
    refine cd_abs ?_
    show Dt.int _ = Dt.int _
    rw [if_neg (by omega), ← hg, Int.gcd_zero_right]
    congr 1
    omega
theorem sc_in_class : FnScope ["number", "late_dial", "late", "dial"] ["number", "late_dial"] (defScope (top 15)) := ⟨rfl, rfl, rfl, by decide +kernel, rfl, by decide +kernel, by decide +kernel⟩
abbrev sp_in_class (K : PySem.W.Frag) : Sp := SpP K (fun x : Int × Int × Int => [.int x.1, .tup [.int x.2.1, .int x.2.2]]) (fun x => 0 ≤ x.2.2) (fun x d => d = .bl (decide (x.2.2 ∣ x.1 - x.2.1)))
theorem ok_in_class (F : FnP K "in_class" (top 15) f fd) : FnOk Pr w K mg base CX0 1 f fd ["number", "late_dial"] (sp_in_class K) := by
  have nd := sc_in_class.nd
  refine fn_P F sc_in_class (fun _ => rfl) (by decide) fun cdv A outer s H E hr => ⟨_, (pss_cons (ps_asg (pv 1) (pg_tup (n := 2) rfl (pgs_cons (pgn (i := 2) nd rfl) (pgs_cons (pgn (i := 3) nd rfl) pgs_nil))))
    (pss_one (ps_ret (pe_ifExp (pt_cmpR op_eq (pv 3) pe_int (nomark _)) (pe_cmpR op_eq (pv 0) (pv 2) (nomark _)) (pe_cmpR op_eq (pe_op op_mod (pe_op op_sub (pv 0) (pv 2)) (pv 3)) pe_int (nomark _)))))), ?_⟩
  rintro ⟨x, a, m⟩ hm
  dsimp only [cxOf]
  change SX K _ [.dat (.int x), .dat (.tup [.int a, .int m]), .emp, .emp] _ _
  repeat' tm_at "ex"
  refine ⟨fun h => ?_, fun h => ?_⟩
  · have h := of_decide_eq_true h
    subst h
    repeat' tm_at "ex"
    show Dt.bl _ = Dt.bl _
    congr 1
    refine decide_eq_decide.mpr ?_
    show x = a ↔ 0 ∣ x - a
    rw [Int.zero_dvd]
    omega
  · have h := of_decide_eq_false h
    repeat' tm_at "ex"
    · show 0 < m
      have : 0 ≤ m := hm
      omega
    · show Dt.bl _ = Dt.bl _
      congr 1
      exact decide_eq_decide.mpr (Int.dvd_iff_emod_eq_zero).symm
theorem sc_turned_class : FnScope ["late_dial"] ["late_dial"] (defScope (top 16)) := ⟨rfl, rfl, rfl, by decide +kernel, rfl, by decide +kernel, by decide +kernel⟩
abbrev sp_turned_class (K : PySem.W.Frag) : Sp := SpP K (fun x : Int × Int => [.tup [.int x.1, .int x.2]]) (fun x => True) (fun x d => d = cls (-x.1) x.2)
theorem ok_turned_class (c1 : Cal Pr w K mg base 1 "class_of" (sp_class_of K)) (F : FnP K "turned_class" (top 16) f fd) : FnOk Pr w K mg base CX0 2 f fd ["late_dial"] (sp_turned_class K) := by
  have nd := sc_turned_class.nd
  refine fn_P F sc_turned_class (fun _ => rfl) (by decide) fun cdv A outer s H E hr => ⟨_, (pss_one (ps_ret (pe_c c1 hr (by decide) rfl (pa_cons (pe_un un_neg (pe_ix ix_seq (pv 0) pe_int (fun _ _ => rfl))) (pa_cons (pe_ix ix_seq (pv 0) pe_int (fun _ _ => rfl)) pa_nil))))), ?_⟩
  rintro ⟨a, m⟩ _
  dsimp only [cxOf]
  change SX K _ [.dat (.tup [.int a, .int m])] _ _
  repeat' tm_at "ex"
  exact ⟨(-a, m), rfl, trivial, fun d h => h⟩
theorem sc_class_behind : FnScope ["first", "second"] ["first", "second"] (defScope (top 17)) := ⟨rfl, rfl, rfl, by decide +kernel, rfl, by decide +kernel, by decide +kernel⟩
abbrev sp_class_behind (K : PySem.W.Frag) : Sp := SpP K (fun x : (Int × Int) × Int × Int => [.tup [.int x.1.1, .int x.1.2], .tup [.int x.2.1, .int x.2.2]]) (fun x => 0 ≤ x.1.2 ∧ 0 ≤ x.2.2) (fun x d => d = cls (x.1.1 + x.2.1) (Int.gcd x.1.2 x.2.2))
theorem ok_class_behind (c1 : Cal Pr w K mg base 1 "class_of" (sp_class_of K)) (c2 : Cal Pr w K mg base 1 "divisor" (sp_divisor K)) (F : FnP K "class_behind" (top 17) f fd) : FnOk Pr w K mg base CX0 2 f fd ["first", "second"] (sp_class_behind K) := by
  have nd := sc_class_behind.nd
  refine fn_P F sc_class_behind (fun _ => rfl) (by decide) fun cdv A outer s H E hr => ⟨_, (pss_one (ps_ret (pe_c c1 hr (by decide) rfl (pa_cons (pe_op op_add (pe_ix ix_seq (pv 0) pe_int (fun _ _ => rfl)) (pe_ix ix_seq (pv 1) pe_int (fun _ _ => rfl))) (pa_cons (pe_c c2 hr (by decide) rfl (pa_cons (pe_ix ix_seq (pv 0) pe_int (fun _ _ => rfl)) (pa_cons (pe_ix ix_seq (pv 1) pe_int (fun _ _ => rfl)) pa_nil))) pa_nil))))), ?_⟩
  rintro ⟨⟨a, m⟩, b, n⟩ ⟨hm, hn⟩
  dsimp only [cxOf]
  change SX K _ [.dat (.tup [.int a, .int m]), .dat (.tup [.int b, .int n])] _ _
  repeat' tm_at "ex"
  refine ⟨(m, n), rfl, ⟨hm, hn⟩, fun d h => ?_⟩
  subst h
  repeat' tm_at "ex"
  exact ⟨(_, _), rfl, trivial, fun d h => h⟩
theorem sc_multiple : FnScope ["first", "second"] ["first", "second"] (defScope (top 12)) := ⟨rfl, rfl, rfl, by decide +kernel, rfl, by decide +kernel, by decide +kernel⟩
abbrev sp_multiple (K : PySem.W.Frag) : Sp := SpP K (fun x : Int × Int => [.int x.1, .int x.2]) (fun x => (0 ≤ x.1 ∧ x.1 < 1073741824) ∧ 0 ≤ x.2 ∧ x.2 < 1073741824) (fun x d => d = .int (Int.lcm x.1 x.2))
theorem lcm_way {a b : Int} (ha : 0 < a) (hb : 0 < b) : a / (Int.gcd a b : Int) * b = (Int.lcm a b : Int) := by
  obtain ⟨n, rfl⟩ := Int.eq_ofNat_of_zero_le (Int.le_of_lt ha)
  obtain ⟨m, rfl⟩ := Int.eq_ofNat_of_zero_le (Int.le_of_lt hb)
  simp only [Int.gcd, Int.lcm, Int.natAbs_natCast]
  rw [← Int.natCast_ediv, ← Int.natCast_mul]
  congr 1
  rw [Nat.lcm, Nat.div_mul_right_comm (Nat.gcd_dvd_left n m)]
theorem ok_multiple (c1 : Cal Pr w K mg base 1 "divisor" (sp_divisor K)) (F : FnP K "multiple" (top 12) f fd) : FnOk Pr w K mg base CX0 2 f fd ["first", "second"] (sp_multiple K) := by
  have nd := sc_multiple.nd
  refine fn_P F sc_multiple (fun _ => rfl) (by decide) fun cdv A outer s H E hr => ⟨_, (pss_one (ps_ret (pe_ifExp (PW.pt (pw_or (pt_cmpR op_eq (pv 0) pe_int (nomark _)) (pw_or1 (pt_cmpR op_eq (pv 1) pe_int (nomark _))))) pe_int (pe_op op_mul (pe_op op_fdiv (pv 0) (pe_c c1 hr (by decide) rfl (pa_cons (pv 0) (pa_cons (pv 1) pa_nil)))) (pv 1))))), ?_⟩
  rintro ⟨a, b⟩ ⟨⟨ha, ha2⟩, hb, hb2⟩
  dsimp only at ha ha2 hb hb2
  dsimp only [cxOf]
  change SX K _ [.dat (.int a), .dat (.int b)] _ _
  repeat' tm_at "ex"
  refine ⟨fun h => ⟨fun _ => ?_, fun h => absurd h (by decide)⟩, fun h => ?_⟩
  · have h := of_decide_eq_true h
    subst h
    repeat' tm_at "ex"
    show Dt.int _ = Dt.int _
    congr 1
    simp
  · have h := of_decide_eq_false h
    repeat' tm_at "ex"
    refine ⟨fun h2 => ?_, fun h2 => ?_⟩
    · have h2 := of_decide_eq_true h2
      subst h2
      repeat' tm_at "ex"
      show Dt.int _ = Dt.int _
      congr 1
      simp
    · have h2 := of_decide_eq_false h2
      repeat' tm_at "ex"
      refine ⟨(a, b), rfl, ⟨ha, hb⟩, fun d e => ?_⟩
      subst e
      dsimp only
      have g1 : 0 < (Int.gcd a b : Int) := by
        have := Int.gcd_pos_of_ne_zero_left b h
        omega
      have g2 : (Int.gcd a b : Int) ≤ a := Int.le_of_dvd (by omega) (Int.gcd_dvd_left ..)
      repeat' tm_at "ex"
      · exact ⟨g1, by omega⟩
      · exact .inr ⟨by omega, by omega⟩
      · rw [lcm_way (by omega) (by omega)]
theorem sc_inverse : FnScope ["number", "dial", "back", "here", "low", "high"] ["number", "dial"] (defScope (top 13)) := ⟨rfl, rfl, rfl, by decide +kernel, rfl, by decide +kernel, by decide +kernel⟩
abbrev sp_inverse (K : PySem.W.Frag) : Sp := SpP K (fun x : Int × Int => [.int x.1, .int x.2]) (fun x => 0 ≤ x.1 ∧ 0 < x.2 ∧ x.2 < 1073741824) (fun x d => ∃ r : Int, d = .int r ∧ 0 ≤ r ∧ r < x.2 ∧ x.2 ∣ x.1 * r - Int.gcd x.1 x.2)
theorem ok_inverse (F : FnP K "inverse" (top 13) f fd) : FnOk Pr w K mg base CX0 1 f fd ["number", "dial"] (sp_inverse K) := by
  have nd := sc_inverse.nd
  refine fn_P F sc_inverse (fun _ => rfl) (by decide) fun cdv A outer s H E hr => ⟨_, (pss_cons (ps_asg (pe_tup (pa_cons pe_int (pa_cons pe_int (pa_cons (pv 1) (pa_cons (pe_op op_mod (pv 0) (pv 1)) pa_nil))))) (pg_tup (n := 4) rfl (pgs_cons (pgn (i := 2) nd rfl) (pgs_cons (pgn (i := 3) nd rfl) (pgs_cons (pgn (i := 4) nd rfl) (pgs_cons (pgn (i := 5) nd rfl) pgs_nil))))))
    (pss_cons (ps_while PassesOwn.never (pt_cmpR op_ne (pv 5) pe_int (nomark _)) (pss_one (ps_asg (pe_tup (pa_cons (pv 3) (pa_cons (pe_op op_sub (pv 2) (pe_op op_mul (pe_op op_fdiv (pv 4) (pv 5)) (pv 3))) (pa_cons (pv 5) (pa_cons (pe_op op_mod (pv 4) (pv 5)) pa_nil))))) (pg_tup (n := 4) rfl (pgs_cons (pgn (i := 2) nd rfl) (pgs_cons (pgn (i := 3) nd rfl) (pgs_cons (pgn (i := 4) nd rfl) (pgs_cons (pgn (i := 5) nd rfl) pgs_nil))))))))
    (pss_one (ps_ret (pe_op op_mod (pv 2) (pv 1)))))), ?_⟩
  rintro ⟨n, d⟩ ⟨hn, hd, hd2⟩
  dsimp only at hn hd hd2
  dsimp only [cxOf]
  change SX K _ [.dat (.int n), .dat (.int d), .emp, .emp, .emp, .emp] _ _
  repeat' tm_at "ex"
  · exact hd
  refine ⟨sz (by simp), ?_⟩
  repeat' tm_at "ex"
  have m1 := Int.emod_nonneg n (show d ≠ 0 by omega)
  have m2 := Int.emod_lt_of_pos n hd
  refine sx_while (fun m G => ∃ b h lo hi : Int, G = [.dat (.int n), .dat (.int d), .dat (.int b), .dat (.int h), .dat (.int lo), .dat (.int hi)] ∧ 0 < lo ∧ lo ≤ d ∧ 0 ≤ hi ∧ hi < d ∧ m = hi.toNat ∧ Int.gcd lo hi = Int.gcd n d ∧ d ∣ n * b - lo ∧ d ∣ n * h - hi) _
    ⟨0, 1, d, n % d, rfl, hd, Int.le_refl _, m1, m2, rfl, gcd_step hn hd, ⟨-1, by omega⟩, ⟨n / d, by have := Int.emod_add_mul_ediv n d; omega⟩⟩ ?_
  rintro m _ ⟨b, h, lo, hi, rfl, l1, l2, h1, h2, rfl, hg, d1, d2⟩
  repeat' tm_at "ex"
  refine ⟨fun q => ?_, fun q => ?_⟩
  · have q : hi ≠ 0 := by simpa using q
    have e1 := Int.emod_add_mul_ediv lo hi
    have e2 := Int.emod_nonneg lo q
    have e3 := Int.emod_lt_of_pos lo (show 0 < hi by omega)
    have e4 : lo / hi ≤ lo := Int.ediv_le_self _ (by omega)
    have e5 : 0 ≤ lo / hi := Int.ediv_nonneg (by omega) h1
    repeat' tm_at "ex"
    · exact ⟨by omega, by omega⟩
    · exact .inl ⟨by omega, by omega⟩
    · show 0 < hi
      omega
    refine ⟨sz (by simp), ?_⟩
    repeat' tm_at "ex"
    refine ⟨(lo % hi).toNat, by omega, h, b - lo / hi * h, hi, lo % hi, rfl, by omega, by omega, e2, by omega, rfl, by rw [gcd_step (by omega) (by omega), hg], d2, ?_⟩
    have e6 : n * (b - lo / hi * h) - lo % hi = (n * b - lo) - (lo / hi) * (n * h - hi) := by
      have : lo % hi = lo - hi * (lo / hi) := by omega
      rw [this, Int.mul_sub, Int.mul_sub, Int.mul_left_comm n (lo / hi) h, Int.mul_comm hi (lo / hi)]
      omega
    rw [e6]
    exact Int.dvd_sub d1 (Int.dvd_mul_of_dvd_right d2)
  · have q : hi = 0 := by simpa using q
    subst q
    repeat' tm_at "ex"
    · exact hd
    refine ⟨Int.emod_nonneg _ (by omega), Int.emod_lt_of_pos _ hd, ?_⟩
    rw [Int.gcd_zero_right] at hg
    have e0 : (Int.gcd n d : Int) = lo := by rw [← hg]; omega
    show d ∣ n * (b % d) - (Int.gcd n d : Int)
    rw [e0]
    have e1 : b % d = b - d * (b / d) := by have := Int.emod_add_mul_ediv b d; omega
    have e2 : n * (b % d) - lo = (n * b - lo) - d * (n * (b / d)) := by
      rw [e1, Int.mul_sub, Int.mul_left_comm n d]
      omega
    rw [e2]
    exact Int.dvd_sub d1 (Int.dvd_mul_right ..)
end Wd

set_option Elab.async false
set_option linter.all false
set_option maxRecDepth 100000
namespace Wd
open PySem L2
variable [B : Tb]
variable {Pr : Program} {w : World} {K : PySem.W.Frag} {mg : Str → Option Value} {base : Heap} {f : Addr} {fd : FuncData}
local macro_rules | `(tactic| tm_at "ex") => `(tactic| first | with_reducible refine Exists.intro _ (And.intro rfl ?_) | fail)
local macro_rules | `(tactic| tm_at "ex") => `(tactic| first | with_reducible refine gxs_nil ?_ | fail)
local macro_rules | `(tactic| tm_at "ex") => `(tactic| first | with_reducible refine gxs_cons ?_ | fail)
local macro_rules | `(tactic| tm_at "ex") => `(tactic| first | with_reducible refine gx_unl (by with_unfolding_all exact rfl) ?_ | fail)
local macro_rules | `(tactic| tm_at "ex") => `(tactic| first | with_reducible refine gx_tup (by with_unfolding_all exact rfl) ?_ | fail)
local macro_rules | `(tactic| tm_at "ex") => `(tactic| first | with_reducible refine gx_name ?_ | fail)
local macro_rules | `(tactic| tm_at "ex") => `(tactic| first | with_reducible refine sx_next ?_ | fail)
local macro_rules | `(tactic| tm_at "ex") => `(tactic| first | with_reducible refine sx_if ?_ | fail)
local macro_rules | `(tactic| tm_at "ex") => `(tactic| first | with_reducible refine sx_ret ?_ | fail)
local macro_rules | `(tactic| tm_at "ex") => `(tactic| first | with_reducible refine sx_asg ?_ | fail)
local macro_rules | `(tactic| tm_at "ex") => `(tactic| first | with_reducible refine sx_set ?_ | fail)
local macro_rules | `(tactic| tm_at "ex") => `(tactic| first | with_reducible refine sx_seq ?_ | fail)
local macro_rules | `(tactic| tm_at "ex") => `(tactic| first | with_reducible refine tx_not ?_ | fail)
local macro_rules | `(tactic| tm_at "ex") => `(tactic| first | with_reducible refine tx_or ?_ | fail)
local macro_rules | `(tactic| tm_at "ex") => `(tactic| first | with_reducible refine tx_and ?_ | fail)
local macro_rules | `(tactic| tm_at "ex") => `(tactic| first | with_reducible refine tx_B ?_ | fail)
local macro_rules | `(tactic| tm_at "ex") => `(tactic| first | with_reducible refine tx_test ?_ | fail)
local macro_rules | `(tactic| tm_at "ex") => `(tactic| first | with_reducible refine ud_neg ?_ | fail)
local macro_rules | `(tactic| tm_at "ex") => `(tactic| first | with_reducible refine od_ix (by with_unfolding_all exact rfl) (by with_unfolding_all exact rfl) ?_ | fail)
local macro_rules | `(tactic| tm_at "ex") => `(tactic| first | with_reducible refine od_neS ?_ | fail)
local macro_rules | `(tactic| tm_at "ex") => `(tactic| first | with_reducible refine od_eqS ?_ | fail)
local macro_rules | `(tactic| tm_at "ex") => `(tactic| first | with_reducible refine od_neI ?_ | fail)
local macro_rules | `(tactic| tm_at "ex") => `(tactic| first | with_reducible refine od_eqI ?_ | fail)
local macro_rules | `(tactic| tm_at "ex") => `(tactic| first | with_reducible refine od_intC ?_ ?_ | fail)
local macro_rules | `(tactic| tm_at "ex") => `(tactic| first | with_reducible refine od_bool ?_ | fail)
local macro_rules | `(tactic| tm_at "ex") => `(tactic| first | with_reducible refine od_int ?_ | fail)
local macro_rules | `(tactic| tm_at "ex") => `(tactic| first | with_reducible refine ef_call ?_ | fail)
local macro_rules | `(tactic| tm_at "ex") => `(tactic| first | with_reducible refine ef_lst ?_ | fail)
local macro_rules | `(tactic| tm_at "ex") => `(tactic| first | with_reducible refine ex_of (ef_lst ?_) | fail)
local macro_rules | `(tactic| tm_at "ex") => `(tactic| first | with_reducible refine ea_star ?_ | fail)
local macro_rules | `(tactic| tm_at "ex") => `(tactic| first | with_reducible refine ea_cons ?_ | fail)
local macro_rules | `(tactic| tm_at "ex") => `(tactic| first | with_reducible refine ea_nil ?_ | fail)
local macro_rules | `(tactic| tm_at "ex") => `(tactic| first | with_reducible refine cd_tuple rfl ?_ | fail)
local macro_rules | `(tactic| tm_at "ex") => `(tactic| first | with_reducible refine ex_sortLam ?_ | fail)
local macro_rules | `(tactic| tm_at "ex") => `(tactic| first | with_reducible refine ex_notN ?_ | fail)
local macro_rules | `(tactic| tm_at "ex") => `(tactic| first | with_reducible refine ex_isN ?_ | fail)
local macro_rules | `(tactic| tm_at "ex") => `(tactic| first | with_reducible refine ex_notV ?_ | fail)
local macro_rules | `(tactic| tm_at "ex") => `(tactic| first | with_reducible refine ex_orV ?_ | fail)
local macro_rules | `(tactic| tm_at "ex") => `(tactic| first | with_reducible refine ex_andV ?_ | fail)
local macro_rules | `(tactic| tm_at "ex") => `(tactic| first | with_reducible refine ex_if ?_ | fail)
local macro_rules | `(tactic| tm_at "ex") => `(tactic| first | with_reducible refine ex_cb ?_ | fail)
local macro_rules | `(tactic| tm_at "ex") => `(tactic| first | with_reducible refine ex_call ?_ | fail)
local macro_rules | `(tactic| tm_at "ex") => `(tactic| first | with_reducible refine ex_tup ?_ | fail)
local macro_rules | `(tactic| tm_at "ex") => `(tactic| first | with_reducible refine ex_un ?_ | fail)
local macro_rules | `(tactic| tm_at "ex") => `(tactic| first | with_reducible refine ex_op ?_ | fail)
local macro_rules | `(tactic| tm_at "ex") => `(tactic| first | with_reducible refine ex_non ?_ | fail)
local macro_rules | `(tactic| tm_at "ex") => `(tactic| first | with_reducible refine ex_bl ?_ | fail)
local macro_rules | `(tactic| tm_at "ex") => `(tactic| first | with_reducible refine ex_str ?_ | fail)
local macro_rules | `(tactic| tm_at "ex") => `(tactic| first | with_reducible refine ex_int ?_ | fail)
local macro_rules | `(tactic| tm_at "ex") => `(tactic| first | with_reducible refine ex_var (by with_unfolding_all exact rfl) ?_ | fail)
/-- fn_P, with the def's code object -/
theorem fn_Pc {α : Type} {enc : α → List Dt} {ok : α → Prop} {post : α → Dt → Prop} {x : Str} {st : Stmt} {N ps : List Str} {k : Nat} (F : FnP K x st f fd) (S : FnScope N ps (defScope st)) (hl : ∀ y, (enc y).length = ps.length) (hn : ps.length ≤ N.length)
    (hb : ∀ (cdv : Value) (A : Around) (outer : List Env) (s : Shared) (H : Hp) (E : XK), fd.code = cdv → Room k (A.deeper (PyProof.Rows.envOfC x (defScope st) s.heap.objs.size f cdv)) →
      ∃ t, PSs (cxOf CX0 Pr w K mg base N x (defScope st) f cdv A outer s H E).nox (defBody st) t ∧ ∀ y, ok y → SX K t (G0 N ((enc y).map .dat)) (fun d _ => post y d) (fun _ => post y .non)) : FnOk Pr w K mg base CX0 (k + 1) f fd ps (SpP K enc ok post) := by
  obtain ⟨oc, od, dV, kV, doc, pm, an, cdv, ct, osl, rfl, lk, hcd, _, _⟩ := F.ex
  refine fn_of lk hcd S (fun vs H Q E h => ?_) fun A outer s H vs Q E hr h => ?_
  · obtain ⟨_, y, _, _, _, r, _⟩ := h
    rw [r.length, hl]
  · obtain ⟨H0, y, sm, hn', ht', r, ho, q⟩ := h
    obtain ⟨t, ht, hs⟩ := hb cdv A outer s H E rfl hr
    exact ⟨t, ht.nox, hs y ho H0 _ H0 H _ _ (en_start sm hn' ht' r (by rw [hl]; exact hn)) (fun v d σ' G' H' H2 I' r' p => q v d H' H2 (gr_cut I') r' p) fun σ' G' H' H2 I' p => q .non .non H' H2 (gr_cut I') .non p⟩

/-! ### class_of_both -/
omit [B : Tb] in
theorem lcm_dvd_of {a b c : Int} (h1 : a ∣ c) (h2 : b ∣ c) : (Int.lcm a b : Int) ∣ c := by
  rw [← Int.natAbs_dvd_natAbs] at h1 h2 ⊢
  exact Nat.lcm_dvd h1 h2
omit [B : Tb] in
theorem crt_way {x a m b n r : Int} (hm : 0 < m) (hn : 0 < n) (h1 : m ∣ x - a) (h2 : n ∣ x - b) (hr : n / (Int.gcd m n : Int) ∣ m / (Int.gcd m n : Int) * r - (Int.gcd (m / (Int.gcd m n : Int)) (n / (Int.gcd m n : Int)) : Int)) :
    (Int.lcm m n : Int) ∣ (a + m * ((b - a) / (Int.gcd m n : Int) * r)) - x := by
  have hc0 : 0 < Int.gcd m n := Int.gcd_pos_of_ne_zero_left n (by omega)
  have hg : Int.gcd (m / (Int.gcd m n : Int)) (n / (Int.gcd m n : Int)) = 1 := Int.gcd_ediv_gcd_ediv_gcd hc0
  obtain ⟨c, hc⟩ : ∃ c : Int, (Int.gcd m n : Int) = c := ⟨_, rfl⟩
  have hcm : c ∣ m := hc ▸ Int.gcd_dvd_left ..
  have hcn : c ∣ n := hc ▸ Int.gcd_dvd_right ..
  rw [hg, hc] at hr
  rw [hc]
  have hcp : 0 < c := by omega
  obtain ⟨m', rfl⟩ := hcm
  obtain ⟨n', rfl⟩ := hcn
  rw [Int.mul_ediv_cancel_left _ (by omega), Int.mul_ediv_cancel_left _ (by omega)] at hr
  obtain ⟨k, hk⟩ := h1
  obtain ⟨l, hl⟩ := h2
  obtain ⟨z, hz⟩ := hr
  have e0 : b - a = c * (m' * k - n' * l) := by rw [Int.mul_sub, ← Int.mul_assoc, ← Int.mul_assoc]; omega
  rw [e0, Int.mul_ediv_cancel_left _ (by omega)]
  obtain ⟨e, he⟩ : ∃ e : Int, m' * k - n' * l = e := ⟨_, rfl⟩
  rw [he] at e0 ⊢
  refine lcm_dvd_of ⟨e * r - k, ?_⟩ ⟨z * e - l, ?_⟩
  · rw [Int.mul_sub]; omega
  · have e1 : c * m' * (e * r) = c * e * (m' * r) := by rw [Int.mul_assoc, Int.mul_assoc]; congr 1; rw [Int.mul_left_comm]
    have e2 : m' * r = n' * z + 1 := by
      have hz' : m' * r - 1 = n' * z := by simpa using hz
      omega
    rw [e1, e2, Int.mul_add, Int.mul_one, Int.mul_sub]
    have e3 : c * e * (n' * z) = c * n' * (z * e) := by rw [Int.mul_assoc, Int.mul_assoc]; congr 1; rw [Int.mul_left_comm, Int.mul_comm e z]
    rw [e3]
    omega
omit [B : Tb] in
theorem cls_eq {x y m : Int} (h : m ∣ x - y) (hm : 0 ≤ m) : cls x m = cls y m := by
  unfold cls
  by_cases p : 0 < m
  · rw [if_pos p, if_pos p, Int.emod_eq_emod_iff_emod_sub_eq_zero.mpr (Int.emod_eq_zero_of_dvd h)]
  · have : m = 0 := by omega
    subst this
    rw [Int.zero_dvd] at h
    have : x = y := by omega
    rw [this]
structure Two where
  x : Int
  a : Int
  m : Int
  b : Int
  n : Int
structure Two.Ok (t : Two) : Prop where
  m0 : 0 ≤ t.m
  m1 : t.m ≤ 1000
  n0 : 0 ≤ t.n
  n1 : t.n ≤ 1000
  dm : t.m ∣ t.x - t.a
  dn : t.n ∣ t.x - t.b
theorem sc_class_of_both : FnScope ["first", "second", "common", "steps", "near", "far"] ["first", "second"] (defScope (top 18)) := ⟨rfl, rfl, rfl, by decide +kernel, rfl, by decide +kernel, by decide +kernel⟩
abbrev sp_class_of_both (K : PySem.W.Frag) : Sp := SpP K (fun t : Two => [.tup [.int t.a, .int t.m], .tup [.int t.b, .int t.n]]) Two.Ok (fun t d => d = cls t.x (Int.lcm t.m t.n))
theorem ok_class_of_both {c : Addr} (T : Tx K mg) (TB : LamX.TabB base mg c B.P) (hcode : fd.code = .ref c) (hq : B.q = ("class_of_both" : Str) ++ (".<locals>." : Str) ++ ("<lambda>" : Str)) (c_divisor : Cal Pr w K mg base 1 "divisor" (sp_divisor K)) (c_class_of : Cal Pr w K mg base 1 "class_of" (sp_class_of K))
    (c_inverse : Cal Pr w K mg base 1 "inverse" (sp_inverse K)) (c_multiple : Cal Pr w K mg base 2 "multiple" (sp_multiple K)) (c_in_class : Cal Pr w K mg base 1 "in_class" (sp_in_class K)) (F : FnP K "class_of_both" (top 18) f fd) : FnOk Pr w K mg base CX0 3 f fd ["first", "second"] (sp_class_of_both K) := by
  have nd := sc_class_of_both.nd
  refine fn_Pc F sc_class_of_both (fun _ => rfl) (by decide) fun cdv A outer s H E hc hr => ⟨_, (pss_cons (ps_asg (pe_sortLam rfl T.sorted_ (pa_cons (pe_lst (pa_cons (pe_callTy call_tuple_of rfl T.tuple_ bt_tuple (pa_cons (pv 0) pa_nil)) (pa_cons (pe_callTy call_tuple_of rfl T.tuple_ bt_tuple (pa_cons (pv 1) pa_nil)) pa_nil))) pa_nil) TB (hc.symm.trans hcode) hq hr rfl rfl rfl rfl rfl rfl (fun _ _ _ _ _ _ => rfl) (by decide)) (pg_unl (n := 2) rfl (pgs_cons (pgn (i := 4) nd rfl) (pgs_cons (pgn (i := 5) nd rfl) pgs_nil))))
    (pss_cons (ps_if (pt_cmpR op_eq (pe_ix ix_seq (pv 4) pe_int (fun _ _ => rfl)) pe_int (nomark _)) (pss_one (ps_ret (pe_ifExp (pt_val (pe_c c_in_class hr (by decide) rfl (pa_cons (pe_ix ix_seq (pv 4) pe_int (fun _ _ => rfl)) (pa_cons (pv 5) pa_nil)))) (pv 4) pe_non))) pss_nil)
    (pss_cons (pst (i := 2) nd rfl (pe_c c_divisor hr (by decide) rfl (pa_cons (pe_ix ix_seq (pv 4) pe_int (fun _ _ => rfl)) (pa_cons (pe_ix ix_seq (pv 5) pe_int (fun _ _ => rfl)) pa_nil))))
    (pss_cons (ps_if (pt_cmpR op_ne (pe_op op_mod (pe_op op_sub (pe_ix ix_seq (pv 5) pe_int (fun _ _ => rfl)) (pe_ix ix_seq (pv 4) pe_int (fun _ _ => rfl))) (pv 2)) pe_int (nomark _)) (pss_one (ps_ret pe_non)) pss_nil)
    (pss_cons (pst (i := 3) nd rfl (pe_op op_mul (pe_op op_fdiv (pe_op op_sub (pe_ix ix_seq (pv 5) pe_int (fun _ _ => rfl)) (pe_ix ix_seq (pv 4) pe_int (fun _ _ => rfl))) (pv 2)) (pe_c c_inverse hr (by decide) rfl (pa_cons (pe_op op_fdiv (pe_ix ix_seq (pv 4) pe_int (fun _ _ => rfl)) (pv 2)) (pa_cons (pe_op op_fdiv (pe_ix ix_seq (pv 5) pe_int (fun _ _ => rfl)) (pv 2)) pa_nil)))))
    (pss_one (ps_ret (pe_c c_class_of hr (by decide) rfl (pa_cons (pe_op op_add (pe_ix ix_seq (pv 4) pe_int (fun _ _ => rfl)) (pe_op op_mul (pe_ix ix_seq (pv 4) pe_int (fun _ _ => rfl)) (pv 3))) (pa_cons (pe_c c_multiple hr (by decide) rfl (pa_cons (pe_ix ix_seq (pv 4) pe_int (fun _ _ => rfl)) (pa_cons (pe_ix ix_seq (pv 5) pe_int (fun _ _ => rfl)) pa_nil))) pa_nil)))))))))), ?_⟩
  rintro ⟨x, a, m, b, n⟩ ⟨m0, m1, n0, n1, dm, dn⟩
  dsimp only at m0 m1 n0 n1 dm dn
  dsimp only [cxOf]
  obtain ⟨L, hL⟩ : ∃ L : Int, (Int.lcm m n : Int) = L := ⟨_, rfl⟩
  simp only [hL]
  change SX K _ [.dat (.tup [.int a, .int m]), .dat (.tup [.int b, .int n]), .emp, .emp, .emp, .emp] _ _
  repeat' tm_at "ex"
  refine ⟨sz (by simp), ?_⟩
  repeat' tm_at "ex"
  refine ⟨_, _, _, _, rfl, fun hmn => ?c1, fun hmn => ?c2⟩
  case' c2 =>
    revert a m b n
    intro b n a m n0 n1 m0 m1 dn dm hL hmn
    rw [Int.lcm_comm] at hL
  all_goals
    repeat' tm_at "ex"
    refine ⟨fun h => ?_, fun h => ?_⟩
    · have h := of_decide_eq_true h
      subst h
      repeat' tm_at "ex"
      rw [Int.zero_dvd] at dm
      have ex : x = a := by omega
      subst ex
      refine ⟨(x, b, n), rfl, n0, fun d e => ?_⟩
      subst e
      refine ⟨_, rfl, fun _ => ?_, fun h => ?_⟩
      · repeat' tm_at "ex"
        rw [← hL]
        simp [cls]
      · exact absurd dn (of_decide_eq_false h)
    · have h := of_decide_eq_false h
      have mp : 0 < m := by omega
      have np : 0 < n := by omega
      have g0 : 0 < (Int.gcd m n : Int) := by have := Int.gcd_pos_of_ne_zero_left n h; omega
      have gm : (Int.gcd m n : Int) ∣ m := Int.gcd_dvd_left ..
      have gn : (Int.gcd m n : Int) ∣ n := Int.gcd_dvd_right ..
      have way := @crt_way x a m b n
      have gl : (Int.gcd m n : Int) ≤ m := Int.le_of_dvd mp gm
      repeat' tm_at "ex"
      refine ⟨(m, n), rfl, ⟨m0, n0⟩, fun d e => ?_⟩
      subst e
      have gab : (Int.gcd m n : Int) ∣ b - a := by
        have z := Int.dvd_sub (Int.dvd_trans gm dm) (Int.dvd_trans gn dn)
        have e : x - a - (x - b) = b - a := by omega
        rwa [e] at z
      have gz := Int.emod_eq_zero_of_dvd gab
      dsimp only
      generalize hc : (Int.gcd m n : Int) = c' at *
      repeat' tm_at "ex"
      · exact g0
      refine ⟨fun h => ?_, fun _ => ?_⟩
      · rw [gz] at h; exact absurd h (by decide)
      repeat' tm_at "ex"
      · exact ⟨g0, by omega⟩
      · exact ⟨g0, by omega⟩
      · exact ⟨g0, by omega⟩
      have n'0 : 0 < n / c' := Int.ediv_pos_of_pos_of_dvd np (by omega) gn
      have n'1 : n / c' ≤ n := Int.ediv_le_self _ (by omega)
      have m'0 : 0 ≤ m / c' := Int.ediv_nonneg (by omega) (by omega)
      refine ⟨(m / c', n / c'), rfl, ⟨m'0, n'0, by omega⟩, ?_⟩
      rintro d ⟨r, rfl, r0, r1, r2⟩
      dsimp only at r0 r1 r2
      have w1 := way mp np dm dn r2
      repeat' tm_at "ex"
      · exact .inr ⟨by omega, by omega⟩
      · exact .inl ⟨by omega, by omega⟩
      refine ⟨(m, n), rfl, ⟨⟨by omega, by omega⟩, by omega, by omega⟩, ?_⟩
      rintro d rfl
      repeat' tm_at "ex"
      refine ⟨(_, _), rfl, trivial, ?_⟩
      rintro d rfl
      dsimp only
      have w2 : L ∣ (a + m * ((b - a) / c' * r)) - x := by rw [← hL]; exact w1
      exact (congrArg (cls _) hL).trans (cls_eq w2 (by omega))
end Wd

set_option Elab.async false
set_option linter.all false
set_option maxRecDepth 100000
set_option maxHeartbeats 1000000
/-! S1: sorted of data of any length. -/
namespace Wd
open PySem L2 PyProof.Rows PySem.Calls PySem.W
/-- the order of the library's sorts, on data -/
def leP (x y : PyData) : Bool := !dataLt y x
def leD (x y : Dt) : Bool := leP x.pd y.pd
/-- values with their data -/
def DpL (K : PySem.W.Frag) (H : Hp) (ps : List (V × PyData)) : Prop := ∀ p ∈ ps, Dp K H p.1 p.2
def srtP (ps : List (V × PyData)) : List (V × PyData) := ps.mergeSort fun a b => leP a.2 b.2
structure CanSort (ds : List PyData) : Prop where
  al : AllAlike ds
  so : Sortable ds
  dp : ∀ d ∈ ds, d.depth ≤ 60
section
variable {X : Cx} {pins : List (Addr × Obj)} {σ : L2.St} {H : Hp} {s : Shared} {Q : VK}
theorem each_reads (I : Inv X pins σ H s) : ∀ {ps : List (V × PyData)} {us : List Value}, DpL X.K H ps → Vals (ps.map (·.1)) us → EachIs (fun (u : Value) (p : V × PyData) => RelV p.1 u ∧ ∃ as, Reads s.heap u p.2 as) us ps
  | [], _, _, r => by cases r; exact .nil
  | p :: ps, _, h, r => by
    rw [List.map_cons] at r
    cases r with
    | cons r rr => exact .cons ⟨r, Dp.reads I _ _ _ (h p (List.mem_cons_self ..)) r⟩ (each_reads I (fun q hq => h q (List.mem_cons_of_mem _ hq)) rr)
theorem each_map {α β γ : Type} {R : α → γ → Prop} (f : β → γ) : ∀ {as : List α} {bs : List β}, EachIs (fun a b => R a (f b)) as bs → EachIs R as (bs.map f)
  | _, _, .nil => .nil
  | _, _, .cons h t => .cons h (each_map f t)
theorem each_vals : ∀ {ps : List (V × PyData)} {us : List Value}, EachIs (fun (u : Value) (p : V × PyData) => RelV p.1 u) us ps → Vals (ps.map (·.1)) us
  | _, _, .nil => .nil
  | _, _, .cons h t => .cons h (each_vals t)
/-- the sort of a list that was just laid -/
theorem sort_vals {ps : List (V × PyData)} {us : List Value} {h : Heap} (e : EachIs (fun (u : Value) (p : V × PyData) => RelV p.1 u ∧ ∃ as, Reads s.heap u p.2 as) us ps) (cs : CanSort (ps.map (·.2))) (hk : ∀ b o, s.heap.get? b = some o → h.get? b = some o) {A : Around} (hu : A.units + 64 < cLine) {s' : Shared} (es : s'.heap = h) :
    SortsAt X.prog X.w A s' (dataKind h (ps.map (·.2))) us ∧ EachIs (fun (u : Value) (p : V × PyData) => RelV p.1 u) (sortVals (dataKind h (ps.map (·.2))) false us us) (srtP ps) := by
  have e2 : EachIs (fun (u : Value) (p : V × PyData) => RelV p.1 u ∧ ∃ as, Reads h u p.2 as) us ps := e.mono fun a b q => ⟨q.1, let ⟨as, r⟩ := q.2; ⟨as, Reads.keeps hk r⟩⟩
  have e3 : EachIs (fun (u : Value) (d : PyData) => ∃ as, Reads h u d as) us (ps.map (·.2)) := each_map _ (e2.mono fun a b q => q.2)
  refine ⟨by subst es; exact SortsAt.data e3 cs.al cs.so fun d hd => by have := cs.dp d hd; omega, ?_⟩
  exact sortVals_each (κ := dataKind h (ps.map (·.2))) (rev := false) (k := fun p : V × PyData => keyToks p.2) (e2.mono fun a b q => q.1) ((each_mem e2).mono fun u p q => by
    obtain ⟨⟨_, as, r⟩, m⟩ := q
    exact dataKind_some cs.al (List.mem_map.mpr ⟨p, m, rfl⟩) r)
/-- sorted(l) of data -/
def rSortDt (K : PySem.W.Frag) : List V → Hp → VK → Prop := fun vs H Q => ∃ (a : Addr) (ps : List (V × PyData)), vs = [V.ref a] ∧ SqL K H a (ps.map (·.1)) ∧ DpL K H ps ∧ CanSort (ps.map (·.2)) ∧ ∀ p, H p = none → Q (.ref p) (upd H p (.lst ((srtP ps).map (·.1))))
theorem cr_sortedDt (hu : X.A.units + 70 < cLine) : CallR X (.builtin "sorted") (rSortDt X.K) := by
  intro pins s σ H vs us Q I r h
  obtain ⟨a, ps, rfl, hs, hd, cs, q⟩ := h
  obtain ⟨its, rv, hl, hz⟩ := I.list hs
  rw [Vals.ref1 r]
  obtain ⟨h1, h2⟩ := sort_vals (X := X) (each_reads I hd rv) cs (fun b o e => sorting_copy_old (vs := its) e) (A := X.A.in1.in1) (by show X.A.units + 1 + 1 + 64 < cLine; omega) (s' := { s with heap := sortingHeap (copyHeap s.heap its) (s.heap.objs.size + 1) its }) rfl
  have hlen : its.length = ps.length := by rw [← rv.length, List.length_map]
  rw [List.length_map] at hz
  refine sorted_vals hl.isList h1 (by omega) ?_
  obtain ⟨ep, he⟩ := sortedAll_at s.heap its (sortVals (dataKind (sortingHeap (copyHeap s.heap its) (s.heap.objs.size + 1) its) (ps.map (·.2))) false its its).toArray
  refine ⟨.ref _, upd H (s.heap.objs.size + 1) (.lst ((srtP ps).map (·.1))), I.laid (t' := s.toks) (fun _ _ => sortedAll_old) (Nat.le_succ _) ⟨?_, _, ep, each_vals h2, he⟩, rfl, q _ (I.hok.fresh (Nat.le_succ _))⟩
  rw [List.length_map]
  unfold srtP
  rw [List.length_mergeSort]
  exact hz
end
end Wd

set_option Elab.async false
set_option linter.all false
set_option maxRecDepth 100000
set_option maxHeartbeats 1000000
/-! B1: enumerate over a tuple. -/
namespace Wd
open PySem L2 PyProof.Rows PySem.Calls
theorem mk_enumT (t : Addr) (its : Array Value) : Meets (Builtin.«enumerate.__new__» ⟨[.type "enumerate", .ref t], []⟩) (fun _ R s => s.heap.IsTuple t its ∧
    R (.ok (.ret (.ref (s.heap.push { cls := .type "tuple_iterator", data := .fields #[.ref t, .int 0 0] }).objs.size))) { s with heap := (s.heap.push { cls := .type "tuple_iterator", data := .fields #[.ref t, .int 0 0] }).push { cls := .type "enumerate", data := .fields #[.none, .bool false, .ref s.heap.objs.size, rawInt 0, .none, .none] } }) :=
  .of_wp fun prog w A R s h => by
    obtain ⟨hp, g, d, tk, os⟩ := s
    obtain ⟨ht, q⟩ := h
    have sub := sub_enumerate
    have it : ∀ {A' : Around} {E Q : Value → Shared → Prop}, Q (.ref hp.objs.size) ⟨hp.push { cls := .type "tuple_iterator", data := .fields #[.ref t, .int 0 0] }, g, d, tk, os⟩ → wpAny (model prog w) A' (pyIter (.ref t)) Q E ⟨hp, g, d, tk, os⟩ := fun q => wpAny_pyIter_tuple ht q
    wp_walk using it
    refine wpAny_stack_any fun st => wpAny_pure ?_
    split
    · rename_i c _ _ _ _ _
      cases (c == Value.type "enumerate") <;> (wp_walk using it; exact ⟨_, rfl, q⟩)
    · wp_walk using it; exact ⟨_, rfl, q⟩
section
variable {prog : Program} {w : World} {A : Around} {E : Value → Shared → Prop} {s : Shared}
theorem call_enumT {t : Addr} {its : Array Value} {Q : Value → Shared → Prop} (ht : s.heap.IsTuple t its)
    (h : ∀ h', IsEnum h' (s.heap.objs.size + 1) s.heap.objs.size 0 .none → h'.IsTupleIter s.heap.objs.size t 0 → (∀ b o, s.heap.get? b = some o → h'.get? b = some o) → Q (.ref (s.heap.objs.size + 1)) { s with heap := h' }) :
    wpAny (model prog w) A (call (.type "enumerate") [.ref t]) Q E s := by
  refine callType_new F.called_enumerate (by decide) (F.typeCall_enumerate_1 _) (F.newCall_enumerate_1 _) (fun obj => F.args_object_init_2 obj _) F.entry_enumerate_new (mk_enumT t its) ⟨ht, ?_⟩
  have z : (s.heap.push { cls := .type "tuple_iterator", data := .fields #[.ref t, .int 0 0] }).objs.size = s.heap.objs.size + 1 := Heap.size_push ..
  have e : IsEnum ((s.heap.push { cls := .type "tuple_iterator", data := .fields #[.ref t, .int 0 0] }).push { cls := .type "enumerate", data := .fields #[.none, .bool false, .ref s.heap.objs.size, rawInt 0, .none, .none] }) (s.heap.objs.size + 1) s.heap.objs.size 0 .none := by
    have y := Heap.get?_push_size (s.heap.push { cls := .type "tuple_iterator", data := .fields #[.ref t, .int 0 0] }) (o := { cls := .type "enumerate", data := .fields #[.none, .bool false, .ref s.heap.objs.size, rawInt 0, .none, .none] }) rfl
    rw [z] at y; exact y
  show _ ∧ _
  rw [z]
  exact ⟨⟨_, e, rfl⟩, h _ e ⟨_, Heap.get?_push_of_some _ (Heap.get?_push_size _ rfl), rfl, rfl⟩ fun b o q => Heap.get?_push_of_some _ (Heap.get?_push_of_some _ q)⟩
end
/-- the tuple at a, each item in a new pair -/
def IteT (K : PySem.W.Frag) (a : Addr) : It :=
  ⟨fun i H => ∃ (xs : List V) (x : V), SqT K H a xs ∧ xs[i]? = some x, fun i H v H' => ∃ T x, v = .ref T ∧ H T = none ∧ H' = upd H T (.tup [.int (i : Nat), x]) ∧ ∀ xs, SqT K H a xs → xs[i]? = some x, fun i H => ∃ xs : List V, SqT K H a xs ∧ xs.length = i⟩
theorem turn_enumT {P : Program} {w : World} {K : PySem.W.Frag} {elts : List Expr} {kk : Nat} {tpos : Pos} (a e it : Addr) :
    Turn P w K (.Tuple elts kk tpos) (IteT K a) [e, it] e (fun i h => (∃ old, IsEnum h e it ((i : Nat) : Int) old) ∧ h.IsTupleIter it a i ∧ e ≠ it ∧ a ≠ it ∧ e ≠ a) where
  mem := by simp
  obj := fun i h st b hb => by
    obtain ⟨⟨old, he⟩, ⟨o, ho, hc, hd⟩, _⟩ := st
    rcases (show b = e ∨ b = it by simpa using hb) with z | z
    · rw [z]; exact ⟨_, he, fun v q => nomatch q⟩
    · rw [z]; exact ⟨o, ho, fun v q => by rw [hd] at q; cases q⟩
  keep := fun i h h' st k => let ⟨⟨old, he⟩, hi, hne⟩ := st; ⟨⟨old, k e (by simp) _ he⟩, hi.at fun o q => k it (by simp) o q, hne⟩
  item := by
    intro X hP hw hK hc i pins s σ H E I hf st hg
    subst hP hw hK
    obtain ⟨⟨old, he⟩, hit, hne, hat, hea⟩ := st
    obtain ⟨xs, x, hq, hx⟩ := hg
    obtain ⟨its, rv, p, hz⟩ := I.tuple hq
    obtain ⟨u, hu, ru⟩ := rv.get hx
    have hel : e < s.heap.objs.size := Heap.lt_size he
    have hil : it < s.heap.objs.size := by obtain ⟨_, q, _⟩ := hit; exact Heap.lt_size q
    have hlt : i < its.toArray.size := by
      rw [List.size_toArray]
      exact (List.getElem?_eq_some_iff.mp hu).1
    refine wpAny_pyNext_enum_itemD (PySem.Draws.tuple (A := X.A.in1) (I.ok.hd hc) it a hat its.toArray) he ⟨hit, p⟩ hlt hne (by simpa using ⟨hne, hea⟩) fun y h' tk hy ho st' hT hsz hk => ?_
    have ey : y = u := by
      have : its.toArray[i]? = some u := by simpa using hu
      rw [this] at hy; exact (Option.some.inj hy).symm
    subst ey
    refine ⟨_, rfl, wpAny_letOwnedTupleGo_enum (s := { s with heap := h', toks := tk + 1 }) ho fun h'' he' sb => ?_⟩
    have hT2 : h''.get? s.heap.objs.size = some { cls := .type "tuple", data := .seq #[.int i tk, y] } := (sb.2 _ (Nat.ne_of_gt hel)).trans hT
    have new : ObjOk X.prog X.w (upd H s.heap.objs.size (.tup [.int (i : Nat), x])) h'' s.heap.objs.size (.tup [.int (i : Nat), x]) :=
      ⟨by show 2 ≤ sizeLine; decide, [.int i tk, y], .cons ⟨_, rfl⟩ (.cons ru .nil), ⟨_, hT2, rfl, _, rfl⟩⟩
    have I1 : Inv X pins σ (upd H s.heap.objs.size (.tup [.int (i : Nat), x])) { s with heap := h'', toks := tk + 1 } :=
      I.turnedNew (ch := [e, it]) (fun b ob hb q => (sb.2 b (fun z => hb (by simp [z]))).trans (hk b ob (fun z => hb (by simp [z])) (fun z => hb (by simp [z])) q)) hf (Nat.le_refl _) new
    refine ⟨.ref s.heap.objs.size, _, I1, rfl, ⟨_, x, rfl, I.hok.fresh (Nat.le_refl _), rfl, fun ys hy => by rw [I.tuple_inj hy hq]; exact hx⟩, ⟨⟨y, ?_⟩, st'.1.at fun o q => (sb.2 it (Ne.symm hne)).trans q, hne, hat, hea⟩, fun b hb => ?_⟩
    · rw [show ((i + 1 : Nat) : Int) = (i : Int) + 1 by omega]; exact he'
    · have hb' : b < s.heap.objs.size := by
        rcases (show b = e ∨ b = it by simpa using hb) with z | z
        · rw [z]; exact hel
        · rw [z]; exact hil
      rw [upd_ne (Nat.ne_of_lt hb')]
      exact (hf b hb).1
  done := by
    intro X hP hw hK hc i pins s σ H E I hf st hg
    subst hP hw hK
    obtain ⟨⟨old, he⟩, hit, hne, hat, hea⟩ := st
    obtain ⟨xs, hq, hx⟩ := hg
    obtain ⟨its, rv, p, hz⟩ := I.tuple hq
    obtain ⟨f0, f1, f2, f3, f4, f5⟩ := hf it (by simp)
    have hl : its.toArray.size = i := by rw [List.size_toArray, ← rv.length, hx]
    subst hl
    exact wpAny_pyNext_enum_endD (PySem.Draws.tuple (A := X.A.in1) (I.ok.hd hc) it a hat its.toArray) he ⟨hit, p⟩ fun h' eb => ⟨rfl, I.turned (t' := s.toks) (fun b o hb q => eb b o hb q) f0 f1 f3 f4 f5⟩
  self := fun A i s Q E st h => let ⟨⟨_, he⟩, _⟩ := st; wpAny_pyIter_enum he h
def iEnumT (K : PySem.W.Frag) (ta : TA) : TI := fun σ H R => ta σ H fun vs H1 => ∃ a xs, vs = [.ref a] ∧ SqT K H1 a xs ∧ R (IteT K a) H1
theorem pi_enumT {X : Cx} {e : Expr} {ta : TA} {p pos tpos : Pos} {elts : List Expr} {kk : Nat} (hg : Gl X "enumerate") (hm : X.mg "enumerate" = none) (ha : PA X [e] ta) (hs : starEach [e] X.env = [(false, eval e X.env)] := by rfl) :
    PI X (.Tuple elts kk tpos) (.Call (.Name "enumerate" p) [e] [] pos) (iEnumT X.K ta) := by
  refine ⟨fun pins s σ H R I h => ?_⟩
  refine Call_ (ld_blt I hg hm bt_enumerate (PyProof.Rows.callWith_type1 (thn (ha.run pos pins s σ H _ I h) fun us s1 ⟨vs, H1, I1, r1, q1⟩ => ?_) hs rfl) (by decide) (by decide))
  obtain ⟨a, xs, ex, hq, q⟩ := q1
  subst ex
  obtain rfl := Vals.ref1 r1
  obtain ⟨its, rv, p', hz⟩ := I1.tuple hq
  refine call_enumT p' fun h' he hit hk => wpAny_pyIter_enum he ?_
  have I2 : Inv X pins σ H1 { s1 with heap := h' } := I1.kept (t' := s1.toks) hk
  have hal : a < s1.heap.objs.size := p'.lt
  refine ⟨s1.heap.objs.size + 1, [s1.heap.objs.size + 1, s1.heap.objs.size], _, _, H1, rfl, I2, turn_enumT a (s1.heap.objs.size + 1) s1.heap.objs.size, ⟨⟨.none, he⟩, hit, Nat.succ_ne_self _, Nat.ne_of_lt hal, Nat.ne_of_gt (Nat.lt_succ_of_lt hal)⟩, fun b hb => ?_, q⟩
  have hle : s1.heap.objs.size ≤ b := by
    rcases (show b = s1.heap.objs.size + 1 ∨ b = s1.heap.objs.size by simpa using hb) with z | z <;> rw [z]
    · exact Nat.le_add_right _ _
    · exact Nat.le_refl _
  exact I1.fpOk hle (I1.hok.fresh hle)
variable [B : Tb]
section
variable {K : PySem.W.Frag} {G : List Sl} {PI : List Dt → List Sl → Prop}
theorem ix_enumT {ta : TA} (h : EA K ta G fun xs G1 => ∃ es, xs = [.tup es] ∧ PI (enD es) G1) : IX K (iEnumT K ta) G PI := fun H0 F H H1 σ R I q =>
  h H0 F H H1 σ _ I fun vs ds G1 Ha Hb I1 s1 r1 ⟨es, e, p⟩ => by
    subst e
    cases r1 with
    | cons r rr =>
      cases rr
      obtain ⟨a, xs, rfl, ha, r⟩ := r.tup_inv
      refine ⟨a, xs, rfl, .inl (Same.rd I1.s ha), q _ _ G1 Ha Hb I1 s1 (fun i H H1 sb ss => ⟨fun d hd => ?_, fun e => ⟨xs, .inl (Same.rd ss (Same.rd sb ha)), by rw [r.length, e, enD_len]⟩⟩) p⟩
      obtain ⟨d', hd', rfl⟩ := enD_get hd
      obtain ⟨x, hx, rx⟩ := r.get hd'
      refine ⟨⟨xs, x, .inl (Same.rd ss (Same.rd sb ha)), hx⟩, fun y H2 ⟨T, x', e1, e2, e3, e4⟩ => ?_⟩
      have e5 := e4 xs (.inl (Same.rd ss (Same.rd sb ha)))
      rw [hx] at e5
      cases e5
      subst e1 e3
      have g := Gr.new (u := .tup [.int ((i : Nat) : Int), x]) ss e2
      exact ⟨_, g, .tup upd_same (.cons (.int _) (.cons ((rx.mono sb).mono g.b) .nil))⟩
end
end Wd

set_option Elab.async false
set_option linter.all false
set_option maxRecDepth 100000
set_option maxHeartbeats 1000000
/-! B2: sum of a list of lists. -/
namespace Wd
open PySem L2 PyProof.Rows PySem.Calls
abbrev lstO (vs : List Value) (n : Nat) : Obj := { cls := .type "list", data := .seq vs.toArray n }
def Lsts (h : Heap) (L : List (Addr × List Value)) : Prop := ∀ p ∈ L, ∃ n, h.get? p.1 = some (lstO p.2 n)
section
variable {prog : Program} {w : World} {A : Around} {s : Shared}
theorem sum_loop {I S l : Addr} {items : Array Value} {R : Result → Shared → Prop} (hh : A.handled = none) (nIS : I ≠ S) (nIl : I ≠ l) (nSl : S ≠ l) : ∀ (L : List (Addr × List Value)) (i : Nat) (s : Shared) (T : Addr) (acc : List Value) (n c : Nat), s.heap.IsListIter I l i → s.heap.IsList l items →
    (∀ j, items[i + j]? = (L[j]?).map fun p => Value.ref p.1) → Lsts s.heap L → (∀ p ∈ L, p.1 ≠ I ∧ p.1 ≠ S) → T ≠ I → T ≠ S → s.heap.get? S = some { cls := .type "list", data := .seq #[.ref T] c } → s.heap.get? T = some (lstO acc n) → acc.length + (L.flatMap (·.2)).length ≤ sizeLine →
    (∀ h' T' n', (∀ b o, b ≠ I → b ≠ S → s.heap.get? b = some o → h'.get? b = some o) → h'.get? T' = some (lstO (acc ++ L.flatMap (·.2)) n') → (T' = T ∧ L = []) ∨ s.heap.objs.size ≤ T' → R (.ok (.ret (.ref T'))) { s with heap := h' }) →
    codeAny (model prog w) A (.builtin "sum.loop" ⟨[.ref I, .ref S, rawInt 2, rawInt 0], []⟩) R s := by
  intro L
  induction L with
  | nil =>
    intro i s T acc n c hit hl hx hL hne nTI nTS hS hT hz hR
    refine codeAny_builtin F.entry_sum_loop ?_
    rw [Around.under_plainId F.plain_sum_loop _]
    show wpAny _ A.in1 (seqItems? (.ref S) >>= _) _ _ s
    refine wpAny_bind (wpAny_seqItems hS rfl ?_)
    show wpAny _ A.in1 (tryCatch (pyNext (.ref I)) _ >>= _) _ _ s
    refine wpAny_bind (wpAny_tryCatch (wpAny_pyNext_list_end (A := A.in1) hh hit hl (by simpa using hx 0) fun h' hk => ?_))
    exact wpAny_pure (hR h' T n (fun b o n1 _ e => hk b o n1 e) (by simpa using hk T _ nTI hT) (.inl ⟨rfl, rfl⟩))
  | cons p L ih =>
    intro i s T acc n c hit hl hx hL hne nTI nTS hS hT hz hR
    obtain ⟨m, hp⟩ := hL p (List.mem_cons_self ..)
    obtain ⟨np1, np2⟩ := hne p (List.mem_cons_self ..)
    refine codeAny_builtin F.entry_sum_loop ?_
    rw [Around.under_plainId F.plain_sum_loop _]
    show wpAny _ A.in1 (seqItems? (.ref S) >>= _) _ _ s
    refine wpAny_bind (wpAny_seqItems hS rfl ?_)
    show wpAny _ A.in1 (tryCatch (pyNext (.ref I)) _ >>= _) _ _ s
    refine wpAny_bind (wpAny_tryCatch (wpAny_pyNext_list_item hit hl (x := .ref p.1) (by simpa using hx 0) fun h' hit' hk => ?_))
    have k1 : ∀ b o, b ≠ I → s.heap.get? b = some o → h'.get? b = some o := fun b o nb e => (hk.2 b nb).trans e
    have hS' := k1 S _ nIS.symm hS
    have hT' := k1 T _ nTI hT
    have hp' := k1 p.1 _ np1 hp
    show wpAny _ A.in1 ((holding [Value.ref p.1] (binaryOp .Add (.ref T) (.ref p.1))).attempt >>= _) _ _ _
    refine wpAny_bind (wpAny_attempt (wpAny_holding (PySem.P.add_list (s := { s with heap := h' }) hT' hp' ?_ (by rw [List.flatMap_cons, List.length_append] at hz; rw [List.size_toArray, List.size_toArray]; omega))))
    have sz : h'.objs.size = s.heap.objs.size := hk.1
    have nw : ∀ b o, s.heap.get? b = some o → b ≠ h'.objs.size := fun b o e z => by
      have := Heap.lt_size e
      rw [z, sz] at this
      exact Nat.lt_irrefl _ this
    have hS2 : (h'.push (lstO (acc ++ p.2) 0)).get? S = some { cls := .type "list", data := .seq #[.ref T] c } := Heap.get?_push_of_some _ hS'
    have eA : acc.toArray ++ p.2.toArray = (acc ++ p.2).toArray := by simp
    rw [eA]
    show wpAny _ A.in1 (updateSeq S (fun _ => #[.ref h'.objs.size]) >>= _) _ _ _
    refine wpAny_bind (wpAny_updateSeq hS2 rfl ?_)
    have hS3 := Heap.get?_update_self (Obj.mapSeq fun _ => #[Value.ref h'.objs.size]) hS2 rfl
    refine wpAny_bind (wpAny_letGo ?_)
    refine wpAny_bind (wpAny_updateSeq hS3 rfl (wpAny_pure ⟨plainId_quiet F.plain_sum_loop _, ?_⟩))
    have k2 : ∀ b o, b ≠ S → (h'.push (lstO (acc ++ p.2) 0)).get? b = some o → (((h'.push (lstO (acc ++ p.2) 0)).update S (Obj.mapSeq fun _ => #[Value.ref h'.objs.size])).update S (Obj.mapSeq fun _ => #[Value.ref h'.objs.size])).get? b = some o := fun b o nb e => by
      rw [Heap.get?_update_other _ _ (fun z => nb z.symm), Heap.get?_update_other _ _ (fun z => nb z.symm)]
      exact e
    have k3 : ∀ b o, b ≠ I → b ≠ S → s.heap.get? b = some o → (((h'.push (lstO (acc ++ p.2) 0)).update S (Obj.mapSeq fun _ => #[Value.ref h'.objs.size])).update S (Obj.mapSeq fun _ => #[Value.ref h'.objs.size])).get? b = some o := fun b o n1 n2 e => k2 b o n2 (Heap.get?_push_of_some _ (k1 b o n1 e))
    have szF : (((h'.push (lstO (acc ++ p.2) 0)).update S (Obj.mapSeq fun _ => #[Value.ref h'.objs.size])).update S (Obj.mapSeq fun _ => #[Value.ref h'.objs.size])).objs.size = s.heap.objs.size + 1 := by
      rw [Heap.size_update, Heap.size_update, Heap.size_push, sz]
    obtain ⟨oi, ei, ci, di⟩ := hit'
    refine ih (i + 1) _ h'.objs.size (acc ++ p.2) 0 _ ⟨oi, k2 _ _ nIS (Heap.get?_push_of_some _ ei), ci, di⟩ ?_ (fun j => ?_) (fun q hq => ?_) (fun q hq => hne q (List.mem_cons_of_mem _ hq)) (fun z => ?_) (fun z => ?_) (Heap.get?_update_self _ hS3 rfl) (k2 _ _ (fun z => ?_) (Heap.get?_push_size _ rfl)) ?_ fun h2 T' n' kk hT' hc => ?_
    · obtain ⟨ol, el, cl, nl, dl⟩ := hl
      exact ⟨ol, k3 _ _ nIl.symm nSl.symm el, cl, nl, dl⟩
    · have := hx (j + 1)
      rw [List.getElem?_cons_succ] at this
      rw [← this]; congr 1; omega
    · obtain ⟨n2, e2⟩ := hL q (List.mem_cons_of_mem _ hq)
      obtain ⟨q1, q2⟩ := hne q (List.mem_cons_of_mem _ hq)
      exact ⟨n2, k3 _ _ q1 q2 e2⟩
    · obtain ⟨o, e, _⟩ := hit
      exact nw I o e z.symm
    · exact nw S _ hS z.symm
    · exact nw S _ hS z.symm
    · rw [List.flatMap_cons, List.length_append] at hz
      rw [List.length_append]; omega
    · refine hR h2 T' n' (fun b o n1 n2 e => kk b o n1 n2 (k3 b o n1 n2 e)) (by rw [List.flatMap_cons, ← List.append_assoc]; exact hT') (.inr ?_)
      rcases hc with ⟨rfl, _⟩ | hc
      · rw [sz]; exact Nat.le_refl _
      · rw [szF] at hc; exact Nat.le_trans (Nat.le_succ _) hc
/-- sum(xs, []) of lists -/
theorem call_sumL {E : Value → Shared → Prop} {Q : Value → Shared → Prop} {l b : Addr} {L : List (Addr × List Value)} {n : Nat} (hh : A.handled = none) (hl : s.heap.get? l = some (lstO (L.map fun p => .ref p.1) n)) {m : Nat} (hb : s.heap.get? b = some (lstO [] m)) (hL : Lsts s.heap L) (hz : (L.flatMap (·.2)).length ≤ sizeLine)
    (h : ∀ h' T' n', (∀ b o, s.heap.get? b = some o → h'.get? b = some o) → h'.get? T' = some (lstO (L.flatMap (·.2)) n') → (T' = b ∧ L = []) ∨ s.heap.objs.size ≤ T' → Q (.ref T') { s with heap := h' }) :
    wpAny (model prog w) A (call (.builtin "sum") [.ref l, .ref b]) Q E s := by
  refine call_function_tree F.kind_sum F.plain_sum F.entry_sum (show argsOk "sum" ⟨[.ref l, .ref b], []⟩ by unfold argsOk; kernel_rfl) ?_
  unfold Builtin.«sum»
  simp only [List.length_cons, List.length_nil]
  rw [if_neg (by decide)]
  refine wpAny_bind (wpAny_of_eq (show Builtin.Builtins.bindParams "sum" ["start"] 0 ⟨[.ref b], []⟩ = pure [some (.ref b)] from rfl) ?_)
  refine wpAny_bind (wpAny_pyIter_list ⟨_, hl, rfl, n, rfl⟩ ?_)
  refine wpAny_bind (wpAny_pure ?_)
  simp only [List.forIn_cons, List.forIn_nil]
  have tb : ∀ {h : Heap}, h.get? b = some (lstO [] m) → ∃ o, h.get? b = some o ∧ o.cls = .type "list" := fun e => ⟨_, e, rfl⟩
  have hb1 : ∀ o : Obj, (s.heap.push o).get? b = some (lstO [] m) := fun o => Heap.get?_push_of_some _ hb
  refine wpAny_bind (wpAny_bind (wpAny_bind (wpAny_isInstance (T := "list") (b := false) (tb (hb1 _)) F.sub_list_str ?_)))
  simp only [Bool.false_eq_true, if_false]
  refine wpAny_pure (wpAny_bind (wpAny_bind (wpAny_isInstance (T := "list") (b := false) (tb (hb1 _)) F.sub_list_bytes ?_)))
  simp only [Bool.false_eq_true, if_false]
  refine wpAny_pure (wpAny_bind (wpAny_bind (wpAny_isInstance (T := "list") (b := false) (tb (hb1 _)) F.sub_list_bytearray ?_)))
  simp only [Bool.false_eq_true, if_false]
  refine wpAny_pure (wpAny_pure ?_)
  refine wpAny_bind (wpAny_newObj_type ?_)
  refine wpAny_pure ⟨plainId_quiet F.plain_sum_loop _, ?_⟩
  have zI : (s.heap.push { cls := .type "list_iterator", data := .fields #[.ref l, .int 0 0] }).objs.size = s.heap.objs.size + 1 := Heap.size_push ..
  rw [zI]
  have lt : ∀ {a : Addr} {o : Obj}, s.heap.get? a = some o → a < s.heap.objs.size := fun e => Heap.lt_size e
  have up : ∀ (o1 o2 : Obj) b o, s.heap.get? b = some o → ((s.heap.push o1).push o2).get? b = some o := fun o1 o2 b o e => Heap.get?_push_of_some _ (Heap.get?_push_of_some _ e)
  refine sum_loop (A := A) (I := s.heap.objs.size) (S := s.heap.objs.size + 1) (l := l) (items := (L.map fun p => Value.ref p.1).toArray) hh (Nat.ne_of_lt (Nat.lt_succ_self _)) (Nat.ne_of_gt (lt hl)) (Nat.ne_of_gt (Nat.lt_succ_of_lt (lt hl))) L 0 _ b [] m 0
    ⟨_, Heap.get?_push_of_some _ (Heap.get?_push_size _ rfl), rfl, rfl⟩ ⟨_, up _ _ _ _ hl, rfl, n, rfl⟩ (fun j => by simp) (fun p hp => let ⟨k, e⟩ := hL p hp; ⟨k, up _ _ _ _ e⟩) (fun p hp => ?_) (Nat.ne_of_lt (lt hb)) (Nat.ne_of_lt (Nat.lt_succ_of_lt (lt hb)))
    (by rw [← zI]; exact Heap.get?_push_size _ rfl) (up _ _ _ _ hb) (by simpa using hz) fun h' T' n' kk hT' hc => ?_
  · obtain ⟨k, e⟩ := hL p hp
    exact ⟨Nat.ne_of_lt (lt e), Nat.ne_of_lt (Nat.lt_succ_of_lt (lt e))⟩
  · refine h h' T' n' (fun b o e => kk b o (Nat.ne_of_lt (lt e)) (Nat.ne_of_lt (Nat.lt_succ_of_lt (lt e))) (up _ _ _ _ e)) (by simpa using hT') ?_
    rcases hc with hc | hc
    · exact .inl hc
    · right
      have : ((s.heap.push { cls := .type "list_iterator", data := .fields #[.ref l, .int 0 0] }).push { cls := .type "list", data := .seq [Value.ref b].toArray }).objs.size = s.heap.objs.size + 2 := by rw [Heap.size_push, zI]
      rw [this] at hc
      exact Nat.le_trans (Nat.le_add_right _ 2) hc
end
/-- sum(xs, []), at values -/
def rSumL (K : PySem.W.Frag) : List V → Hp → VK → Prop := fun vs H Q => ∃ (l b : Addr) (as : List (Addr × List V)), vs = [.ref l, .ref b] ∧ H l = some (.lst (as.map fun p => V.ref p.1)) ∧ H b = some (.lst []) ∧ (∀ p ∈ as, H p.1 = some (.lst p.2)) ∧ (as.flatMap (·.2)).length ≤ sizeLine ∧
  (as = [] → Q (.ref b) H) ∧ ∀ p, H p = none → Q (.ref p) (upd H p (.lst (as.flatMap (·.2))))
theorem refs_vals : ∀ {as : List (Addr × List V)} {us : List Value}, Vals (as.map fun p => V.ref p.1) us → us = as.map fun p => Value.ref p.1
  | [], _, r => by cases r; rfl
  | p :: as, _, r => by
    rw [List.map_cons] at r
    cases r with
    | cons r rr =>
      cases r
      rw [List.map_cons, refs_vals rr]
theorem flat_vals {X : Cx} {pins : List (Addr × Obj)} {σ : L2.St} {H : Hp} {s : Shared} (I : Inv X pins σ H s) : ∀ (as : List (Addr × List V)), (∀ p ∈ as, H p.1 = some (.lst p.2)) → ∃ L : List (Addr × List Value), L.map (·.1) = as.map (·.1) ∧ Lsts s.heap L ∧ Vals (as.flatMap (·.2)) (L.flatMap (·.2))
  | [], _ => ⟨[], rfl, fun p hp => absurd hp (by simp), .nil⟩
  | p :: as, h => by
    obtain ⟨L, e1, e2, e3⟩ := flat_vals I as fun q hq => h q (List.mem_cons_of_mem _ hq)
    obtain ⟨z, its, n, r, e⟩ := (show ObjOk X.prog X.w H s.heap p.1 (.lst p.2) from I.hok _ _ (h p (List.mem_cons_self ..)))
    refine ⟨(p.1, its) :: L, by rw [List.map_cons, List.map_cons, e1], fun q hq => ?_, by rw [List.flatMap_cons, List.flatMap_cons]; exact r.append e3⟩
    rcases List.mem_cons.mp hq with rfl | hq
    · exact ⟨n, e⟩
    · exact e2 q hq
theorem cr_sumL {X : Cx} (hc : X.calm = true) : CallR X (.builtin "sum") (rSumL X.K) := by
  intro pins s σ H vs us Q I r h
  obtain ⟨l, b, as, rfl, hl, hb, ha, hz, q0, q⟩ := h
  obtain ⟨u1, u2, rfl, r1, r2⟩ := vals2 r
  obtain rfl : u1 = Value.ref l := r1
  obtain rfl : u2 = Value.ref b := r2
  obtain ⟨z, its, n, rv, e⟩ := (show ObjOk X.prog X.w H s.heap l _ from I.hok _ _ hl)
  obtain ⟨z2, its2, n2, rv2, e2⟩ := (show ObjOk X.prog X.w H s.heap b _ from I.hok _ _ hb)
  cases rv2
  rw [refs_vals rv] at e
  obtain ⟨L, f1, f2, f3⟩ := flat_vals I as ha
  have el : (as.map fun p => Value.ref p.1) = L.map fun p => Value.ref p.1 := by
    have := congrArg (List.map Value.ref) f1
    rw [List.map_map, List.map_map] at this
    exact this.symm
  rw [el] at e
  refine call_sumL (I.ok.hd hc) e e2 f2 (by rw [← f3.length]; exact hz) fun h' T' n' kk hT hcase => ?_
  by_cases ht : s.heap.objs.size ≤ T'
  · exact ⟨.ref T', upd H T' (.lst (as.flatMap (·.2))), I.laid (t' := s.toks) kk ht (show ObjOk X.prog X.w _ h' T' (.lst _) from ⟨hz, _, n', f3, hT⟩), rfl, q T' (I.hok.fresh ht)⟩
  · rcases hcase with ⟨rfl, hL0⟩ | hc'
    · have : as = [] := by
        subst hL0
        cases as with
        | nil => rfl
        | cons p as => simp at f1
      exact ⟨.ref T', H, I.kept (t' := s.toks) kk, rfl, q0 this⟩
    · exact absurd hc' ht
variable [B : Tb]
theorem Ra.lsts {K : PySem.W.Frag} {H : Hp} : ∀ {dss : List (List Dt)} {xs : List V}, Ra K H xs (dss.map .lst) → ∃ as : List (Addr × List V), xs = as.map (fun p => V.ref p.1) ∧ (∀ p ∈ as, H p.1 = some (.lst p.2)) ∧ Ra K H (as.flatMap (·.2)) dss.flatten
  | [], _, .nil => ⟨[], rfl, fun p hp => absurd hp (by simp), .nil⟩
  | ds :: dss, _, .cons r rr => by
    obtain ⟨as, e1, e2, e3⟩ := Ra.lsts rr
    obtain ⟨a, ys, rfl, h, q⟩ := r.lst_inv
    refine ⟨(a, ys) :: as, by rw [List.map_cons, e1], fun p hp => ?_, by rw [List.flatMap_cons, List.flatten_cons]; exact q.append e3⟩
    rcases List.mem_cons.mp hp with rfl | hp
    · exact h
    · exact e2 p hp
theorem cd_sumL {K : PySem.W.Frag} {Q : Dt → Prop} {dss : List (List Dt)} (hz : dss.flatten.length ≤ sizeLine) (p : Q (.lst dss.flatten)) : CD K (rSumL K) [.lst (dss.map .lst), .lst []] Q := fun H H1 vs W s r k => by
  cases r with
  | cons r1 r =>
    cases r with
    | cons r2 r =>
      cases r
      obtain ⟨l, xs, rfl, h1, q1⟩ := r1.lst_inv
      obtain ⟨b, ys, rfl, h2, q2⟩ := r2.lst_inv
      cases q2
      obtain ⟨as, rfl, e2, e3⟩ := Ra.lsts q1
      refine ⟨l, b, as, rfl, s _ _ h1, s _ _ h2, fun p hp => s _ _ (e2 p hp), by rw [e3.length]; exact hz, fun e => ?_, fun p' hp => ?_⟩
      · subst e
        have e4 : dss.flatten = [] := by
          have := e3.length
          simp only [List.flatMap_nil, List.length_nil] at this
          exact List.eq_nil_of_length_eq_zero this.symm
        rw [e4] at p
        exact k _ _ H H1 (Gr.refl s) (.lst h2 .nil) p
      · have g : Gr H H1 (upd H p' (.lst (as.flatMap (·.2)))) (upd H1 p' (.lst (as.flatMap (·.2)))) := Gr.new s hp
        exact k _ _ _ _ g (.lst upd_same (e3.mono g.b)) p
end Wd

set_option Elab.async false
set_option linter.all false
set_option maxRecDepth 100000
set_option maxHeartbeats 1000000
/-! B3: {k: v, **m}; d.update(m). -/
namespace Wd
open PySem L2 PyProof.Rows PySem.Calls
section
variable {prog : Program} {w : World} {K : Type} [DecidableEq K] {knd : KeyKind prog w K} {A : Around} {E : Value → Shared → Prop} {s : Shared}
theorem dictPut_at {d : Addr} {kvs : List (K × Value)} {k : K} {key v : Value} {Q : Unit → Shared → Prop} (hkey : knd.is k key = true) (hm : s.heap.DictOf knd d kvs) (hsz : kvs.length ≤ sizeLine)
    (hQ : ∀ h', h'.DictOf knd d (stored kvs k v) → Heap.SameBut d s.heap h' → Q () { s with heap := h' }) : wpAny (model prog w) A (dictPut d (knd.hash k) key v) Q E s := by
  obtain ⟨o, es, ep, ho, hc, hd, hk, hp, hn⟩ := hm
  have l1 := hp.length
  have hes : es.size ≤ sizeLine := by
    rw [← Array.length_toList]; omega
  have hidx : (es.findIdx? fun e => knd.is k e.key) = kvs.findIdx? fun kv => decide (kv.1 = k) := by
    rw [← hp.findIdx k]; obtain ⟨l⟩ := es; simp
  unfold dictPut
  refine wpAny_bind (wpAny_dictFind_of hkey ho hd hk ?_)
  cases hi : es.findIdx? fun e => knd.is k e.key with
  | some i =>
    have hb := any_of_findIdx_some (hidx ▸ hi)
    refine wpAny_updateDict ho hd (hQ _ ⟨_, _, ep, Heap.get?_update_self _ ho (Obj.isFreed_of_dict (Obj.data_mapDict hd _)), hc.mapDict _, Obj.data_mapDict hd _, hk.modify _ _, ?_, ?_⟩ (Heap.SameBut.update ..))
    · have hl : (es.toList.findIdx? fun e => knd.is k e.key) = some i := by rw [← hi]; obtain ⟨l⟩ := es; simp
      have z := hp.modify hn hl v
      rw [stored, if_pos hb]
      obtain ⟨l⟩ := es
      simpa using z
    · rw [stored, if_pos hb, keys_map_store]; exact hn
  | none =>
    have hnot : k ∉ kvs.map (·.1) := not_mem_of_findIdx_none (hidx ▸ hi)
    have hb : ¬ (kvs.any fun kv => decide (kv.1 = k)) = true := fun z => by
      obtain ⟨kv, m, e⟩ := List.any_eq_true.mp z
      exact hnot (List.mem_map.mpr ⟨kv, m, of_decide_eq_true e⟩)
    refine wpAny_updateDictKeys (hz := hes) ho hd (hQ _ ⟨_, _, ep + 1, Heap.get?_update_self _ ho (Obj.isFreed_of_dict (Obj.data_mapDictKeys hd _)), hc.mapDictKeys _, Obj.data_mapDictKeys hd _, hk.push hkey _, ?_, ?_⟩ (Heap.SameBut.update ..))
    · have z := hp.append hkey (knd.hash k) v
      rw [stored, if_neg hb]
      obtain ⟨l⟩ := es
      simpa using z
    · rw [stored, if_neg hb, List.map_append, List.nodup_append]
      refine ⟨hn, by simp, fun a ha b hb' e => ?_⟩
      rw [List.map_cons, List.map_nil, List.mem_singleton] at hb'
      have e2 : a = k := e.trans hb'
      exact hnot (e2 ▸ ha)
theorem dict_size {h : Heap} {d : Addr} {kvs : List (K × Value)} (hm : h.DictOf knd d kvs) : ∃ o es ep, h.get? d = some o ∧ o.data = .dict es ep ∧ es.size = kvs.length := by
  obtain ⟨o, es, ep, ho, hc, hd, hk, hp, hn⟩ := hm
  exact ⟨o, es, ep, ho, hd, by rw [← Array.length_toList]; exact hp.length⟩
/-- **m, into a dict that is not empty -/
theorem mergeMapping_at {d o : Addr} {kvs more : List (K × Value)} {Q : Unit → Shared → Prop} (hdo : d ≠ o) (hoS : (o == sysModules) = false) (hd : s.heap.DictOf knd d kvs) (ho : s.heap.DictOf knd o more) (hne : kvs ≠ []) (hsz : kvs.length + more.length ≤ sizeLine)
    (hQ : ∀ h', h'.DictOf knd d (merged kvs more) → Heap.SameBut d s.heap h' → Q () { s with heap := h' }) : wpAny (model prog w) A (mergeMapping d (.ref o) false) Q E s := by
  obtain ⟨od, esd, epd, hod, hdd, lenD⟩ := dict_size hd
  obtain ⟨oo, eso, epo, hoo, hco, hdo', hko, hpo, hno⟩ := id ho
  have lenO : more.length = eso.size := by rw [← hpo.length]; simp
  unfold mergeMapping
  refine wpAny_bind (wpAny_isInstance ho.typeIs isSubtype_dict_dict ?_)
  simp only [if_true]
  refine wpAny_bind (wpAny_specialOf ho.typeIs F.slot_dict_iter.lookup (wpAny_bind (wpAny_pure ?_)))
  simp only [beq_self_eq_true]
  rw [hoS]
  simp only [Bool.false_eq_true, if_false]
  refine wpAny_bind (wpAny_dictEntries hod hdd ?_)
  have hE : esd.isEmpty = false := by
    cases z : esd.isEmpty with
    | false => rfl
    | true =>
      have := Array.isEmpty_iff.mp z
      rw [this] at lenD
      exact absurd (List.eq_nil_of_length_eq_zero lenD.symm) hne
  simp only [hE, Bool.false_eq_true, if_false]
  refine wpAny_bind (wpAny_dictEntries hoo hdo' ?_)
  refine wpAny_bind (wpAny_dictEpoch hoo hdo' ?_)
  refine wpAny_bind (wpAny_forIn_list _ (fun rest _ s' => ∃ h' i, s' = { s with heap := h' } ∧ rest = List.range' i (eso.size - i) ∧ i ≤ eso.size ∧ h'.DictOf knd d (merged kvs (more.take i)) ∧ h'.get? o = some oo ∧ Heap.SameBut d s.heap h') _ ?_ ?_ _ _ ?_)
  rotate_left 2
  · exact ⟨s.heap, 0, rfl, by rw [List.range_eq_range']; simp, Nat.zero_le _, by simpa [merged] using hd, hoo, Heap.SameBut.refl _ _⟩
  · rintro x rest b s' ⟨h', i, rfl, hr, hi, hd', hoo', hs'⟩
    have hlt : i < eso.size := by
      rcases Nat.lt_or_ge i eso.size with z | z
      · exact z
      · rw [Nat.sub_eq_zero_of_le z] at hr; simp at hr
    obtain ⟨rfl, hrest⟩ : x = i ∧ rest = List.range' (i + 1) (eso.size - (i + 1)) := by
      rw [show eso.size - i = (eso.size - (i + 1)) + 1 by omega, List.range'_succ] at hr
      injection hr with h1 h2
      exact ⟨h1, h2⟩
    refine wpAny_bind (wpAny_dictEntries hoo' hdo' ?_)
    rw [Array.getElem?_eq_getElem hlt]
    obtain ⟨⟨k, v⟩, hkv⟩ : ∃ kv, more[x]? = some kv := ⟨more[x]'(by rw [lenO]; exact hlt), List.getElem?_eq_getElem _⟩
    obtain ⟨hkey, hval⟩ := hpo.get? (e := eso[x]) (by simp [hlt]) hkv
    obtain ⟨k', hkey', hhash⟩ := hko eso[x] (Array.getElem_mem hlt)
    obtain rfl : k' = k := knd.inj _ _ _ hkey' hkey
    have hmx : (merged kvs (more.take x)).length ≤ sizeLine := by
      have e1 := merged_length_le kvs (more.take x)
      have e2 : (more.take x).length ≤ more.length := by rw [List.length_take]; omega
      omega
    dsimp only
    rw [hhash, hval]
    refine wpAny_bind (wpAny_holding ?_)
    refine dictPut_at hkey hd' hmx fun h'' hd'' hs'' => ?_
    have hoo'' : h''.get? o = some oo := (hs''.2 o (Ne.symm hdo)).trans hoo'
    refine wpAny_bind (wpAny_dictEpoch hoo'' hdo' ?_)
    simp only [bne_self_eq_false, Bool.false_eq_true, if_false]
    exact wpAny_pure ⟨h'', x + 1, rfl, hrest, hlt, by rw [merged_take_succ kvs more x (k', v) hkv]; exact hd'', hoo'', hs'.trans hs''⟩
  · rintro b s' ⟨h', i, rfl, hr, hi, hd', hoo', hs'⟩
    have hin : i = eso.size := by
      rcases Nat.lt_or_ge i eso.size with z | z
      · rw [show eso.size - i = (eso.size - (i + 1)) + 1 by omega, List.range'_succ] at hr; exact nomatch hr
      · exact Nat.le_antisymm hi z
    rw [hin, ← lenO, List.take_length] at hd'
    exact wpAny_pure (hQ h' hd' hs')
/-- {k: v, **m} -/
theorem dispStar {k v m : Sem Value} {Q : Value → Shared → Prop}
    (h : wpAny (model prog w) A (evalPairs [(k, v)]) (fun vs s₁ => ∃ kvs, Carries knd vs kvs ∧ s₁.heap.DictOf knd s.heap.objs.size [] ∧ ∀ h', h'.DictOf knd s.heap.objs.size (merged [] kvs) → Heap.SameBut s.heap.objs.size s₁.heap h' →
      wpAny (model prog w) A m (fun mv s₂ => ∃ o more kvs2, mv = .ref o ∧ s.heap.objs.size ≠ o ∧ (o == sysModules) = false ∧ s₂.heap.DictOf knd s.heap.objs.size kvs2 ∧ s₂.heap.DictOf knd o more ∧ kvs2 ≠ [] ∧ kvs2.length + more.length ≤ sizeLine ∧
        ∀ h'', h''.DictOf knd s.heap.objs.size (merged kvs2 more) → Heap.SameBut s.heap.objs.size s₂.heap h'' → Q (.ref s.heap.objs.size) { s₂ with heap := h'' }) E { s₁ with heap := h', toks := s₁.toks + vs.length }) E { s with heap := s.heap.push { cls := .type "dict", data := .dict #[] } }) :
    wpAny (model prog w) A (dictDisplay [(some k, v), (none, m)]) Q E s := by
  unfold dictDisplay
  dsimp only
  rw [List.forIn_cons]
  simp only [List.nil_append, List.length_cons, List.length_nil]
  refine wpAny_bind (wpAny_bind (wpAny_pure ?_))
  dsimp only
  rw [List.forIn_cons]
  refine wpAny_bind (wpAny_bind ?_)
  dsimp only
  simp only [List.isEmpty_cons, Bool.false_eq_true, if_false]
  refine wpAny_bind (m := subDict [(k, v)]) (wpAny_subDict (knd := knd) (Nat.le_of_ble_eq_true rfl) (wpAny_mono h (fun vs s₁ ⟨kvs, c, dn, q⟩ => ⟨kvs, c, dn, fun h' dd sb => ?_⟩) fun _ _ e => e))
  refine wpAny_bind (wpAny_pure (wpAny_pure ?_))
  dsimp only
  refine wpAny_bind (wpAny_pure ?_)
  refine wpAny_bind (wpAny_holding (wpAny_mono (q h' dd sb) (fun mv s₂ ⟨o, more, kvs2, em, n1, n2, d1, d2, ne, hz, q2⟩ => ?_) fun _ _ e => e))
  subst em
  refine wpAny_bind (wpAny_onRaise (wpAny_tryCatch (wpAny_onRaise (wpAny_holding (mergeMapping_at n1 n2 d1 d2 ne hz fun h'' d3 sb2 => ?_)))))
  refine wpAny_pure ?_
  dsimp only
  rw [List.forIn_nil]
  refine wpAny_pure ?_
  dsimp only
  simp only [List.isEmpty_nil, if_true]
  exact wpAny_bind (wpAny_pure (wpAny_pure (q2 h'' d3 sb2)))
end
def tDispStar (tk tv te : TE) : TE := fun σ H Q => ∀ p, H p = none → tPairs [(tk, tv)] σ (upd H p (.dK [])) fun ps H2 => ∃ y z, ps = [(y, z)] ∧ H2 p = some (.dK []) ∧ ∃ k, y = kV k ∧ te σ (upd H2 p (.dK [(k, z)])) fun x H3 =>
  ∃ a kvs, x = .ref a ∧ p ≠ a ∧ H3 p = some (.dK [(k, z)]) ∧ H3 a = some (.dK kvs) ∧ kvs.length < sizeLine ∧ Q (.ref p) (upd H3 p (.dK (mergeK [(k, z)] kvs)))
theorem pe_dispStar {X : Cx} {pos : Pos} {k v m : Expr} {tk tv te : TE} (hk : PE X k tk) (hv : PE X v tv) (hm : PE X m te) : PE X (.Dict [some k, none] [v, m] pos) (tDispStar tk tv te) := by
  refine ⟨fun pins s σ H Q I q => ?_⟩
  have hn := I.hok.fresh (Nat.le_refl s.heap.objs.size)
  have I1 := I.laid (a := s.heap.objs.size) (o := .dK []) (h' := s.heap.push { cls := .type "dict", data := .dict #[] }) (t' := s.toks) (fun _ _ q => Heap.get?_push_of_some _ q) (Nat.le_refl _) (dk_empty s.heap I.big)
  rw [arm_eval_Dict]
  refine wpAny_bind (wpAny_standAt ?_)
  show wpAny _ _ (dictDisplay [(some (eval k X.env), do let x ← eval v X.env; standAt pos; pure x), (none, do let x ← eval m X.env; standAt pos; pure x)]) _ _ s
  have P := pps_cons (pos := pos) hk hv (pps_nil (X := X) (pos := pos))
  refine dispStar (knd := mixKind X.prog X.w) (thn (P.run pins _ σ _ _ I1 (q _ hn)) fun ws s2 ⟨ps, H2, I2, rel, y, z, ep, e, k', ek, q2⟩ => ?_)
  subst ep ek
  obtain ⟨rs, c, rk⟩ := carries_of (P := X.prog) (w := X.w) (kvs := [(k', z)]) (by simpa using rel)
  obtain ⟨_, hd, vs0, r0, dd⟩ := dk_of I2.hok e
  cases r0
  have one : (mergeK [] [(k', z)]) = [(k', z)] := rfl
  have rk2 : KV [(k', z)] (merged [] rs) := by
    have := rk.merge (kvs := []) (vs := []) .nil
    rw [one] at this; exact this
  refine ⟨rs, c, dd, fun h' d1 sb => ?_⟩
  have he : ∃ q, h'.get? s.heap.objs.size = some q := let ⟨q, _, _, hq, _⟩ := d1; ⟨q, hq⟩
  have I3 : Inv X pins σ (upd H2 s.heap.objs.size (.dK [(k', z)])) { s2 with heap := h', toks := s2.toks + ws.length } :=
    d_write I2 (by rw [e]; exact True.intro) sb he (dk_new (by rw [sizeLine_eq]; simp) hd rk2 d1)
  refine wpAny_bind (thn (hm.run pins _ σ _ _ I3 q2) fun u s4 ⟨x, H3, I4, rx, a, kvs, ex, na, e1, e2, hz, q3⟩ => wpAny_bind (wpAny_standAt (wpAny_pure ?_)))
  subst ex
  obtain rfl : u = Value.ref a := rx
  obtain ⟨_, hd1, vs1, r1, dd1⟩ := dk_of I4.hok e1
  obtain ⟨_, hd2, vs2, r2, dd2⟩ := dk_of I4.hok e2
  have l1 := r1.length
  have l2 := r2.length
  rw [List.length_cons, List.length_nil] at l1
  have eZ : (mergeK [(k', z)] kvs).length ≤ sizeLine := by
    have := length_mergeK kvs [(k', z)]
    rw [List.length_cons, List.length_nil] at this
    omega
  refine ⟨a, vs2, vs1, rfl, na, hd2, dd1, dd2, fun w' => by rw [w'] at l1; simp at l1, by omega, fun h'' d3 sb2 => ?_⟩
  have he2 : ∃ q, h''.get? s.heap.objs.size = some q := let ⟨q, _, _, hq, _⟩ := d3; ⟨q, hq⟩
  exact ⟨.ref s.heap.objs.size, _, d_write (t' := s4.toks) I4 (by rw [e1]; exact True.intro) sb2 he2 (dk_new eZ hd1 (r2.merge r1) d3), rfl, q3⟩
end Wd

set_option Elab.async false
set_option linter.all false
set_option maxRecDepth 100000
set_option maxHeartbeats 1000000
/-! B4: tuple(list) as a plain tuple; dict of pairs; d.update(m). -/
namespace Wd
open PySem L2 PyProof.Rows PySem.Calls
def rTupP (K : PySem.W.Frag) : List V → Hp → VK → Prop := fun xs H Q => ∃ p ys, xs = [.ref p] ∧ SqL K H p ys ∧ ∀ l o, H l = none → o.dict = none → Q (.ref l) (upd H l (.frz o (.tup ys)))
def rDictT (K : PySem.W.Frag) : List V → Hp → VK → Prop := fun xs H Q => ∃ (a : Addr) (o : Obj) (ps : List Addr) (kvs : List (Key × V)), xs = [.ref a] ∧ H a = some (.frz o (.tup (ps.map V.ref))) ∧ o.dict = none ∧ Paired (fun p kv => SqT K H p [kV kv.1, kv.2]) ps kvs ∧
  ∀ p, H p = none → Q (.ref p) (upd H p (.dK (mergeK [] kvs)))
def rDUpd : V → List V → Hp → VK → Prop := fun x vs H Q => ∃ a b kvs more, x = .ref a ∧ vs = [.ref b] ∧ a ≠ b ∧ H a = some (.dK kvs) ∧ H b = some (.dK more) ∧ kvs.length + more.length ≤ sizeLine ∧ Q .non (upd H a (.dK (mergeK kvs more)))
section
variable {X : Cx}
theorem call_tupP : CallR X (.type "tuple") (rTupP X.K) := by
  intro pins s σ H xs us Q I r h
  obtain ⟨p, ys, rfl, hq, q⟩ := h
  obtain rfl := Vals.ref1 r
  obtain ⟨its, r', pl, hz⟩ := I.list hq
  have hlen := r'.length
  refine call_tuple_list pl.isList (fun h' kp => ?_) (by rw [List.size_toArray]; omega)
  have I1 : Inv X pins σ H { s with heap := h' } := I.kept (t' := s.toks) kp
  have I2 : Inv X pins σ (upd H h'.objs.size (.frz { cls := .type "tuple", data := .seq its.toArray } (.tup ys))) { s with heap := h'.push { cls := .type "tuple", data := .seq its.toArray } } :=
    I1.laid (t' := s.toks) (fun b o e => Heap.get?_push_of_some _ e) (Nat.le_refl _) (show ObjOk X.prog X.w _ _ _ (.frz _ (.tup ys)) from ⟨Heap.get?_push_size _ rfl, hz, its, r', IsTup.new _ _⟩)
  exact ⟨.ref h'.objs.size, _, I2, rfl, q _ _ (I1.hok.fresh (Nat.le_refl _)) rfl⟩
theorem mt_dupd : MtM X "dict.update" rDUpd := by
  intro pins s σ H x vs v us Q I rx rv h
  obtain ⟨a, b, kvs, more, rfl, rfl, ne, ha, hb, hz, q⟩ := h
  obtain rfl : v = Value.ref a := rx
  obtain rfl := Vals.ref1 rv
  obtain ⟨z1, hd1, vs1, r1, dd1⟩ := dk_of I.hok ha
  obtain ⟨z2, hd2, vs2, r2, dd2⟩ := dk_of I.hok hb
  have l1 := r1.length
  have l2 := r2.length
  refine call_meetsIn PySem.F.slot_dict_update dd1.typeIs PySem.F.entry_dict_update (PySem.F.args_dict_update_2 _ _) (meets_dict_update (mixKind X.prog X.w) a b ne hd2) ⟨vs1, vs2, dd1, dd2, by omega, fun h' d3 d4 sb => ?_⟩
  have he : ∃ q, h'.get? a = some q := let ⟨q, _, _, hq, _⟩ := d3; ⟨q, hq⟩
  have hl : (mergeK kvs more).length ≤ sizeLine := Nat.le_trans (length_mergeK more kvs) hz
  exact ⟨.non, _, d_write (t' := s.toks) I (by rw [ha]; exact True.intro) sb he (dk_new hl hd1 (r2.merge r1) d3), rfl, q⟩
theorem pairs_items {h : Heap} : ∀ {ps : List Addr} {prs : List (Key × Value)}, prs.length = ps.length → (∀ (j : Nat) (q : Key × Value), prs[j]? = some q → ∃ (b : Addr) (u : Value), ps[j]? = some b ∧ IsTup h b #[u, q.2] ∧ keyIs q.1 u = true) →
    ∃ us : List (Value × Value), us.length = ps.length ∧ (∀ (j : Nat) (k v : Value), us[j]? = some (k, v) → ∃ b, ps[j]? = some b ∧ IsTup h b #[k, v] ∧ ∃ kk, prs[j]? = some (kk, v) ∧ keyIs kk k = true)
  | [], [], _, _ => ⟨[], rfl, fun j k v e => by simp at e⟩
  | p :: ps, q :: prs, hl, H => by
    obtain ⟨us, l, f⟩ := pairs_items (ps := ps) (prs := prs) (by simpa using hl) fun j q' e => by
      obtain ⟨b, u, e1, e2⟩ := H (j + 1) q' (by simpa using e)
      exact ⟨b, u, by simpa using e1, e2⟩
    obtain ⟨b, u, e1, e2, e3⟩ := H 0 q rfl
    have e1' : p = b := Option.some.inj e1
    subst e1'
    refine ⟨(u, q.2) :: us, by rw [List.length_cons, List.length_cons, l], fun j k v e => ?_⟩
    cases j with
    | zero =>
      have e' : (u, q.2) = (k, v) := Option.some.inj e
      obtain ⟨rfl, rfl⟩ := Prod.mk.inj e'
      exact ⟨p, rfl, e2, q.1, rfl, e3⟩
    | succ j =>
      obtain ⟨b, f1, f2, kk, f3, f4⟩ := f j k v (by simpa using e)
      exact ⟨b, by simpa using f1, f2, kk, by simpa using f3, f4⟩
  | [], _ :: _, hl, _ => by simp at hl
  | _ :: _, [], hl, _ => by simp at hl
theorem call_dictT (hc : X.calm = true) : CallR X (.type "dict") (rDictT X.K) := by
  intro pins s σ H xs us Q I r h
  obtain ⟨a, o, ps, kvs, rfl, ha, hdn, hp, q⟩ := h
  obtain rfl := Vals.ref1 r
  obtain ⟨e1, hz, its, rv, o', e2, hcls, n, hdat⟩ := (show ObjOk X.prog X.w H s.heap a (.frz o (.tup (ps.map V.ref))) from I.hok a _ ha)
  rw [e1] at e2
  cases e2
  have ei := refs_at rv
  subst ei
  obtain ⟨prs, rel, hl, hpr⟩ := pairs_of I hp
  obtain ⟨vs, lv, fv⟩ := pairs_items hl hpr
  rw [List.length_map] at hz
  have lps : ps.length ≤ sizeLine := hz
  refine PySem.call_dict_pairs (knd := mixKind X.prog X.w) (kvs := prs) (PairArg.tuple a (ps.map Value.ref).toArray (fun j => ps.getD j 0) vs) (I.ok.hd hc) ⟨⟨o, n, e1, hcls, hdn, hdat⟩, by simp [lv], fun j k v e => ?_⟩ ⟨by rw [hl, lv], fun i key v e => ?_⟩ (by rw [lv]; exact lps) fun h' tk hd' k => ?_
  · obtain ⟨b, f1, f2, _⟩ := fv j k v e
    have f1' : ps.getD j 0 = b := by rw [List.getD_eq_getElem?_getD, f1]; rfl
    dsimp only
    rw [f1']
    exact ⟨by simp [f1], .inl f2⟩
  · obtain ⟨b, _, _, kk, f3, f4⟩ := fv i key v e
    exact ⟨kk, f3, f4⟩
  · have hm : (s.heap.objs.size == sysModules) = false := beq_eq_false_iff_ne.mpr (Nat.ne_of_gt I.big)
    have hlen : (mergeK [] kvs).length ≤ sizeLine := by
      refine Nat.le_trans (length_mergeK kvs []) ?_
      rw [List.length_nil, Nat.zero_add, rel.length, hl]
      exact lps
    exact ⟨.ref s.heap.objs.size, upd H s.heap.objs.size (.dK (mergeK [] kvs)), I.laid (t' := tk) (fun b o e => k b o (by simp) e) (Nat.le_refl _) (show ObjOk X.prog X.w _ _ _ (.dK (mergeK [] kvs)) from ⟨hlen, hm, merged [] prs, KV.merge rel .nil, hd'⟩), rfl, q _ (I.hok.fresh (Nat.le_refl _))⟩
end
/-! ### the data side -/
def mgk (kvs more : List (Str × Dt)) : List (Str × Dt) := more.foldl (fun acc kv => pk acc kv.1 kv.2) kvs
theorem mgk_cons {kvs more : List (Str × Dt)} {x : Str} {d : Dt} : mgk kvs ((x, d) :: more) = mgk (pk kvs x d) more := rfl
theorem mgk_len : ∀ (more kvs : List (Str × Dt)), (mgk kvs more).length ≤ kvs.length + more.length
  | [], kvs => Nat.le_refl _
  | (x, d) :: more, kvs => by
    rw [mgk_cons]
    have h1 := mgk_len more (pk kvs x d)
    have h2 := @pk_len _ _ kvs x d
    rw [List.length_cons]; omega
theorem mgk_get (j : Str) : ∀ (more kvs : List (Str × Dt)), gk (mgk kvs more) j = match gk more.reverse j with | some d => some d | none => gk kvs j
  | [], kvs => rfl
  | (x, d) :: more, kvs => by
    rw [mgk_cons, mgk_get j more (pk kvs x d), List.reverse_cons]
    have app : ∀ (l : List (Str × Dt)), gk (l ++ [(x, d)]) j = match gk l j with | some e => some e | none => if x = j then some d else none := fun l => by
      induction l with
      | nil => rw [List.nil_append, gk_cons, gk_nil]
      | cons p l ih =>
        obtain ⟨y, e⟩ := p
        rw [List.cons_append, gk_cons, gk_cons]
        by_cases h : y = j
        · simp [h]
        · simp only [h, if_false]; exact ih
    rw [app]
    cases gk more.reverse j with
    | some e => rfl
    | none =>
      dsimp only
      rw [gk_pk]
      by_cases h : x = j
      · simp [h]
      · simp [h]
section
variable {K : PySem.W.Frag} {H : Hp}
theorem Rk.merge : ∀ {more : List (Str × Dt)} {ys : List (Key × V)} {xs : List (Key × V)} {ks : List (Str × Dt)}, Rk K H ys more → Rk K H xs ks → Rk K H (mergeK xs ys) (mgk ks more)
  | _, _, _, _, .nil, h => h
  | _, _, _, _, .cons (x := x) (v := v) (r := rs) (d := d) (ks := ks') q r, h => Rk.merge (xs := putK _ (Sum.inr x) v) (ks := pk _ x d) r (h.put q)
/-- a list of pairs as rows -/
theorem Ra.pairs : ∀ {ks : List (Str × Dt)} {vs : List V}, Ra K H vs (ks.map fun p => Dt.tup [.str p.1, p.2]) → ∃ (ps : List Addr) (kvs : List (Key × V)), vs = ps.map V.ref ∧ Paired (fun p (kv : Key × V) => SqT K H p [kV kv.1, kv.2]) ps kvs ∧ Rk K H kvs ks
  | [], _, .nil => ⟨[], [], rfl, .nil, .nil⟩
  | (x, d) :: ks, _, .cons r rr => by
    obtain ⟨ps, kvs, e1, e2, e3⟩ := Ra.pairs rr
    obtain ⟨a, xs, rfl, h, q⟩ := r.tup_inv
    cases q with
    | cons q1 q =>
      cases q with
      | @cons v _ _ _ q2 q =>
        cases q
        rw [q1.str_inv] at h
        exact ⟨a :: ps, (Sum.inr x, v) :: kvs, by rw [List.map_cons, e1], .cons (.inl h) e2, .cons q2 e3⟩
theorem Paired.sq {H' : Hp} (s : Same H H') : ∀ {ps : List Addr} {kvs : List (Key × V)}, Paired (fun p (kv : Key × V) => SqT K H p [kV kv.1, kv.2]) ps kvs → Paired (fun p (kv : Key × V) => SqT K H' p [kV kv.1, kv.2]) ps kvs
  | _, _, .nil => .nil
  | _, _, .cons h t => .cons (by
    rcases h with h | h
    · exact .inl (Same.rd s h)
    · exact .inr h) (Paired.sq s t)
end
variable [B : Tb]
section
variable {K : PySem.W.Frag} {G : List Sl} {P : Dt → List Sl → Prop} {Q : Dt → Prop} {te ty td tx : TE} {i : Nat} {R : Dt → List Sl → Prop} {N : List Sl → Prop}
theorem cd_tupP {ds : List Dt} (hd : ∀ d ∈ ds, d.isT = true) (p : Q (.pt ds)) : CD K (rTupP K) [.lst ds] Q := fun H H1 vs W s r k => by
  cases r with
  | cons r rr =>
    cases rr
    obtain ⟨a, xs, rfl, h, r⟩ := r.lst_inv
    refine ⟨a, xs, rfl, SqL.of (s _ _ h), fun l o hl ho => ?_⟩
    have g : Gr H H1 (upd H l (.frz o (.tup xs))) (upd H1 l (.frz o (.tup xs))) := Gr.new s hl
    exact k _ _ _ _ g (.pt upd_same ho hd (r.mono g.b)) p
theorem cf_dictT {ks : List (Str × Dt)} (p : Q (.dk (mgk [] ks))) : CF K (rDictT K) [.pt (ks.map fun p => Dt.tup [.str p.1, p.2])] Q := fun H H1 vs W s r k => by
  cases r with
  | cons r rr =>
    cases rr
    obtain ⟨a, xs, o, rfl, h, hn, _, r⟩ := r.pt_inv
    obtain ⟨ps, kvs, rfl, e2, e3⟩ := Ra.pairs r
    exact ⟨a, o, ps, kvs, rfl, s _ _ h, hn, Paired.sq s e2, fun q hq => k q (.dk (mgk [] ks)) (.dK (mergeK [] kvs)) H _ (.of (Same.refl _) (s.trans (Same.upd hq)) (Same.upd hq) (fun _ _ _ z => z) id) (.of hq) (s.free hq) upd_same (Rk.merge e3 .nil) p⟩
theorem cf_dictP {ks : List (Str × Dt)} (p : Q (.dk (mgk [] ks))) : CF K (fun xs H Q => ∃ (a : Addr) (ps : List Addr) (kvs : List (Key × V)), xs = [.ref a] ∧ SqL K H a (ps.map V.ref) ∧ Paired (fun p kv => SqT K H p [kV kv.1, kv.2]) ps kvs ∧
    ∀ p, H p = none → Q (.ref p) (upd H p (.dK (mergeK [] kvs)))) [.lst (ks.map fun p => Dt.tup [.str p.1, p.2])] Q := fun H H1 vs W s r k => by
  cases r with
  | cons r rr =>
    cases rr
    obtain ⟨a, xs, rfl, h, r⟩ := r.lst_inv
    obtain ⟨ps, kvs, rfl, e2, e3⟩ := Ra.pairs r
    exact ⟨a, ps, kvs, rfl, SqL.of (s _ _ h), Paired.sq s e2, fun q hq => k q (.dk (mgk [] ks)) (.dK (mergeK [] kvs)) H _ (.of (Same.refl _) (s.trans (Same.upd hq)) (Same.upd hq) (fun _ _ _ z => z) id) (.of hq) (s.free hq) upd_same (Rk.merge e3 .nil) p⟩
theorem sx_dupd (hk : ∃ l ks, G[i]? = some (.own l (.dk ks))) (h : EX K te G fun d G1 => ∃ l ks more, d = .dk more ∧ G1[i]? = some (.own l (.dk ks)) ∧ ks.length + more.length ≤ sizeLine ∧ N (G1.set i (.own l (.dk (mgk ks more))))) : SX K (tDrop (tBM K "dict" rDUpd (tVar i) (tCons te tNil))) G R N := fun H0 F H H1 σ D I q1 q2 => by
  obtain ⟨l0, ks0, h0⟩ := hk
  obtain ⟨z0, _, _, u0, z1, z2⟩ := I.own i l0 _ h0
  obtain ⟨xs0, e0, _⟩ := z2.dk_inv
  subst e0
  refine ⟨.ref l0, z0, .inr (.inr (.inl ⟨rfl, .inl ⟨_, z1⟩⟩)), h H0 F H H1 σ _ I fun b d G1 Ha Hb I1 s1 r1 ⟨l, ks, more, ed, hG, hl, p⟩ => ?_⟩
  subst ed
  obtain rfl := own_eq I I1 h0 hG
  obtain ⟨b, ys, rfl, hb, rb⟩ := r1.dk_inv
  obtain ⟨_, _, n3, u, a4, a5⟩ := I1.own i l _ hG
  obtain ⟨xs, e, rx⟩ := a5.dk_inv
  subst e
  have hb' := I1.s _ _ hb
  refine ⟨l, b, xs, ys, rfl, rfl, fun z => ?_, a4, hb', by rw [rx.length, rb.length]; exact hl, ?_⟩
  · subst z; rw [n3] at hb; cases hb
  exact q2 _ _ _ _ (I1.write (u := .dK (mergeK xs ys)) (d' := .dk (mgk ks more)) hG (Rk.merge rb rx)).1 p
/-- {k: v, **m}, k a constant text -/
theorem ef_dispStar {x : Str} {n : Int} (h : EX K te G fun d G1 => ∃ ks, d = .dk ks ∧ ks.length < sizeLine ∧ P (.dk (mgk [(x, .int n)] ks)) G1) : EF K (tDispStar (tC (.str x)) (tC (.int n)) te) G P := fun H0 F H H1 σ Q I q => by
  intro p hp
  have n1 : NT (.dK [(Sum.inr x, V.int n)]) := fun ps z => by cases z
  have up : upd (upd H1 p (.dK [])) p (.dK [(Sum.inr x, V.int n)]) = upd H1 p (.dK [(Sum.inr x, V.int n)]) := by
    funext b
    by_cases z : b = p
    · subst z; rw [upd_same, upd_same]
    · rw [upd_ne z, upd_ne z, upd_ne z]
  have g0 : Gr H H1 H (upd H1 p (.dK [(Sum.inr x, V.int n)])) := .of (Same.refl _) (I.s.trans (Same.upd hp)) (Same.upd hp) (fun _ _ _ z => z) id
  have I0 := I.gr g0
  have hF : F p = none := (Fr.of hp).sub I.fp I.f
  have hH : H p = none := I.s.free hp
  have nO : ¬ Own G p := fun z => by
    obtain ⟨w, hw, _⟩ := I.ownH z
    rw [hp] at hw; cases hw
  refine ⟨.str x, .int n, rfl, upd_same, Sum.inr x, rfl, ?_⟩
  rw [up]
  refine h H0 F H _ σ _ I0 fun v d G1 Ha Hb I1 s1 r1 ⟨ks, e, hl, z⟩ => ?_
  subst e
  obtain ⟨a, ys, rfl, ha, ra⟩ := r1.dk_inv
  have e1 : Hb p = some (.dK [(Sum.inr x, V.int n)]) := s1.k p _ upd_same nO n1
  have e2 : Ha p = none := s1.o p _ upd_same trivial hH nO
  have ne : p ≠ a := fun w => by rw [w, ha] at e2; cases e2
  have nO1 : ¬ Own G1 p := fun w => nO (s1.w p w)
  refine ⟨a, ys, rfl, ne, e1, I1.s _ _ ha, by rw [ra.length]; exact hl, ?_⟩
  have I2 : En K H0 F Ha (upd Hb p (.dK (mergeK [(Sum.inr x, V.int n)] ys))) σ G1 :=
    ⟨I1.b, fun b o e => by rw [upd_ne (ne_of_none e e2)]; exact I1.s b o e, fun b o e => by rw [upd_ne (ne_of_none e hF)]; exact I1.f b o e, I1.o, I1.len, I1.dat, fun i l d h => by
      obtain ⟨f1, f2, f3, v, f4, f5⟩ := I1.own i l d h
      exact ⟨f1, f2, f3, v, by rw [upd_ne fun w => nO1 (by rw [← w]; exact ⟨i, d, h⟩)]; exact f4, f5⟩, I1.nd, I1.fp, I1.p, tab_upd (K := K) (H2 := Ha) (d := .dk [(x, .int n)]) e1 (.cons (.int n) .nil) I1.tab⟩
  have s2 : Stp G G1 H H1 Ha (upd Hb p (.dK (mergeK [(Sum.inr x, V.int n)] ys))) :=
    ⟨s1.b, fun b u e w m => by
      have nb : b ≠ p := ne_of_none e hp
      rw [upd_ne nb]
      exact s1.k b u (by rw [upd_ne nb]; exact e) w m, fun b u e m h0 w => s1.o b u (by rw [upd_ne (ne_of_none e hp)]; exact e) m h0 w, s1.w, fun b u e m => by
      have nb : b ≠ p := ne_of_none e hp
      obtain ⟨v, f1, f2, f3⟩ := s1.t b u (by rw [upd_ne nb]; exact e) m
      exact ⟨v, by rw [upd_ne nb]; exact f1, f2, f3⟩⟩
  exact q p (.dk (mgk [(x, .int n)] ks)) _ G1 Ha _ I2 s2 (.of hp) e2 upd_same (Rk.merge ra (.cons (.int n) .nil)) z
end
end Wd

set_option Elab.async false
set_option linter.all false
set_option maxRecDepth 100000
set_option maxHeartbeats 1000000
/-! S2: sorted of what can be collected: the keys of a dict, its items; list(d.values()). -/
namespace Wd
open PySem L2 PyProof.Rows PySem.Calls PySem.W
section
variable {X : Cx} {pins : List (Addr × Obj)} {σ : L2.St} {H : Hp} {s : Shared} {Q : VK}
theorem sorted_from {u : Value} (hu : X.A.units + 70 < cLine)
    (hcol : ∀ E : Value → Shared → Prop, wpAny (model X.prog X.w) X.A.in1 (collect u) (fun acc s₁ => ∃ H1 ps, Inv X pins σ H1 s₁ ∧ Vals (ps.map (·.1)) acc ∧ DpL X.K H1 ps ∧ CanSort (ps.map (·.2)) ∧ ps.length ≤ sizeLine ∧ ∀ p, H1 p = none → Q (.ref p) (upd H1 p (.lst ((srtP ps).map (·.1))))) E s)
    (ha : argsOk "sorted" ⟨[u], []⟩) : wpAny (model X.prog X.w) X.A (call (.builtin "sorted") [u]) (EP X pins σ Q) X.xe s := by
  refine Calls.call_function_entry kind_sorted plain_sorted entry_sorted ha ?_
  unfold Builtin.«sorted»
  refine wpAny_bind (m := checkCount "sorted" 1 1 _) (wpAny_pure ?_)
  refine wpAny_bind (wpAny_mono (hcol _) (fun acc s₁ ⟨H1, ps, I, rv, hd, cs, hz, q⟩ => ?_) fun _ _ e => e)
  have hlen : acc.length = ps.length := by rw [← rv.length, List.length_map]
  refine wpAny_bind (wpAny_newList ?_ (by omega))
  have hoL : (s₁.heap.push (seqObj "list" acc.toArray 0)).get? s₁.heap.objs.size = some (seqObj "list" acc.toArray 0) := Heap.get?_push_size _ rfl
  have old : ∀ b o, s₁.heap.get? b = some o → (sortingHeap (s₁.heap.push (seqObj "list" acc.toArray 0)) s₁.heap.objs.size acc).get? b = some o := fun b o e => sortingHeap_old (Nat.ne_of_lt (Heap.lt_size e)) (Heap.get?_push_of_some _ e)
  obtain ⟨h1, h2⟩ := sort_vals (X := X) (each_reads I hd rv) cs old (A := X.A.in1.in1) (by show X.A.units + 1 + 1 + 64 < cLine; omega) (s' := { s₁ with heap := sortingHeap (s₁.heap.push (seqObj "list" acc.toArray 0)) s₁.heap.objs.size acc }) rfl
  refine wpAny_bind (wpAny_holding (wpAny_call_entry slot_list_sort ⟨_, hoL, rfl⟩ entry_list_sort (list_sort_vals (s := { s₁ with heap := s₁.heap.push (seqObj "list" acc.toArray 0) }) hoL h1 (by omega) ⟨_, rfl, ?_⟩) (args_list_sort _)))
  obtain ⟨ep, he⟩ := sortedHeap_at (vs := acc) (out := (sortVals (dataKind (sortingHeap (s₁.heap.push (seqObj "list" acc.toArray 0)) s₁.heap.objs.size acc) (ps.map (·.2))) false acc acc).toArray) hoL
  refine wpAny_pure ⟨_, rfl, .ref _, upd H1 s₁.heap.objs.size (.lst ((srtP ps).map (·.1))), I.laid (t' := s₁.toks) (fun b o e => ?_) (Nat.le_refl _) ⟨?_, _, ep, each_vals h2, he⟩, rfl, q _ (I.hok.fresh (Nat.le_refl _))⟩
  · rw [sortedHeap_old (Nat.ne_of_lt (Heap.lt_size e)) (by rw [size_push']; exact Nat.lt_succ_of_lt (Heap.lt_size e))]
    exact Heap.get?_push_of_some _ e
  · rw [List.length_map]; unfold srtP; rw [List.length_mergeSort]; exact hz
/-- the keys of a dict with pairs as keys -/
def rSortKT (K : PySem.W.Frag) : List V → Hp → VK → Prop := fun vs H Q => ∃ (d : Addr) (kvs : List (List Key × V)), vs = [.ref d] ∧ Rd H d (.dT kvs) ∧ ∀ bs, IsKeys H kvs bs → ∃ ps : List (V × PyData), ps.map (·.1) = bs.map V.ref ∧ DpL K H ps ∧ CanSort (ps.map (·.2)) ∧
  ∀ p, H p = none → Q (.ref p) (upd H p (.lst ((srtP ps).map (·.1))))
theorem cr_sortKT (hc : X.calm = true) (hu : X.A.units + 70 < cLine) : CallR X (.builtin "sorted") (rSortKT X.K) := by
  intro pins s σ H vs us Q I r h
  obtain ⟨d, kvs, rfl, hd, q⟩ := h
  obtain rfl := Vals.ref1 r
  obtain ⟨z, hs, ks, pr, o, es, ep, ho, hx, hdt, he, hn⟩ := (show ObjOk X.prog X.w H s.heap d (.dT kvs) from hd.ok I.hok)
  have l1 : es.size = ks.length := size_of_entries he
  have l2 : kvs.length = ks.length := Paired.length pr
  refine sorted_from hu (fun E => kdu_collect (A := X.A.in1) (kdl_raw hs hx hdt) (I.ok.hd hc) ho (by omega) fun h' tk acc kp it => ?_) (args_sorted1 _)
  have ea : acc.toList = (ks.map fun x => x.2.1).map Value.ref := by
    rw [List.map_map]
    apply List.ext_getElem?
    intro j
    rw [List.getElem?_map]
    have hl : acc.toList.length = ks.length := by rw [Array.length_toList, it.1]; exact l1
    cases hj : acc.toList[j]? with
    | none => rw [List.getElem?_eq_none (by have := List.getElem?_eq_none_iff.mp hj; omega)]; rfl
    | some v =>
      obtain ⟨en, hen, hv⟩ := it.2 j v (by rw [← Array.getElem?_toList]; exact hj)
      have qe := entry_at he j
      rw [hen] at qe
      cases hb : ks[j]? with
      | none => rw [hb] at qe; exact nomatch (show some en = none from qe)
      | some b =>
        rw [hb] at qe
        have e2 : en = entryOfKey (tupleKind (mixKind X.prog X.w)) b := Option.some.inj qe
        rw [hv, e2]; rfl
  obtain ⟨ps, e1, e2, e3, q⟩ := q _ (isKeys_of pr)
  have hl : ps.length = ks.length := by have := congrArg List.length e1; simpa using this
  exact ⟨H, ps, I.kept (t' := tk) kp, by rw [e1, ea]; exact L2.vals_refs _, e2, e3, by omega, q⟩
/-! ### list(d.values()) -/
def tListVals (te : TE) : TE := fun σ H Q => te σ H fun x H1 => ∃ (d : Addr) (kvs : List (Key × V)), x = .ref d ∧ H1 d = some (.dK kvs) ∧ ∀ p, H1 p = none → Q (.ref p) (upd H1 p (.lst (kvs.map (·.2))))
theorem kv_vals {kvs : List (Key × V)} {vs : List (Key × Value)} (r : KV kvs vs) : Vals (kvs.map (·.2)) (vs.map (·.2)) := by
  unfold KV at r
  induction r with
  | nil => exact .nil
  | cons h t ih => exact .cons h.2 ih
theorem pe_listVals {e : Expr} {te : TE} {p apos cpos pos : Pos} (hc : X.calm = true) (he : PE X e te) (hg : Gl X "list") (hm : X.mg "list" = none) (hbase : attributeBase e "values" X.env (eval e X.env) = eval e X.env := by rfl) (hline : (apos.endLine == cpos.line) = true := by rfl)
    (hs : starEach [.Call (.Attribute e "values" apos) [] [] cpos] X.env = (false, eval (.Call (.Attribute e "values" apos) [] [] cpos) X.env) :: starEach [] X.env := by rfl) :
    PE X (.Call (.Name "list" p) [.Call (.Attribute e "values" apos) [] [] cpos] [] pos) (tListVals te) := by
  refine ⟨fun pins s σ H Q I hq => ?_⟩
  refine wpAny_Call_Name_kw (ld_blt I hg hm bt_list ?_ (by decide) (by decide))
  refine PyProof.Rows.callWith_type1 ?_ hs rfl
  rw [hs]
  show wpAny _ _ (spliced ((false, eval (.Call (.Attribute e "values" apos) [] [] cpos) X.env) :: backTo pos (starEach [] X.env))) _ _ s
  refine Calls.spliced_cons ?_
  refine wpAny_Call_method (T := "dict") (id := "dict.values") hbase rfl hline F.plainAttrs_dict F.slot_dict_values F.type_dict_values (thn (he.run pins s σ H _ I hq) fun u s1 ⟨x, H1, I1, rx, d, kvs, ex, hd, q⟩ => ?_)
  subst ex
  obtain rfl : u = Value.ref d := rx
  obtain ⟨hz, hs0, vs, kv, hdo⟩ := I1.hok d _ hd
  obtain ⟨ep, hat⟩ := hdo.dictAt
  have lk : kvs.length = vs.length := Paired.length kv
  refine ⟨hdo.typeIs, hdo.mapOf.noDict, ?_⟩
  show wpAny _ _ (callWith cpos (.builtin "dict.values") [.ref d] [] []) _ X.xe s1
  refine method_meetsIn F.slot_dict_values F.entry_dict_values rfl (PySem.evalArgs_none ⟨rfl, hdo.typeIs, F.args_dict_values_1 _, _, meets_dict_values (mixKind X.prog X.w) d hs0, ⟨vs, hdo⟩, ?_⟩)
  refine Calls.spliced_nil ?_
  have I2 : Inv X pins σ H1 { s1 with heap := s1.heap.push { cls := .type "dict_values", data := .fields #[.ref d] } } := I1.kept (t' := s1.toks) fun b ob q => Heap.get?_push_of_some _ q
  refine kdl_call (kdl_values (knd := mixKind X.prog X.w) (kvs := vs) (ep := ep)) (I1.ok.hd hc) ⟨⟨_, Heap.get?_push_size _ rfl, rfl, rfl⟩, hat.push _⟩ (by omega) fun h' tk acc c kp hS it => ?_
  have ea : acc.toList = vs.map (·.2) := by
    apply List.ext_getElem?
    intro j
    rw [List.getElem?_map]
    have hl : acc.toList.length = vs.length := by rw [Array.length_toList, it.1]
    cases hj : acc.toList[j]? with
    | none => rw [List.getElem?_eq_none (by have := List.getElem?_eq_none_iff.mp hj; omega)]; rfl
    | some v =>
      obtain ⟨k, hk⟩ := it.2 j v (by rw [← Array.getElem?_toList]; exact hj)
      rw [hk]; rfl
  refine ⟨.ref _, upd H1 _ (.lst (kvs.map (·.2))), I2.laid (t' := tk) kp (Nat.le_refl _) ⟨by rw [List.length_map]; exact hz, acc.toList, c, by rw [ea]; exact kv_vals kv, by rw [Array.toArray_toList]; exact hS⟩, rfl, q _ (I2.hok.fresh (Nat.le_refl _))⟩
/-! ### sorted(d.items()) -/
theorem collect_items {A : Around} {E : Value → Shared → Prop} {R : List Value → Shared → Prop} {r d : Addr} {vs : List (Key × Value)} {ep : Nat} (hh : A.handled = none) (hv : s.heap.IsItemsView r d) (hm : s.heap.DictAt (mixKind X.prog X.w) d vs ep) (hn : vs.length ≤ sizeLine)
    (h : ∀ (h' : Heap) (tk : Nat) (acc : Array Value) (c : Nat) (as : List Addr), (∀ b o, s.heap.get? b = some o → h'.get? b = some o) → h'.get? s.heap.objs.size = some { cls := .type "list", dict := none, data := .seq acc c, slots := #[] } → as.length = vs.length → KdxG (mixKind X.prog X.w) vs s.heap.objs.size h' as → acc.toList = as.map Value.ref → R acc.toList { s with heap := h', toks := tk }) :
    wpAny (model X.prog X.w) A (collect (.ref r)) R E s := by
  have hrl : r < s.heap.objs.size := let ⟨_, ho, _⟩ := hv; Heap.lt_size ho
  have hdl : d < s.heap.objs.size := hm.lt_size
  unfold collect
  refine wpAny_bind (wpAny_runValue (codeAny_builtin entry_proto_collect' ?_))
  rw [Around.under_plainId PySem.F.plain_proto_collect _]
  show wpAny _ A.in1 (newList [] >>= fun l => again (.builtin "list.__iadd__" ⟨[l, .ref r], []⟩)) _ _ s
  refine wpAny_bind (wpAny_newObj_type ?_)
  refine wpAny_pure ⟨plainId_quiet PySem.F.plain_list_iadd _, codeAny_builtin entry_list_iadd' ?_⟩
  rw [Around.under_plainId PySem.F.plain_list_iadd _]
  have hS : (s.heap.push { cls := .type "list", data := .seq ([] : List Value).toArray }).get? s.heap.objs.size = some { cls := .type "list", data := .seq #[] } := Heap.get?_push_size _ rfl
  show wpAny _ A.in1 (Builtin.List.listExtendWith (.ref s.heap.objs.size) (.ref r) (.ref s.heap.objs.size)) _ _ _
  have key := kdx_extend (knd := mixKind X.prog X.w) (A := A) (s := { s with heap := s.heap.push { cls := .type "list", data := .seq ([] : List Value).toArray } }) (d := d) (r := r) (kvs := vs) (ep := ep)
    (R := fun (q : Result) (s' : Shared) => ∃ (h' : Heap) (tk : Nat) (acc : Array Value) (c : Nat) (as : List Addr), q = .ok (.ret (.ref s.heap.objs.size)) ∧ s' = { s with heap := h', toks := tk } ∧ (∀ b o, s.heap.get? b = some o → h'.get? b = some o) ∧
      h'.get? s.heap.objs.size = some { cls := .type "list", dict := none, data := .seq acc c, slots := #[] } ∧ as.length = vs.length ∧ KdxG (mixKind X.prog X.w) vs s.heap.objs.size h' as ∧ acc.toList = as.map Value.ref)
    hh (let ⟨o, ho, x⟩ := hv; ⟨o, Heap.get?_push_of_some _ ho, x⟩) (hm.push _) s.heap.objs.size (Nat.ne_of_gt hrl) (Nat.ne_of_lt hdl) (.ref s.heap.objs.size) 0 hS
    (fun h' tk acc c as hk hS' hl hG hacc => ⟨h', tk, acc, c, as, rfl, rfl, fun b o e => hk b o (Nat.ne_of_lt (Heap.lt_size e)) (Heap.get?_push_of_some _ e), hS', hl, ⟨hG.rise, fun a ha => Nat.lt_of_le_of_lt (by rw [Heap.size_push]; exact Nat.le_succ _) (hG.above a ha), hG.pairs⟩, hacc⟩) hn
  refine wpAny_mono key (fun fin s' x => ?_) fun e s' x => ?_
  · cases fin with
    | done f =>
      obtain ⟨h', tk, acc, c, as, e, rfl, hk, hS', hl, hG, hacc⟩ := x
      cases e
      show wpAny _ A (load s.heap.objs.size >>= _) _ _ _
      exact wpAny_bind (wpAny_load hS' (wpAny_pure (h h' tk acc c as hk hS' hl hG hacc)))
    | again c₁ =>
      refine ⟨x.1, codeAny_mono x.2 fun q s₂ y => ?_⟩
      obtain ⟨h', tk, acc, c, as, rfl, rfl, hk, hS', hl, hG, hacc⟩ := y
      show wpAny _ A (load s.heap.objs.size >>= _) _ _ _
      exact wpAny_bind (wpAny_load hS' (wpAny_pure (h h' tk acc c as hk hS' hl hG hacc)))
  · obtain ⟨_, _, _, _, _, e', _⟩ := x
    cases e'
def tSortItems (K : PySem.W.Frag) (te : TE) : TE := fun σ H Q => te σ H fun x H1 => ∃ (d : Addr) (kvs : List (Key × V)), x = .ref d ∧ H1 d = some (.dK kvs) ∧
  ∀ (H' : Hp) (l : Addr) (ts : List Addr), Same H1 H' → H1 l = none → (∀ t ∈ ts, H1 t = none) → l ∉ ts → (∃ xs, H' l = some (.lst xs)) → Paired (fun (t : Addr) (q : Key × V) => H' t = some (.tup [kV q.1, q.2])) ts kvs →
    ∃ ps : List (V × PyData), ps.map (·.1) = ts.map V.ref ∧ DpL K H' ps ∧ CanSort (ps.map (·.2)) ∧ ∀ p, H' p = none → Q (.ref p) (upd H' p (.lst ((srtP ps).map (·.1))))
theorem pe_sortItems {e : Expr} {te : TE} {p apos cpos pos : Pos} (hc : X.calm = true) (hu : X.A.units + 70 < cLine) (he : PE X e te) (hg : Gl X "sorted") (hm : X.mg "sorted" = none) (hbase : attributeBase e "items" X.env (eval e X.env) = eval e X.env := by rfl) (hline : (apos.endLine == cpos.line) = true := by rfl)
    (hs : starEach [.Call (.Attribute e "items" apos) [] [] cpos] X.env = (false, eval (.Call (.Attribute e "items" apos) [] [] cpos) X.env) :: starEach [] X.env := by rfl) :
    PE X (.Call (.Name "sorted" p) [.Call (.Attribute e "items" apos) [] [] cpos] [] pos) (tSortItems X.K te) := by
  refine ⟨fun pins s σ H Q I hq => ?_⟩
  refine wpAny_Call_Name_kw (ld_blt I hg hm bt_sorted ?_ (by decide) (by decide))
  refine PyProof.Rows.callWith_builtin1 ?_ hs rfl
  rw [hs]
  show wpAny _ _ (spliced ((false, eval (.Call (.Attribute e "items" apos) [] [] cpos) X.env) :: backTo pos (starEach [] X.env))) _ _ s
  refine Calls.spliced_cons ?_
  refine wpAny_Call_method (T := "dict") (id := "dict.items") hbase rfl hline F.plainAttrs_dict F.slot_dict_items F.type_dict_items (thn (he.run pins s σ H _ I hq) fun u s1 ⟨x, H1, I1, rx, d, kvs, ex, hd, q⟩ => ?_)
  subst ex
  obtain rfl : u = Value.ref d := rx
  obtain ⟨hz, hs0, vs, kv, hdo⟩ := I1.hok d _ hd
  obtain ⟨ep, hat⟩ := hdo.dictAt
  have lk : kvs.length = vs.length := Paired.length kv
  refine ⟨hdo.typeIs, hdo.mapOf.noDict, ?_⟩
  show wpAny _ _ (callWith cpos (.builtin "dict.items") [.ref d] [] []) _ X.xe s1
  refine method_meetsIn F.slot_dict_items F.entry_dict_items rfl (PySem.evalArgs_none ⟨rfl, hdo.typeIs, F.args_dict_items_1 _, _, meets_dict_items (mixKind X.prog X.w) d hs0, ⟨vs, hdo⟩, ?_⟩)
  refine Calls.spliced_nil ?_
  have I2 : Inv X pins σ H1 { s1 with heap := s1.heap.push { cls := .type "dict_items", data := .fields #[.ref d] } } := I1.kept (t' := s1.toks) fun b ob q => Heap.get?_push_of_some _ q
  refine sorted_from hu (fun E => collect_items (X := X) (A := X.A.in1) (vs := vs) (ep := ep) (I1.ok.hd hc) ⟨_, Heap.get?_push_size _ rfl, rfl, rfl⟩ (hat.push _) (by omega) fun h' tk acc c as hk hS hl hG hacc => ?_) (args_sorted1 _)
  obtain ⟨H', k1, k2, k3, k4, k5, k6, J⟩ := LiI.items_laid (tk := tk) I2 hz kv hk hS hl hG hacc
  obtain ⟨ps, e1, e2, e3, q⟩ := q H' _ as k1 k2 k3 k4 ⟨_, k5⟩ k6
  have hps : ps.length = vs.length := by have := congrArg List.length e1; rw [List.length_map, List.length_map, hl] at this; exact this
  exact ⟨H', ps, J, by rw [e1, hacc]; exact L2.vals_refs _, e2, e3, by omega, q⟩
end
end Wd

set_option Elab.async false
set_option linter.all false
set_option maxRecDepth 100000
set_option maxHeartbeats 1000000
/-! S3: sorted, over data. -/
namespace Wd
open PySem L2
/-- the sorted data -/
def srt (ds : List Dt) : List Dt := ds.mergeSort leD
theorem srt_perm (ds : List Dt) : (srt ds).Perm ds := List.mergeSort_perm _ _
section
variable {K : PySem.W.Frag} {H : Hp}
theorem Ra.zip : ∀ {xs : List V} {ds : List Dt}, Ra K H xs ds → (xs.zip ds).map (·.1) = xs ∧ (xs.zip ds).map (·.2) = ds ∧ ∀ p ∈ xs.zip ds, Rp K H p.1 p.2
  | _, _, .nil => ⟨rfl, rfl, fun p hp => absurd hp (by simp)⟩
  | _, _, .cons r rr => by
    obtain ⟨e1, e2, e3⟩ := Ra.zip rr
    refine ⟨by rw [List.zip_cons_cons, List.map_cons, e1], by rw [List.zip_cons_cons, List.map_cons, e2], fun p hp => ?_⟩
    rw [List.zip_cons_cons] at hp
    rcases List.mem_cons.mp hp with rfl | hp
    · exact r
    · exact e3 p hp
theorem Ra.unzip : ∀ {qs : List (V × Dt)}, (∀ p ∈ qs, Rp K H p.1 p.2) → Ra K H (qs.map (·.1)) (qs.map (·.2))
  | [], _ => .nil
  | q :: qs, h => .cons (h q (List.mem_cons_self ..)) (Ra.unzip fun p hp => h p (List.mem_cons_of_mem _ hp))
/-- values that stand for data, with their sort -/
theorem Ra.sorts {xs : List V} {ds : List Dt} {n : Nat} (r : Ra K H xs ds) (hp : Dt.pls n ds = true) : ∃ ps : List (V × PyData), ps.map (·.1) = xs ∧ ps.map (·.2) = Dt.pds ds ∧ DpL K H ps ∧ Ra K H ((srtP ps).map (·.1)) (srt ds) := by
  obtain ⟨e1, e2, e3⟩ := r.zip
  refine ⟨(xs.zip ds).map fun p => (p.1, p.2.pd), by rw [List.map_map]; exact e1, by rw [List.map_map, Dt.pds_eq]; have := congrArg (List.map Dt.pd) e2; rw [List.map_map] at this; exact this, fun p hp' => ?_, ?_⟩
  · obtain ⟨q, hq, rfl⟩ := List.mem_map.mp hp'
    refine (e3 q hq).dp n ?_
    rw [Dt.pls_all, List.all_eq_true] at hp
    refine hp _ ?_
    rw [← e2]
    exact List.mem_map.mpr ⟨q, hq, rfl⟩
  · have s1 : srtP ((xs.zip ds).map fun p => (p.1, p.2.pd)) = ((xs.zip ds).mergeSort fun a b => leD a.2 b.2).map fun p => (p.1, p.2.pd) := by
      unfold srtP
      rw [List.map_mergeSort (r := fun a b : V × Dt => leD a.2 b.2)]
      intro a _ b _; rfl
    have s2 : srt ds = ((xs.zip ds).mergeSort fun a b => leD a.2 b.2).map (·.2) := by
      unfold srt
      rw [List.map_mergeSort (s := leD), e2]
      intro a _ b _; rfl
    rw [s1, s2, List.map_map]
    exact Ra.unzip fun p hp => e3 p ((List.mergeSort_perm _ _).mem_iff.mp hp)
end
/-- data that sorted can be asked of -/
structure Sorts (ds : List Dt) : Prop where
  pl : Dt.pls 60 ds = true
  cs : CanSort (Dt.pds ds)
theorem Sorts.of {ds : List Dt} (h : Dt.pls 60 ds = true) (al : PySem.W.AllAlike (Dt.pds ds)) (so : PySem.W.Sortable (Dt.pds ds)) : Sorts ds := by
  refine ⟨h, al, so, fun d hd => ?_⟩
  rw [Dt.pds_eq] at hd
  obtain ⟨e, he, rfl⟩ := List.mem_map.mp hd
  rw [Dt.pls_all, List.all_eq_true] at h
  exact (pl_depth 60 e (h e he)).1
variable [B : Tb]
section
variable {K : PySem.W.Frag} {G : List Sl} {P : Dt → List Sl → Prop} {Q : Dt → Prop} {te : TE}
theorem cf_sort {ds : List Dt} (h : Sorts ds) (p : Q (.lst (srt ds))) : CF K (rSortDt K) [.lst ds] Q := fun H H1 vs W s r k => by
  cases r with
  | cons r rr =>
    cases rr
    obtain ⟨a, xs, rfl, ha, r⟩ := r.lst_inv
    obtain ⟨ps, e1, e2, e3, e4⟩ := r.sorts h.pl
    refine ⟨a, ps, rfl, by rw [e1]; exact SqL.of (s _ _ ha), fun q hq => ?_, by rw [e2]; exact h.cs, fun q hq => k q (.lst (srt ds)) _ H _ (.of (Same.refl _) (s.trans (Same.upd hq)) (Same.upd hq) (fun _ _ _ z => z) id) (.of hq) (s.free hq) upd_same e4 p⟩
    exact dp_same s (e3 q hq)
/-- tuples that the heap tracks come to be known -/
theorem gr_known {H H1 : Hp} (s : Same H H1) (ts : List Addr) (ht : ∀ t ∈ ts, ∃ xs, H1 t = some (.tup xs)) : ∃ Hk, Gr H H1 Hk H1 ∧ ∀ t ∈ ts, Hk t = H1 t := by
  refine ⟨fun y => if y ∈ ts then H1 y else H y, ?_, fun t h => by simp [h]⟩
  refine ⟨?_, ?_, LamX.ExtN.refl _, ?_, id, ?_⟩
  · intro b o e
    by_cases h : b ∈ ts
    · simp only [h, if_true]; exact s b o e
    · simp only [h, if_false]; exact e
  · intro b o e
    by_cases h : b ∈ ts
    · simp only [h, if_true] at e; exact e
    · simp only [h, if_false] at e; exact s b o e
  · intro x u e m h0
    by_cases h : x ∈ ts
    · obtain ⟨xs, e'⟩ := ht x h
      rw [e'] at e; cases e; exact m.elim
    · simp only [h, if_false]; exact h0
  · intro n x ps e
    by_cases h : x ∈ ts
    · simp only [h, if_true] at e
      obtain ⟨xs, e'⟩ := ht x h
      rw [e'] at e; cases e
    · simp only [h, if_false] at e; exact n x ps e
def keyD (p : (Str × Str) × Dt) : Dt := .tup [.str p.1.1, .str p.1.2]
theorem keys_ra {H H1 Hk : Hp} : ∀ {xs : List (List Key × V)} {ks : List ((Str × Str) × Dt)} {bs : List Addr}, Rt K H xs ks → IsKeys H1 xs bs → (∀ t ∈ bs, Hk t = H1 t) → Ra K Hk (bs.map V.ref) (ks.map keyD)
  | _, _, _, .nil, .nil, _ => .nil
  | _, _, _, .cons _ r, .cons h t, e => .cons (.tup ((e _ (List.mem_cons_self ..)).trans h) (.cons (.str _) (.cons (.str _) .nil))) (keys_ra r t fun t m => e t (List.mem_cons_of_mem _ m))
theorem keys_tup {H1 : Hp} : ∀ {xs : List (List Key × V)} {bs : List Addr}, IsKeys H1 xs bs → ∀ t ∈ bs, ∃ ys, H1 t = some (.tup ys)
  | _, _, .nil, t, m => absurd m (by simp)
  | _, _, .cons h r, t, m => by
    rcases List.mem_cons.mp m with rfl | m
    · exact ⟨_, h⟩
    · exact keys_tup r t m
theorem cf_sortKT {ks : List ((Str × Str) × Dt)} (h : Sorts (ks.map keyD)) (p : Q (.lst (srt (ks.map keyD)))) : CF K (rSortKT K) [.dt ks] Q := fun H H1 vs W s r k => by
  cases r with
  | cons r rr =>
    cases rr
    obtain ⟨a, xs, rfl, ha, r⟩ := r.dt_inv
    refine ⟨a, xs, rfl, .inl (s _ _ ha), fun bs hk => ?_⟩
    obtain ⟨Hk, g, e⟩ := gr_known s bs (keys_tup hk)
    obtain ⟨ps, e1, e2, e3, e4⟩ := (keys_ra r hk e).sorts h.pl
    refine ⟨ps, e1, fun q hq => dp_same g.s (e3 q hq), by rw [e2]; exact h.cs, fun q hq => ?_⟩
    have g2 : Gr Hk H1 Hk (upd H1 q (.lst ((srtP ps).map (·.1)))) := .of (Same.refl _) (g.s.trans (Same.upd hq)) (Same.upd hq) (fun _ _ _ z => z) id
    exact k q (.lst (srt (ks.map keyD))) _ Hk _ (g.trans g2) (.of hq) (g.s.free hq) upd_same e4 p
/-! ### d.values(), d.items() -/
theorem Rk.vals {H : Hp} : ∀ {xs : List (Key × V)} {ks : List (Str × Dt)}, Rk K H xs ks → Ra K H (xs.map (·.2)) (ks.map (·.2))
  | _, _, .nil => .nil
  | _, _, .cons h r => .cons h r.vals
theorem ef_listVals (h : EX K te G fun d G1 => ∃ ks, d = .dk ks ∧ P (.lst (ks.map (·.2))) G1) : EF K (tListVals te) G P := fun H0 F H H1 σ Q I q =>
  h H0 F H H1 σ _ I fun v d G1 Ha Hb I1 s1 r1 ⟨ks, e, p⟩ => by
    subst e
    obtain ⟨a, xs, rfl, ha, r⟩ := r1.dk_inv
    refine ⟨a, xs, rfl, I1.s _ _ ha, fun l hl => ?_⟩
    have g : Gr Ha Hb Ha (upd Hb l (.lst (xs.map (·.2)))) := .of (Same.refl _) (I1.s.trans (Same.upd hl)) (Same.upd hl) (fun _ _ _ z => z) id
    have rv : Ob K Ha (.lst (xs.map (·.2))) (.lst (ks.map (·.2))) := r.vals
    exact q l (.lst (ks.map (·.2))) _ G1 _ _ (I1.gr g) (s1.trans g.stp) (stp_fresh s1 (.of hl)) (I1.s.free hl) upd_same rv p
def itemD (p : Str × Dt) : Dt := .tup [.str p.1, p.2]
theorem items_ra {H H' Hk : Hp} : ∀ {xs : List (Key × V)} {ks : List (Str × Dt)} {ts : List Addr}, Rk K H xs ks → Paired (fun (t : Addr) (q : Key × V) => H' t = some (.tup [kV q.1, q.2])) ts xs → Same H Hk → (∀ t ∈ ts, Hk t = H' t) → Ra K Hk (ts.map V.ref) (ks.map itemD)
  | _, _, _, .nil, .nil, _, _ => .nil
  | _, _, _, .cons q r, .cons h t, s, e => .cons (.tup ((e _ (List.mem_cons_self ..)).trans h) (.cons (.str _) (.cons (q.mono s) .nil))) (items_ra r t s fun t m => e t (List.mem_cons_of_mem _ m))
theorem paired_tup {H' : Hp} : ∀ {xs : List (Key × V)} {ts : List Addr}, Paired (fun (t : Addr) (q : Key × V) => H' t = some (.tup [kV q.1, q.2])) ts xs → ∀ t ∈ ts, ∃ ys, H' t = some (.tup ys)
  | _, _, .nil, t, m => absurd m (by simp)
  | _, _, .cons h r, t, m => by
    rcases List.mem_cons.mp m with rfl | m
    · exact ⟨_, h⟩
    · exact paired_tup r t m
theorem ef_sortItems (h : EX K te G fun d G1 => ∃ ks, d = .dk ks ∧ Sorts (ks.map itemD) ∧ P (.lst (srt (ks.map itemD))) G1) : EF K (tSortItems K te) G P := fun H0 F H H1 σ Q I q =>
  h H0 F H H1 σ _ I fun v d G1 Ha Hb I1 s1 r1 ⟨ks, e, hs, p⟩ => by
    subst e
    obtain ⟨a, xs, rfl, ha, r⟩ := r1.dk_inv
    refine ⟨a, xs, rfl, I1.s _ _ ha, fun H' l ts k1 k2 k3 k4 k5 k6 => ?_⟩
    have g0 : Gr Ha Hb Ha H' := .of (Same.refl _) (I1.s.trans k1) k1 (fun _ _ _ z => z) id
    obtain ⟨Hk, g, e⟩ := gr_known g0.s ts (paired_tup k6)
    obtain ⟨ps, e1, e2, e3, e4⟩ := (items_ra r k6 g.b e).sorts hs.pl
    refine ⟨ps, e1, fun q hq => dp_same g.s (e3 q hq), by rw [e2]; exact hs.cs, fun l2 hl => ?_⟩
    have g2 : Gr Hk H' Hk (upd H' l2 (.lst ((srtP ps).map (·.1)))) := .of (Same.refl _) (g.s.trans (Same.upd hl)) (Same.upd hl) (fun _ _ _ z => z) id
    have g3 := g0.trans (g.trans g2)
    exact q l2 (.lst (srt (ks.map itemD))) _ G1 _ _ (I1.gr g3) (s1.trans g3.stp) (stp_fresh s1 (.of (k1.free hl))) (g.s.free hl) upd_same e4 p
end
end Wd

set_option Elab.async false
set_option linter.all false
set_option maxRecDepth 100000
set_option maxHeartbeats 1000000
/-! B5: walks over a list or a tuple, over two of one length. -/
namespace Wd
open PySem PySem.Spec PyProof.Rows L2
section
variable {X : Cx} {tg : Expr}
def iSq (K : PySem.W.Frag) (tl : TE) : TI := fun σ H R => tl σ H fun x H1 => ∃ a, x = .ref a ∧ (((∃ xs, SqL K H1 a xs) ∧ R (Itl K a) H1) ∨ ((∃ xs, SqT K H1 a xs) ∧ R (Itt K a) H1))
theorem pi_sq {l : Expr} {tl : TE} (hl : PE X l tl) : PI X tg l (iSq X.K tl) := by
  refine ⟨fun pins s σ H R I h => ?_⟩
  refine thn (hl.run pins s σ H _ I h) fun v s1 ⟨x, H1, I1, r1, q1⟩ => ?_
  obtain ⟨a, e, q1⟩ := q1
  subst e
  cases r1
  rcases q1 with ⟨⟨xs, hq⟩, q⟩ | ⟨⟨xs, hq⟩, q⟩
  · obtain ⟨its, rv, p, hz⟩ := I1.list hq
    refine wpAny_pyIter_list p.isList ?_
    refine ⟨s1.heap.objs.size, [s1.heap.objs.size], _, _, H1, rfl, I1.kept (t' := s1.toks) fun b o e => Heap.get?_push_of_some _ e, turn_list a _, ⟨_, Heap.get?_push_size _ rfl, rfl, rfl⟩, fun b hb => ?_, q⟩
    have e : b = s1.heap.objs.size := by simpa using hb
    subst e
    exact I1.fpOk (Nat.le_refl _) (I1.hok.fresh (Nat.le_refl _))
  · obtain ⟨its, rv, p, hz⟩ := I1.tuple hq
    refine wpAny_pyIter_tuple (show s1.heap.IsTuple a its.toArray from p) ?_
    refine ⟨s1.heap.objs.size, [s1.heap.objs.size], _, _, H1, rfl, I1.kept (t' := s1.toks) fun b o e => Heap.get?_push_of_some _ e, turn_tuple a _, ⟨_, Heap.get?_push_size _ rfl, rfl, rfl⟩, fun b hb => ?_, q⟩
    have e : b = s1.heap.objs.size := by simpa using hb
    subst e
    exact I1.fpOk (Nat.le_refl _) (I1.hok.fresh (Nat.le_refl _))
end
/-- the pairs of two lists' items -/
def zipD (ds es : List Dt) : List Dt := (ds.zip es).map fun p => Dt.tup [p.1, p.2]
theorem zipD_get {ds es : List Dt} {i : Nat} {e : Dt} (h : (zipD ds es)[i]? = some e) : ∃ x y, ds[i]? = some x ∧ es[i]? = some y ∧ e = .tup [x, y] := by
  unfold zipD at h
  rw [List.getElem?_map] at h
  cases hz : (ds.zip es)[i]? with
  | none => rw [hz] at h; cases h
  | some p =>
    rw [hz] at h
    rw [List.getElem?_zip_eq_some] at hz
    exact ⟨p.1, p.2, hz.1, hz.2, (Option.some.inj h).symm⟩
theorem zipD_len (ds es : List Dt) : (zipD ds es).length = min ds.length es.length := by
  unfold zipD
  rw [List.length_map, List.length_zip]
variable [B : Tb]
section
variable {K : PySem.W.Frag} {G : List Sl} {PI : List Dt → List Sl → Prop}
theorem ix_sq {tl : TE} (h : EX K tl G fun d G1 => ∃ ds, d.seq = some ds ∧ PI ds G1) : IX K (iSq K tl) G PI := fun H0 F H H1 σ R I q =>
  h H0 F H H1 σ _ I fun v d G1 Ha Hb I1 s1 r1 ⟨ds, e, p⟩ => by
    cases d with
    | lst es =>
      cases e
      obtain ⟨a, xs, rfl, ha, r⟩ := r1.lst_inv
      refine ⟨a, rfl, .inl ⟨⟨xs, SqL.of (I1.s _ _ ha)⟩, q _ ds G1 Ha Hb I1 s1 (fun i H H1 sb ss => ⟨fun d hd => ?_, fun e => ⟨xs, SqL.of (ss _ _ (sb _ _ ha)), by rw [r.length, e]; exact Nat.le_refl _⟩⟩) p⟩⟩
      obtain ⟨x, hx, rx⟩ := r.get hd
      refine ⟨⟨xs, x, SqL.of (ss _ _ (sb _ _ ha)), hx⟩, fun y H2 ⟨e1, e2⟩ => ⟨H, by rw [e1]; exact Gr.refl ss, ?_⟩⟩
      have e3 := e2 xs (SqL.of (ss _ _ (sb _ _ ha)))
      rw [hx] at e3
      cases e3
      exact rx.mono sb
    | tup es =>
      cases e
      obtain ⟨a, xs, rfl, ha, r⟩ := r1.tup_inv
      refine ⟨a, rfl, .inr ⟨⟨xs, .inl (Same.rd I1.s ha)⟩, q _ ds G1 Ha Hb I1 s1 (fun i H H1 sb ss => ⟨fun d hd => ?_, fun e => ⟨xs, .inl (Same.rd ss (Same.rd sb ha)), by rw [r.length, e]; exact Nat.le_refl _⟩⟩) p⟩⟩
      obtain ⟨x, hx, rx⟩ := r.get hd
      refine ⟨⟨xs, x, .inl (Same.rd ss (Same.rd sb ha)), hx⟩, fun y H2 ⟨e1, e2⟩ => ⟨H, by rw [e1]; exact Gr.refl ss, ?_⟩⟩
      have e3 := e2 xs (.inl (Same.rd ss (Same.rd sb ha)))
      rw [hx] at e3
      cases e3
      exact rx.mono sb
    | _ => cases e
theorem ix_zip {ta : TA} (h : EA K ta G fun xs G1 => ∃ ds es, (xs = [.lst ds, .lst es] ∨ xs = [.tup ds, .tup es]) ∧ PI (zipD ds es) G1) : IX K (RZ.iZipA K ta) G PI := fun H0 F H H1 σ R I q =>
  h H0 F H H1 σ _ I fun vs ds0 G1 Ha Hb I1 s1 r1 ⟨ds, es, e, p⟩ => by
    rcases e with e | e
    · subst e
      cases r1 with
      | cons r rr =>
        cases rr with
        | cons r' rr =>
          cases rr
          obtain ⟨a, xs, rfl, ha, r⟩ := r.lst_inv
          obtain ⟨b, ys, rfl, hb, r'⟩ := r'.lst_inv
          have qa : ∀ {H H1 : Hp}, Same Ha H → Same H H1 → SqL K H1 a xs := fun sb ss => SqL.of (ss _ _ (sb _ _ ha))
          have qb : ∀ {H H1 : Hp}, Same Ha H → Same H H1 → SqL K H1 b ys := fun sb ss => SqL.of (ss _ _ (sb _ _ hb))
          refine ⟨a, b, xs, ys, rfl, .inl ⟨qa (Same.refl _) I1.s, qb (Same.refl _) I1.s, q _ _ G1 Ha Hb I1 s1 (fun i H H1 sb ss => ⟨fun d hd => ?_, fun e => ⟨xs, ys, qa sb ss, qb sb ss, ?_⟩⟩) p⟩⟩
          · obtain ⟨x, y, hx, hy, rfl⟩ := zipD_get hd
            obtain ⟨v, hv, rv⟩ := r.get hx
            obtain ⟨u, hu, ru⟩ := r'.get hy
            refine ⟨⟨xs, ys, v, u, qa sb ss, qb sb ss, hv, hu⟩, fun z H2 ⟨T, v', u', e1, e2, e3, e4, e5⟩ => ?_⟩
            have f1 := e4 xs (qa sb ss)
            have f2 := e5 ys (qb sb ss)
            rw [hv] at f1
            rw [hu] at f2
            cases f1
            cases f2
            subst e1 e3
            have g := Gr.new (u := .tup [v, u]) ss e2
            exact ⟨_, g, .tup upd_same (.cons ((rv.mono sb).mono g.b) (.cons ((ru.mono sb).mono g.b) .nil))⟩
          · rw [r.length, r'.length, e, zipD_len]
            omega
    · subst e
      cases r1 with
      | cons r rr =>
        cases rr with
        | cons r' rr =>
          cases rr
          obtain ⟨a, xs, rfl, ha, r⟩ := r.tup_inv
          obtain ⟨b, ys, rfl, hb, r'⟩ := r'.tup_inv
          have qa : ∀ {H H1 : Hp}, Same Ha H → Same H H1 → SqT K H1 a xs := fun sb ss => .inl (Same.rd ss (Same.rd sb ha))
          have qb : ∀ {H H1 : Hp}, Same Ha H → Same H H1 → SqT K H1 b ys := fun sb ss => .inl (Same.rd ss (Same.rd sb hb))
          refine ⟨a, b, xs, ys, rfl, .inr ⟨qa (Same.refl _) I1.s, qb (Same.refl _) I1.s, q _ _ G1 Ha Hb I1 s1 (fun i H H1 sb ss => ⟨fun d hd => ?_, fun e => ⟨xs, ys, qa sb ss, qb sb ss, ?_⟩⟩) p⟩⟩
          · obtain ⟨x, y, hx, hy, rfl⟩ := zipD_get hd
            obtain ⟨v, hv, rv⟩ := r.get hx
            obtain ⟨u, hu, ru⟩ := r'.get hy
            refine ⟨⟨xs, ys, v, u, qa sb ss, qb sb ss, hv, hu⟩, fun z H2 ⟨T, v', u', e1, e2, e3, e4, e5⟩ => ?_⟩
            have f1 := e4 xs (qa sb ss)
            have f2 := e5 ys (qb sb ss)
            rw [hv] at f1
            rw [hu] at f2
            cases f1
            cases f2
            subst e1 e3
            have g := Gr.new (u := .tup [v, u]) ss e2
            exact ⟨_, g, .tup upd_same (.cons ((rv.mono sb).mono g.b) (.cons ((ru.mono sb).mono g.b) .nil))⟩
          · rw [r.length, r'.length, e, zipD_len]
            omega
end
end Wd

set_option Elab.async false
set_option linter.all false
set_option maxRecDepth 100000
set_option maxHeartbeats 1000000
/-! C1: comprehensions over mapped data; with two loops. -/
namespace Wd
open PySem L2
variable [B : Tb]
def noOwnB (vs : List Nat) (G : List Sl) : Bool := vs.all fun i => match G[i]? with
  | some (.own _ _) => false
  | _ => true
omit [B : Tb] in
theorem noOwn_of {vs : List Nat} {G : List Sl} (h : noOwnB vs G = true) : NoOwn vs G := fun i hi l d e => by
  unfold noOwnB at h
  rw [List.all_eq_true] at h
  have := h i hi
  rw [e] at this
  cases this
section
variable {K : PySem.W.Frag} {G : List Sl} {P : Dt → List Sl → Prop} {te : TE} {wi wi1 : TI} {g g1 : TG} {tt tt1 : TT} {vs ts vs1 ts1 : List Nat}
theorem lc_turnG {H0 F Hs H1s Ha Hb H H1 H' H2 : Hp} {σ : L2.St} {G1 : List Sl} {D : Addr} {acc : List V} {x : V} {d : Dt} {f : Dt → Option Dt} {Nx : Hp → Prop} (ht : Tch g ts) (hsub : ∀ i ∈ ts, i ∈ vs) (hv : NoOwn vs G1) (hO1 : ¬ Own G1 D) (hF : F D = none) (hS : Fr H1s D) (I1 : En K H0 F Ha Hb σ G1) (w1 : ∀ x, Own G1 x → Own G x)
    (I2 : En K H0 F H H1 σ G1) (sb : Same Ha H) (S : Stp G G1 Hs H1s H H1) (hD : H D = none) (hA : H1 D = some (.lst acc)) (hz : acc.length < sizeLine) (g1 : Gr H H1 H' H2) (r : Rp K H' x d)
    (hs : GX K g d (wipeG G1 vs) fun G2 => TX K tt G2 fun b G3 => (b = true → EX K te G3 fun e G4 => Agr vs G1 G4 ∧ f d = some e) ∧ (b = false → Agr vs G1 G3 ∧ f d = none))
    (k : ∀ He Hf acc', En K H0 F He Hf σ G1 → Same H He → Stp G G1 Hs H1s He Hf → He D = none → Hf D = some (.lst acc') → (∃ ys, acc' = acc ++ ys ∧ Ra K He ys (f d).toList) → Nx Hf) :
    g x (wipe σ vs) H2 fun σ2 H2 => wipe σ2 vs = wipe σ vs ∧ tt σ2 H2 fun b H3 => if b = true then te σ2 H3 fun y H4 => ∃ acc, H4 D = some (.lst acc) ∧ acc.length < sizeLine ∧ Nx (upd H4 D (.lst (acc ++ [y]))) else Nx H3 := by
  have I3 := (I2.gr g1).wipe vs
  have nL : ∀ xs : List V, NT (.lst xs) := fun xs ps z => by cases z
  refine ht x _ H2 (fun σ' Hx => Hx = H2 ∧ ∃ G', En K H0 F H' H2 σ' G' ∧ (∀ x, Own G' x → Own G1 x) ∧ TX K tt G' fun b G3 => (b = true → EX K te G3 fun e G4 => Agr vs G1 G4 ∧ f d = some e) ∧ (b = false → Agr vs G1 G3 ∧ f d = none)) _
    (hs H0 F H' H2 _ x _ I3 r fun σ' G' I' o' p' => ⟨rfl, G', I', fun z q => wipeG_own (o' z q), p'⟩) ?_
  rintro σ2 Hx ⟨rfl, G2, I4, o4, h4⟩ l2 a2
  have hσ : ∀ j, j ∉ vs → σ2[j]? = σ[j]? := fun j hj => (a2 j fun z => hj (hsub j z)).trans (wipe_out hj)
  refine ⟨wipe_eq (by rw [l2, wipe_length]) hσ, h4 H0 F H' _ σ2 _ I4 fun b G3 Hc Hd I5 s5 ⟨c1, c2⟩ => ?_⟩
  have hO2 : ¬ Own G2 D := fun z => hO1 (o4 D z)
  have own2 : ∀ y, ¬ Own G y → ¬ Own G2 y := fun y n z => n (w1 y (o4 y z))
  cases b with
  | true =>
    refine c1 rfl H0 F Hc Hd σ2 _ I5 fun y e G4 He Hf I6 s6 r6 ⟨ag, ef⟩ => ?_
    have s7 := s5.trans s6
    have hDf : Hf D = some (.lst acc) := s7.k D _ (g1.a D _ hA (nL _)) hO2 (nL _)
    have hDe : He D = none := s7.o D _ (g1.a D _ hA (nL _)) trivial (g1.o D _ hA trivial hD) hO2
    refine ⟨acc, hDf, hz, k He _ (acc ++ [y]) ((I1.back I6 hv ag hσ (sb.trans (g1.b.trans s7.b))).bump hDf hF hDe hO1) (g1.b.trans s7.b) ⟨S.b.trans (g1.b.trans s7.b), fun z u hz hn m => ?_, fun z u hz m h0 hn => ?_, w1, fun z u hz m => ?_⟩ hDe upd_same ⟨[y], rfl, by rw [ef]; exact .cons r6 .nil⟩⟩
    · rw [upd_ne (hS.ne hz m)]
      exact s7.k z u (g1.a z u (S.k z u hz hn m) m) (own2 z hn) m
    · exact s7.o z u (g1.a z u (S.k z u hz hn m.nt) m.nt) m (g1.o z u (S.k z u hz hn m.nt) m (S.o z u hz m h0 hn)) (own2 z hn)
    · obtain ⟨v1, e1, m1, f1⟩ := S.t z u hz m
      obtain ⟨v2, e2, m2, f2⟩ := s7.t z v1 (g1.a z v1 e1 m1) m1
      exact ⟨v2, by rw [upd_ne (hS.ne hz m)]; exact e2, m2, fun w => f2 (f1 w)⟩
  | false =>
    obtain ⟨ag, ef⟩ := c2 rfl
    refine k Hc Hd acc (I1.back I5 hv ag hσ (sb.trans (g1.b.trans s5.b))) (g1.b.trans s5.b) ⟨S.b.trans (g1.b.trans s5.b), fun z u hz hn m => s5.k z u (g1.a z u (S.k z u hz hn m) m) (own2 z hn) m, fun z u hz m h0 hn => s5.o z u (g1.a z u (S.k z u hz hn m.nt) m.nt) m (g1.o z u (S.k z u hz hn m.nt) m (S.o z u hz m h0 hn)) (own2 z hn), w1, fun z u hz m => ?_⟩
      (s5.o D _ (g1.a D _ hA (nL _)) trivial (g1.o D _ hA trivial hD) hO2) (s5.k D _ (g1.a D _ hA (nL _)) hO2 (nL _)) ⟨[], by rw [List.append_nil], by rw [ef]; exact .nil⟩
    obtain ⟨v1, e1, m1, f1⟩ := S.t z u hz m
    obtain ⟨v2, e2, m2, f2⟩ := s5.t z v1 (g1.a z v1 e1 m1) m1
    exact ⟨v2, e2, m2, fun w => f2 (f1 w)⟩

theorem IX.imp {PI PI' : List Dt → List Sl → Prop} (h : IX K wi G PI) (f : ∀ d G', PI d G' → PI' d G') : IX K wi G PI' := fun H0 F H H1 σ R I q => h H0 F H H1 σ R I fun J ds G' H' H2 I' s hJ p => q J ds G' H' H2 I' s hJ (f _ _ p)
theorem GX.imp {d : Dt} {N N' : List Sl → Prop} (h : GX K g d G N) (f : ∀ G', N G' → N' G') : GX K g d G N' := fun H0 F H H1 σ v Q I r q => h H0 F H H1 σ v Q I r fun σ' G' I' o p => q σ' G' I' o (f _ p)
/-- what is known of a turn -/
def LcT (K : PySem.W.Frag) (g : TG) (tt : TT) (te : TE) (vs : List Nat) (G1 : List Sl) (d : Dt) (r : Option Dt) : Prop :=
  GX K g d (wipeG G1 vs) fun G2 => TX K tt G2 fun b G3 => (b = true → EX K te G3 fun e G4 => Agr vs G1 G4 ∧ r = some e) ∧ (b = false → Agr vs G1 G3 ∧ r = none)
theorem ef_lcI (ht : Tch g ts) (hsub : ∀ i ∈ ts, i ∈ vs) (h : IX K wi G fun ds G1 => NoOwn vs G1 ∧ ds.length ≤ sizeLine ∧ ∃ rs : List (Option Dt), rs.length = ds.length ∧
    (∀ (i : Nat) (d : Dt) (r : Option Dt), ds[i]? = some d → rs[i]? = some r → LcT K g tt te vs G1 d r) ∧ P (.lst (rs.filterMap id)) G1) : EF K (tLc wi g tt te vs) G P := fun H0 F Hs H1s σ Q I q =>
  h H0 F Hs H1s σ _ I fun J ds G1 Ha Hb I1 s1 hJ ⟨hv, hl, rs, hrl, hs, p⟩ => fun D hD => by
    have hO1 : ¬ Own G1 D := fun z => by obtain ⟨w, hw, _⟩ := I1.ownH z; rw [hD] at hw; cases hw
    have g0 : Gr Ha Hb Ha (upd Hb D (.lst [])) := .of (Same.refl _) (I1.s.trans (Same.upd hD)) (Same.upd hD) (fun _ _ _ z => z) id
    refine ⟨fun i m H1 => m = ds.length - i ∧ i ≤ ds.length ∧ ∃ H acc, En K H0 F H H1 σ G1 ∧ Same Ha H ∧ Stp G G1 Hs H1s H H1 ∧ H D = none ∧ H1 D = some (.lst acc) ∧ acc.length ≤ i ∧ Ra K H acc ((rs.take i).filterMap id),
      ⟨ds.length, by omega, Nat.zero_le _, Ha, [], I1.gr g0, Same.refl _, s1.trans g0.stp, I1.s.free hD, upd_same, Nat.le_refl _, .nil⟩, ?_⟩
    rintro i m H1 ⟨rfl, hi, H, acc, I2, sb, S, hDn, hA, hal, hr⟩
    obtain ⟨j1, j2⟩ := hJ i H H1 sb I2.s
    by_cases hlt : i < ds.length
    · have hd : ds[i]? = some ds[i] := List.getElem?_eq_getElem hlt
      have hlt' : i < rs.length := by omega
      have hrr : rs[i]? = some rs[i] := List.getElem?_eq_getElem hlt'
      obtain ⟨jg, jy⟩ := j1 _ hd
      refine .inr ⟨jg, fun H1 => i + 1 ≤ ds.length ∧ ∃ H acc, En K H0 F H H1 σ G1 ∧ Same Ha H ∧ Stp G G1 Hs H1s H H1 ∧ H D = none ∧ H1 D = some (.lst acc) ∧ acc.length ≤ i + 1 ∧ Ra K H acc ((rs.take (i + 1)).filterMap id), fun H' z => ⟨_, by omega, rfl, z⟩, fun x H2 hy => ?_⟩
      obtain ⟨H', g1, r⟩ := jy x H2 hy
      refine lc_turn (f := fun _ => rs[i]) ht hsub hv hD I1 s1 I2 sb S hDn hA (by omega) g1 r (hs _ _ _ hd hrr) fun He Hf acc' I6 s6 S6 e1 e2 ⟨ys, e3, e4⟩ => ⟨hlt, He, acc', I6, sb.trans s6, S6, e1, e2, ?_, ?_⟩
      · rw [e3, List.length_append, e4.length]
        have : (rs[i]).toList.length ≤ 1 := by cases rs[i] <;> simp
        omega
      · rw [e3, take_snoc hrr, List.filterMap_append]
        refine (hr.mono s6).append ?_
        have e5 : [rs[i]].filterMap id = (rs[i]).toList := by cases e : rs[i] <;> simp [e]
        rw [e5]; exact e4
    · have e : i = ds.length := by omega
      refine .inl ⟨j2 e, ?_⟩
      rw [e, ← hrl, List.take_length] at hr
      exact q D (.lst (rs.filterMap id)) _ G1 H H1 I2 S (stp_fresh s1 (.of hD)) hDn hA hr p
theorem filterMap_map_id {α : Type} (xs : List α) (r : α → Option Dt) : (xs.map r).filterMap id = xs.filterMap r := by
  rw [List.filterMap_map]; rfl
/-- [e for tg in .. if ..], the items mapped -/
theorem ef_lcM (ht : Tch g ts) (hsub : ∀ i ∈ ts, i ∈ vs) (h : IX K wi G fun ds G1 => NoOwn vs G1 ∧ ∃ (α : Type) (xs : List α) (E : α → Dt) (r : α → Option Dt), ds = xs.map E ∧ xs.length ≤ sizeLine ∧
    (∀ x ∈ xs, LcT K g tt te vs G1 (E x) (r x)) ∧ P (.lst (xs.filterMap r)) G1) : EF K (tLc wi g tt te vs) G P := ef_lcI ht hsub (IX.imp h fun ds G1 ⟨hv, α, xs, E, r, e, hl, hs, p⟩ => by
  subst e
  refine ⟨hv, by rw [List.length_map]; exact hl, xs.map r, by rw [List.length_map, List.length_map], fun i d o hd ho => ?_, by rw [filterMap_map_id]; exact p⟩
  rw [List.getElem?_map] at hd ho
  cases hx : xs[i]? with
  | none => rw [hx] at hd; cases hd
  | some x =>
    rw [hx] at hd ho
    obtain rfl := Option.some.inj hd
    obtain rfl := Option.some.inj ho
    exact hs x (List.mem_of_getElem? hx))
/-- .. without an if -/
theorem ef_lcA (ht : Tch g ts) (hsub : ∀ i ∈ ts, i ∈ vs) (h : IX K wi G fun ds G1 => NoOwn vs G1 ∧ ∃ (α : Type) (xs : List α) (E : α → Dt) (r : α → Dt), ds = xs.map E ∧ xs.length ≤ sizeLine ∧
    (∀ x ∈ xs, GX K g (E x) (wipeG G1 vs) fun G2 => EX K te G2 fun e G4 => Agr vs G1 G4 ∧ e = r x) ∧ P (.lst (xs.map r)) G1) : EF K (tLc wi g tYes te vs) G P := ef_lcM ht hsub (IX.imp h fun ds G1 ⟨hv, α, xs, E, r, e, hl, hs, p⟩ =>
  ⟨hv, α, xs, E, fun x => some (r x), e, hl, fun x hx => GX.imp (hs x hx) fun G2 h2 => tx_yes ⟨fun _ => h2.imp fun e G4 ⟨a, b⟩ => ⟨a, by rw [b]⟩, nofun⟩, by rw [List.filterMap_eq_map']; exact p⟩)
/-- two loops: a turn of the outer one -/
def LcT2 (K : PySem.W.Frag) (g : TG) (tt : TT) (wi1 : TI) (g1 : TG) (tt1 : TT) (te : TE) (vs vs1 : List Nat) (G1 : List Sl) (d : Dt) (r : List Dt) : Prop :=
  GX K g d (wipeG G1 vs) fun G2 => TX K tt G2 fun b G3 => (b = true → IX K wi1 G3 fun es G4 => Agr vs G1 G4 ∧ NoOwn vs1 G4 ∧ ∃ rs : List (Option Dt), rs.length = es.length ∧ r = rs.filterMap id ∧
    ∀ (j : Nat) (e : Dt) (o : Option Dt), es[j]? = some e → rs[j]? = some o → LcT K g1 tt1 te vs1 G4 e o) ∧ (b = false → Agr vs G1 G3 ∧ r = [])
theorem ef_lc2I (ht : Tch g ts) (hsub : ∀ i ∈ ts, i ∈ vs) (ht1 : Tch g1 ts1) (hsub1 : ∀ i ∈ ts1, i ∈ vs1) (h : IX K wi G fun ds G1 => NoOwn vs G1 ∧ ∃ rs : List (List Dt), rs.length = ds.length ∧ rs.flatten.length < sizeLine ∧
    (∀ (i : Nat) (d : Dt) (r : List Dt), ds[i]? = some d → rs[i]? = some r → LcT2 K g tt wi1 g1 tt1 te vs vs1 G1 d r) ∧ P (.lst rs.flatten) G1) : EF K (tLc2 wi g tt wi1 g1 tt1 te vs vs1) G P := fun H0 F Hs H1s σ Q I q =>
  h H0 F Hs H1s σ _ I fun J ds G1 Ha Hb I1 s1 hJ ⟨hv, rs, hrl, hz, hs, p⟩ => fun D hD => by
    have hO1 : ¬ Own G1 D := fun z => by obtain ⟨w, hw, _⟩ := I1.ownH z; rw [hD] at hw; cases hw
    have nL : ∀ xs : List V, NT (.lst xs) := fun xs ps z => by cases z
    have hF : F D = none := by
      cases c : F D with
      | none => rfl
      | some w => rw [I1.f D w c] at hD; cases hD
    have hS : Fr H1s D := stp_fresh s1 (.of hD)
    have g0 : Gr Ha Hb Ha (upd Hb D (.lst [])) := .of (Same.refl _) (I1.s.trans (Same.upd hD)) (Same.upd hD) (fun _ _ _ z => z) id
    refine ⟨fun i m H1 => m = ds.length - i ∧ i ≤ ds.length ∧ ∃ H acc, En K H0 F H H1 σ G1 ∧ Same Ha H ∧ Stp G G1 Hs H1s H H1 ∧ H D = none ∧ H1 D = some (.lst acc) ∧ Ra K H acc (rs.take i).flatten,
      ⟨ds.length, by omega, Nat.zero_le _, Ha, [], I1.gr g0, Same.refl _, s1.trans g0.stp, I1.s.free hD, upd_same, .nil⟩, ?_⟩
    rintro i m H1 ⟨rfl, hi, H, acc, I2, sb, S, hDn, hA, hr⟩
    obtain ⟨j1, j2⟩ := hJ i H H1 sb I2.s
    by_cases hlt : i < ds.length
    · have hd : ds[i]? = some ds[i] := List.getElem?_eq_getElem hlt
      have hlt' : i < rs.length := by omega
      have hrr : rs[i]? = some rs[i] := List.getElem?_eq_getElem hlt'
      obtain ⟨jg, jy⟩ := j1 _ hd
      refine .inr ⟨jg, fun H1 => i + 1 ≤ ds.length ∧ ∃ H acc, En K H0 F H H1 σ G1 ∧ Same Ha H ∧ Stp G G1 Hs H1s H H1 ∧ H D = none ∧ H1 D = some (.lst acc) ∧ Ra K H acc (rs.take (i + 1)).flatten, fun H' z => ⟨_, by omega, rfl, z⟩, fun x H2 hy => ?_⟩
      obtain ⟨H', ga, r⟩ := jy x H2 hy
      have I3 := (I2.gr ga).wipe vs
      have htake : (rs.take (i + 1)).flatten = (rs.take i).flatten ++ rs[i] := by rw [take_snoc hrr, List.flatten_append, List.flatten_cons, List.flatten_nil, List.append_nil]
      have hbound : ((rs.take i).flatten ++ rs[i]).length < sizeLine := by
        rw [← htake]
        refine Nat.lt_of_le_of_lt ?_ hz
        have e : rs.flatten = (rs.take (i + 1)).flatten ++ (rs.drop (i + 1)).flatten := by rw [← List.flatten_append, List.take_append_drop]
        rw [e, List.length_append]
        exact Nat.le_add_right _ _
      refine ht x _ H2 (fun σ' Hx => Hx = H2 ∧ ∃ G', En K H0 F H' H2 σ' G' ∧ (∀ x, Own G' x → Own G1 x) ∧ TX K tt G' fun b G3 => (b = true → IX K wi1 G3 fun es G4 => Agr vs G1 G4 ∧ NoOwn vs1 G4 ∧ ∃ os : List (Option Dt), os.length = es.length ∧ rs[i] = os.filterMap id ∧
        ∀ (j : Nat) (e : Dt) (o : Option Dt), es[j]? = some e → os[j]? = some o → LcT K g1 tt1 te vs1 G4 e o) ∧ (b = false → Agr vs G1 G3 ∧ rs[i] = [])) _
        (hs i _ _ hd hrr H0 F H' H2 _ x _ I3 r fun σ' G' I' o' p' => ⟨rfl, G', I', fun z q => wipeG_own (o' z q), p'⟩) ?_
      rintro σ2 Hx ⟨rfl, G2, I4, o4, h4⟩ l2 a2
      have hσ : ∀ j, j ∉ vs → σ2[j]? = σ[j]? := fun j hj => (a2 j fun z => hj (hsub j z)).trans (wipe_out hj)
      have hO2 : ¬ Own G2 D := fun z => hO1 (o4 D z)
      have own2 : ∀ y, ¬ Own G y → ¬ Own G2 y := fun y n z => n (s1.w y (o4 y z))
      refine ⟨wipe_eq (by rw [l2, wipe_length]) hσ, h4 H0 F H' _ σ2 _ I4 fun b G3 Hc Hd I5 s5 ⟨c1, c2⟩ => ?_⟩
      cases b with
      | false =>
        obtain ⟨ag, ef⟩ := c2 rfl
        refine ⟨hlt, Hc, acc, I1.back I5 hv ag hσ (sb.trans (ga.b.trans s5.b)), sb.trans (ga.b.trans s5.b), ⟨S.b.trans (ga.b.trans s5.b), fun z u hz hn m => s5.k z u (ga.a z u (S.k z u hz hn m) m) (own2 z hn) m, fun z u hz m h0 hn => s5.o z u (ga.a z u (S.k z u hz hn m.nt) m.nt) m (ga.o z u (S.k z u hz hn m.nt) m (S.o z u hz m h0 hn)) (own2 z hn), s1.w, fun z u hz m => ?_⟩,
          s5.o D _ (ga.a D _ hA (nL _)) trivial (ga.o D _ hA trivial hDn) hO2, s5.k D _ (ga.a D _ hA (nL _)) hO2 (nL _), ?_⟩
        · obtain ⟨v1, e1, m1, f1⟩ := S.t z u hz m
          obtain ⟨v2, e2, m2, f2⟩ := s5.t z v1 (ga.a z v1 e1 m1) m1
          exact ⟨v2, e2, m2, fun w => f2 (f1 w)⟩
        · rw [htake, ef, List.append_nil]
          exact hr.mono (ga.b.trans s5.b)
      | true =>
        refine c1 rfl H0 F Hc Hd σ2 _ I5 fun J1 es G4 He Hf I6 s6 hJ1 ⟨ag, nv, os, hol, hrs, hos⟩ => ?_
        have s7 := s5.trans s6
        have hO4 : ¬ Own G4 D := fun z => hO2 (s7.w D z)
        have hDf : Hf D = some (.lst acc) := s7.k D _ (ga.a D _ hA (nL _)) hO2 (nL _)
        have hDe : He D = none := s7.o D _ (ga.a D _ hA (nL _)) trivial (ga.o D _ hA trivial hDn) hO2
        have w4 : ∀ x, Own G4 x → Own G x := fun x z => s1.w x (o4 x (s7.w x z))
        have S7 : Stp G G4 Hs H1s He Hf := by
          refine ⟨S.b.trans (ga.b.trans s7.b), fun z u hz hn m => s7.k z u (ga.a z u (S.k z u hz hn m) m) (own2 z hn) m, fun z u hz m h0 hn => s7.o z u (ga.a z u (S.k z u hz hn m.nt) m.nt) m (ga.o z u (S.k z u hz hn m.nt) m (S.o z u hz m h0 hn)) (own2 z hn), w4, fun z u hz m => ?_⟩
          obtain ⟨v1, e1, m1, f1⟩ := S.t z u hz m
          obtain ⟨v2, e2, m2, f2⟩ := s7.t z v1 (ga.a z v1 e1 m1) m1
          exact ⟨v2, e2, m2, fun w => f2 (f1 w)⟩
        refine ⟨fun j m H1 => m = es.length - j ∧ j ≤ es.length ∧ ∃ H acc, En K H0 F H H1 σ2 G4 ∧ Same He H ∧ Stp G G4 Hs H1s H H1 ∧ H D = none ∧ H1 D = some (.lst acc) ∧ Ra K H acc ((rs.take i).flatten ++ (os.take j).filterMap id),
          ⟨es.length, by omega, Nat.zero_le _, He, acc, I6, Same.refl _, S7, hDe, hDf, by rw [List.take_zero, List.filterMap_nil, List.append_nil]; exact hr.mono (ga.b.trans s7.b)⟩, ?_⟩
        rintro j m H3 ⟨rfl, hj, Hg, acc1, I8, sb8, S8, hDn8, hA8, hr8⟩
        obtain ⟨k1, k2⟩ := hJ1 j Hg H3 sb8 I8.s
        by_cases hlt2 : j < es.length
        · have he : es[j]? = some es[j] := List.getElem?_eq_getElem hlt2
          have hlt2' : j < os.length := by omega
          have hoo : os[j]? = some os[j] := List.getElem?_eq_getElem hlt2'
          obtain ⟨kg, ky⟩ := k1 _ he
          have hsnoc : (os.take (j + 1)).filterMap id = (os.take j).filterMap id ++ (os[j]).toList := by
            rw [take_snoc hoo, List.filterMap_append]
            congr 1
          have hb1 : ((os.take (j + 1)).filterMap id).length ≤ (rs[i]).length := by
            rw [hrs]
            have e : os.filterMap id = (os.take (j + 1)).filterMap id ++ (os.drop (j + 1)).filterMap id := by rw [← List.filterMap_append, List.take_append_drop]
            rw [e, List.length_append]
            exact Nat.le_add_right _ _
          have step : ∀ (He' Hf' : Hp) (acc' : List V), En K H0 F He' Hf' σ2 G4 → Same Hg He' → Stp G G4 Hs H1s He' Hf' → He' D = none → Hf' D = some (.lst acc') → (∃ ys, acc' = acc1 ++ ys ∧ Ra K He' ys (os[j]).toList) →
              (j + 1 ≤ es.length ∧ ∃ H acc, En K H0 F H Hf' σ2 G4 ∧ Same He H ∧ Stp G G4 Hs H1s H Hf' ∧ H D = none ∧ Hf' D = some (.lst acc) ∧ Ra K H acc ((rs.take i).flatten ++ (os.take (j + 1)).filterMap id)) := fun He' Hf' acc' I9 s9 S9 e1 e2 ⟨ys, e3, e4⟩ => by
            refine ⟨hlt2, He', acc', I9, sb8.trans s9, S9, e1, e2, ?_⟩
            rw [e3, hsnoc, ← List.append_assoc]
            exact (hr8.mono s9).append e4
          refine .inr ⟨kg, fun H1 => j + 1 ≤ es.length ∧ ∃ H acc, En K H0 F H H1 σ2 G4 ∧ Same He H ∧ Stp G G4 Hs H1s H H1 ∧ H D = none ∧ H1 D = some (.lst acc) ∧ Ra K H acc ((rs.take i).flatten ++ (os.take (j + 1)).filterMap id), fun H' z => ⟨_, by omega, rfl, z⟩, fun x H5 hy => ?_⟩
          obtain ⟨H5', gb, r5⟩ := ky x H5 hy
          cases ho : os[j] with
          | none =>
            rw [ho] at hoo
            refine lc_turnG (f := fun _ => none) ht1 hsub1 nv hO4 hF hS I6 w4 I8 sb8 S8 hDn8 hA8 ?_ gb r5 (hos j _ _ he hoo) fun He' Hf' acc' I9 s9 S9 e1 e2 e3 => step He' Hf' acc' I9 s9 S9 e1 e2 (by rw [ho]; exact e3)
            have e5 := hr8.length
            rw [hsnoc, ho, List.length_append] at hb1
            rw [List.length_append] at e5 hbound
            omega
          | some y =>
            rw [ho] at hoo
            refine lc_turnG (f := fun _ => some y) ht1 hsub1 nv hO4 hF hS I6 w4 I8 sb8 S8 hDn8 hA8 ?_ gb r5 (hos j _ _ he hoo) fun He' Hf' acc' I9 s9 S9 e1 e2 e3 => step He' Hf' acc' I9 s9 S9 e1 e2 (by rw [ho]; exact e3)
            have e5 := hr8.length
            rw [hsnoc, ho, List.length_append] at hb1
            rw [List.length_append] at e5 hbound
            omega
        · have e : j = es.length := by omega
          refine .inl ⟨k2 e, ?_⟩
          refine ⟨hlt, Hg, acc1, I1.back I8 hv ag hσ (sb.trans (ga.b.trans (s7.b.trans sb8))), sb.trans (ga.b.trans (s7.b.trans sb8)), ⟨S8.b, S8.k, S8.o, s1.w, S8.t⟩, hDn8, hA8, ?_⟩
          rw [e, ← hol, List.take_length, ← hrs] at hr8
          rw [htake]
          exact hr8
    · have e : i = ds.length := by omega
      refine .inl ⟨j2 e, ?_⟩
      rw [e, ← hrl, List.take_length] at hr
      exact q D (.lst rs.flatten) _ G1 H H1 I2 S (stp_fresh s1 (.of hD)) hDn hA hr p
theorem ef_lc2M (ht : Tch g ts) (hsub : ∀ i ∈ ts, i ∈ vs) (ht1 : Tch g1 ts1) (hsub1 : ∀ i ∈ ts1, i ∈ vs1) (h : IX K wi G fun ds G1 => NoOwn vs G1 ∧ ∃ (α : Type) (xs : List α) (E : α → Dt) (r : α → List Dt), ds = xs.map E ∧ (xs.flatMap r).length < sizeLine ∧
    (∀ x ∈ xs, LcT2 K g tt wi1 g1 tt1 te vs vs1 G1 (E x) (r x)) ∧ P (.lst (xs.flatMap r)) G1) : EF K (tLc2 wi g tt wi1 g1 tt1 te vs vs1) G P := ef_lc2I ht hsub ht1 hsub1 (IX.imp h fun ds G1 ⟨hv, α, xs, E, r, e, hl, hs, p⟩ => by
  subst e
  have hf : (xs.map r).flatten = xs.flatMap r := rfl
  refine ⟨hv, xs.map r, by rw [List.length_map, List.length_map], by rw [hf]; exact hl, fun i d o hd ho => ?_, by rw [hf]; exact p⟩
  rw [List.getElem?_map] at hd ho
  cases hx : xs[i]? with
  | none => rw [hx] at hd; cases hd
  | some x =>
    rw [hx] at hd ho
    obtain rfl := Option.some.inj hd
    obtain rfl := Option.some.inj ho
    exact hs x (List.mem_of_getElem? hx))
/-- a turn of the inner loop, its items mapped -/
theorem inner_of {α : Type} {xs : List α} {E : α → Dt} {r : α → Option Dt} {G4 : List Sl} (hs : ∀ x ∈ xs, LcT K g1 tt1 te vs1 G4 (E x) (r x)) :
    ∃ rs : List (Option Dt), rs.length = (xs.map E).length ∧ xs.filterMap r = rs.filterMap id ∧ ∀ (j : Nat) (e : Dt) (o : Option Dt), (xs.map E)[j]? = some e → rs[j]? = some o → LcT K g1 tt1 te vs1 G4 e o := by
  refine ⟨xs.map r, by rw [List.length_map, List.length_map], (filterMap_map_id xs r).symm, fun i d o hd ho => ?_⟩
  rw [List.getElem?_map] at hd ho
  cases hx : xs[i]? with
  | none => rw [hx] at hd; cases hd
  | some x =>
    rw [hx] at hd ho
    obtain rfl := Option.some.inj hd
    obtain rfl := Option.some.inj ho
    exact hs x (List.mem_of_getElem? hx)
end
end Wd

set_option Elab.async false
set_option linter.all false
set_option maxRecDepth 100000
set_option maxHeartbeats 1000000
/-! B6: a walk over the items of a dict of one's own. -/
namespace Wd
open PySem L2
/-- nothing at l that data look at -/
def Blank (H : Hp) (l : Addr) : Prop := ∀ u, H l = some u → ∃ o xs, u = .frz o (.dK xs)
def cutH (H : Hp) (l : Addr) : Hp := fun x => if x = l then none else H x
section
variable {K : PySem.W.Frag} {H H1 : Hp} {l : Addr}
theorem cutH_ne {x : Addr} (h : x ≠ l) : cutH H l x = H x := by unfold cutH; rw [if_neg h]
theorem cutH_self : cutH H l l = none := by unfold cutH; rw [if_pos rfl]
theorem cutH_sub : Same (cutH H l) H := fun b o e => by
  by_cases h : b = l
  · subst h; rw [cutH_self] at e; cases e
  · rw [cutH_ne h] at e; exact e
theorem blank_ne {x : Addr} {u : HO} (b : Blank H l) (h : H x = some u) (n : ∀ o xs, u ≠ .frz o (.dK xs)) : x ≠ l := fun z => by
  subst z
  obtain ⟨o, xs, e⟩ := b u h
  exact n o xs e
theorem SqL.blk {a : Addr} {xs : List V} (b : Blank H l) (h : SqL K H a xs) : SqL K (cutH H l) a xs := by
  rcases h with (h | ⟨o, h⟩) | h
  · exact .inl (.inl (by rw [cutH_ne (blank_ne b h (fun _ _ z => by cases z))]; exact h))
  · exact .inl (.inr ⟨o, by rw [cutH_ne (blank_ne b h (fun _ _ z => by cases z))]; exact h⟩)
  · exact .inr h
mutual
theorem Rp.blk (b : Blank H l) : ∀ {v : V} {d : Dt}, Rp K H v d → Rp K (cutH H l) v d
  | _, _, .non => .non
  | _, _, .bl b => .bl b
  | _, _, .int i => .int i
  | _, _, .str x => .str x
  | _, _, .lst h r => .lst (by rw [cutH_ne (blank_ne b h (fun _ _ z => by cases z))]; exact h) (r.blk b)
  | _, _, .tup h r => .tup (by rw [cutH_ne (blank_ne b h (fun _ _ z => by cases z))]; exact h) (r.blk b)
  | _, _, .ftup h c r => .ftup (by rw [cutH_ne (blank_ne b h (fun _ _ z => by cases z))]; exact h) c (r.blk b)
  | _, _, .pt h n c r => .pt (by rw [cutH_ne (blank_ne b h (fun _ _ z => by cases z))]; exact h) n c (r.blk b)
  | _, _, .dk h r => .dk (by rw [cutH_ne (blank_ne b h (fun _ _ z => by cases z))]; exact h) (r.blk b)
  | _, _, .dt h r => .dt (by rw [cutH_ne (blank_ne b h (fun _ _ z => by cases z))]; exact h) (r.blk b)
  | _, _, .fl h => .fl (SqL.blk b h)
  | _, _, .ad a => .ad a
theorem Ra.blk (b : Blank H l) : ∀ {vs : List V} {ds : List Dt}, Ra K H vs ds → Ra K (cutH H l) vs ds
  | _, _, .nil => .nil
  | _, _, .cons h r => .cons (h.blk b) (r.blk b)
theorem Rk.blk (b : Blank H l) : ∀ {vs : List (Key × V)} {ds : List (Str × Dt)}, Rk K H vs ds → Rk K (cutH H l) vs ds
  | _, _, .nil => .nil
  | _, _, .cons h r => .cons (h.blk b) (r.blk b)
theorem Rt.blk (b : Blank H l) : ∀ {vs : List (List Key × V)} {ds : List ((Str × Str) × Dt)}, Rt K H vs ds → Rt K (cutH H l) vs ds
  | _, _, .nil => .nil
  | _, _, .cons h r => .cons (h.blk b) (r.blk b)
end
theorem Ob.blk {u : HO} {d : Dt} (b : Blank H l) (h : Ob K H u d) : Ob K (cutH H l) u d := by
  cases u <;> cases d <;> first | exact Ra.blk b h | exact Rk.blk b h | exact Rt.blk b h | exact h
theorem Rk.at : ∀ {xs : List (Key × V)} {ks : List (Str × Dt)} {i : Nat} {p : Str × Dt}, Rk K H xs ks → ks[i]? = some p → ∃ v, xs[i]? = some (Sum.inr p.1, v) ∧ Rp K H v p.2
  | _, _, _, _, .nil, e => by simp at e
  | _, _, 0, _, .cons h _, e => by simp at e; subst e; exact ⟨_, rfl, h⟩
  | _, _, i + 1, p, .cons _ r, e => by
    obtain ⟨v, h1, h2⟩ := r.at (i := i) (p := p) (by simpa using e)
    exact ⟨v, by simpa using h1, h2⟩
end
variable [B : Tb]
section
variable {K : PySem.W.Frag} {G : List Sl} {P : Dt → List Sl → Prop} {R : Dt → List Sl → Prop} {N : List Sl → Prop} {t : TS} {g : TG}
/-- for tg in d.items(): .. , d an object of one's own that stays as it is; the loop's body returns nothing -/
theorem sx_items {i : Nat} {l : Addr} {ks : List (Str × Dt)} (hG : G[i]? = some (.own l (.dk ks))) (W : Nat → List Sl → Prop) (w0 : W 0 (G.set i (.dat (.ad l))))
    (hs : ∀ (k : Nat) (p : Str × Dt) (G2 : List Sl), ks[k]? = some p → W k G2 → GX K g (.tup [.str p.1, p.2]) G2 fun G3 => SX K t G3 (fun _ _ => False) (W (k + 1)))
    (hd : ∀ G2, W ks.length G2 → G2[i]? = some (.dat (.ad l)) ∧ N (G2.set i (.own l (.dk ks)))) : SX K (tLock (tFor (iItems (tVar i)) g t)) G R N := fun H0 F H H1 σ D I q1 q2 => by
  obtain ⟨e1, e2, e3, u, e4, e5⟩ := I.own i l _ hG
  obtain ⟨xs, rfl, rk⟩ := e5.dk_inv
  have hlen := rk.length
  refine ⟨l, .dK xs, e4, trivial, fun od => ?_⟩
  have hF' : ∀ x, x ≠ l → upd F l (.frz od (.dK xs)) x = F x := fun x h => upd_ne h
  have I1 : En K H0 (upd F l (.frz od (.dK xs))) H (upd H1 l (.frz od (.dK xs))) σ (G.set i (.dat (.ad l))) := by
    refine ⟨I.b, fun b o e => by rw [upd_ne (ne_of_none e e3)]; exact I.s b o e, fun b o e => ?_, fun x v hx m h0 => ?_, by rw [List.length_set]; exact I.len, fun j e h' => ?_, fun j m e h' => ?_, fun j k m e e' h1 h2 => ?_, I.fp.upd (fun _ z => by cases z), I.p, tab_upd e4 e5 I.tab⟩
    · by_cases hb : b = l
      · subst hb; rw [upd_same] at e ⊢; exact e
      · rw [upd_ne hb] at e ⊢; exact I.f b o e
    · by_cases hb : x = l
      · subst hb; rw [upd_same] at hx; cases hx; exact m.elim
      · rw [upd_ne hb] at hx; exact I.o x v hx m h0
    · rcases set_dat h' with ⟨n, h'⟩ | ⟨n, h'⟩
      · exact I.dat j e h'
      · injection h' with h'; subst h'; rw [n]; exact ⟨_, e1, .ad l⟩
    · rcases set_own h' with ⟨n, h2⟩ | ⟨_, h2⟩
      · obtain ⟨a1, a2, a3, v, a4, a5⟩ := I.own j m e h2
        have hne : m ≠ l := fun z => by subst z; exact n (I.nd j i m e _ h2 hG)
        exact ⟨a1, by rw [upd_ne hne]; exact a2, a3, v, by rw [upd_ne hne]; exact a4, a5⟩
      · cases h2
    · rcases set_own h1 with ⟨_, z1⟩ | ⟨_, z1⟩
      · rcases set_own h2 with ⟨_, z2⟩ | ⟨_, z2⟩
        · exact I.nd j k m e e' z1 z2
        · cases z2
      · cases z1
  refine ⟨.ref l, e1, l, od, xs, rfl, upd_same, ?_⟩
  refine ⟨fun k m σ H1 => m = ks.length - k ∧ k ≤ ks.length ∧ ∃ G2 H', En K H0 (upd F l (.frz od (.dK xs))) H' H1 σ G2 ∧ Same H H' ∧ W k G2, ⟨ks.length, by omega, Nat.zero_le _, _, H, I1, Same.refl _, w0⟩, ?_⟩
  rintro k m σ2 H2 ⟨rfl, hk, G2, H', I2, sb, w⟩
  have hl2 : H2 l = some (.frz od (.dK xs)) := I2.f l _ upd_same
  by_cases hlt : k < ks.length
  · obtain ⟨p, hp⟩ : ∃ p, ks[k]? = some p := ⟨ks[k], List.getElem?_eq_getElem hlt⟩
    obtain ⟨v, hv, rv⟩ := rk.at hp
    refine .inr ⟨⟨hl2, by omega⟩, fun σ' H' => ∃ m', m' < ks.length - k ∧ m' = ks.length - (k + 1) ∧ k + 1 ≤ ks.length ∧ ∃ G2 H'', En K H0 (upd F l (.frz od (.dK xs))) H'' H' σ' G2 ∧ Same H H'' ∧ W (k + 1) G2, fun σ' H' ⟨m', a, b, c⟩ => ⟨m', a, b, c⟩, fun x H3 ⟨T, k', v', hkv, ex, hT, e⟩ => ?_⟩
    rw [hv] at hkv
    cases hkv
    subst ex e
    have g1 := Gr.new (u := .tup [kV (Sum.inr p.1), v]) I2.s hT
    have I3 := I2.gr g1
    have r : Rp K (upd H' T (.tup [kV (Sum.inr p.1), v])) (.ref T) (.tup [.str p.1, p.2]) := .tup upd_same (.cons (.str _) (.cons ((rv.mono sb).mono g1.b) .nil))
    refine hs k p G2 hp w H0 _ _ _ σ2 _ _ I3 r fun σ3 G3 I4 _ h3 => ?_
    refine h3 H _ _ _ σ3 _ (I1.rebase I4 (sb.trans g1.b)) (fun v d σ4 G4 H4 H5 I5 r5 p5 => p5.elim) fun σ4 G4 H4 H5 I5 w5 => ⟨_, by omega, rfl, hlt, G4, H4, I1.unbase I5, I5.b, w5⟩
  · have e : k = ks.length := by omega
    refine .inl ⟨⟨hl2, by omega⟩, hl2, ?_⟩
    obtain ⟨d1, d2⟩ := hd G2 (e ▸ w)
    have bl : Blank H' l := fun u hu => by
      have z := I2.s l u hu
      rw [hl2] at z
      exact ⟨od, xs, (Option.some.inj z).symm⟩
    have own_ne : ∀ (j : Nat) (m : Addr) (e : Dt), G2[j]? = some (.own m e) → m ≠ l := fun j m e h z => by
      have a := (I2.own j m e h).2.1
      rw [z, upd_same] at a
      cases a
    obtain ⟨v0, s0, r0⟩ := I2.dat i _ d1
    rw [r0.ad_inv] at s0
    have hsub : ∀ {b o}, H' b = some o → b ≠ l → cutH H' l b = some o := fun h n => by rw [cutH_ne n]; exact h
    refine q2 σ2 (G2.set i (.own l (.dk ks))) (cutH H' l) (upd H2 l (.dK xs)) ⟨fun b o e => ?_, fun b o e => ?_, fun b o e => ?_, fun x v hx m h0 => ?_, by rw [List.length_set]; exact I2.len, fun j e h => ?_, fun j m e h => ?_, fun j j' m e e' h h' => ?_, I.fp, fun x ps e => ?_, ?_⟩ d2
    · have n : b ≠ l := ne_of_none (I.b b o e) e3
      exact hsub (I2.b b o e) n
    · by_cases n : b = l
      · subst n; rw [cutH_self] at e; cases e
      · rw [cutH_ne n] at e; rw [upd_ne n]; exact I2.s b o e
    · have n : b ≠ l := ne_of_none e e2
      rw [upd_ne n]
      exact I2.f b o (by rw [upd_ne n]; exact e)
    · have n : x ≠ l := ne_of_none hx e2
      rw [cutH_ne n]
      exact I2.o x v (by rw [upd_ne n]; exact hx) m h0
    · rcases set_dat h with ⟨n, h⟩ | ⟨_, h⟩
      · obtain ⟨v, a, r⟩ := I2.dat j e h
        exact ⟨v, a, r.blk bl⟩
      · cases h
    · rcases set_own h with ⟨n, h2⟩ | ⟨n, h2⟩
      · obtain ⟨a1, a2, a3, v, a4, a5⟩ := I2.own j m e h2
        have n2 := own_ne j m e h2
        rw [upd_ne n2] at a2
        exact ⟨a1, a2, by rw [cutH_ne n2]; exact a3, v, by rw [upd_ne n2]; exact a4, a5.blk bl⟩
      · subst n
        injection h2 with h2 h3
        subst h2 h3
        refine ⟨s0, e2, cutH_self, .dK xs, upd_same, ?_⟩
        exact Ob.mono (fun b o e => hsub (sb b o e) (ne_of_none e e3)) (show Ob K H (.dK xs) (.dk ks) from rk)
    · rcases set_own h with ⟨n, h2⟩ | ⟨n, h2⟩
      · rcases set_own h' with ⟨n', h3⟩ | ⟨n', h3⟩
        · exact I2.nd j j' m e e' h2 h3
        · injection h3 with h3 _; exact (own_ne j m e h2 h3.symm).elim
      · rcases set_own h' with ⟨n', h3⟩ | ⟨n', h3⟩
        · injection h2 with h2 _; exact (own_ne j' m e' h3 h2.symm).elim
        · rw [n, n']
    · exact I2.p x ps (cutH_sub x _ e)
    · obtain ⟨ps, t1, t2, t3⟩ := I2.tab
      have n1 : B.P ≠ l := fun z => by subst z; rw [t1] at hl2; cases hl2
      refine ⟨ps, by rw [upd_ne n1]; exact t1, t2, fun pos cv hc => ?_⟩
      obtain ⟨c, c1, c2⟩ := t3 pos cv hc
      refine ⟨c, c1, ?_⟩
      have n2 : c ≠ l := fun z => by subst z; rw [c2] at hl2; unfold LamX.CodeO at hl2; cases hl2
      rw [upd_ne n2]; exact c2
end
end Wd

set_option Elab.async false
set_option linter.all false
set_option maxRecDepth 100000
set_option maxHeartbeats 1000000
/-! C2: dict comprehensions over mapped data. -/
namespace Wd
open PySem L2
variable [B : Tb]
section
variable {K : PySem.W.Frag} {G : List Sl} {P : Dt → List Sl → Prop} {tk tv : TE} {wi : TI} {g : TG} {vs ts : List Nat}
theorem En.bumpD {H0 F He Hf : Hp} {σ : L2.St} {p : Addr} {u : HO} {acc : List (Key × V)} (hA : Hf p = some (.dK acc)) (I : En K H0 F He Hf σ G) (hF : F p = none) (hH : He p = none) (hO : ¬ Own G p) : En K H0 F He (upd Hf p u) σ G := by
  refine ⟨I.b, fun b o e => by rw [upd_ne (ne_of_none e hH)]; exact I.s b o e, fun b o e => by rw [upd_ne (ne_of_none e hF)]; exact I.f b o e, I.o, I.len, I.dat, fun i l d h => by
    obtain ⟨e1, e2, e3, v, e4, e5⟩ := I.own i l d h
    exact ⟨e1, e2, e3, v, by rw [upd_ne fun z => hO (by rw [← z]; exact ⟨i, d, h⟩)]; exact e4, e5⟩, I.nd, I.fp, I.p, ?_⟩
  obtain ⟨ps, t1, t2, t3⟩ := I.tab
  have n1 : B.P ≠ p := fun z => by subst z; rw [t1] at hA; cases hA
  refine ⟨ps, by rw [upd_ne n1]; exact t1, t2, fun pos cv hc => ?_⟩
  obtain ⟨c, c1, c2⟩ := t3 pos cv hc
  refine ⟨c, c1, ?_⟩
  have n2 : c ≠ p := fun z => by subst z; rw [c2] at hA; unfold LamX.CodeO at hA; cases hA
  rw [upd_ne n2]; exact c2
theorem ef_dcA (ht : Tch g ts) (hsub : ∀ i ∈ ts, i ∈ vs) (h : IX K wi G fun ds G1 => NoOwn vs G1 ∧ ∃ (α : Type) (xs : List α) (E : α → Dt) (kx : α → Str) (vx : α → Dt), ds = xs.map E ∧ xs.length ≤ sizeLine ∧
    (∀ x ∈ xs, GX K g (E x) (wipeG G1 vs) fun G2 => EX K tk G2 fun y G3 => y = .str (kx x) ∧ EX K tv G3 fun z G4 => Agr vs G1 G4 ∧ z = vx x) ∧ P (.dk (mgk [] (xs.map fun x => (kx x, vx x)))) G1) : EF K (tDc wi g tYes tk tv vs) G P := fun H0 F Hs H1s σ Q I q =>
  h H0 F Hs H1s σ _ I fun J ds G1 Ha Hb I1 s1 hJ ⟨hv, α, xs, E, kx, vx, hds, hl, hs, p⟩ => fun D hD => by
    subst hds
    have hO1 : ¬ Own G1 D := fun z => by obtain ⟨w, hw, _⟩ := I1.ownH z; rw [hD] at hw; cases hw
    have nL : ∀ xs : List (Key × V), NT (.dK xs) := fun xs ps z => by cases z
    have hF : F D = none := by
      cases c : F D with
      | none => rfl
      | some w => rw [I1.f D w c] at hD; cases hD
    have hS : Fr H1s D := stp_fresh s1 (.of hD)
    have g0 : Gr Ha Hb Ha (upd Hb D (.dK [])) := .of (Same.refl _) (I1.s.trans (Same.upd hD)) (Same.upd hD) (fun _ _ _ z => z) id
    refine ⟨fun i m H1 => m = xs.length - i ∧ i ≤ xs.length ∧ ∃ H acc, En K H0 F H H1 σ G1 ∧ Same Ha H ∧ Stp G G1 Hs H1s H H1 ∧ H D = none ∧ H1 D = some (.dK acc) ∧ acc.length ≤ i ∧ Rk K H acc (mgk [] ((xs.take i).map fun x => (kx x, vx x))),
      ⟨xs.length, by omega, Nat.zero_le _, Ha, [], I1.gr g0, Same.refl _, s1.trans g0.stp, I1.s.free hD, upd_same, Nat.le_refl _, .nil⟩, ?_⟩
    rintro i m H1 ⟨rfl, hi, H, acc, I2, sb, S, hDn, hA, hal, hr⟩
    obtain ⟨j1, j2⟩ := hJ i H H1 sb I2.s
    by_cases hlt : i < xs.length
    · obtain ⟨x, hx⟩ : ∃ x, xs[i]? = some x := ⟨xs[i], List.getElem?_eq_getElem hlt⟩
      obtain ⟨jg, jy⟩ := j1 (E x) (by rw [List.getElem?_map, hx]; rfl)
      refine .inr ⟨jg, fun H1 => i + 1 ≤ xs.length ∧ ∃ H acc, En K H0 F H H1 σ G1 ∧ Same Ha H ∧ Stp G G1 Hs H1s H H1 ∧ H D = none ∧ H1 D = some (.dK acc) ∧ acc.length ≤ i + 1 ∧ Rk K H acc (mgk [] ((xs.take (i + 1)).map fun x => (kx x, vx x))), fun H' z => ⟨_, by omega, rfl, z⟩, fun v H2 hy => ?_⟩
      obtain ⟨H', g1, r⟩ := jy v H2 hy
      have I3 := (I2.gr g1).wipe vs
      refine ht v _ H2 (fun σ' Hx => Hx = H2 ∧ ∃ G', En K H0 F H' H2 σ' G' ∧ (∀ x, Own G' x → Own G1 x) ∧ EX K tk G' fun y G3 => y = .str (kx x) ∧ EX K tv G3 fun z G4 => Agr vs G1 G4 ∧ z = vx x) _
        (hs x (List.mem_of_getElem? hx) H0 F H' H2 _ v _ I3 r fun σ' G' I' o' p' => ⟨rfl, G', I', fun z q => wipeG_own (o' z q), p'⟩) ?_
      rintro σ2 Hx ⟨rfl, G2, I4, o4, h4⟩ l2 a2
      have hσ : ∀ j, j ∉ vs → σ2[j]? = σ[j]? := fun j hj => (a2 j fun z => hj (hsub j z)).trans (wipe_out hj)
      have hO2 : ¬ Own G2 D := fun z => hO1 (o4 D z)
      have own2 : ∀ y, ¬ Own G y → ¬ Own G2 y := fun y n z => n (s1.w y (o4 y z))
      refine ⟨wipe_eq (by rw [l2, wipe_length]) hσ, ?_⟩
      refine tx_yes (G := G2) (PB := fun b G3 => b = true ∧ G3 = G2) ⟨rfl, rfl⟩ H0 F H' _ σ2 _ I4 fun b G3 Hc Hd I5 s5 ⟨eb, eG⟩ => ?_
      subst eb eG
      refine h4 H0 F Hc Hd σ2 _ I5 fun y e G4 He Hf I6 s6 r6 ⟨ey, h5⟩ => ?_
      subst ey
      obtain rfl := r6.str_inv
      refine h5 H0 F He Hf σ2 _ I6 fun z e2 G5 Hg Hh I7 s7 r7 ⟨ag, ez⟩ => ?_
      subst ez
      have s9 := s5.trans (s6.trans s7)
      have hDf : Hh D = some (.dK acc) := s9.k D _ (g1.a D _ hA (nL _)) hO2 (nL _)
      have hDe : Hg D = none := s9.o D _ (g1.a D _ hA (nL _)) trivial (g1.o D _ hA trivial hDn) hO2
      refine ⟨acc, Sum.inr (kx x), rfl, hDf, by omega, hlt, Hg, _, (I1.back I7 hv ag hσ (sb.trans (g1.b.trans s9.b))).bumpD hDf hF hDe hO1, sb.trans (g1.b.trans s9.b), ⟨S.b.trans (g1.b.trans s9.b), fun z u hz hn m => ?_, fun z u hz m h0 hn => ?_, s1.w, fun z u hz m => ?_⟩, hDe, upd_same, ?_, ?_⟩
      · rw [upd_ne (hS.ne hz m)]
        exact s9.k z u (g1.a z u (S.k z u hz hn m) m) (own2 z hn) m
      · exact s9.o z u (g1.a z u (S.k z u hz hn m.nt) m.nt) m (g1.o z u (S.k z u hz hn m.nt) m (S.o z u hz m h0 hn)) (own2 z hn)
      · obtain ⟨v1, e1, m1, f1⟩ := S.t z u hz m
        obtain ⟨v2, e2, m2, f2⟩ := s9.t z v1 (g1.a z v1 e1 m1) m1
        exact ⟨v2, by rw [upd_ne (hS.ne hz m)]; exact e2, m2, fun w => f2 (f1 w)⟩
      · have := length_putK acc (Sum.inr (kx x) : Key) z
        omega
      · have e : mgk [] ((xs.take (i + 1)).map fun x => (kx x, vx x)) = pk (mgk [] ((xs.take i).map fun x => (kx x, vx x))) (kx x) (vx x) := by
          rw [take_snoc hx, List.map_append]
          unfold mgk
          rw [List.foldl_append]; rfl
        rw [e]
        exact (hr.mono (g1.b.trans s9.b)).put r7
    · have e : i = xs.length := by omega
      refine .inl ⟨j2 (by rw [List.length_map]; exact e), ?_⟩
      rw [e, List.take_length] at hr
      exact q D (.dk _) _ G1 H H1 I2 S (stp_fresh s1 (.of hD)) hDn hA hr p
end
end Wd

set_option Elab.async false
set_option linter.all false
set_option maxRecDepth 100000
set_option maxHeartbeats 1000000
/-! T1: sets of tuples of texts and numbers. -/
namespace Wd
open PySem PySem.Spec PyProof.Rows L2
abbrev mhash (P : Program) (w : World) (k : List Key) : Int := tupleKeyHash (mixKind P w) k
abbrev IsM (P : Program) (w : World) (h : Heap) (k : List Key) (a : Addr) : Prop := IsTupleKey (mixKind P w) h k a
section
variable {P : Program} {w : World} {A : Around} {E : Value → Shared → Prop} {s : Shared}
def KeyV (v : Value) : Prop := (∃ i t, v = Value.int i t) ∨ ∃ x t, v = Value.str x t
theorem keyV_of {k : Key} {v : Value} (h : keyIs k v = true) : KeyV v := by
  rcases keyIs_shape h with ⟨i, t, _, e⟩ | ⟨x, t, _, e⟩
  · exact .inl ⟨i, t, e⟩
  · exact .inr ⟨x, t, e⟩
theorem items_keyV {k : List Key} {vs : List Value} (h : ItemsAre (mixKind P w) k vs) : ∀ v ∈ vs, KeyV v := by
  induction h with
  | nil => exact fun v hv => absurd hv (by simp)
  | cons h1 _ ih =>
    intro v hv
    rcases List.mem_cons.mp hv with rfl | hv
    · exact keyV_of h1
    · exact ih v hv
theorem noClass {v : Value} (n : Nat) (h : KeyV v) : ofAClassStatement n v = pure false := by
  rcases h with ⟨i, t, rfl⟩ | ⟨x, t, rfl⟩ <;> cases n <;> rfl
theorem someHash {v : Value} (n : Nat) (h : KeyV v) : ∃ b, hashByValue n v = pure b := by
  rcases h with ⟨i, t, rfl⟩ | ⟨x, t, rfl⟩
  · exact ⟨true, by cases n <;> rfl⟩
  · exact ⟨false, by cases n <;> rfl⟩
theorem noClass_tup {k : List Key} {b : Addr} {Q : Bool → Shared → Prop} (hk : IsM P w s.heap k b) (h : Q false s) : wpAny (model P w) A (ofAClassStatement 8 (.ref b)) Q E s := by
  have hT := hk.typeIs
  obtain ⟨o, items, n, ho, _, hd, hi⟩ := hk
  unfold ofAClassStatement
  refine wpAny_bind (wpAny_typeOf hT ?_)
  dsimp only
  have e : (("tuple" : String) == "tuple") = true := by decide
  simp only [e, if_true, Bool.not_true, Bool.false_eq_true, if_false]
  try refine wpAny_bind (wpAny_pure ?_)
  try simp only [Bool.not_true, Bool.false_eq_true, if_false]
  show wpAny _ _ (seqItems? (.ref b) >>= _) _ _ s
  refine wpAny_bind (wpAny_seqItems ho hd ?_)
  dsimp only
  refine wpAny_bind ?_
  show wpAny _ _ (forIn items _ _) _ _ s
  rw [← Array.forIn_toList]
  refine wpAny_forIn_list _ (fun rest r s' => r.1 = none ∧ s' = s ∧ ∀ v ∈ rest, KeyV v) _ ?_ ?_ _ _ ⟨rfl, rfl, items_keyV hi⟩
  · rintro v rest r s' ⟨hr, rfl, hall⟩
    rw [noClass _ (hall v (List.mem_cons_self ..))]
    refine wpAny_bind (wpAny_pure ?_)
    simp only [Bool.false_eq_true, if_false]
    exact wpAny_pure ⟨rfl, rfl, fun u hu => hall u (List.mem_cons_of_mem _ hu)⟩
  · rintro ⟨r1, r2⟩ s' ⟨hr, rfl, _⟩
    simp only at hr
    subst hr
    exact wpAny_pure h
theorem hashes_tup {k : List Key} {b : Addr} {Q : Bool → Shared → Prop} (hk : IsM P w s.heap k b) (h : ∀ c, Q c s) : wpAny (model P w) A (hashByValue 8 (.ref b)) Q E s := by
  have hT := hk.typeIs
  obtain ⟨o, items, n, ho, _, hd, hi⟩ := hk
  unfold hashByValue
  refine wpAny_bind (wpAny_specialOf hT F.slot_tuple_hash.lookup ?_)
  show wpAny _ _ (seqItems? (.ref b) >>= _) _ _ s
  refine wpAny_bind (wpAny_seqItems ho hd ?_)
  refine wpAny_bind ?_
  show wpAny _ _ (forIn items _ _) _ _ s
  rw [← Array.forIn_toList]
  refine wpAny_forIn_list _ (fun rest r s' => s' = s ∧ (r.1 = none ∨ r.1 = some false) ∧ ∀ v ∈ rest, KeyV v) _ ?_ ?_ _ _ ⟨rfl, .inl rfl, items_keyV hi⟩
  · rintro v rest r s' ⟨rfl, hr, hall⟩
    obtain ⟨c, e⟩ := someHash 7 (hall v (List.mem_cons_self ..))
    rw [e]
    refine wpAny_bind (wpAny_pure ?_)
    cases c with
    | true =>
      simp only [Bool.not_true, Bool.false_eq_true, if_false]
      exact wpAny_pure ⟨rfl, .inl rfl, fun u hu => hall u (List.mem_cons_of_mem _ hu)⟩
    | false =>
      simp only [Bool.not_false, if_true]
      refine wpAny_pure ?_
      exact wpAny_pure (h _)
  · rintro ⟨r1, r2⟩ s' ⟨rfl, hr, _⟩
    simp only at hr
    rcases hr with rfl | rfl
    · exact wpAny_pure (h _)
    · exact wpAny_pure (h _)
theorem quiet_tups {k : List Key} {b : Addr} {Q : Bool → Shared → Prop} (hk : IsM P w s.heap k b) {ys : List Value} (hy : ∀ y ∈ ys, ∃ k' c, y = Value.ref c ∧ IsM P w s.heap k' c) (h : Q false s) :
    wpAny (model P w) A (searchCouldBeSeen (.ref b) ys) Q E s := by
  unfold searchCouldBeSeen
  refine wpAny_bind ?_
  refine wpAny_forIn_list _ (fun rest r s' => r.1 = none ∧ s' = s ∧ ∀ y ∈ rest, ∃ k' c, y = Value.ref c ∧ IsM P w s.heap k' c) _ ?_ ?_ _ _ ⟨rfl, rfl, hy⟩
  · rintro v rest r s' ⟨hr, rfl, hall⟩
    obtain ⟨k', c, rfl, hc⟩ := hall v (List.mem_cons_self ..)
    have more : ∀ y ∈ rest, ∃ k' c, y = Value.ref c ∧ IsM P w s'.heap k' c := fun u hu => hall u (List.mem_cons_of_mem _ hu)
    dsimp only
    by_cases hv : (b == c || (carriedByValue (.ref b) && carriedByValue (.ref c))) = true
    · exact wp_if_pos hv (wpAny_pure ⟨rfl, rfl, more⟩)
    · refine wp_if_neg hv ?_
      refine wpAny_bind (wpAny_eqIsQuiet_tuple hk ?_)
      simp only [Bool.not_true, Bool.false_eq_true, if_false]
      refine wpAny_bind (wpAny_eqIsQuiet_tuple hc ?_)
      simp only [Bool.not_true, Bool.false_eq_true, if_false]
      refine wpAny_bind (noClass_tup hk ?_)
      simp only [Bool.false_eq_true, if_false]
      refine wpAny_bind (noClass_tup hc ?_)
      simp only [Bool.false_eq_true, if_false]
      exact wpAny_pure ⟨rfl, rfl, more⟩
  · rintro ⟨r1, r2⟩ s' ⟨hr, rfl, _⟩
    simp only at hr
    subst hr
    exact wpAny_pure h
/-! ### the table -/
def mrows (P : Program) (w : World) (L : List (Addr × List Key)) : List (Int × Value) := L.map fun p => (mhash P w p.2, Value.ref p.1)
structure SetM (P : Program) (w : World) (h : Heap) (a : Addr) (L : List (Addr × List Key)) (es : Array (Int × Value)) (ep : Nat) (t : SetTable) : Prop where
  ob : ∃ o, h.get? a = some o ∧ o.ExactSet ∧ o.data = .set es ep t
  rows : es.toList = mrows P w L
  tab : TabOk t (L.map fun p => mhash P w p.2)
  nd : (L.map (·.2)).Nodup
  tup : ∀ p ∈ L, IsM P w h p.2 p.1
  led : w.params.followText "set-order" = true ∨ t.led = true
  room : L.length * 5 < t.mask * 3
  few : L.length < 64
variable {a : Addr} {L : List (Addr × List Key)} {es : Array (Int × Value)} {ep : Nat} {t : SetTable}
theorem SetM.size {h : Heap} (R : SetM P w h a L es ep t) : es.size = L.length := by
  have z := congrArg List.length R.rows
  unfold mrows at z
  rwa [Array.length_toList, List.length_map] at z
theorem SetM.fits {h : Heap} (R : SetM P w h a L es ep t) : t.fits es.size = true := by
  have h1 := R.tab.sz
  rw [List.length_map] at h1
  have h2 := R.size
  have h3 := R.room
  unfold SetTable.fits SetTable.fill
  rw [R.tab.dm, Bool.and_eq_true, beq_iff_eq, decide_eq_true_eq]
  show t.place.size = es.size ∧ t.place.size + 0 ≤ t.mask
  omega
theorem SetM.entry {h : Heap} (R : SetM P w h a L es ep t) {i : Nat} {p : Addr × List Key} (e : L[i]? = some p) : es[i]? = some (mhash P w p.2, Value.ref p.1) := by
  rw [← Array.getElem?_toList, R.rows]
  unfold mrows
  rw [List.getElem?_map, e]; rfl
theorem SetM.gw {h : Heap} (R : SetM P w h a L es ep t) : ¬ t.gaveWay = true := by
  unfold SetTable.gaveWay
  rw [mask_odd R.tab.mok]
  decide
theorem run_dummy (m : Nat) : ∀ (n : Nat) (p : SetTable.Probe), p.dummy = none → (nth m p n).dummy = none
  | 0, _, h => h
  | n + 1, p, h => by
    refine run_dummy m n (adv m p) ?_
    unfold adv
    split <;> exact h
/-- the search, from the c-th step on -/
theorem msearch_from (R : SetM P w s.heap a L es ep t) {x : Addr} {k : List Key} (hx : IsM P w s.heap k x) (hu : A.units < cLine) {K : Nat} (hKf : K < 10 * SetTable.turns t.mask)
    (hK : way t.mask (mhash P w k) K ∉ t.place.toList) (hKb : ∀ c, c < K → way t.mask (mhash P w k) c ∈ t.place.toList) {Q : SetFound → Shared → Prop}
    (hin : k ∈ L.map (·.2) → Q (.there none) s) (hout : k ∉ L.map (·.2) → Q (.free (way t.mask (mhash P w k) K) false) s) :
    ∀ (f c : Nat) (stand : Option SetTable.Probe), stand.getD (t.probeStart (mhash P w k)) = nth t.mask (runAt t.mask (SetTable.bits (mhash P w k) % (t.mask + 1)) (SetTable.bits (mhash P w k))) c → c ≤ K → K - c < f →
      (∀ (i : Nat) p, L[i]? = some p → p.2 = k → ∃ c', c ≤ c' ∧ c' < K ∧ t.place.toList[i]? = some (way t.mask (mhash P w k) c')) →
      wpAny (model P w) A (setSearchFrom a (.ref x) (mhash P w k) true f stand) Q E s
  | 0, c, stand, _, _, hf, _ => absurd hf (Nat.not_lt_zero _)
  | f + 1, c, stand, hst, hc, hf, hre => by
    obtain ⟨o, ho, hex, hd⟩ := R.ob
    generalize hH : mhash P w k = hk at *
    obtain ⟨p0, hp0⟩ : ∃ p, runAt t.mask (SetTable.bits hk % (t.mask + 1)) (SetTable.bits hk) = p := ⟨_, rfl⟩
    have wayE : ∀ c, way t.mask hk c = (nth t.mask p0 c).j := fun c => by rw [← hp0]
    rw [hp0] at hst
    rw [setSearchFrom_succ]
    refine wpAny_bind (wpAny_setState_of ho hd R.fits ?_)
    dsimp only
    refine wp_if_neg R.gw ?_
    try refine wpAny_bind (wpAny_pure ?_)
    have hnd : (nth t.mask p0 c).dummy = none := run_dummy t.mask c _ (by rw [← hp0]; rfl)
    have sh : ∀ q, nth t.mask (nth t.mask p0 c) q = nth t.mask p0 (c + q) := fun q => (nth_add t.mask c _ q).symm
    have e1 : ∀ q, (nth t.mask (nth t.mask p0 c) q).j = way t.mask hk (c + q) := fun q => by rw [wayE, sh]
    have spec := go_spec t R.tab.ris R.tab.dm (fun i => (es[i]?.map (·.1)).getD 0) hk (10 * SetTable.turns t.mask) (K - c) _ hnd (by omega)
      (fun q hq => by rw [e1]; exact hKb (c + q) (by omega)) (by rw [e1, show c + (K - c) = K by omega]; exact hK)
    have hashAt : ∀ (i : Nat) p, L[i]? = some p → (fun i => (es[i]?.map (·.1)).getD 0) i = mhash P w p.2 := fun i p hp => by
      show (es[i]?.map (·.1)).getD 0 = _
      rw [R.entry hp]; rfl
    rcases spec with ⟨q, i, hq, hi, hh, hno, hpr⟩ | ⟨hno, hpr⟩
    · have hpr' : t.probe (fun i => (es[i]?.map (·.1)).getD 0) hk (stand.getD (t.probeStart hk)) = some (.candidate (way t.mask hk (c + q)) i (nth t.mask p0 (c + (q + 1)))) := by
        rw [hst, ← e1, ← sh]
        exact hpr
      rw [hpr']
      dsimp only
      rw [e1] at hi
      have hil : i < L.length := by
        have h1 : i < t.place.toList.length := (List.getElem?_eq_some_iff.mp hi).1
        have h2 := R.tab.sz
        rw [List.length_map] at h2
        rw [Array.length_toList] at h1
        omega
      obtain ⟨p, hp⟩ : ∃ p, L[i]? = some p := ⟨L[i], List.getElem?_eq_getElem hil⟩
      have hmem : p ∈ L := List.mem_of_getElem? hp
      have rest : wpAny (model P w) A (searchRest a (.ref x) hk true f es t (way t.mask hk (c + q)) i (nth t.mask p0 (c + (q + 1)))) Q E s := by
        unfold searchRest
        rw [R.entry hp]
        dsimp only
        refine wpAny_bind (wpAny_holding (wpAny_eqBool_tuple hu (R.tup p hmem) hx ?_))
        refine wpAny_bind (wpAny_setState_of ho hd R.fits ?_)
        dsimp only
        by_cases hkk : p.2 = k
        · refine wp_if_pos (by simp [hkk]) ?_
          exact wpAny_pure (hin (List.mem_map.mpr ⟨p, hmem, hkk⟩))
        · refine wp_if_neg (by simp [hkk]) ?_
          try refine wpAny_bind (wpAny_pure ?_)
          rw [sameMem]
          dsimp only
          have hsl : t.slot (way t.mask hk (c + q)) = .live i := slot_live R.tab.ris hi
          simp only [if_true, hsl, R.entry hp]
          refine wpAny_bind (wpAny_isSame_ref_self (wpAny_bind (wpAny_pure ?_)))
          simp only [if_true]
          refine wp_if_neg (by simp [hkk]) ?_
          subst hH
          refine msearch_from R hx hu hKf hK hKb hin hout f (c + (q + 1)) _ (by rw [hp0]; rfl) (by omega) (by omega) fun i0 q0 h0 hk0 => ?_
          obtain ⟨c', a1, a2, a3⟩ := hre i0 q0 h0 hk0
          refine ⟨c', ?_, a2, a3⟩
          rcases Nat.lt_or_ge c' (c + q) with z | z
          · exact (hno (c' - c) i0 (by omega) (by rw [e1, show c + (c' - c) = c' by omega]; exact a3) ((hashAt i0 q0 h0).trans (congrArg (mhash P w) hk0))).elim
          · rcases Nat.lt_or_ge (c + q) c' with y | y
            · omega
            · exfalso
              rw [Nat.le_antisymm y z] at a3
              have s0 := slot_live R.tab.ris a3
              rw [hsl] at s0
              injection s0 with s0
              rw [← s0, hp] at h0
              exact hkk ((congrArg Prod.snd (Option.some.inj h0)).trans hk0)
      by_cases hl : t.led = true
      · refine wp_if_neg (by simp [hl]) ?_
        try refine wpAny_bind (wpAny_pure ?_)
        exact rest
      · refine wp_if_pos (by simp [hl]) ?_
        refine wpAny_bind (quiet_tups hx (fun y hy => ?_) ?_)
        · obtain ⟨e, he, ee⟩ := List.mem_map.mp hy
          have he1 : e ∈ es ∧ e.1 = hk := by simpa using he
          have he2 : e ∈ es.toList := by simpa using he1.1
          rw [R.rows] at he2
          obtain ⟨p2, hp2, e2⟩ := List.mem_map.mp he2
          exact ⟨p2.2, p2.1, by rw [← ee, ← e2], R.tup p2 hp2⟩
        · refine wp_if_neg (by decide) ?_
          try refine wpAny_bind (wpAny_pure ?_)
          exact rest
    · have hpr' : t.probe (fun i => (es[i]?.map (·.1)).getD 0) hk (stand.getD (t.probeStart hk)) = some (.empty (way t.mask hk K) none) := by
        have e2 : way t.mask hk K = (nth t.mask (nth t.mask p0 c) (K - c)).j := by rw [e1, show c + (K - c) = K by omega]
        rw [hst, e2]
        exact hpr
      rw [hpr']
      dsimp only
      refine wpAny_pure (hout fun hm => ?_)
      obtain ⟨q0, h0, hk0⟩ := List.mem_map.mp hm
      obtain ⟨i0, hi0, e0⟩ := List.getElem_of_mem h0
      have h00 : L[i0]? = some q0 := by rw [List.getElem?_eq_getElem hi0, e0]
      obtain ⟨c', a1, a2, a3⟩ := hre i0 q0 h00 hk0
      refine hno (c' - c) i0 (by omega) (by rw [e1, show c + (c' - c) = c' by omega]; exact a3) ?_
      rw [← hH]
      exact (hashAt i0 q0 h00).trans (congrArg (mhash P w) hk0)
theorem msearch_at (R : SetM P w s.heap a L es ep t) {x : Addr} {k : List Key} (hx : IsM P w s.heap k x) (hu : A.units < cLine) {Q : SetFound → Shared → Prop}
    (hin : k ∈ L.map (·.2) → Q (.there none) s)
    (hout : ∀ K, k ∉ L.map (·.2) → way t.mask (mhash P w k) K ∉ t.place.toList → (∀ c, c < K → way t.mask (mhash P w k) c ∈ t.place.toList) → Q (.free (way t.mask (mhash P w k) K) false) s) :
    wpAny (model P w) A (setSearch a (.ref x) (mhash P w k) true) Q E s := by
  have hroom := R.room
  obtain ⟨K, hKf, hK, hKb⟩ := R.tab.first (by rw [List.length_map]; omega) (mhash P w k)
  have hbig : K < 100000 := by
    have : 10 * SetTable.turns t.mask ≤ 1420 := by
      unfold SetTable.turns
      rcases R.tab.mok with e | e | e <;> omega
    omega
  unfold setSearch
  refine msearch_from R hx hu hKf hK hKb hin (fun hn => hout K hn hK hKb) 100000 0 none rfl (Nat.zero_le _) (by omega) fun i p hp hk => ?_
  have hi : (L.map fun p => mhash P w p.2)[i]? = some (mhash P w k) := by rw [List.getElem?_map, hp, ← hk]; rfl
  have hil : i < t.place.toList.length := by
    have h1 : i < L.length := (List.getElem?_eq_some_iff.mp hp).1
    have h2 := R.tab.sz
    rw [List.length_map] at h2
    rw [Array.length_toList]
    omega
  have hj := List.getElem?_eq_getElem hil
  obtain ⟨c, hc, e⟩ := R.tab.before hK hi hj
  exact ⟨c, Nat.zero_le _, hc, by rw [hj, e]⟩
theorem tab_plain {t : SetTable} {hs : List Int} (T : TabOk t hs) (b : Bool) : TabOk { t with plain := b } hs := ⟨T.ris, T.dm, T.sz, T.mok, T.bd, T.reach⟩
theorem isM_same {h h' : Heap} {k : List Key} {a b : Addr} {o : Obj} {es : Array (Int × Value)} {ep : Nat} {t : SetTable} (hb : IsM P w h k b) (ho : h.get? a = some o) (hd : o.data = .set es ep t) (hs : Heap.SameBut a h h') : IsM P w h' k b := by
  obtain ⟨o', items, n, ho', hc, hd', hi⟩ := hb
  refine ⟨o', items, n, (hs.2 b fun z => ?_).trans ho', hc, hd', hi⟩
  subst z
  rw [ho] at ho'
  cases ho'
  rw [hd] at hd'
  cases hd'
theorem mrows_put (L : List (Addr × List Key)) (p : Nat) (x : Addr) (k : List Key) : mrows P w (L.take p ++ (x, k) :: L.drop p) = (mrows P w L).take p ++ (mhash P w k, Value.ref x) :: (mrows P w L).drop p := by
  unfold mrows
  rw [List.map_append, List.map_cons, List.map_take, List.map_drop]
theorem morder (L : List (Addr × List Key)) (es : Array (Int × Value)) (order : Array Nat) (hr : es.toList = mrows P w L) (hp : order.toList.Perm (List.range L.length)) :
    ∃ L2, (order.filterMap (es[·]?)).toList = mrows P w L2 ∧ L2.Perm L ∧ (L2.map fun p => mhash P w p.2) = order.toList.map fun i => (es.map (·.1)).getD i 0 := by
  have ent : ∀ i (h : i < L.length), es[i]? = some (mhash P w (L[i]).2, Value.ref (L[i]).1) := fun i h => by
    rw [← Array.getElem?_toList, hr]
    unfold mrows
    rw [List.getElem?_map, List.getElem?_eq_getElem h]; rfl
  have key : ∀ l : List Nat, (∀ i ∈ l, i < L.length) → l.filterMap (fun i => es[i]?) = mrows P w (l.filterMap fun i => L[i]?) ∧ ((l.filterMap fun i => L[i]?).map fun p => mhash P w p.2) = l.map fun i => (es.map (·.1)).getD i 0 := by
    intro l
    induction l with
    | nil => intro _; exact ⟨rfl, rfl⟩
    | cons i l ih =>
      intro hl
      have hi := hl i (List.mem_cons_self ..)
      obtain ⟨e1, e3⟩ := ih fun j hj => hl j (List.mem_cons_of_mem _ hj)
      rw [List.filterMap_cons_some (ent i hi), List.filterMap_cons_some (List.getElem?_eq_getElem hi)]
      refine ⟨by rw [e1]; rfl, ?_⟩
      rw [List.map_cons, List.map_cons, e3]
      have e5 : (es.map (·.1))[i]? = some (mhash P w (L[i]).2) := by rw [Array.getElem?_map, ent i hi]; rfl
      have e4 : (es.map (·.1)).getD i 0 = mhash P w (L[i]).2 := by simp [Array.getD_eq_getD_getElem?, e5]
      rw [e4]
  obtain ⟨e1, e3⟩ := key order.toList fun i hi => List.mem_range.mp (hp.mem_iff.mp hi)
  refine ⟨_, by first | (rw [Array.toList_filterMap]; exact e1) | simpa using e1, ?_, e3⟩
  have h2 : (List.range L.length).filterMap (fun i => L[i]?) = L := by
    have key2 : ∀ n, n ≤ L.length → (List.range n).filterMap (fun i => L[i]?) = L.take n := by
      intro n
      induction n with
      | zero => intro _; rfl
      | succ n ih =>
        intro hn
        rw [List.range_succ, List.filterMap_append, ih (Nat.le_of_lt hn), List.take_succ, List.getElem?_eq_getElem hn, List.filterMap_cons_some (List.getElem?_eq_getElem hn)]
        rfl
    rw [key2 L.length (Nat.le_refl _), List.take_length]
  have h1 := hp.filterMap fun i => L[i]?
  rw [h2] at h1
  exact h1
variable {a : Addr} {L : List (Addr × List Key)} {es : Array (Int × Value)} {ep : Nat} {t : SetTable}
theorem mrelay {o : Obj} (ho : s.heap.get? a = some o) (hex : o.ExactSet) (hd : o.data = .set es ep t) (hrows : es.toList = mrows P w L) (hsz : t.place.size = es.size) (hdm : t.dummies = #[]) (hfl : es.size ≤ t.mask)
    (nd : (L.map (·.2)).Nodup) (tup : ∀ p ∈ L, IsM P w s.heap p.2 p.1) (ld : w.params.followText "set-order" = true ∨ t.led = true) (few : L.length < 64) {wanted M : Nat}
    (hw : SetTable.sizeAbove wanted - 1 = M) (hM : MaskOk M) (hw2 : SetTable.sizeAbove wanted ≤ 128) (hn : L.length * 5 < M * 3) {Q : Unit → Shared → Prop}
    (hQ : ∀ h' L' es' ep' t', Heap.SameBut a s.heap h' → SetM P w h' a L' es' ep' t' → L'.Perm L → Q () { s with heap := h' }) : wpAny (model P w) A (setRelay a wanted) Q E s := by
  have hsl : es.size = L.length := by
    have z := congrArg List.length hrows
    unfold mrows at z
    rwa [Array.length_toList, List.length_map] at z
  have hfits : t.fits es.size = true := by
    unfold SetTable.fits SetTable.fill
    rw [hdm, Bool.and_eq_true, beq_iff_eq, decide_eq_true_eq]
    show t.place.size = es.size ∧ t.place.size + 0 ≤ t.mask
    omega
  obtain ⟨t', order, e, hp, T, em, el, ep', ed⟩ := relaid_ok t (hs := es.map (·.1)) (wanted := wanted) hw hM (by rw [Array.size_map, hsl]; omega)
  rw [Array.size_map, hsl] at hp
  obtain ⟨L2, r1, r2, r3⟩ := morder L es order hrows hp
  rw [← r3] at T
  have hs2 : (order.filterMap (es[·]?)).size = es.size := by
    have z := congrArg List.length r1
    unfold mrows at z
    rw [Array.length_toList, List.length_map, r2.length_eq] at z
    rw [z, hsl]
  rw [setRelay_eq]
  refine wpAny_bind (wpAny_setState_of ho hd hfits ?_)
  dsimp only
  refine wp_if_neg (by rw [sizeLine_eq]; omega) ?_
  try refine wpAny_bind (wpAny_pure ?_)
  rw [e]
  dsimp only
  refine wpAny_bind ?_
  refine wp_if_neg (by rw [hs2]; simp) ?_
  try refine wpAny_bind (wpAny_pure ?_)
  refine wpAny_pure ?_
  dsimp only
  refine wpAny_storeSet_of ho hd ?_ (by rw [hs2, hsl, sizeLine_eq]; omega)
  have sb : Heap.SameBut a s.heap (s.heap.update a (Obj.putSet (order.filterMap (es[·]?)) t')) := Heap.SameBut.update ..
  refine hQ _ L2 (order.filterMap (es[·]?)) (ep + 1) t' sb ⟨⟨_, store_at ho hd, ⟨hex.1, hex.2.1, hex.2.2⟩, rfl⟩, r1, T, (r2.map (·.2)).nodup_iff.mpr nd, fun p hpm => isM_same (tup p (r2.mem_iff.mp hpm)) ho hd sb, by rw [el]; exact ld, ?_, by rw [r2.length_eq]; exact few⟩ r2
  rw [r2.length_eq, em]
  exact hn
theorem madd (R : SetM P w s.heap a L es ep t) {x : Addr} {k : List Key} (hx : IsM P w s.heap k x) (hu : A.units < cLine) (hfew : L.length + 1 < 64) {Q : Bool → Shared → Prop}
    (hQ : ∀ b h' L' es' ep' t', Heap.SameBut a s.heap h' → SetM P w h' a L' es' ep' t' → (k ∈ L.map (·.2) → L' = L) → (k ∉ L.map (·.2) → L'.Perm ((x, k) :: L)) → Q b { s with heap := h' }) :
    wpAny (model P w) A (setAddHashed a (.ref x) (mhash P w k)) Q E s := by
  obtain ⟨o, ho, hex, hd⟩ := R.ob
  have hsl := R.size
  have hroom := R.room
  unfold setAddHashed
  refine wpAny_holding ?_
  rw [show (100000 : Nat) = 99999 + 1 from rfl, setAddHashedIn_succ]
  refine wpAny_bind (wpAny_setState_of ho hd R.fits ?_)
  dsimp only
  refine wp_if_neg (by simp [byScan, Value.scannable]) ?_
  try refine wpAny_bind (wpAny_pure ?_)
  refine wpAny_bind (msearch_at R hx hu (fun hm => ?_) fun K hm hK hb => ?_)
  · dsimp only
    exact wpAny_pure (hQ false s.heap L es ep t (Heap.SameBut.refl a s.heap) R (fun _ => rfl) fun z => absurd hm z)
  · dsimp only
    refine wpAny_bind (wpAny_setState_of ho hd R.fits ?_)
    dsimp only
    obtain ⟨q1, q2, q3, q4, q5, q6, q7, q8, q9⟩ := R.tab.put hK hb
    generalize hpt : t.put (way t.mask (mhash P w k) K) = pt at q1 q3 q4 q5 q6 q7 q8 q9 ⊢
    obtain ⟨t1, p⟩ := pt
    dsimp only at q1 q3 q4 q5 q6 q7 q8 q9 ⊢
    subst q1
    suffices H : ∀ t2 : SetTable, (t2.place = t1.place ∧ t2.mask = t1.mask ∧ t2.dummies = t1.dummies ∧ t2.led = t1.led ∧ (t2.tooFull = t1.tooFull) ∧ ∀ hs, TabOk t1 hs → TabOk t2 hs) →
        wpAny (model P w) A (do
          storeSet a (SetTable.insertAt es (SetTable.below t.place (way t.mask (mhash P w k) K)) (mhash P w k, Value.ref x)) t2
          if !false && t2.tooFull then setRelay a (SetTable.grown (es.size + 1))
          return true) Q E s by
      by_cases hp1 : t1.plain = true
      · refine wp_if_pos hp1 (wpAny_bind (hashes_tup hx fun c => ?_))
        refine H _ ?_
        cases c with
        | true => exact ⟨rfl, rfl, rfl, rfl, rfl, fun _ h => h⟩
        | false => exact ⟨rfl, rfl, rfl, rfl, rfl, fun _ h => tab_plain h false⟩
      · refine wp_if_neg hp1 ?_
        first
          | exact H _ ⟨rfl, rfl, rfl, rfl, rfl, fun _ h => h⟩
          | exact wpAny_bind (wpAny_pure (H _ ⟨rfl, rfl, rfl, rfl, rfl, fun _ h => h⟩))
    rintro t2 ⟨s1, s2, s3, s4, s5, s6⟩
    have hin : (SetTable.insertAt es (SetTable.below t.place (way t.mask (mhash P w k) K)) (mhash P w k, Value.ref x)).toList = mrows P w (L.take (SetTable.below t.place (way t.mask (mhash P w k) K)) ++ (x, k) :: L.drop (SetTable.below t.place (way t.mask (mhash P w k) K))) := by
      rw [SetTable.toList_insertAt, mrows_put, R.rows]
    generalize hpp : SetTable.below t.place (way t.mask (mhash P w k) K) = p at q2 q3 hin ⊢
    have pm := put_perm L p (x, k)
    have hlen : (L.take p ++ (x, k) :: L.drop p).length = L.length + 1 := pm.length_eq
    have hhs : (L.take p ++ (x, k) :: L.drop p).map (fun p => mhash P w p.2) = (L.map fun p => mhash P w p.2).take p ++ mhash P w k :: (L.map fun p => mhash P w p.2).drop p := by
      rw [List.map_append, List.map_cons, List.map_take, List.map_drop]
    rw [← hhs] at q3
    have q3' := s6 _ q3
    have nd1 : ((L.take p ++ (x, k) :: L.drop p).map (·.2)).Nodup := by
      refine (pm.map (·.2)).nodup_iff.mpr ?_
      rw [List.map_cons]
      exact List.nodup_cons.mpr ⟨hm, R.nd⟩
    have hes : (SetTable.insertAt es p (mhash P w k, Value.ref x)).size = L.length + 1 := by
      have z := congrArg List.length hin
      unfold mrows at z
      rwa [Array.length_toList, List.length_map, hlen] at z
    generalize SetTable.insertAt es p (mhash P w k, Value.ref x) = es1 at hin hes ⊢
    generalize L.take p ++ (x, k) :: L.drop p = L1 at pm hlen q3 q3' nd1 hin
    refine wpAny_bind (wpAny_storeSet_of ho hd ?_ (by rw [hes, sizeLine_eq]; omega))
    have sb : Heap.SameBut a s.heap (s.heap.update a (Obj.putSet es1 t2)) := Heap.SameBut.update ..
    have ho1 := store_at (es' := es1) (t' := t2) ho hd
    generalize s.heap.update a (Obj.putSet es1 t2) = h1 at sb ho1 ⊢
    have tup1 : ∀ p ∈ L1, IsM P w h1 p.2 p.1 := fun p hp => by
      rcases List.mem_cons.mp (pm.mem_iff.mp hp) with e | hp
      · rw [e]; exact isM_same hx ho hd sb
      · exact isM_same (R.tup p hp) ho hd sb
    have ld1 : w.params.followText "set-order" = true ∨ t2.led = true := by rw [s4, q5]; exact R.led
    by_cases hf : t2.tooFull = true
    · first
        | (refine wpAny_bind ?_; refine wp_if_pos (by simp [hf]) ?_)
        | (refine wp_if_pos (by simp [hf]) ?_; refine wpAny_bind ?_)
      have hfull : (L.length + 1) * 5 ≥ t1.mask * 3 := by
        rw [s5] at hf
        unfold SetTable.tooFull at hf
        rw [decide_eq_true_eq, q9, List.length_map] at hf
        exact hf
      rw [hsl]
      have hsz1 : t2.place.size = es1.size := by
        have z := q3'.sz
        rw [List.length_map, hlen] at z
        rw [z, hes]
      have cases2 : (t.mask = 7 ∧ L.length = 4) ∨ (t.mask = 31 ∧ L.length = 18) := by
        rcases R.tab.mok with e | e | e
        · left; rw [q4, e] at hfull; rw [e] at hroom; exact ⟨e, by omega⟩
        · right; rw [q4, e] at hfull; rw [e] at hroom; exact ⟨e, by omega⟩
        · exfalso; rw [q4, e] at hfull; omega
      have go : ∀ M, SetTable.sizeAbove (SetTable.grown (L.length + 1)) - 1 = M → MaskOk M → SetTable.sizeAbove (SetTable.grown (L.length + 1)) ≤ 128 → (L.length + 1) * 5 < M * 3 →
          wpAny (model P w) A (setRelay a (SetTable.grown (L.length + 1))) (fun _ s' => wpAny (model P w) A (pure true) Q E s') E { s with heap := h1 } := fun M h1' h2' h3' h4' => by
        refine mrelay (s := { s with heap := h1 }) ho1 ⟨hex.1, hex.2.1, hex.2.2⟩ rfl hin hsz1 q3'.dm (by rw [hes, s2, q4]; rcases cases2 with ⟨e, e2⟩ | ⟨e, e2⟩ <;> omega) nd1 tup1 ld1 (by rw [hlen]; exact hfew) h1' h2' h3' (by rw [hlen]; exact h4') ?_
        intro h2 L2 es2 ep2 t3 sb2 R2 pm2
        exact wpAny_pure (hQ true h2 L2 es2 ep2 t3 (sb.trans sb2) R2 (fun z => absurd z hm) fun _ => pm2.trans pm)
      rcases cases2 with ⟨_, e2⟩ | ⟨_, e2⟩
      · exact go 31 (by rw [e2, size_20]) (.inr (.inl rfl)) (by rw [e2, size_20]; decide) (by omega)
      · exact go 127 (by rw [e2, size_76]) (.inr (.inr rfl)) (by rw [e2, size_76]; decide) (by omega)
    · first
        | refine wp_if_neg (by simp [hf]) ?_
        | (refine wpAny_bind ?_; refine wp_if_neg (by simp [hf]) ?_; refine wpAny_pure ?_)
      refine wpAny_pure (hQ true h1 L1 es1 (ep + 1) t2 sb ⟨⟨_, ho1, ⟨hex.1, hex.2.1, hex.2.2⟩, rfl⟩, hin, q3', nd1, tup1, ld1, ?_, by rw [hlen]; exact hfew⟩ (fun z => absurd z hm) fun _ => pm)
      rw [s5] at hf
      unfold SetTable.tooFull at hf
      rw [decide_eq_true_eq, q9, List.length_map] at hf
      rw [hlen, s2]
      omega
end
end Wd

set_option Elab.async false
set_option linter.all false
set_option maxRecDepth 100000
set_option maxHeartbeats 1000000
/-! T2: sets of texts. -/
namespace Wd
open PySem PySem.Spec PyProof.Rows L2
def keyS (e : Int × Value) : Str := match e.2 with | .str k _ => k | _ => Str.empty
def GoodS (w : World) (e : Int × Value) : Prop := ∃ k tk, e.2 = Value.str k tk ∧ e.1 = hashStr w k
/-- the set of texts at a: l its members -/
def SetS (w : World) (h : Heap) (a : Addr) (l : List Str) : Prop :=
  ∃ o es ep t, h.get? a = some o ∧ o.ExactSet ∧ o.data = .set es ep t ∧ (∀ e ∈ es.toList, GoodS w e) ∧ (es.toList.map keyS).Nodup ∧ (es.toList.map keyS).Perm l ∧
    es.size < scanBound ∧ t.fits es.size = true ∧ Ris t.place.toList ∧ (w.params.followText "set-order" = true ∨ t.led = true)
section
variable {P : Program} {w : World} {h h' : Heap} {a : Addr} {l : List Str}
theorem SetS.at (R : SetS w h a l) (k : ∀ o, h.get? a = some o → h'.get? a = some o) : SetS w h' a l := by
  obtain ⟨o, es, ep, t, ho, r⟩ := R
  exact ⟨o, es, ep, t, k o ho, r⟩
theorem SetS.length (R : SetS w h a l) : l.length < scanBound := by
  obtain ⟨o, es, ep, t, ho, hx, hd, g, nd, hm, hb, _⟩ := R
  rw [← hm.length_eq, List.length_map, Array.length_toList]; exact hb
theorem goodS_is {e : Int × Value} (g : GoodS w e) (k : Str) : (strKind P w).is k e.2 = true ↔ keyS e = k := by
  obtain ⟨k0, tk, h1, _⟩ := g
  unfold keyS
  rw [h1]
  show Value.isStrOf k (.str k0 tk) = true ↔ k0 = k
  simp [Value.isStrOf]
theorem goodS_elems {l : List (Int × Value)} (g : ∀ e ∈ l, GoodS w e) : ElemsOf (strKind P w) l := fun e he => by
  obtain ⟨k, tk, h1, h2⟩ := g e he
  exact ⟨⟨k, by rw [h1]; exact strKind_is P w k tk, h2⟩, by rw [h1] <;> rfl⟩
theorem goodS_mem {l : List (Int × Value)} (g : ∀ e ∈ l, GoodS w e) (k : Str) : k ∈ l.map keyS ↔ ∃ e ∈ l, (strKind P w).is k e.2 = true := by
  rw [List.mem_map]
  constructor
  · rintro ⟨e, he, q⟩
    exact ⟨e, he, (goodS_is (P := P) (g e he) k).2 q⟩
  · rintro ⟨e, he, q⟩
    exact ⟨e, he, (goodS_is (P := P) (g e he) k).1 q⟩
end
section
variable {P : Program} {w : World} {A : Around} {E : Value → Shared → Prop} {s : Shared} {a : Addr} {l : List Str}
theorem setS_add_tail {g : Bool → Sem Unit} (hg : ∀ (b : Bool) (s₁ : Shared) (Q' : Unit → Shared → Prop), Q' () s₁ → wpAny (model P w) A (g b) Q' E s₁)
    {o : Obj} {es : Array (Int × Value)} {ep : Nat} {t : SetTable} (ho : s.heap.get? a = some o) (hex : o.ExactSet) (hd : o.data = .set es ep t)
    {es1 : Array (Int × Value)} {t2 : SetTable} {l' : List Str} (g1 : ∀ e ∈ es1.toList, GoodS w e) (nd1 : (es1.toList.map keyS).Nodup) (m1 : (es1.toList.map keyS).Perm l')
    (hb1 : es1.size < scanBound) (hf2 : t2.fits es1.size = true) (hr : Ris t2.place.toList) (hl : w.params.followText "set-order" = true ∨ t2.led = true) {wasDummy : Bool} {R : Option Bool → Shared → Prop}
    (hR : ∀ h', Heap.SameBut a s.heap h' → SetS w h' a l' → R (some true) { s with heap := h' }) :
    wpAny (model P w) A (do
        storeSet a es1 t2
        if (!wasDummy && t2.tooFull) = true then do
            g (relayAll t2 es1 (SetTable.grown es1.size)).2.2
            storeSet a (relayAll t2 es1 (SetTable.grown es1.size)).1 (relayAll t2 es1 (SetTable.grown es1.size)).2.1
            pure (some true)
          else pure (some true)) R E s := by
  refine wpAny_bind (wpAny_storeSet_of ho hd ?_ (fits_of_scanBound hb1))
  have ho1 := store_at (es' := es1) (t' := t2) ho hd
  have sb1 := Heap.SameBut.update s.heap a (Obj.putSet es1 t2)
  split
  · have pm := relayAll_perm t2 es1 (SetTable.grown es1.size)
    have hf3 := relayAll_fits t2 es1 (SetTable.grown es1.size)
    have hr3 := relayAll_ris t2 es1 (SetTable.grown es1.size)
    have hl3 := relayAll_led t2 es1 (SetTable.grown es1.size)
    generalize relayAll t2 es1 (SetTable.grown es1.size) = Z at pm hf3 hr3 hl3 ⊢
    obtain ⟨es2, t3, gave⟩ := Z
    dsimp only at pm hf3 hr3 hl3 ⊢
    have hsz : es2.size = es1.size := by rw [← Array.length_toList, pm.length_eq, Array.length_toList]
    have hb2 : es2.size < scanBound := by rw [hsz]; exact hb1
    refine wpAny_bind (hg _ _ _ ?_)
    refine wpAny_bind (wpAny_storeSet_of ho1 rfl ?_ (fits_of_scanBound hb2))
    have ho2 := store_at (es' := es2) (t' := t3) ho1 rfl
    refine wpAny_pure (hR _ (sb1.trans (Heap.SameBut.update _ a _)) ?_)
    exact ⟨_, es2, _, t3, ho2, hex, rfl, fun e he => g1 e (pm.mem_iff.mp he), (pm.map keyS).nodup_iff.mpr nd1, (pm.map keyS).trans m1, hb2, hf3, hr3,
      hl.imp id fun z => by rw [hl3]; exact z⟩
  · exact wpAny_pure (hR _ sb1 ⟨_, es1, _, t2, ho1, hex, rfl, g1, nd1, m1, hb1, hf2, hr, hl⟩)
theorem setS_add_hashed {k : Str} {tk : Tok} {Q : Bool → Shared → Prop} (R : SetS w s.heap a l) (room : l.length + 1 < scanBound)
    (hQ : ∀ b h', Heap.SameBut a s.heap h' → SetS w h' a (if k ∈ l then l else k :: l) → Q b { s with heap := h' }) :
    wpAny (model P w) A (setAddHashed a (.str k tk) (hashStr w k)) Q E s := by
  obtain ⟨o, es, ep, t, ho, hex, hd, g, nd, hm, hb, hf, hr, hl⟩ := R
  have hkey : (strKind P w).is k (.str k tk) = true := strKind_is P w k tk
  have hsc : (Value.str k tk).scannable = true := rfl
  have hel : ElemsOf (strKind P w) es.toList := goodS_elems g
  have hn : es.size = l.length := by rw [← hm.length_eq, List.length_map, Array.length_toList]
  unfold setAddHashed setAddHashedIn
  refine wpAny_holding (wpAny_bind (wpAny_setState_of ho hd hf ?_))
  dsimp only
  rw [byScan_of hsc hb hel]
  simp only [↓reduceIte]
  unfold setAddByScan
  refine wpAny_bind ?_
  refine wpAny_bind (wpAny_rule ?_)
  refine wpAny_bind (wpAny_setScan_of (knd := strKind P w) (k := k) hkey ho hd hf hel ?_)
  cases hfi : List.findIdx? (fun e => (strKind P w).is k e.2) es.toList with
  | some j =>
    dsimp only
    obtain ⟨hj, pj, _⟩ := List.findIdx?_eq_some_iff_getElem.mp hfi
    have hk : k ∈ l := hm.mem_iff.mp ((goodS_mem (P := P) g k).2 ⟨es.toList[j], List.getElem_mem hj, pj⟩)
    refine wpAny_pure (wpAny_pure ?_)
    exact hQ false s.heap (Heap.SameBut.refl a s.heap) ⟨o, es, ep, t, ho, hex, hd, g, nd, by rw [if_pos hk]; exact hm, hb, hf, hr, hl⟩
  | none =>
    dsimp only
    have hnk : k ∉ es.toList.map keyS := fun z => by
      obtain ⟨e, he, q⟩ := (goodS_mem (P := P) g k).1 z
      have c := List.findIdx?_eq_none_iff.mp hfi e he
      rw [q] at c
      cases c
    have hnl : k ∉ l := fun z => hnk (hm.mem_iff.mpr z)
    have hgw : ∀ (b : Bool) {s₁ : Shared} {Q' : Unit → Shared → Prop}, Q' () s₁ → wpAny (model P w) A (match b with | true => rule "set.scan.the-table-gave-way" | false => pure ()) Q' E s₁ :=
      fun b s₁ Q' q => by cases b <;> first | exact wpAny_pure q | exact wpAny_rule q
    have pm := layNew_perm t es (hashStr w k) (.str k tk)
    have hf1 := layNew_fits t es (hashStr w k) (.str k tk)
    have hr1 := layNew_ris t es (hashStr w k) (.str k tk) hr
    have hl1 := layNew_led t es (hashStr w k) (.str k tk)
    generalize layNew t es (hashStr w k) (.str k tk) = Z at pm hf1 hr1 hl1 ⊢
    obtain ⟨es1, t1, wasDummy, gave⟩ := Z
    dsimp only at pm hf1 hr1 hl1 ⊢
    rw [Array.toList_push] at pm
    have pc : es1.toList.Perm ((hashStr w k, Value.str k tk) :: es.toList) := pm.trans (List.perm_append_singleton _ _)
    have pk : (es1.toList.map keyS).Perm (k :: es.toList.map keyS) := pc.map keyS
    have g1 : ∀ e ∈ es1.toList, GoodS w e := fun e he => by
      rcases List.mem_cons.mp (pc.mem_iff.mp he) with z | z
      · rw [z]; exact ⟨k, tk, rfl, rfl⟩
      · exact g e z
    have nd1 : (es1.toList.map keyS).Nodup := pk.nodup_iff.mpr (List.nodup_cons.mpr ⟨hnk, nd⟩)
    have m1 : (es1.toList.map keyS).Perm (k :: l) := pk.trans (hm.cons k)
    have hsz : es1.size = l.length + 1 := by rw [← Array.length_toList, pc.length_eq, List.length_cons, Array.length_toList, hn]
    have hb1 : es1.size < scanBound := by rw [hsz]; exact room
    have hled : w.params.followText "set-order" = true ∨ t1.led = true := hl.imp id fun z => by rw [hl1]; exact z
    have fin : ∀ h', Heap.SameBut a s.heap h' → SetS w h' a (k :: l) → Q true { s with heap := h' } := fun h' sb r => hQ true h' sb (by rw [if_neg hnl]; exact r)
    refine wpAny_bind (hgw _ ?_)
    split
    · refine wpAny_bind ?_
      rw [hashByValue_scannable 8 hsc]
      refine wpAny_pure ?_
      refine setS_add_tail ?_ ho hex hd g1 nd1 m1 hb1 ?_ ?_ ?_ ?_
      · intro b s₁ Q' q; cases b <;> first | exact wpAny_pure q | exact wpAny_rule q
      · first | (split <;> first | exact hf1 | exact SetTable.fits_plain_off hf1) | exact hf1
      · first | (split <;> exact hr1) | exact hr1
      · first | (split <;> exact hled) | exact hled
      · intro h' sb r; dsimp only; exact wpAny_pure (fin h' sb r)
    · refine wpAny_bind (wpAny_pure ?_)
      simp only [↓reduceIte]
      refine setS_add_tail ?_ ho hex hd g1 nd1 m1 hb1 hf1 hr1 hled ?_
      · intro b s₁ Q' q; cases b <;> first | exact wpAny_pure q | exact wpAny_rule q
      · intro h' sb r; dsimp only; exact wpAny_pure (fin h' sb r)
theorem setS_fresh {h : Heap} {a : Addr} (ho : h.get? a = some { cls := .type "set", dict := none, data := .set #[] 0 (.fresh 0 0 (!w.params.followText "set-order")) }) : SetS w h a [] := by
  refine ⟨_, #[], 0, _, ho, ⟨rfl, rfl, rfl⟩, rfl, fun e he => by simp at he, List.nodup_nil, List.Perm.refl _, by unfold scanBound; simp, rfl, List.Pairwise.nil, ?_⟩
  show _ ∨ (!w.params.followText "set-order") = true
  cases w.params.followText "set-order"
  · exact .inr rfl
  · exact .inl rfl
/-! ### set(list), by an invariant -/
theorem upd_loop {I : Addr} {fp wr : List Addr} {G : Array GenState → Array GenState → Prop} {n : Nat} {Pv : Nat → Value → Prop} {St : Nat → Shared → Prop} {R : Result → Shared → Prop}
    (W : WalksS P w A.in1 I fp wr G n Pv St) (S : Addr) (hSf : S ∉ fp) (J : Nat → Heap → Prop)
    (keep : ∀ i h h', J i h → (∀ b o, b ∉ wr → h.get? b = some o → h'.get? b = some o) → J i h')
    (step : ∀ (i : Nat) (v : Value) (s : Shared) (E : Value → Shared → Prop) (Q : Bool → Shared → Prop), i < n → Pv i v → J i s.heap → (∀ b h' tk, Heap.SameBut S s.heap h' → s.toks ≤ tk → J (i + 1) h' → Q b { s with heap := h', toks := tk }) → wpAny (model P w) A.in1 (setAdd S v) Q E s) :
    ∀ (k i : Nat) (s : Shared), n - i = k → i ≤ n → St i s → J i s.heap → (∀ s', Moved (S :: wr) G s s' → J n s'.heap → R (.ok (.ret .none)) s') →
      codeAny (model P w) A (.builtin "set.update.loop" ⟨[.ref S, .ref I], []⟩) R s := by
  have hSw : S ∉ wr := fun h => hSf (W.sub _ h)
  have hsub : ∀ b ∈ wr, b ∈ S :: wr := fun b hb => List.mem_cons_of_mem _ hb
  intro k
  induction k with
  | zero =>
    intro i s hk' hi hst hJ hR
    have hin : i = n := by omega
    subst hin
    refine codeAny_builtin F.entry_set_update_loop ?_
    rw [Around.under_plainId F.plain_set_update_loop _]
    show wpAny _ A.in1 (pyNext (.ref I) >>= _) _ _ s
    refine wpAny_bind (W.done s _ _ hst fun s' hm => ?_)
    show wpAny _ A.in1 (ret Value.none) _ _ s'
    exact wpAny_pure (hR s' (hm.mono hsub) (keep _ _ _ hJ fun b o hb e => hm.heap b o hb e))
  | succ k ih =>
    intro i s hk' hi hst hJ hR
    have hlt : i < n := by omega
    refine codeAny_builtin F.entry_set_update_loop ?_
    rw [Around.under_plainId F.plain_set_update_loop _]
    show wpAny _ A.in1 (pyNext (.ref I) >>= _) _ _ s
    refine wpAny_bind (W.item i s _ _ hlt hst fun v s' hP hst' hm => ?_)
    show wpAny _ A.in1 (holding [v] (setAdd S v) >>= _) _ _ s'
    refine wpAny_bind (wpAny_holding ?_)
    refine step i v s' _ _ hlt hP (keep _ _ _ hJ fun b o hb e => hm.heap b o hb e) fun b h' tk hsb htk hJ' => ?_
    refine wpAny_pure ⟨plainId_quiet F.plain_set_update_loop _, ih (i + 1) _ (by omega) hlt (W.frame _ s' _ _ hst' htk fun b hb o e => ?_) hJ' fun s'' hm'' hJ'' => ?_⟩
    · rw [hsb.2 b (fun h : b = S => hSf (by rw [← h]; exact hb))]; exact e
    · refine hR s'' (Moved.trans W.gtrans ((hm.mono hsub).then_heap htk fun b o hb e => ?_) hm'') hJ''
      rw [hsb.2 b (fun h : b = S => hb (by rw [h]; exact List.mem_cons_self))]; exact e
set_option maxHeartbeats 3200000 in
theorem call_set_by {l : Addr} {items : Array Value} (J : Nat → Heap → Prop) {Q : Value → Shared → Prop} (hh : A.handled = none) (hl : s.heap.IsList l items)
    (keep : ∀ i h h', J i h → (∀ b o, b ≤ s.heap.objs.size → h.get? b = some o → h'.get? b = some o) → J i h')
    (h0 : ∀ h, (∀ b o, s.heap.get? b = some o → h.get? b = some o) → h.get? s.heap.objs.size = some { cls := .type "set", dict := none, data := .set #[] 0 (.fresh 0 0 (!w.params.followText "set-order")) } → J 0 h)
    (old : ∀ i h, J i h → ∀ b o, s.heap.get? b = some o → h.get? b = some o)
    (step : ∀ (i : Nat) (v : Value) (s1 : Shared) (E : Value → Shared → Prop) (Q : Bool → Shared → Prop) (A1 : Around), A1.units ≤ A.units + 3 → items[i]? = some v → J i s1.heap → (∀ b h' tk, Heap.SameBut s.heap.objs.size s1.heap h' → s1.toks ≤ tk → J (i + 1) h' → Q b { s1 with heap := h', toks := tk }) → wpAny (model P w) A1 (setAdd s.heap.objs.size v) Q E s1)
    (h : ∀ (h' : Heap) (tk : Nat), J items.size h' → Q (.ref s.heap.objs.size) { s with heap := h', toks := tk }) :
    wpAny (model P w) A (call (.type "set") [.ref l]) Q E s := by
  obtain ⟨c, tl, hmro⟩ := F.called_set.mro
  have hmade := F.called_set.made
  have hsub := F.called_set.sub
  refine wpAny_call (codeAny_of_tree ?_)
  show wpAny _ _ (callAny (.type "set") _) _ _ _
  refine wpAny_pure ⟨Code.quiet_builtin _ (by decide +kernel), codeAny_builtin F.entry_type_call ?_⟩
  rw [Around.under_plain (weight_type_call_type "set" [.ref l] []) rfl]
  have h1 := F.called_set.notType
  have h2 := F.called_set.canCreate
  have hct := F.typeCall_set_1 (.ref l)
  repeat (any_goals (first | assumption | wp_step))

  refine codeAny_mono (code_set_led1 (.ref l) (E := E) (Q₁ := fun obj s₁ => obj = .ref s.heap.objs.size ∧ s₁ = { s with heap := s.heap.push { cls := .type "set", dict := none, data := .set #[] 0 (.fresh 0 0 (!w.params.followText "set-order")) } }) ⟨rfl, rfl⟩) fun r s₁ hr => ?_
  cases r with
  | error e => exact hr
  | ok fl =>
    cases fl with
    | ret obj =>
      obtain ⟨rfl, rfl⟩ := hr
      have hS : (s.heap.push { cls := .type "set", dict := none, data := .set #[] 0 (.fresh 0 0 (!w.params.followText "set-order")) }).get? s.heap.objs.size = some { cls := .type "set", dict := none, data := .set #[] 0 (.fresh 0 0 (!w.params.followText "set-order")) } := Heap.get?_push_size _ rfl
      have hT : Shared.TypeIs { s with heap := s.heap.push { cls := .type "set", dict := none, data := .set #[] 0 (.fresh 0 0 (!w.params.followText "set-order")) } } (.ref s.heap.objs.size) "set" := ⟨_, hS, rfl⟩
      have hli := F.called_set.init.lookup
      have hbi := F.called_set.init.bind (.ref s.heap.objs.size)
      repeat (any_goals (first | assumption | wp_step))

      refine codeAny_mono (codeAny_call_builtin (R := wants (fun r s₂ => r = .none ∧ ∃ h' tk, s₂ = { s with heap := h', toks := tk } ∧ J items.size h') E) F.called_set.init.plain F.entry_set_init (check_set_init_1 hT ?_)) fun r₂ s₂ hr₂ => ?_
      · obtain ⟨ol, hol, hcl, nl, hdl⟩ := hl
        obtain ⟨ocls, odict, odata, oslots⟩ := ol
        simp only at hcl hdl
        subst hcl; subst hdl
        have hol' : (s.heap.push { cls := .type "set", dict := none, data := .set #[] 0 (.fresh 0 0 (!w.params.followText "set-order")) }).get? l = some { cls := .type "list", dict := odict, data := .seq items nl, slots := oslots } := Heap.get?_push_of_some _ hol
        have hsls := F.sub_list_set
        have hslf := F.sub_list_frozenset
        have hne : (Value.type "list" == Value.type "dict") = false := by decide
        have hl1 : (s.heap.push { cls := .type "set", dict := none, data := .set #[] 0 (.fresh 0 0 (!w.params.followText "set-order")) }).IsList l items := ⟨_, hol', rfl, nl, rfl⟩
        unfold Builtin.«set.__init__» noKeywords Builtin.Frozenset.updateFrom
        generalize hPI : pyIter = PI
        wp_walk
        subst hPI

        refine wpAny_pyIter_list hl1 ?_
        refine wpAny_bind (wpAny_runValue ?_)
        have hlS : l < s.heap.objs.size := Heap.lt_size hol
        have hh3 : A.in1.in1.in1.handled = none := by simp [hh]
        have hneI : l ≠ (s.heap.push { cls := .type "set", dict := none, data := .set #[] 0 (.fresh 0 0 (!w.params.followText "set-order")) }).objs.size := by
          rw [Heap.size_push]; exact Nat.ne_of_lt (Nat.lt_succ_of_lt hlS)
        have hSf : s.heap.objs.size ∉ [(s.heap.push { cls := .type "set", dict := none, data := .set #[] 0 (.fresh 0 0 (!w.params.followText "set-order")) }).objs.size, l] := by
          rw [Heap.size_push]; simp only [List.mem_cons, List.mem_singleton, List.not_mem_nil, or_false, not_or]
          exact ⟨Nat.ne_of_lt (Nat.lt_succ_self _), Nat.ne_of_gt hlS⟩
        refine upd_loop ((Walks.list hh3 _ l hneI items).toS) s.heap.objs.size hSf J (fun i h h' j k => keep i h h' j fun b o hb e => k b o (fun hm => by
            rw [List.mem_singleton.mp hm, Heap.size_push] at hb
            omega) e)
          (fun i v s1 E' Q' hi hP j k => step i v s1 E' Q' _ (Nat.le_refl _) hP j k) (items.size - 0) 0 _ (by omega) (Nat.zero_le _)
          ⟨⟨_, Heap.get?_push_size _ rfl, rfl, rfl⟩, (hl1.push _)⟩ ?hS0 ?hR
        case hS0 =>
          have hget : ((s.heap.push { cls := .type "set", dict := none, data := .set #[] 0 (.fresh 0 0 (!w.params.followText "set-order")) }).push { cls := .type "list_iterator", data := .fields #[.ref l, .int 0 0] }).get? s.heap.objs.size
              = some { cls := .type "set", dict := none, data := .set #[] 0 (.fresh 0 0 (!w.params.followText "set-order")) } := Heap.get?_push_of_some _ hS
          exact h0 _ (fun b o e => Heap.get?_push_of_some _ (Heap.get?_push_of_some _ e)) hget
        case hR =>
          intro s' hm hJ
          obtain ⟨h', g2, d', tk', os'⟩ := s'
          have eg : g2 = s.gens := hm.gens
          have ed : d' = s.drawn := hm.drawn
          have eo : os' = s.os := hm.os
          subst eg; subst ed; subst eo
          show wpAny _ _ _ _ _ _
          refine wpAny_pure ?_
          show wpAny _ _ (ret Value.none) _ _ _
          exact wpAny_pure ⟨rfl, h', tk', rfl, hJ⟩

      · cases r₂ with
        | error e => exact hr₂
        | ok fl₂ =>
          cases fl₂ with
          | ret r =>
            obtain ⟨rfl, h', tk, rfl, hJ⟩ := hr₂
            repeat (any_goals (first | assumption | wp_step))
            exact h _ _ hJ
          | _ => exact hr₂.elim
    | _ => exact hr.elim
end
end Wd

set_option Elab.async false
set_option linter.all false
set_option maxRecDepth 100000
set_option maxHeartbeats 1000000
/-! T3: sorted(set(l)) for lists of texts and of tuples of texts and numbers. -/
namespace Wd
open PySem PySem.Spec PyProof.Rows L2 PySem.Calls PySem.W
section
variable {P : Program} {w : World} {A : Around} {E : Value → Shared → Prop} {s : Shared}
structure GotM (ks : List (Addr × List Key)) (i : Nat) (L : List (Addr × List Key)) : Prop where
  sub : ∀ p ∈ L, p ∈ ks.take i
  all : ∀ p ∈ ks.take i, p.2 ∈ L.map (·.2)
  len : L.length ≤ i
theorem GotM.zero (ks : List (Addr × List Key)) : GotM ks 0 [] := ⟨fun p h => (by cases h), fun p h => (by simp at h), Nat.le_refl _⟩
theorem GotM.same {ks L : List (Addr × List Key)} {i : Nat} {x : Addr × List Key} (g : GotM ks i L) (h : ks[i]? = some x) (hm : x.2 ∈ L.map (·.2)) : GotM ks (i + 1) L := by
  refine ⟨fun p hp => ?_, fun p hp => ?_, Nat.le_succ_of_le g.len⟩
  · rw [take_next h]
    exact List.mem_append_left _ (g.sub p hp)
  · rw [take_next h] at hp
    rcases List.mem_append.mp hp with z | z
    · exact g.all p z
    · rw [List.mem_singleton.mp z]; exact hm
theorem GotM.more {ks L L' : List (Addr × List Key)} {i : Nat} {x : Addr × List Key} (g : GotM ks i L) (h : ks[i]? = some x) (pm : L'.Perm (x :: L)) : GotM ks (i + 1) L' := by
  refine ⟨fun p hp => ?_, fun p hp => ?_, ?_⟩
  · rw [take_next h]
    rcases List.mem_cons.mp (pm.mem_iff.mp hp) with e | z
    · rw [e]; exact List.mem_append_right _ (List.mem_singleton.mpr rfl)
    · exact List.mem_append_left _ (g.sub p z)
  · rw [(pm.map (·.2)).mem_iff, List.map_cons]
    rw [take_next h] at hp
    rcases List.mem_append.mp hp with z | z
    · exact List.mem_cons_of_mem _ (g.all p z)
    · rw [List.mem_singleton.mp z]; exact List.mem_cons_self
  · rw [pm.length_eq, List.length_cons]
    exact Nat.succ_le_succ g.len
theorem isM_keep {h h' : Heap} {k : List Key} {b : Addr} (x : IsM P w h k b) (hk : ∀ o, h.get? b = some o → h'.get? b = some o) : IsM P w h' k b := by
  obtain ⟨o, items, n, ho, r⟩ := x
  exact ⟨o, items, n, hk o ho, r⟩
theorem isM_lt {h : Heap} {k : List Key} {b : Addr} (x : IsM P w h k b) : b < h.objs.size := by
  obtain ⟨o, items, n, ho, r⟩ := x
  exact Heap.lt_size ho
theorem SetM.keep {h h' : Heap} {a : Addr} {L : List (Addr × List Key)} {es : Array (Int × Value)} {ep : Nat} {t : SetTable} (R : SetM P w h a L es ep t) (ha : ∀ o, h.get? a = some o → h'.get? a = some o) (ht : ∀ p ∈ L, IsM P w h' p.2 p.1) : SetM P w h' a L es ep t := by
  obtain ⟨o, ho, r⟩ := R.ob
  exact ⟨⟨o, ha o ho, r⟩, R.rows, R.tab, R.nd, ht, R.led, R.room, R.few⟩
theorem setM_fresh {h : Heap} {a : Addr} (ho : h.get? a = some { cls := .type "set", dict := none, data := .set #[] 0 (.fresh 0 0 (!w.params.followText "set-order")) }) : SetM P w h a [] #[] 0 (.fresh 0 0 (!w.params.followText "set-order")) where
  ob := ⟨_, ho, ⟨rfl, rfl, rfl⟩, rfl⟩
  rows := rfl
  tab := ⟨List.Pairwise.nil, rfl, rfl, .inl rfl, fun x hx => (by cases hx), fun i h j hi => (by simp at hi)⟩
  nd := List.nodup_nil
  tup := fun p hp => (by cases hp)
  led := by
    show _ ∨ (!w.params.followText "set-order") = true
    cases w.params.followText "set-order"
    · exact .inr rfl
    · exact .inl rfl
  room := by
    show 0 * 5 < 7 * 3
    decide
  few := by
    show 0 < 64
    decide
/-- set(list of tuples) -/
theorem set_tups {l : Addr} {items : Array Value} (ks : List (Addr × List Key)) {Q : Value → Shared → Prop} (hh : A.handled = none) (hl : s.heap.IsList l items) (hit : items.toList = ks.map fun p => Value.ref p.1)
    (hk : ∀ p ∈ ks, IsM P w s.heap p.2 p.1) (hfew : ks.length < 64) (hu : A.units + 10 < cLine)
    (h : ∀ (h' : Heap) (tk : Nat) L es ep t, SetM P w h' s.heap.objs.size L es ep t → GotM ks ks.length L → (∀ b o, s.heap.get? b = some o → h'.get? b = some o) → Q (.ref s.heap.objs.size) { s with heap := h', toks := tk }) :
    wpAny (model P w) A (call (.type "set") [.ref l]) Q E s := by
  have hisz : items.size = ks.length := by
    have q := congrArg List.length hit
    rw [Array.length_toList, List.length_map] at q
    exact q
  have none_of : s.heap.get? s.heap.objs.size = none := by
    cases q : s.heap.get? s.heap.objs.size with
    | none => rfl
    | some o => exact absurd (Heap.lt_size q) (Nat.lt_irrefl _)
  refine call_set_by (fun i h => (∀ b o, s.heap.get? b = some o → h.get? b = some o) ∧ ∃ L es ep t, SetM P w h s.heap.objs.size L es ep t ∧ GotM ks i L) hh hl ?_ ?_ (fun i h j => j.1) ?_ ?_
  · rintro i h1 h2 ⟨j1, L, es, ep, t, R, g⟩ k
    have j2 : ∀ b o, s.heap.get? b = some o → h2.get? b = some o := fun b o e => k b o (Nat.le_of_lt (Heap.lt_size e)) (j1 b o e)
    exact ⟨j2, L, es, ep, t, R.keep (fun o e => k _ o (Nat.le_refl _) e) fun p hp => isM_keep (hk p (List.mem_of_mem_take (g.sub p hp))) fun o e => j2 _ o e, g⟩
  · intro h1 k e
    exact ⟨k, [], #[], 0, _, setM_fresh e, GotM.zero ks⟩
  · rintro i v s1 E1 Q1 A1 hA hv ⟨j1, L, es, ep, t, R, g⟩ q
    have q' : items.toList[i]? = some v := by rw [Array.getElem?_toList]; exact hv
    rw [hit, List.getElem?_map] at q'
    cases hp : ks[i]? with
    | none => rw [hp] at q'; cases q'
    | some p =>
      rw [hp] at q'
      obtain rfl : Value.ref p.1 = v := Option.some.inj q'
      have hx : IsM P w s1.heap p.2 p.1 := isM_keep (hk p (List.mem_of_getElem? hp)) fun o e => j1 _ o e
      have hil : i < ks.length := (List.getElem?_eq_some_iff.mp hp).1
      unfold setAdd
      refine wpAny_holding ?_
      refine wpAny_bind (wpAny_pyHash_tuple (by omega) hx ?_)
      refine madd (s := { s1 with toks := s1.toks + (p.2.length + 1) }) R hx (by omega) (by have := g.len; omega) fun b h' L' es' ep' t' hsb hS2 c1 c2 => ?_
      refine q b h' _ hsb (Nat.le_add_right _ _) ⟨fun b o e => (hsb.2 b (fun z => by rw [z, none_of] at e; cases e)).trans (j1 b o e), L', es', ep', t', hS2, ?_⟩
      rcases Classical.em (p.2 ∈ L.map (·.2)) with c | c
      · rw [c1 c]; exact g.same hp c
      · exact g.more hp (c2 c)
  · rintro h' tk ⟨j1, L, es, ep, t, R, g⟩
    rw [hisz] at g
    exact h h' tk L es ep t R g j1
theorem take_strs {ks : List Str} {i : Nat} {k : Str} (e : ks[i]? = some k) (x : Str) : x ∈ ks.take (i + 1) ↔ x = k ∨ x ∈ ks.take i := by
  rw [take_next e, List.mem_append, List.mem_singleton]
  exact Or.comm
/-- set(list of texts) -/
theorem set_strs {l : Addr} {items : Array Value} (ks : List Str) {Q : Value → Shared → Prop} (hh : A.handled = none) (hl : s.heap.IsList l items) (hit : StrsAre items.toList ks) (hfew : ks.length + 1 < scanBound)
    (h : ∀ (h' : Heap) (tk : Nat) (l' : List Str), SetS w h' s.heap.objs.size l' → l'.Nodup → (∀ k, k ∈ l' ↔ k ∈ ks) → l'.length ≤ ks.length → (∀ b o, s.heap.get? b = some o → h'.get? b = some o) → Q (.ref s.heap.objs.size) { s with heap := h', toks := tk }) :
    wpAny (model P w) A (call (.type "set") [.ref l]) Q E s := by
  have hisz : items.size = ks.length := by rw [← StrsAre.len_eq hit, Array.length_toList]
  have none_of : s.heap.get? s.heap.objs.size = none := by
    cases q : s.heap.get? s.heap.objs.size with
    | none => rfl
    | some o => exact absurd (Heap.lt_size q) (Nat.lt_irrefl _)
  refine call_set_by (fun i h => (∀ b o, s.heap.get? b = some o → h.get? b = some o) ∧ ∃ l', SetS w h s.heap.objs.size l' ∧ l'.Nodup ∧ (∀ k, k ∈ l' ↔ k ∈ ks.take i) ∧ l'.length ≤ i) hh hl ?_ ?_ (fun i h j => j.1) ?_ ?_
  · rintro i h1 h2 ⟨j1, l', R, r⟩ k
    exact ⟨fun b o e => k b o (Nat.le_of_lt (Heap.lt_size e)) (j1 b o e), l', R.at (fun o e => k _ o (Nat.le_refl _) e), r⟩
  · intro h1 k e
    exact ⟨k, [], setS_fresh e, List.nodup_nil, fun k => by simp, Nat.le_refl _⟩
  · rintro i v s1 E1 Q1 A1 hA hv ⟨j1, l', R, nd, hm, hlen⟩ q
    obtain ⟨u, rfl⟩ := SS.strs_at hit i v (by rw [Array.getElem?_toList]; exact hv)
    have hil : i < ks.length := by
      have := (Array.getElem?_eq_some_iff.mp hv).1
      omega
    have hk : ks[i]? = some (ks.getD i Str.empty) := by
      rw [List.getD_eq_getElem?_getD, List.getElem?_eq_getElem hil]; rfl
    unfold setAdd
    refine wpAny_holding ?_
    refine wpAny_bind ((strKind P w).pyHash (k := ks.getD i Str.empty) (strKind_is _ _ _ _) ?_)
    refine setS_add_hashed (s := { s1 with toks := s1.toks + 1 }) R (by omega) fun b h' hsb R' => ?_
    refine q b h' _ hsb (Nat.le_add_right _ _) ⟨fun b o e => (hsb.2 b (fun z => by rw [z, none_of] at e; cases e)).trans (j1 b o e), _, R', ?_, fun x => ?_, ?_⟩
    · split
      · exact nd
      · exact List.nodup_cons.mpr ⟨by assumption, nd⟩
    · rw [take_strs hk]
      split
      · rename_i c
        exact ⟨fun z => .inr ((hm x).mp z), fun z => z.elim (fun z => by rw [z]; exact c) fun z => (hm x).mpr z⟩
      · rw [List.mem_cons, hm x]
    · split
      · omega
      · simp; omega
  · rintro h' tk ⟨j1, l', R, nd, hm, hlen⟩
    rw [hisz] at hm hlen
    exact h h' tk l' R nd (fun k => by rw [hm k, List.take_length]) hlen j1
end
section
variable {X : Cx} {pins : List (Addr × Obj)} {σ : L2.St} {H : Hp} {s : Shared} {Q : VK}
theorem inv_move {s1 : Shared} (I : Inv X pins σ H s) (k : ∀ b o, s.heap.get? b = some o → s1.heap.get? b = some o) (g : s1.gens = s.gens) (o : s1.os = s.os) : Inv X pins σ H s1 := by
  have J := I.kept (h' := s1.heap) (t' := s1.toks) k
  exact ⟨J.ok, o.trans J.os, by rw [g]; exact J.bare, J.base, J.loc, J.cell, J.free, J.freeC, J.pin, J.hok, J.len⟩
def SetArg (H1 : Hp) (xs : List V) (F : List V → Prop) : Prop :=
  (∃ ks : List Str, xs = ks.map V.str ∧ ks.length < 4000 ∧ ∀ l : List Str, l.Nodup → (∀ k, k ∈ l ↔ k ∈ ks) → F (l.map V.str)) ∨
  (∃ ks : List (Addr × List Key), xs = ks.map (fun p => V.ref p.1) ∧ ks.length < 64 ∧ (∀ p ∈ ks, Rd H1 p.1 (.tup (p.2.map kV))) ∧ ∀ L : List (Addr × List Key), (∀ p ∈ L, p ∈ ks) → (L.map (·.2)).Nodup → (∀ p ∈ ks, p.2 ∈ L.map (·.2)) → F (L.map fun p => V.ref p.1))
def tSortSet (K : PySem.W.Frag) (te : TE) : TE := fun σ H Q => te σ H fun x H1 => ∃ (a : Addr) (xs : List V), x = .ref a ∧ SqL K H1 a xs ∧ SetArg H1 xs fun vs => ∃ ps : List (V × PyData), ps.map (·.1) = vs ∧ DpL K H1 ps ∧ CanSort (ps.map (·.2)) ∧ ∀ p, H1 p = none → Q (.ref p) (upd H1 p (.lst ((srtP ps).map (·.1))))
theorem vals_strs : ∀ {ks : List Str} {us : List Value}, Vals (ks.map V.str) us → StrsAre us ks
  | [], _, r => by cases r; exact .nil
  | k :: ks, _, r => by
    rw [List.map_cons] at r
    cases r with
    | cons r rr =>
      obtain ⟨t, rfl⟩ := r
      exact .cons k t (vals_strs rr)
theorem strs_vals {us : List Value} {ks : List Str} (r : StrsAre us ks) : Vals (ks.map V.str) us := by
  induction r with
  | nil => exact .nil
  | cons k t _ ih => exact .cons ⟨t, rfl⟩ ih
theorem kv_items {P : Program} {w : World} : ∀ {ks : List Key} {us : List Value}, Vals (ks.map kV) us → ItemsAre (mixKind P w) ks us
  | [], _, r => by cases r; exact .nil
  | k :: ks, _, r => by
    rw [List.map_cons] at r
    cases r with
    | cons r rr =>
      refine .cons ?_ (kv_items rr)
      cases k with
      | inl i => obtain ⟨t, rfl⟩ := r; exact mixKind_int ..
      | inr x => obtain ⟨t, rfl⟩ := r; exact mixKind_str ..
theorem vals_refs_inv : ∀ {as : List Addr} {us : List Value}, Vals (as.map V.ref) us → us = as.map Value.ref
  | [], _, r => by cases r; rfl
  | a :: as, _, r => by
    rw [List.map_cons] at r
    cases r with
    | cons r rr =>
      rw [vals_refs_inv rr]
      rw [show _ = Value.ref a from r]; rfl
theorem pe_sortSet {e : Expr} {te : TE} {p p2 cpos pos : Pos} (hc : X.calm = true) (hu : X.A.units + 70 < cLine) (he : PE X e te) (hg : Gl X "sorted") (hm : X.mg "sorted" = none) (hg2 : Gl X "set") (hm2 : X.mg "set" = none)
    (hs2 : starEach [e] X.env = (false, eval e X.env) :: starEach [] X.env := by rfl)
    (hs : starEach [.Call (.Name "set" p2) [e] [] cpos] X.env = (false, eval (.Call (.Name "set" p2) [e] [] cpos) X.env) :: starEach [] X.env := by rfl) :
    PE X (.Call (.Name "sorted" p) [.Call (.Name "set" p2) [e] [] cpos] [] pos) (tSortSet X.K te) := by
  refine ⟨fun pins s σ H Q I hq => ?_⟩
  refine wpAny_Call_Name_kw (ld_blt I hg hm bt_sorted ?_ (by decide) (by decide))
  refine PyProof.Rows.callWith_builtin1 ?_ hs rfl
  rw [hs]
  show wpAny _ _ (spliced ((false, eval (.Call (.Name "set" p2) [e] [] cpos) X.env) :: backTo pos (starEach [] X.env))) _ _ s
  refine Calls.spliced_cons ?_
  refine wpAny_Call_Name_kw (ld_blt I hg2 hm2 bt_set ?_ (by decide) (by decide))
  refine PyProof.Rows.callWith_type1 ?_ hs2 rfl
  rw [hs2]
  show wpAny _ _ (spliced ((false, eval e X.env) :: backTo cpos (starEach [] X.env))) _ _ s
  refine Calls.spliced_cons ?_
  refine thn (he.run pins s σ H _ I hq) fun u s1 ⟨x, H1, I1, rx, a, xs, ex, ha, q⟩ => ?_
  subst ex
  obtain rfl : u = Value.ref a := rx
  refine Calls.spliced_nil ?_
  obtain ⟨its, rv, hl, hz⟩ := I1.list ha
  rcases q with ⟨ks, rfl, hlen, q⟩ | ⟨ks, rfl, hlen, hk, q⟩
  · refine set_strs ks (I1.ok.hd hc) hl.isList (by simpa using vals_strs rv) (by unfold scanBound; omega) fun h' tk l' R nd hm' hle kp => ?_
    refine Calls.spliced_nil ?_
    have I2 : Inv X pins σ H1 { s1 with heap := h', toks := tk } := I1.kept kp
    obtain ⟨o, es, ep, t, ho, hex, hd, g, ndk, pk, hb, hf, hr, hld⟩ := R
    refine sorted_from hu (fun E => collect_set (A := X.A.in1) (I1.ok.hd hc) ⟨o, ho, hex.1, hd⟩ hf hb hr hld fun s2 out k2 hz2 g2 o2 pm => ?_) (args_sorted1 _)
    have I3 := inv_move I2 k2 g2 o2
    have key : ∀ (vs : List Value) (es : List (Int × Value)), (∀ e ∈ es, GoodS X.w e) → vs.Perm (es.map (·.2)) → ∃ l'' : List Str, StrsAre vs l'' ∧ l''.Perm (es.map keyS) := by
      intro vs es g pm
      refine ⟨vs.map fun v => match v with | .str k _ => k | _ => Str.empty, ?_, ?_⟩
      · have all : ∀ v ∈ vs, ∃ k u, v = Value.str k u := fun v hv => by
          obtain ⟨e, he, q⟩ := List.mem_map.mp (pm.mem_iff.mp hv)
          obtain ⟨k, tk, h1, _⟩ := g e he
          exact ⟨k, tk, by rw [← q]; exact h1⟩
        clear pm
        induction vs with
        | nil => exact .nil
        | cons v vs ih =>
          obtain ⟨k, u, rfl⟩ := all v (List.mem_cons_self ..)
          exact .cons k u (ih fun v hv => all v (List.mem_cons_of_mem _ hv))
      · have q := pm.map fun v => match v with | Value.str k _ => k | _ => Str.empty
        rw [List.map_map] at q
        exact q
    obtain ⟨l2, r2, p2⟩ := key out es.toList g pm
    have hp2 : l2.Perm l' := p2.trans pk
    obtain ⟨ps, e1, e2, e3, q⟩ := q l2 (hp2.nodup_iff.mpr nd) (fun k => by rw [hp2.mem_iff, hm' k])
    have hps : ps.length = l2.length := by have := congrArg List.length e1; simpa using this
    refine ⟨H1, ps, I3, ?_, e2, e3, ?_, q⟩
    · rw [e1]
      exact strs_vals r2
    · have h1 := hp2.length_eq
      rw [sizeLine_eq]
      omega
  · have hM : ∀ p ∈ ks, IsM X.prog X.w s1.heap p.2 p.1 := fun p hp => by
      obtain ⟨its, rv, ⟨o, ho, hc, n, hd⟩, _⟩ := I1.tuple (.inl (hk p hp))
      exact ⟨o, its.toArray, n, ho, hc, hd, by simpa using kv_items rv⟩
    have hits : its = ks.map fun p => Value.ref p.1 := by
      have e : (ks.map fun p => V.ref p.1) = (ks.map (·.1)).map V.ref := by rw [List.map_map]; rfl
      rw [e] at rv
      rw [vals_refs_inv rv, List.map_map]; rfl
    refine set_tups ks (I1.ok.hd hc) hl.isList (by simpa using hits) hM hlen (by show X.A.units + _ < _; omega) fun h' tk L es ep t R g kp => ?_
    refine Calls.spliced_nil ?_
    have I2 : Inv X pins σ H1 { s1 with heap := h', toks := tk } := I1.kept kp
    obtain ⟨o, ho, hex, hd⟩ := R.ob
    have hsz := R.size
    have hfew := R.few
    refine sorted_from hu (fun E => collect_set (A := X.A.in1) (I1.ok.hd hc) ⟨o, ho, hex.1, hd⟩ R.fits (by unfold scanBound; omega) R.tab.ris R.led fun s2 out k2 hz2 g2 o2 pm => ?_) (args_sorted1 _)
    have I3 := inv_move I2 k2 g2 o2
    have hes : es.toList.map (·.2) = L.map fun q => Value.ref q.1 := by
      rw [R.rows]
      unfold mrows
      rw [List.map_map] <;> rfl
    rw [hes] at pm
    have sub : ∀ p ∈ L, p ∈ ks := fun p hp => List.mem_of_mem_take (g.sub p hp)
    have one : ∀ q ∈ L, ∀ r ∈ L, q.1 = r.1 → q = r := fun q hq r hr e => by
      have a1 := R.tup q hq
      have a2 := R.tup r hr
      rw [e] at a1
      exact Prod.ext e (a1.inj a2)
    have ord : ∀ vs : List Value, (∀ v ∈ vs, ∃ q ∈ L, v = Value.ref q.1) → ∃ L1 : List (Addr × List Key), vs = L1.map (fun q => Value.ref q.1) ∧ ∀ q ∈ L1, q ∈ L := by
      intro vs
      induction vs with
      | nil => intro _; exact ⟨[], rfl, fun q hq => (by cases hq)⟩
      | cons v vs ih =>
        intro hv
        obtain ⟨q, hq, e⟩ := hv v List.mem_cons_self
        obtain ⟨L1, e1, hs⟩ := ih fun u hu => hv u (List.mem_cons_of_mem _ hu)
        refine ⟨q :: L1, by rw [List.map_cons, e, e1], fun r hr => ?_⟩
        rcases List.mem_cons.mp hr with z | z
        · rw [z]; exact hq
        · exact hs r z
    obtain ⟨L1, e1, s1'⟩ := ord out fun v hv => let ⟨q, hq, e⟩ := List.mem_map.mp (pm.mem_iff.mp hv); ⟨q, hq, e.symm⟩
    rw [e1] at pm
    have nL : L.Nodup := nodup_of_map R.nd
    have nref : (L.map fun q => Value.ref q.1).Nodup := by
      refine List.pairwise_map.mpr (List.Pairwise.imp_of_mem (fun {q r} hq hr hne e => ?_) nL)
      injection e with e
      exact hne (one q hq r hr e)
    have n1 : L1.Nodup := nodup_of_map (pm.nodup_iff.mpr nref)
    have hp1 : L1.Perm L := by
      refine (List.perm_ext_iff_of_nodup n1 nL).mpr fun q => ⟨s1' q, fun hq => ?_⟩
      have hm : Value.ref q.1 ∈ L1.map (fun q => Value.ref q.1) := pm.mem_iff.mpr (List.mem_map.mpr ⟨q, hq, rfl⟩)
      obtain ⟨r, hr, e⟩ := List.mem_map.mp hm
      injection e with e
      rw [← one r (s1' r hr) q hq e]
      exact hr
    obtain ⟨ps, f1, e2, e3, q⟩ := q L1 (fun p hp => sub p (s1' p hp)) ((hp1.map (·.2)).nodup_iff.mpr R.nd) (fun p hp => by
      rw [(hp1.map (·.2)).mem_iff]
      exact g.all p (by rw [List.take_length]; exact hp))
    have hps : ps.length = L1.length := by have := congrArg List.length f1; simpa using this
    refine ⟨H1, ps, I3, ?_, e2, e3, ?_, q⟩
    · rw [f1, e1]
      have e : (L1.map fun p => V.ref p.1) = (L1.map (·.1)).map V.ref := by rw [List.map_map]; rfl
      have e' : (L1.map fun p => Value.ref p.1) = (L1.map (·.1)).map Value.ref := by rw [List.map_map]; rfl
      rw [e, e']
      exact L2.vals_refs _
    · have h1 := hp1.length_eq
      rw [sizeLine_eq]
      omega
end
end Wd

set_option Elab.async false
set_option linter.all false
set_option maxRecDepth 100000
set_option maxHeartbeats 1000000
/-! T4: the sorted set, over data. -/
namespace Wd
open PySem L2
/-! ### the order -/
theorem leP_trans (a b c : PyData) (h1 : leP a b = true) (h2 : leP b c = true) : leP a c = true := by
  unfold leP PySem.W.dataLt at *
  rw [Bool.not_eq_true'] at *
  cases h : PyProof.Rows.lexLt PyProof.Rows.itemOrd (PySem.W.keyToks c) (PySem.W.keyToks a) with
  | false => rfl
  | true =>
    rcases PyProof.Rows.lex_negTrans (O := PyProof.Rows.itemOrd) _ (PySem.W.keyToks b) _ h with q | q
    · rw [q] at h2; cases h2
    · rw [q] at h1; cases h1
theorem leP_total (a b : PyData) : (leP a b || leP b a) = true := by
  unfold leP PySem.W.dataLt
  cases h : PyProof.Rows.lexLt PyProof.Rows.itemOrd (PySem.W.keyToks b) (PySem.W.keyToks a) with
  | false => rfl
  | true =>
    cases h2 : PyProof.Rows.lexLt PyProof.Rows.itemOrd (PySem.W.keyToks a) (PySem.W.keyToks b) with
    | false => rfl
    | true =>
      have := PyProof.Rows.lex_trans (O := PyProof.Rows.itemOrd) _ _ _ h h2
      rw [PyProof.Rows.lex_irrefl] at this; cases this
theorem leP_anti (a b : PyData) (h1 : leP a b = true) (h2 : leP b a = true) : PySem.W.keyToks a = PySem.W.keyToks b := by
  unfold leP PySem.W.dataLt at *
  rw [Bool.not_eq_true'] at *
  exact PyProof.Rows.lex_total (O := PyProof.Rows.itemOrd) _ _ h2 h1
/-- a key as a datum -/
def kD : Key → Dt
  | .inl i => .int i
  | .inr x => .str x
def kTok : Key → Int ⊕ List Nat
  | .inl i => .inl i
  | .inr x => .inr x.cps.toList
theorem kTok_inj {a b : Key} (h : kTok a = kTok b) : a = b := by
  cases a with
  | inl i =>
    cases b with
    | inl j => rw [Sum.inl.inj h]
    | inr y => cases h
  | inr x =>
    cases b with
    | inl j => cases h
    | inr y => rw [PySem.W.str_of_cps (Sum.inr.inj h)]
theorem toks_k (k : Key) : PySem.W.keyToks (kD k).pd = [kTok k] := by cases k <;> rfl
theorem toks_ks : ∀ (ks : List Key), PySem.W.keyToksAll (Dt.pds (ks.map kD)) = ks.foldr (fun k r => .inl 1 :: kTok k :: r) [.inl 0]
  | [] => rfl
  | k :: ks => by
    rw [List.map_cons, List.foldr_cons, ← toks_ks ks]
    show PySem.W.keyToksAll ((kD k).pd :: Dt.pds (ks.map kD)) = _
    rw [PySem.W.toks_all_cons, toks_k]; rfl
theorem toks_fold_inj : ∀ (a b : List Key), a.foldr (fun k r => .inl 1 :: kTok k :: r) [(.inl 0 : Int ⊕ List Nat)] = b.foldr (fun k r => .inl 1 :: kTok k :: r) [.inl 0] → a = b
  | [], [], _ => rfl
  | [], k :: b, h => by rw [List.foldr_nil, List.foldr_cons] at h; simp at h
  | k :: a, [], h => by rw [List.foldr_nil, List.foldr_cons] at h; simp at h
  | k :: a, j :: b, h => by
    rw [List.foldr_cons, List.foldr_cons] at h
    injection h with _ h
    injection h with h1 h2
    rw [kTok_inj h1, toks_fold_inj a b h2]
abbrev tD (ks : List Key) : Dt := .tup (ks.map kD)
def leK (a b : List Key) : Bool := leD (tD a) (tD b)
def leS (a b : Str) : Bool := leD (.str a) (.str b)
theorem leK_anti (a b : List Key) (h1 : leK a b = true) (h2 : leK b a = true) : a = b := by
  have := leP_anti _ _ h1 h2
  refine toks_fold_inj a b ?_
  rw [← toks_ks, ← toks_ks]
  exact this
theorem leS_anti (a b : Str) (h1 : leS a b = true) (h2 : leS b a = true) : a = b := by
  have := leP_anti _ _ h1 h2
  exact PySem.W.str_of_cps (Sum.inr.inj (List.cons.inj this).1)
/-! ### sorted sets -/
def dd {α : Type} [DecidableEq α] : List α → List α
  | [] => []
  | x :: xs => if x ∈ dd xs then dd xs else x :: dd xs
section
variable {α : Type} [DecidableEq α]
theorem dd_mem (x : α) : ∀ l : List α, x ∈ dd l ↔ x ∈ l
  | [] => Iff.rfl
  | y :: l => by
    unfold dd
    split
    · rename_i h
      rw [dd_mem x l, List.mem_cons]
      exact ⟨.inr, fun z => z.elim (fun z => by rw [z]; exact (dd_mem y l).mp h) id⟩
    · rw [List.mem_cons, List.mem_cons, dd_mem x l]
theorem dd_nodup : ∀ l : List α, (dd l).Nodup
  | [] => List.nodup_nil
  | y :: l => by
    unfold dd
    split
    · exact dd_nodup l
    · exact List.nodup_cons.mpr ⟨by assumption, dd_nodup l⟩
theorem dd_len : ∀ l : List α, (dd l).length ≤ l.length
  | [] => Nat.le_refl _
  | y :: l => by
    unfold dd
    have := dd_len l
    split <;> simp <;> omega
def setBy (le : α → α → Bool) (l : List α) : List α := (dd l).mergeSort le
variable {le : α → α → Bool}
theorem setBy_mem (x : α) (l : List α) : x ∈ setBy le l ↔ x ∈ l := ((List.mergeSort_perm _ _).mem_iff).trans (dd_mem x l)
theorem setBy_nodup (l : List α) : (setBy le l).Nodup := (List.mergeSort_perm _ _).nodup_iff.mpr (dd_nodup l)
theorem sorted_unique {as bs : List α} (anti : ∀ a b, le a b = true → le b a = true → a = b) (ha : as.Pairwise fun a b => le a b = true) (hb : bs.Pairwise fun a b => le a b = true) (p : as.Perm bs) : as = bs := by
  induction as generalizing bs with
  | nil => exact (List.Perm.nil_eq p)
  | cons a as ih =>
    cases bs with
    | nil => exact absurd p.length_eq (by simp)
    | cons b bs =>
      have e : a = b := by
        rcases List.mem_cons.mp (p.mem_iff.mp (List.mem_cons_self ..)) with z | z
        · exact z
        · rcases List.mem_cons.mp (p.mem_iff.mpr (List.mem_cons_self ..)) with y | y
          · exact y.symm
          · exact anti a b ((List.pairwise_cons.mp ha).1 b y) ((List.pairwise_cons.mp hb).1 a z)
      subst e
      rw [ih (List.pairwise_cons.mp ha).2 (List.pairwise_cons.mp hb).2 ((List.perm_cons a).mp p)]
theorem setBy_eq (trans : ∀ a b c, le a b = true → le b c = true → le a c = true) (total : ∀ a b, (le a b || le b a) = true) (anti : ∀ a b, le a b = true → le b a = true → a = b) {l l' : List α} (nd : l'.Nodup) (h : ∀ x, x ∈ l' ↔ x ∈ l) : l'.mergeSort le = setBy le l := by
  refine sorted_unique anti (List.pairwise_mergeSort (fun a b c => trans a b c) (fun a b => total a b) _) (List.pairwise_mergeSort (fun a b c => trans a b c) (fun a b => total a b) _) ?_
  refine (List.mergeSort_perm _ _).trans (.trans ?_ (List.mergeSort_perm _ _).symm)
  exact (List.perm_ext_iff_of_nodup nd (dd_nodup l)).mpr fun x => (h x).trans (dd_mem x l).symm
end
def setS (l : List Str) : List Str := setBy leS l
def setK (l : List (List Key)) : List (List Key) := setBy leK l
theorem setS_eq {l l' : List Str} (nd : l'.Nodup) (h : ∀ x, x ∈ l' ↔ x ∈ l) : l'.mergeSort leS = setS l := setBy_eq (le := leS) (fun a b c => leP_trans (Dt.str a).pd (Dt.str b).pd (Dt.str c).pd) (fun a b => leP_total (Dt.str a).pd (Dt.str b).pd) leS_anti nd h
theorem setK_eq {l l' : List (List Key)} (nd : l'.Nodup) (h : ∀ x, x ∈ l' ↔ x ∈ l) : l'.mergeSort leK = setK l := setBy_eq (le := leK) (fun a b c => leP_trans (tD a).pd (tD b).pd (tD c).pd) (fun a b => leP_total (tD a).pd (tD b).pd) leK_anti nd h
theorem srt_strs (l : List Str) : srt (l.map .str) = (l.mergeSort leS).map .str := by
  unfold srt
  rw [List.map_mergeSort (r := leS)]
  intro a _ b _; rfl
theorem srt_tups (l : List (List Key)) : srt (l.map tD) = (l.mergeSort leK).map tD := by
  unfold srt
  rw [List.map_mergeSort (r := leK)]
  intro a _ b _; rfl
theorem Sorts.sub {ds es : List Dt} (h : Sorts ds) (s : ∀ e ∈ es, e ∈ ds) : Sorts es := by
  have sp : ∀ p ∈ Dt.pds es, p ∈ Dt.pds ds := fun p hp => by
    rw [Dt.pds_eq] at hp ⊢
    obtain ⟨e, he, rfl⟩ := List.mem_map.mp hp
    exact List.mem_map.mpr ⟨e, s e he, rfl⟩
  refine ⟨?_, fun d hd d' hd' => h.cs.al d (sp d hd) d' (sp d' hd'), h.cs.so.imp (fun q d hd => q d (sp d hd)) fun q d hd => q d (sp d hd), fun d hd => h.cs.dp d (sp d hd)⟩
  have := h.pl
  rw [Dt.pls_all, List.all_eq_true] at this ⊢
  exact fun e he => this e (s e he)
theorem sorts_strs (ks : List Str) (hk : ∀ k ∈ ks, PyData.strOk k = true) : Sorts (ks.map .str) := by
  refine Sorts.of ?_ ?_ (.inr fun d hd => ?_)
  · rw [Dt.pls_all, List.all_eq_true]
    intro d hd
    obtain ⟨k, hm, rfl⟩ := List.mem_map.mp hd
    exact (show PyData.strOk k = true from hk k hm)
  · intro d hd d' hd'
    rw [Dt.pds_eq] at hd hd'
    simp only [List.map_map, List.mem_map] at hd hd'
    obtain ⟨k, _, rfl⟩ := hd
    obtain ⟨k', _, rfl⟩ := hd'
    rfl
  · rw [Dt.pds_eq] at hd
    simp only [List.map_map, List.mem_map] at hd
    obtain ⟨k, _, rfl⟩ := hd
    exact ⟨nofun, nofun⟩
/-- the kinds of two keys agree, place by place, as far as both go -/
def sameK : List Key → List Key → Bool
  | a :: as, b :: bs => (a.isLeft == b.isLeft) && sameK as bs
  | _, _ => true
theorem alike_ks : ∀ (a b : List Key), sameK a b = true → PySem.W.alikeAll (Dt.pds (a.map kD)) (Dt.pds (b.map kD)) = true
  | [], b, _ => by show PySem.W.alikeAll [] _ = true; unfold PySem.W.alikeAll; rfl
  | a :: as, [], _ => by show PySem.W.alikeAll (_ :: _) [] = true; unfold PySem.W.alikeAll; rfl
  | a :: as, b :: bs, h => by
    unfold sameK at h
    rw [Bool.and_eq_true] at h
    show PySem.W.alikeAll ((kD a).pd :: Dt.pds (as.map kD)) ((kD b).pd :: Dt.pds (bs.map kD)) = true
    unfold PySem.W.alikeAll
    rw [Bool.and_eq_true]
    refine ⟨?_, alike_ks as bs h.2⟩
    cases a <;> cases b <;> first | rfl | exact absurd h.1 (by simp)
def okK : Key → Bool
  | .inl _ => true
  | .inr x => PyData.strOk x
def oks (ks : List Key) : Bool := ks.all okK
theorem pls_ks (ks : List Key) (hk : oks ks = true) (n : Nat) : Dt.pls (n + 1) (ks.map kD) = true := by
  unfold oks at hk
  rw [List.all_eq_true] at hk
  rw [Dt.pls_all, List.all_eq_true]
  intro d hd
  obtain ⟨k, hm, rfl⟩ := List.mem_map.mp hd
  have := hk k hm
  cases k with
  | inl i => rfl
  | inr x => exact this
theorem sorts_tups {kss : List (List Key)} (ok : ∀ k ∈ kss, oks k = true) (ne : ∀ k ∈ kss, k ≠ []) (al : ∀ a ∈ kss, ∀ b ∈ kss, sameK a b = true) : Sorts (kss.map tD) := by
  refine Sorts.of ?_ ?_ (.inl fun d hd => ?_)
  · rw [Dt.pls_all, List.all_eq_true]
    intro d hd
    obtain ⟨k, hm, rfl⟩ := List.mem_map.mp hd
    exact pls_ks k (ok k hm) 58
  · intro d hd d' hd'
    rw [Dt.pds_eq] at hd hd'
    simp only [List.map_map, List.mem_map] at hd hd'
    obtain ⟨k, hk, rfl⟩ := hd
    obtain ⟨k', hk', rfl⟩ := hd'
    show PySem.W.alike (.tuple (Dt.pds (k.map kD))) (.tuple (Dt.pds (k'.map kD))) = true
    unfold PySem.W.alike
    exact alike_ks _ _ (al k hk k' hk')
  · rw [Dt.pds_eq] at hd
    simp only [List.map_map, List.mem_map] at hd
    obtain ⟨k, hk, rfl⟩ := hd
    cases k with
    | nil => exact absurd rfl (ne [] hk)
    | cons x r => exact ⟨_, _, rfl⟩
/-! ### the rule -/
section
variable {K : PySem.W.Frag} {H : Hp}
theorem ra_ks : ∀ {vs : List V} {ks : List Key}, Ra K H vs (ks.map kD) → vs = ks.map kV
  | _, [], .nil => rfl
  | _, k :: ks, .cons h r => by
    rw [ra_ks r, List.map_cons]
    cases k with
    | inl i => rw [h.int_inv]; rfl
    | inr x => rw [h.str_inv]; rfl
theorem ra_tups : ∀ {vs : List V} {kss : List (List Key)}, Ra K H vs (kss.map tD) → ∃ ps : List (Addr × List Key), vs = ps.map (fun p => V.ref p.1) ∧ kss = ps.map (·.2) ∧ ∀ p ∈ ps, Rd H p.1 (.tup (p.2.map kV)) ∧ Rp K H (.ref p.1) (tD p.2)
  | _, [], .nil => ⟨[], rfl, rfl, fun p hp => absurd hp (by simp)⟩
  | _, k :: ks, .cons h r => by
    obtain ⟨ps, e1, e2, e3⟩ := ra_tups r
    obtain ⟨a, xs, rfl, ha, rr⟩ := Rp.tup_inv h
    rw [ra_ks rr] at ha
    refine ⟨(a, k) :: ps, by rw [e1]; rfl, by rw [e2]; rfl, fun p hp => ?_⟩
    rcases List.mem_cons.mp hp with rfl | hp
    · exact ⟨ha, h⟩
    · exact e3 p hp
end
theorem ra_keyed {K : PySem.W.Frag} {H : Hp} : ∀ {L : List (Addr × List Key)}, (∀ p ∈ L, Rp K H (.ref p.1) (tD p.2)) → Ra K H (L.map fun p => V.ref p.1) (L.map fun p => tD p.2)
  | [], _ => .nil
  | p :: L, h => by
    rw [List.map_cons, List.map_cons]
    exact .cons (h p (List.mem_cons_self ..)) (ra_keyed fun q hq => h q (List.mem_cons_of_mem _ hq))
/-- what a set of such data is, sorted -/
inductive IsSet : List Dt → List Dt → Prop
  | strs (ks : List Str) : ks.length < 4000 → (∀ k ∈ ks, PyData.strOk k = true) → IsSet (ks.map .str) ((setS ks).map .str)
  | tups (kss : List (List Key)) : kss.length < 64 → (∀ k ∈ kss, oks k = true) → (∀ k ∈ kss, k ≠ []) → (∀ a ∈ kss, ∀ b ∈ kss, sameK a b = true) → IsSet (kss.map tD) ((setK kss).map tD)
variable [B : Tb]
section
variable {K : PySem.W.Frag} {G : List Sl} {P : Dt → List Sl → Prop} {Q : Dt → Prop} {te : TE}
theorem ef_sortSet (h : EX K te G fun d G1 => ∃ ds es, d = .lst ds ∧ IsSet ds es ∧ P (.lst es) G1) : EF K (tSortSet K te) G P := fun H0 F H H1 σ Q I q =>
  h H0 F H H1 σ _ I fun v d G1 Ha Hb I1 s1 r1 ⟨ds, es, e, hs, p⟩ => by
    subst e
    obtain ⟨a, xs, rfl, ha, r⟩ := r1.lst_inv
    have fin : ∀ (vs : List V) (ds' : List Dt), Ra K Ha vs ds' → Sorts ds' → srt ds' = es → ∃ ps : List (V × PyData), ps.map (·.1) = vs ∧ DpL K Hb ps ∧ CanSort (ps.map (·.2)) ∧ ∀ p, Hb p = none → Q (.ref p) (upd Hb p (.lst ((srtP ps).map (·.1)))) := by
      intro vs ds' rv hss he
      obtain ⟨ps, e1, e2, e3, e4⟩ := rv.sorts hss.pl
      refine ⟨ps, e1, fun q hq => dp_same I1.s (e3 q hq), by rw [e2]; exact hss.cs, fun l hl => ?_⟩
      have g : Gr Ha Hb Ha (upd Hb l (.lst ((srtP ps).map (·.1)))) := .of (Same.refl _) (I1.s.trans (Same.upd hl)) (Same.upd hl) (fun _ _ _ z => z) id
      rw [he] at e4
      exact q l (.lst es) _ G1 _ _ (I1.gr g) (s1.trans g.stp) (stp_fresh s1 (.of hl)) (I1.s.free hl) upd_same e4 p
    refine ⟨a, xs, rfl, SqL.of (I1.s _ _ ha), ?_⟩
    cases hs with
    | «strs» ks hl ok =>
      refine .inl ⟨ks, r.strs_inv, hl, fun l nd hm => fin _ (l.map .str) (Ra.strs l) (sorts_strs l fun k hk => ok k ((hm k).mp hk)) ?_⟩
      rw [srt_strs, setS_eq nd hm]
    | tups kss hl ok ne al =>
      obtain ⟨ps, e1, e2, e3⟩ := ra_tups r
      subst e1; subst e2
      refine .inr ⟨ps, rfl, by simpa using hl, fun p hp => Same.rd I1.s (e3 p hp).1, fun L sub nd all => fin _ (L.map fun p => tD p.2) (ra_keyed fun p hp => (e3 p (sub p hp)).2) ?_ ?_⟩
      · have e : (L.map fun p => tD p.2) = (L.map (·.2)).map tD := by rw [List.map_map]; rfl
        rw [e]
        refine (sorts_tups ok ne al).sub fun d hd => ?_
        obtain ⟨k, hk, rfl⟩ := List.mem_map.mp hd
        obtain ⟨p, hp, rfl⟩ := List.mem_map.mp hk
        exact List.mem_map.mpr ⟨p.2, List.mem_map.mpr ⟨p, sub p hp, rfl⟩, rfl⟩
      · have e : (L.map fun p => tD p.2) = (L.map (·.2)).map tD := by rw [List.map_map]; rfl
        rw [e, srt_tups, setK_eq nd fun x => ⟨fun hx => ?_, fun hx => ?_⟩]
        · obtain ⟨p, hp, rfl⟩ := List.mem_map.mp hx
          exact List.mem_map.mpr ⟨p, sub p hp, rfl⟩
        · obtain ⟨p, hp, rfl⟩ := List.mem_map.mp hx
          exact all p hp
end
end Wd

set_option Elab.async false
set_option linter.all false
set_option maxRecDepth 100000
/-! M1: small rules. -/
namespace Wd
open PySem L2
theorem _root_.L2.Room.units70 {k : Nat} {A : Around} (r : Room k A) : A.units + 70 < cLine := by have := r.un; omega
theorem _root_.L2.Room.units65 {k : Nat} {A : Around} (r : Room k A) : A.units + 65 < cLine := by have := r.un; omega
theorem ixK {X : Cx} {K : PySem.W.Frag} (h : X.K = K := by rfl) : IxR X (rIx K) := h ▸ ix_seq
theorem szB {n : Nat} (h : Nat.ble n 1000 = true) : n ≤ sizeLine := Nat.le_trans (Nat.le_of_ble_eq_true h) (by decide)
section
variable {X : Cx} {K : PySem.W.Frag}
theorem isiK (h : X.K = K := by rfl) : CallR X (.builtin "isinstance") (rIsi K) := h ▸ call_isi
theorem isiTK (h : X.K = K := by rfl) : CallR X (.builtin "isinstance") (rIsiT K) := h ▸ call_isiT
theorem lenK (h : X.K = K := by rfl) : CallR X (.builtin "len") (fun xs H Q => ∃ p ys, xs = [.ref p] ∧ (SqL K H p ys ∨ SqT K H p ys) ∧ Q (.int ys.length) H) := h ▸ call_len_seq
theorem listK (h : X.K = K := by rfl) : CallR X (.type "list") (fun xs H Q => ∃ p ys, xs = [.ref p] ∧ (SqL K H p ys ∨ SqT K H p ys) ∧ ∀ l, H l = none → Q (.ref l) (upd H l (.lst ys))) := h ▸ call_list_of
theorem tupleK (h : X.K = K := by rfl) : CallR X (.type "tuple") (fun xs H Q => ∃ p ys, xs = [.ref p] ∧ ((SqL K H p ys ∧ ∀ l, H l = none → Q (.ref l) (upd H l (.tup ys))) ∨ (SqT K H p ys ∧ Q (.ref p) H))) := h ▸ call_tuple_of
theorem tuplePK (h : X.K = K := by rfl) : CallR X (.type "tuple") (rTupP K) := h ▸ call_tupP
theorem allK (hc : X.calm = true) (h : X.K = K := by rfl) : CallR X (.builtin "all") (rAll K) := h ▸ cr_all hc
theorem inK (h : X.K = K := by rfl) : OpR X (compareOp .In) (rIn K false) := h ▸ op_in_seq
theorem notinK (h : X.K = K := by rfl) : OpR X (compareOp .NotIn) (rIn K true) := h ▸ op_notIn_seq
theorem eqDK (hu : X.A.units + 64 < cLine) (h : X.K = K := by rfl) : OpR X (compareOp .Eq) (rEqD K) := h ▸ op_eqD hu
theorem neDK (hu : X.A.units + 64 < cLine) (h : X.K = K := by rfl) : OpR X (compareOp .NotEq) (rNeD K) := h ▸ op_neD hu
theorem inDK (hu : X.A.units + 65 < cLine) (h : X.K = K := by rfl) : OpR X (compareOp .In) (rInD K) := h ▸ op_inD hu
theorem notinDK (hu : X.A.units + 65 < cLine) (h : X.K = K := by rfl) : OpR X (compareOp .NotIn) (rNotInD K) := h ▸ op_notInD hu
theorem slTK (h : X.K = K := by rfl) : SlR X (rSlA K) := h ▸ sl_tupA
theorem slLK (h : X.K = K := by rfl) : SlR X (rSlL K) := h ▸ sl_list
theorem pg_tupK {es : List Expr} {k : Nat} {t : TGs} {n : Nat} {pos : Pos} (hc : X.calm = true) (hp : PGs X es t) (h : X.K = K := by rfl)
    (hn : (assignEach es X.env).length = n := by rfl) (hst : (assignEach es X.env).findIdx? (·.1) = none := by rfl) : PG X (.Tuple es k pos) (gTup K n t) := h ▸ pg_tup hc hp hn hst
theorem piLK {tg l : Expr} {tl : TE} (hl : PE X l tl) (h : X.K = K := by rfl) : PI X tg l (iList K tl) := h ▸ pi_list hl
theorem piTK {tg l : Expr} {tl : TE} (hl : PE X l tl) (h : X.K = K := by rfl) : PI X tg l (iTup K tl) := h ▸ pi_tup hl
theorem piSK {tg l : Expr} {tl : TE} (hl : PE X l tl) (h : X.K = K := by rfl) : PI X tg l (iSq K tl) := h ▸ pi_sq hl
theorem starK {e : Expr} {es : List Expr} {te : TE} {t : TA} {p : Pos} (he : PE X e te) (hr : PA X es t) (h : X.K = K := by rfl) (hs : starEach (.Starred e p :: es) X.env = (true, eval e X.env) :: starEach es X.env := by rfl) : PA X (.Starred e p :: es) (StX.tStar K te t) := h ▸ StX.pa_star he hr hs
end
/-- xs[i:], xs[:i] -/
theorem cut_from {α : Type} (xs : List α) (i : Nat) : cutD xs (some ((i : Nat) : Int)) none = xs.drop i := by
  unfold cutD
  rw [HT.sIx_nat, HT.sIx_none]
  by_cases h : i ≤ xs.length
  · rw [Nat.min_eq_left h, List.take_of_length_le (by rw [List.length_drop]; exact Nat.le_refl _)]
  · rw [Nat.min_eq_right (by omega), List.drop_of_length_le (Nat.le_refl _), List.drop_of_length_le (by omega), List.take_nil]
theorem cut_to {α : Type} (xs : List α) (i : Nat) : cutD xs none (some ((i : Nat) : Int)) = xs.take i := by
  unfold cutD
  rw [HT.sIx_nat, HT.sIx_none, List.drop_zero, Nat.sub_zero]
  by_cases h : i ≤ xs.length
  · rw [Nat.min_eq_left h]
  · rw [Nat.min_eq_right (by omega), List.take_of_length_le (Nat.le_refl _), List.take_of_length_le (by omega)]
theorem all_eq {α : Type} {a : α} {P : α → Prop} (h : P a) : ∀ d, d = a → P d := fun d e => e ▸ h
variable [B : Tb]
theorem agr_wipe {vs : List Nat} {G : List Sl} : Agr vs G (wipeG G vs) := by
  have key : ∀ ws : List Nat, (∀ i ∈ ws, i ∈ vs) → Agr vs G (wipeG G ws) := by
    intro ws
    induction ws with
    | nil => exact fun _ => Agr.refl
    | cons v ws ih => exact fun h => (ih fun i hi => h i (List.mem_cons_of_mem _ hi)).set (h v (List.mem_cons_self ..))
  exact key vs fun _ h => h
section
variable {K : PySem.W.Frag} {G : List Sl} {P : Dt → List Sl → Prop} {te : TE}
theorem ex_cSort {ta : TA} (h : EA K ta G fun ds G1 => CF K (rSortDt K) ds fun d => P d G1) : EX K (tCB (rSortDt K) ta) G P := ex_of (ef_cb h)
theorem ex_cSortT {ta : TA} (h : EA K ta G fun ds G1 => CF K (rSortKT K) ds fun d => P d G1) : EX K (tCB (rSortKT K) ta) G P := ex_of (ef_cb h)
theorem ex_cDictT {ta : TA} (h : EA K ta G fun ds G1 => CF K (rDictT K) ds fun d => P d G1) : EX K (tCB (rDictT K) ta) G P := ex_of (ef_cb h)
theorem ex_cList {ta : TA} (h : EA K ta G fun ds G1 => CF K (fun xs H Q => ∃ p ys, xs = [.ref p] ∧ (SqL K H p ys ∨ SqT K H p ys) ∧ ∀ l, H l = none → Q (.ref l) (upd H l (.lst ys))) ds fun d => P d G1) : EX K (tCB (fun xs H Q => ∃ p ys, xs = [.ref p] ∧ (SqL K H p ys ∨ SqT K H p ys) ∧ ∀ l, H l = none → Q (.ref l) (upd H l (.lst ys))) ta) G P := ex_of (ef_cb h)
theorem od_ixHd {Q : Dt → Prop} {x : Dt} {xs : List Dt} (p : Q x) : OD K (rIx K) (.tup (x :: xs)) (.int 0) Q := od_ix (ds := x :: xs) rfl (by
  unfold L2.atI L2.ixN
  rw [if_pos (Int.le_refl 0), if_pos (by rw [List.length_cons]; omega)]
  rfl) p
theorem cd_allM {Q : Dt → Prop} {α : Type} {xs : List α} {f : α → Bool} (p : Q (.bl (xs.all f))) : CD K (rAll K) [.lst (xs.map fun x => .bl (f x))] Q := by
  have e : (xs.map fun x => Dt.bl (f x)) = (xs.map f).map .bl := by rw [List.map_map]; rfl
  rw [e]
  refine cd_all ?_
  rw [List.all_map]
  exact p
theorem cd_allT {Q : Dt → Prop} {α : Type} {xs : List α} (p : Q (.bl true)) : CD K (rAll K) [.lst (xs.map fun _ => .bl true)] Q := cd_allM (f := fun _ => true) (by
  have : (xs.all fun _ => true) = true := by rw [List.all_eq_true]; exact fun _ _ => rfl
  rw [this]; exact p)
theorem ex_isiInt (h : EX K te G fun d G1 => d.isAd = false ∧ P (.bl (d.tn.is .int)) G1) : EX K (tCB (rIsi K) (tCons te (tCons (tC (.ty "int")) tNil))) G P := ex_isi (c := .int) (kit_int K) h
theorem ex_isiBool (h : EX K te G fun d G1 => d.isAd = false ∧ P (.bl (d.tn.is .bool)) G1) : EX K (tCB (rIsi K) (tCons te (tCons (tC (.ty "bool")) tNil))) G P := ex_isi (c := .bool) (kit_bool K) h
theorem ex_isiStr (h : EX K te G fun d G1 => d.isAd = false ∧ P (.bl (d.tn.is .str)) G1) : EX K (tCB (rIsi K) (tCons te (tCons (tC (.ty "str")) tNil))) G P := ex_isi (c := .str) (kit_str K) h
theorem ex_isiTup (h : EX K te G fun d G1 => d.isAd = false ∧ P (.bl (d.tn.is .tup)) G1) : EX K (tCB (rIsi K) (tCons te (tCons (tC (.ty "tuple")) tNil))) G P := ex_isi (c := .tup) (kit_tup K) h
theorem ex_isiLst (h : EX K te G fun d G1 => d.isAd = false ∧ P (.bl (d.tn.is .lst)) G1) : EX K (tCB (rIsi K) (tCons te (tCons (tC (.ty "list")) tNil))) G P := ex_isi (c := .lst) (kit_lst K) h
theorem ex_isiLT (h : EX K te G fun d G1 => d.isAd = false ∧ P (.bl (d.tn.is .lst || d.tn.is .tup)) G1) :
    EX K (tCB (rIsiT K) (tCons te (tCons (tTup (tCons (tC (.ty "list")) (tCons (tC (.ty "tuple")) tNil))) tNil))) G P := ex_isi2 (a := .lst) (b := .tup) (kit_lt K) h
theorem ex_isiBS (h : EX K te G fun d G1 => d.isAd = false ∧ P (.bl (d.tn.is .bool || d.tn.is .str)) G1) :
    EX K (tCB (rIsiT K) (tCons te (tCons (tTup (tCons (tC (.ty "bool")) (tCons (tC (.ty "str")) tNil))) tNil))) G P := ex_isi2 (a := .bool) (b := .str) (kit_bs K) h
end
end Wd

namespace Wd
local macro_rules | `(tactic| tm_at "ex") => `(tactic| first | with_reducible refine Exists.intro _ (And.intro rfl ?_) | fail)
local macro_rules | `(tactic| tm_at "ex") => `(tactic| first | with_reducible refine Exists.intro (_, _) (And.intro rfl ?_) | fail)
local macro_rules | `(tactic| tm_at "ex") => `(tactic| first | with_reducible refine Exists.intro (_, _, _) (And.intro rfl ?_) | fail)
local macro_rules | `(tactic| tm_at "ex") => `(tactic| first | with_reducible refine Exists.intro ((_, _), _, _) (And.intro rfl ?_) | fail)
local macro_rules | `(tactic| tm_at "ex") => `(tactic| first | with_reducible refine Exists.intro (_, _, _, _) (And.intro rfl ?_) | fail)
local macro_rules | `(tactic| tm_at "ex") => `(tactic| first | with_reducible refine all_eq ?_ | fail)
local macro_rules | `(tactic| tm_at "ex") => `(tactic| first | with_reducible refine And.intro trivial ?_ | fail)
local macro_rules | `(tactic| tm_at "ex") => `(tactic| first | with_reducible refine And.intro rfl ?_ | fail)
local macro_rules | `(tactic| tm_at "ex") => `(tactic| first | with_reducible refine And.intro (szB (by with_unfolding_all exact rfl)) ?_ | fail)
local macro_rules | `(tactic| tm_at "ex") => `(tactic| first | with_reducible refine gxs_nil ?_ | fail)
local macro_rules | `(tactic| tm_at "ex") => `(tactic| first | with_reducible refine gxs_cons ?_ | fail)
local macro_rules | `(tactic| tm_at "ex") => `(tactic| first | with_reducible refine gx_unl (by with_unfolding_all exact rfl) ?_ | fail)
local macro_rules | `(tactic| tm_at "ex") => `(tactic| first | with_reducible refine gx_tup (by with_unfolding_all exact rfl) ?_ | fail)
local macro_rules | `(tactic| tm_at "ex") => `(tactic| first | with_reducible refine gx_name ?_ | fail)
local macro_rules | `(tactic| tm_at "ex") => `(tactic| first | with_reducible refine sx_drop ?_ | fail)
local macro_rules | `(tactic| tm_at "ex") => `(tactic| first | with_reducible refine sx_next ?_ | fail)
local macro_rules | `(tactic| tm_at "ex") => `(tactic| first | with_reducible refine sx_if ?_ | fail)
local macro_rules | `(tactic| tm_at "ex") => `(tactic| first | with_reducible refine sx_ret ?_ | fail)
local macro_rules | `(tactic| tm_at "ex") => `(tactic| first | with_reducible refine sx_asg ?_ | fail)
local macro_rules | `(tactic| tm_at "ex") => `(tactic| first | with_reducible refine sx_set ?_ | fail)
local macro_rules | `(tactic| tm_at "ex") => `(tactic| first | with_reducible refine sx_seq ?_ | fail)
local macro_rules | `(tactic| tm_at "ex") => `(tactic| first | with_reducible refine tx_yes ?_ | fail)
local macro_rules | `(tactic| tm_at "ex") => `(tactic| first | with_reducible refine tx_not ?_ | fail)
local macro_rules | `(tactic| tm_at "ex") => `(tactic| first | with_reducible refine tx_or ?_ | fail)
local macro_rules | `(tactic| tm_at "ex") => `(tactic| first | with_reducible refine tx_and ?_ | fail)
local macro_rules | `(tactic| tm_at "ex") => `(tactic| first | with_reducible refine tx_B ?_ | fail)
local macro_rules | `(tactic| tm_at "ex") => `(tactic| first | with_reducible refine tx_test ?_ | fail)
local macro_rules | `(tactic| tm_at "ex") => `(tactic| first | with_reducible refine cd_len (by with_unfolding_all exact rfl) ?_ | fail)
local macro_rules | `(tactic| tm_at "ex") => `(tactic| first | with_reducible refine ud_neg ?_ | fail)
local macro_rules | `(tactic| tm_at "ex") => `(tactic| first | with_reducible refine od_ix (by with_unfolding_all exact rfl) (by with_unfolding_all exact rfl) ?_ | fail)
local macro_rules | `(tactic| tm_at "ex") => `(tactic| first | with_reducible refine od_ixHd ?_ | fail)
local macro_rules | `(tactic| tm_at "ex") => `(tactic| first | with_reducible refine od_neS ?_ | fail)
local macro_rules | `(tactic| tm_at "ex") => `(tactic| first | with_reducible refine od_eqS ?_ | fail)
local macro_rules | `(tactic| tm_at "ex") => `(tactic| first | with_reducible refine od_neI ?_ | fail)
local macro_rules | `(tactic| tm_at "ex") => `(tactic| first | with_reducible refine od_eqI ?_ | fail)
local macro_rules | `(tactic| tm_at "ex") => `(tactic| first | with_reducible refine od_intC ?_ ?_ | fail)
local macro_rules | `(tactic| tm_at "ex") => `(tactic| first | with_reducible refine od_bool ?_ | fail)
local macro_rules | `(tactic| tm_at "ex") => `(tactic| first | with_reducible refine od_int ?_ | fail)
local macro_rules | `(tactic| tm_at "ex") => `(tactic| first | with_reducible refine od_ltS ?_ | fail)
local macro_rules | `(tactic| tm_at "ex") => `(tactic| first | with_reducible refine ex_of (ef_sortSet ?_) | fail)
local macro_rules | `(tactic| tm_at "ex") => `(tactic| first | with_reducible refine ef_call ?_ | fail)
local macro_rules | `(tactic| tm_at "ex") => `(tactic| first | with_reducible refine ef_lst ?_ | fail)
local macro_rules | `(tactic| tm_at "ex") => `(tactic| first | with_reducible refine ex_of (ef_lst ?_) | fail)
local macro_rules | `(tactic| tm_at "ex") => `(tactic| first | with_reducible refine ix_enumT ?_ | fail)
local macro_rules | `(tactic| tm_at "ex") => `(tactic| first | with_reducible refine ix_enum ?_ | fail)
local macro_rules | `(tactic| tm_at "ex") => `(tactic| first | with_reducible refine ix_sq ?_ | fail)
local macro_rules | `(tactic| tm_at "ex") => `(tactic| first | with_reducible refine ix_list ?_ | fail)
local macro_rules | `(tactic| tm_at "ex") => `(tactic| first | with_reducible refine ix_tup ?_ | fail)
local macro_rules | `(tactic| tm_at "ex") => `(tactic| first | with_reducible refine eo_none ?_ | fail)
local macro_rules | `(tactic| tm_at "ex") => `(tactic| first | with_reducible refine eo_some ?_ | fail)
local macro_rules | `(tactic| tm_at "ex") => `(tactic| first | with_reducible refine ea_star ?_ | fail)
local macro_rules | `(tactic| tm_at "ex") => `(tactic| first | with_reducible refine ea_cons ?_ | fail)
local macro_rules | `(tactic| tm_at "ex") => `(tactic| first | with_reducible refine ea_nil ?_ | fail)
local macro_rules | `(tactic| tm_at "ex") => `(tactic| first | with_reducible refine cd_tuple rfl ?_ | fail)
local macro_rules | `(tactic| tm_at "ex") => `(tactic| first | with_reducible refine ex_sortLam ?_ | fail)
local macro_rules | `(tactic| tm_at "ex") => `(tactic| first | with_reducible refine ex_notN ?_ | fail)
local macro_rules | `(tactic| tm_at "ex") => `(tactic| first | with_reducible refine ex_isN ?_ | fail)
local macro_rules | `(tactic| tm_at "ex") => `(tactic| first | with_reducible refine ex_notV ?_ | fail)
local macro_rules | `(tactic| tm_at "ex") => `(tactic| first | with_reducible refine ex_orV ?_ | fail)
local macro_rules | `(tactic| tm_at "ex") => `(tactic| first | with_reducible refine ex_andV ?_ | fail)
local macro_rules | `(tactic| tm_at "ex") => `(tactic| first | with_reducible refine ex_if ?_ | fail)
local macro_rules | `(tactic| tm_at "ex") => `(tactic| first | with_reducible refine ex_cb ?_ | fail)
local macro_rules | `(tactic| tm_at "ex") => `(tactic| first | with_reducible refine ex_cList ?_ | fail)
local macro_rules | `(tactic| tm_at "ex") => `(tactic| first | with_reducible refine ex_cDictT ?_ | fail)
local macro_rules | `(tactic| tm_at "ex") => `(tactic| first | with_reducible refine ex_cSortT ?_ | fail)
local macro_rules | `(tactic| tm_at "ex") => `(tactic| first | with_reducible refine ex_cSort ?_ | fail)
local macro_rules | `(tactic| tm_at "ex") => `(tactic| first | with_reducible refine ex_call ?_ | fail)
local macro_rules | `(tactic| tm_at "ex") => `(tactic| first | with_reducible refine ex_tup ?_ | fail)
local macro_rules | `(tactic| tm_at "ex") => `(tactic| first | with_reducible refine ex_un ?_ | fail)
local macro_rules | `(tactic| tm_at "ex") => `(tactic| first | with_reducible refine ex_op ?_ | fail)
local macro_rules | `(tactic| tm_at "ex") => `(tactic| first | with_reducible refine sx_dput ?_ | fail)
local macro_rules | `(tactic| tm_at "ex") => `(tactic| first | with_reducible refine ex_dget ?_ | fail)
local macro_rules | `(tactic| tm_at "ex") => `(tactic| first | with_reducible refine ex_dgetO ⟨_, _, by with_unfolding_all exact rfl⟩ ?_ | fail)
local macro_rules | `(tactic| tm_at "ex") => `(tactic| first | with_reducible refine ex_dnotin ?_ | fail)
local macro_rules | `(tactic| tm_at "ex") => `(tactic| first | with_reducible refine ex_din ?_ | fail)
local macro_rules | `(tactic| tm_at "ex") => `(tactic| first | with_reducible refine ex_non ?_ | fail)
local macro_rules | `(tactic| tm_at "ex") => `(tactic| first | with_reducible refine ex_bl ?_ | fail)
local macro_rules | `(tactic| tm_at "ex") => `(tactic| first | with_reducible refine ex_str ?_ | fail)
local macro_rules | `(tactic| tm_at "ex") => `(tactic| first | with_reducible refine ex_int ?_ | fail)
local macro_rules | `(tactic| tm_at "ex") => `(tactic| first | with_reducible refine ex_isiBS ?_ | fail)
local macro_rules | `(tactic| tm_at "ex") => `(tactic| first | with_reducible refine ex_isiLT ?_ | fail)
local macro_rules | `(tactic| tm_at "ex") => `(tactic| first | with_reducible refine ex_isiLst ?_ | fail)
local macro_rules | `(tactic| tm_at "ex") => `(tactic| first | with_reducible refine ex_isiTup ?_ | fail)
local macro_rules | `(tactic| tm_at "ex") => `(tactic| first | with_reducible refine ex_isiStr ?_ | fail)
local macro_rules | `(tactic| tm_at "ex") => `(tactic| first | with_reducible refine ex_isiBool ?_ | fail)
local macro_rules | `(tactic| tm_at "ex") => `(tactic| first | with_reducible refine ex_isiInt ?_ | fail)
local macro_rules | `(tactic| tm_at "ex") => `(tactic| first | with_reducible refine ex_varP (by with_unfolding_all exact rfl) ?_ | fail)
local macro_rules | `(tactic| tm_at "ex") => `(tactic| first | with_reducible refine ex_var (by with_unfolding_all exact rfl) ?_ | fail)
local macro_rules | `(tactic| tm_at "gx") => `(tactic| first | with_reducible refine gxs_nil ?_ | fail)
local macro_rules | `(tactic| tm_at "gx") => `(tactic| first | with_reducible refine gxs_cons ?_ | fail)
local macro_rules | `(tactic| tm_at "gx") => `(tactic| first | with_reducible refine gx_tup (by with_unfolding_all exact rfl) ?_ | fail)
local macro_rules | `(tactic| tm_at "gx") => `(tactic| first | with_reducible refine gx_name ?_ | fail)
local macro_rules | `(tactic| tm_at "tk") => `(tactic| first | tm_at "ex" | fail)
local macro_rules | `(tactic| tm_at "tk") => `(tactic| first | with_reducible refine ⟨⟨_, _, rfl⟩, ex_int ?_⟩ | fail)
local macro_rules | `(tactic| tm_at "tk") => `(tactic| first | with_reducible refine ⟨_, _, _, _, rfl, rfl, rfl, ?_⟩ | fail)
local macro_rules | `(tactic| tm_at "tk") => `(tactic| first | with_reducible refine cd_intI ?_ | fail)
local macro_rules | `(tactic| tm_at "tk") => `(tactic| first | with_reducible refine ex_cb (ea_cons ?_) | fail)
local macro_rules | `(tactic| tm_at "tk") => `(tactic| first | with_reducible refine sx_setL ?_ | fail)
local macro_rules | `(tactic| tm_at "tk") => `(tactic| first | with_reducible refine ex_ixO ⟨_, _, by with_unfolding_all exact rfl⟩ (ex_int ?_) | fail)

set_option Elab.async false
set_option linter.all false
set_option maxRecDepth 100000
set_option maxHeartbeats 1000000
section
open PySem L2
variable [B : Tb]
variable {Pr : Program} {w : World} {K : PySem.W.Frag} {mg : Str → Option Value} {base : Heap} {f : Addr} {fd : FuncData}

/-! ### mills -/
/-- a wheel; a saying -/
structure Wh where
  name : Str
  turn : Int
  mark : Int
structure Sy where
  name : Str
  one : Str
  other : Str
  late : Int
  dial : Int
structure Mill where
  ws : List Wh
  ss : List Sy
def Wh.row (x : Wh) : List Key := [.inr x.name, .inl x.turn, .inl x.mark]
def Sy.row (x : Sy) : List Key := [.inr x.name, .inr x.one, .inr x.other, .inl x.late, .inl x.dial]
abbrev whD (x : Wh) : Dt := .tup [.str x.name, .int x.turn, .int x.mark]
abbrev syD (x : Sy) : Dt := .tup [.str x.name, .str x.one, .str x.other, .int x.late, .int x.dial]
theorem whD_row (x : Wh) : whD x = tD x.row := rfl
theorem syD_row (x : Sy) : syD x = tD x.row := rfl
abbrev milD (M : Mill) : Dt := .tup [.tup (M.ws.map whD), .tup (M.ss.map syD)]
abbrev strsD (xs : List Str) : Dt := .tup (xs.map .str)
def Mill.names (M : Mill) : List Str := M.ws.map (·.name)
def Mill.spots (M : Mill) : List Str := "" :: M.names
/-- a mill is not long -/
structure Mill.Short (M : Mill) : Prop where
  ws : M.ws.length ≤ 20
  ss : M.ss.length ≤ 20
theorem sc_wheel_names : FnScope ["mill", "wheel"] ["mill"] (defScope (top 21)) := ⟨rfl, rfl, rfl, by decide +kernel, rfl, by decide +kernel, by decide +kernel⟩
abbrev sp_wheel_names (K : PySem.W.Frag) : Sp := SpP K (fun M : Mill => [milD M]) (fun M => M.Short) (fun M d => d = strsD M.names)
theorem ok_wheel_names (T : Tx K mg)  (F : FnP K "wheel_names" (top 21) f fd) : FnOk Pr w K mg base CX0 1 f fd ["mill"] (sp_wheel_names K) := by
  have nd := sc_wheel_names.nd
  refine fn_P F sc_wheel_names (fun _ => rfl) (by decide) fun cdv A outer s H E hr => ⟨_, (pss_one (ps_ret (pe_callTy (tupleK (K := K)) rfl T.tuple_ bt_tuple (pa_cons (pe_lc (own := [("wheel", 1)]) rfl nd (piTK (K := K) (pe_ix (ixK (K := K)) (pv 0) pe_int (fun _ _ => rfl))) (blkOk_by (by kernel_rfl)) (fun _ _ _ _ _ => (pgn (i := 1) nd rfl)) (fun _ _ _ _ _ => pts_nil) (fun _ _ _ _ _ => (pe_ix (ixK (K := K)) (pv 1) pe_int (fun _ _ => rfl)))) pa_nil)))), ?_⟩
  rintro M hM
  try dsimp only [cxOf]
  change SX K _ [.dat (milD M), .emp] _ _
  repeat' tm_at "ex"
  refine ex_of (ef_lcA (tch_name 1) (by decide) ?_)
  repeat' tm_at "ex"
  refine ⟨noOwn_of rfl, Wh, M.ws, whD, fun x => .str x.name, rfl, sz (by have := hM.ws; omega), fun x hx => ?_, ?_⟩
  · repeat' tm_at "ex"
    exact ⟨agr_wipe.set (by decide), rfl⟩
  · repeat' tm_at "ex"
    show Dt.tup _ = Dt.tup _
    rw [Mill.names, List.map_map]; rfl
theorem sc_spots_of : FnScope ["mill"] ["mill"] (defScope (top 32)) := ⟨rfl, rfl, rfl, by decide +kernel, rfl, by decide +kernel, by decide +kernel⟩
abbrev sp_spots_of (K : PySem.W.Frag) : Sp := SpP K (fun M : Mill => [milD M]) (fun M => M.Short) (fun M d => d = strsD M.spots)
theorem ok_spots_of (T : Tx K mg) (c_wheel_names : Cal Pr w K mg base 1 "wheel_names" (sp_wheel_names K)) (F : FnP K "spots_of" (top 32) f fd) : FnOk Pr w K mg base CX0 2 f fd ["mill"] (sp_spots_of K) := by
  have nd := sc_spots_of.nd
  refine fn_P F sc_spots_of (fun _ => rfl) (by decide) fun cdv A outer s H E hr => ⟨_, (pss_one (ps_ret (pe_tup (pa_cons (pe_k T.crank rfl) (starK (K := K) (pe_c c_wheel_names hr (by decide) rfl (pa_cons (pv 0) pa_nil)) pa_nil))))), ?_⟩
  rintro M hM
  try dsimp only [cxOf]
  change SX K _ [.dat (milD M)] _ _
  repeat' tm_at "ex"
  refine ⟨hM, fun d e => ?_⟩
  subst e
  repeat' tm_at "ex"
  have := hM.ws
  refine ⟨sz ?_, ?_⟩
  · simp [Mill.names]
    omega
  · rw [List.append_nil]; rfl
theorem sc_set_of : FnScope ["things"] ["things"] (defScope (top 9)) := ⟨rfl, rfl, rfl, by decide +kernel, rfl, by decide +kernel, by decide +kernel⟩
abbrev sp_set_of (K : PySem.W.Frag) : Sp := SpP K (fun x : List Dt × List Dt => [.lst x.1]) (fun x => IsSet x.1 x.2) (fun x d => d = .tup x.2)
theorem ok_set_of (T : Tx K mg)  (F : FnP K "set_of" (top 9) f fd) : FnOk Pr w K mg base CX0 1 f fd ["things"] (sp_set_of K) := by
  have nd := sc_set_of.nd
  refine fn_P F sc_set_of (fun _ => rfl) (by decide) fun cdv A outer s H E hr => ⟨_, (pss_one (ps_ret (pe_callTy (tupleK (K := K)) rfl T.tuple_ bt_tuple (pa_cons (pe_sortSet rfl hr.units70 (pv 0) rfl T.sorted_ rfl T.set_) pa_nil)))), ?_⟩
  rintro ⟨ds, es⟩ h
  try dsimp only [cxOf]
  change SX K _ [.dat (.lst ds)] _ _
  repeat' tm_at "ex"
  refine ⟨ds, es, rfl, h, ?_⟩
  repeat' tm_at "ex"
  rfl
theorem sc_is_number : FnScope ["thing"] ["thing"] (defScope (top 7)) := ⟨rfl, rfl, rfl, by decide +kernel, rfl, by decide +kernel, by decide +kernel⟩
abbrev sp_is_number (K : PySem.W.Frag) : Sp := SpP K (fun x : Int => [.int x]) (fun _ => True) (fun _ d => d = .bl true)
theorem ok_is_number (T : Tx K mg)  (F : FnP K "is_number" (top 7) f fd) : FnOk Pr w K mg base CX0 1 f fd ["thing"] (sp_is_number K) := by
  have nd := sc_is_number.nd
  refine fn_P F sc_is_number (fun _ => rfl) (by decide) fun cdv A outer s H E hr => ⟨_, (pss_one (ps_ret (pe_and (pe_callB (isiK (K := K)) rfl T.isinstance_ bt_isinstance (pa_cons (pv 0) (pa_cons (pe_bltn (v := .ty "int") rfl T.int_ bt_int rfl) pa_nil))) (pe_one (pe_not (pe_callB (isiK (K := K)) rfl T.isinstance_ bt_isinstance (pa_cons (pv 0) (pa_cons (pe_bltn (v := .ty "bool") rfl T.bool_ bt_bool rfl) pa_nil)))))))), ?_⟩
  rintro i _
  try dsimp only [cxOf]
  change SX K _ [.dat (.int i)] _ _
  repeat' tm_at "ex"
  refine ⟨fun _ => ?_, nofun⟩
  repeat' tm_at "ex"
  rfl
theorem sc_is_tuple_of : FnScope ["thing", "size"] ["thing", "size"] (defScope (top 10)) := ⟨rfl, rfl, rfl, by decide +kernel, rfl, by decide +kernel, by decide +kernel⟩
abbrev sp_is_tuple_of (K : PySem.W.Frag) : Sp := SpP K (fun x : List Dt × Int => [.tup x.1, .int x.2]) (fun _ => True) (fun x d => d = .bl (decide ((x.1.length : Int) = x.2)))
theorem ok_is_tuple_of (T : Tx K mg)  (F : FnP K "is_tuple_of" (top 10) f fd) : FnOk Pr w K mg base CX0 1 f fd ["thing", "size"] (sp_is_tuple_of K) := by
  have nd := sc_is_tuple_of.nd
  refine fn_P F sc_is_tuple_of (fun _ => rfl) (by decide) fun cdv A outer s H E hr => ⟨_, (pss_one (ps_ret (pe_and (pe_callB (isiK (K := K)) rfl T.isinstance_ bt_isinstance (pa_cons (pv 0) (pa_cons (pe_bltn (v := .ty "tuple") rfl T.tuple_ bt_tuple rfl) pa_nil))) (pe_one (pe_cmpR op_eq (pe_callB (lenK (K := K)) rfl T.len_ bt_len (pa_cons (pv 0) pa_nil)) (pv 1) (nomark _)))))), ?_⟩
  rintro ⟨ds, n⟩ _
  try dsimp only [cxOf]
  change SX K _ [.dat (.tup ds), .dat (.int n)] _ _
  repeat' tm_at "ex"
  refine ⟨fun _ => ?_, nofun⟩
  repeat' tm_at "ex"
  rfl
theorem sc_check_wheels : FnScope ["mill", "names", "known", "name"] ["mill", "names"] (defScope (top 22)) := ⟨rfl, rfl, rfl, by decide +kernel, rfl, by decide +kernel, by decide +kernel⟩
/-- all the names are wheels -/
abbrev sp_check_wheels (K : PySem.W.Frag) : Sp := SpP K (fun x : Mill × List Str × Dt => [milD x.1, x.2.2]) (fun x => x.1.Short ∧ x.2.2.seq = some (x.2.1.map .str) ∧ ∀ n ∈ x.2.1, n ∈ x.1.names) (fun _ d => d = .non)
theorem ok_check_wheels (T : Tx K mg) (c_wheel_names : Cal Pr w K mg base 1 "wheel_names" (sp_wheel_names K)) (F : FnP K "check_wheels" (top 22) f fd) : FnOk Pr w K mg base CX0 2 f fd ["mill", "names"] (sp_check_wheels K) := by
  have nd := sc_check_wheels.nd
  refine fn_P F sc_check_wheels (fun _ => rfl) (by decide) fun cdv A outer s H E hr => ⟨_, (pss_cons (pst (i := 2) nd rfl (pe_c c_wheel_names hr (by decide) rfl (pa_cons (pv 0) pa_nil)))
    (pss_one (ps_for PassesOwn.never rfl (piSK (K := K) (pv 1)) (pgn (i := 3) nd rfl) (pss_one (ps_if (pt_cmpR (notinK (K := K)) (pv 3) (pv 2) rfl) (pss_one ps_never) pss_nil))))), ?_⟩
  rintro ⟨M, ns, d⟩ ⟨hM, hd, hn⟩
  try dsimp only [cxOf]
  change SX K _ [.dat (milD M), .dat d, .emp, .emp] _ _
  repeat' tm_at "ex"
  refine ⟨hM, fun d e => ?_⟩
  subst e
  refine sx_for ?_
  repeat' tm_at "ex"
  refine ⟨_, hd, fun _ G => ∃ s, G = [.dat (milD M), .dat d, .dat (strsD M.names), s], ⟨_, rfl⟩, ?_, fun _ _ => rfl⟩
  rintro i e G hi ⟨s, rfl⟩
  rw [List.getElem?_map] at hi
  cases hx : ns[i]? with
  | none => rw [hx] at hi; cases hi
  | some x =>
    rw [hx] at hi
    obtain rfl := Option.some.inj hi
    repeat' tm_at "ex"
    refine od_inS (xs := M.names) rfl ?_
    rw [if_pos rfl, decide_eq_true (hn x (List.mem_of_getElem? hx))]
    repeat' tm_at "ex"
    refine ⟨nofun, fun _ => ?_⟩
    repeat' tm_at "ex"
    exact ⟨_, rfl⟩
theorem sc_check_ends : FnScope ["mill", "names", "name"] ["mill", "names"] (defScope (top 23)) := ⟨rfl, rfl, rfl, by decide +kernel, rfl, by decide +kernel, by decide +kernel⟩
abbrev sp_check_ends (K : PySem.W.Frag) : Sp := SpP K (fun x : Mill × List Str × Dt => [milD x.1, x.2.2]) (fun x => x.1.Short ∧ x.2.2.seq = some (x.2.1.map .str) ∧ x.2.1.length ≤ 20 ∧ ∀ n ∈ x.2.1, n ∈ x.1.spots) (fun _ d => d = .non)
theorem ok_check_ends (T : Tx K mg) (c_check_wheels : Cal Pr w K mg base 2 "check_wheels" (sp_check_wheels K)) (F : FnP K "check_ends" (top 23) f fd) : FnOk Pr w K mg base CX0 3 f fd ["mill", "names"] (sp_check_ends K) := by
  have nd := sc_check_ends.nd
  refine fn_P F sc_check_ends (fun _ => rfl) (by decide) fun cdv A outer s H E hr => ⟨_, (pss_one (ps_expr (pe_c c_check_wheels hr (by decide) rfl (pa_cons (pv 0) (pa_cons (pe_lc (own := [("name", 2)]) rfl nd (piSK (K := K) (pv 1)) (blkOk_by (by kernel_rfl)) (fun _ _ _ _ _ => (pgn (i := 2) nd rfl)) (fun _ _ _ _ _ => (pts_one (pt_cmpR op_ne (pv 2) (pe_k T.crank rfl) (nomark _)))) (fun _ _ _ _ _ => (pv 2))) pa_nil))))), ?_⟩
  rintro ⟨M, ns, d⟩ ⟨hM, hd, hl, hn⟩
  dsimp only at hM hd hl hn
  try dsimp only [cxOf]
  change SX K _ [.dat (milD M), .dat d, .emp] _ _
  repeat' tm_at "ex"
  refine ex_of (ef_lcM (tch_name 2) (by decide) ?_)
  repeat' tm_at "ex"
  refine ⟨_, hd, noOwn_of rfl, Str, ns, .str, fun x => if x = ("" : Str) then none else some (.str x), rfl, sz (by omega), fun x hx => ?_, ?_⟩
  · unfold LcT
    repeat' tm_at "ex"
    refine ⟨fun h => ?_, fun h => ?_⟩
    · repeat' tm_at "ex"
      refine ⟨agr_wipe.set (by decide), ?_⟩
      have : x ≠ ("" : Str) := by simpa using h
      exact if_neg this
    · have : x = ("" : Str) := by simpa using h
      exact ⟨agr_wipe.set (by decide), if_pos this⟩
  · repeat' tm_at "ex"
    have e : ns.filterMap (fun x => if x = ("" : Str) then none else some (Dt.str x)) = (ns.filter fun x => !decide (x = ("" : Str))).map .str := by
      clear hn hl hd hM
      induction ns with
      | nil => rfl
      | cons n ns ih =>
        by_cases h : n = ("" : Str)
        · rw [List.filterMap_cons_none (by rw [if_pos h]), List.filter_cons_of_neg (by simp [h]), ih]
        · rw [List.filterMap_cons_some (by rw [if_neg h]), List.filter_cons_of_pos (by simp [h]), ih]; rfl
    rw [e]
    refine ⟨(M, ns.filter fun x => !decide (x = ("" : Str)), _), rfl, ⟨hM, rfl, fun n hn' => ?_⟩, fun d e => ?_⟩
    · rw [List.mem_filter] at hn'
      have h1 := hn n hn'.1
      have h2 : n ≠ ("" : Str) := by simpa using hn'.2
      rcases List.mem_cons.mp h1 with z | z
      · exact absurd z h2
      · exact z
    · rfl
end

set_option Elab.async false
set_option linter.all false
set_option maxRecDepth 100000
set_option maxHeartbeats 1000000
section
open PySem L2
variable [B : Tb]
variable {Pr : Program} {w : World} {K : PySem.W.Frag} {mg : Str → Option Value} {base : Heap} {f : Addr} {fd : FuncData}

theorem ok_never {ps : List Str} : FnOk Pr w K mg base CX0 1 f fd ps (fun _ _ _ _ => False) := ⟨fun vs H Q E h => h.elim, fun A outer s H args us vs Q E hr e0 hb r hsp => hsp.elim⟩
theorem sc_tupled : FnScope ["thing", "part"] ["thing"] (defScope (top 8)) := ⟨rfl, rfl, rfl, by decide +kernel, rfl, by decide +kernel, by decide +kernel⟩
abbrev sp_tupled0 (K : PySem.W.Frag) : Sp := SpP K (fun x : Key => [kD x]) (fun _ => True) (fun x d => d = kD x)
theorem ok_tupled0 (T : Tx K mg) (c_tupled : Cal Pr w K mg base 1 "tupled" (fun _ _ _ _ => False)) (F : FnP K "tupled" (top 8) f fd) : FnOk Pr w K mg base CX0 2 f fd ["thing"] (sp_tupled0 K) := by
  have nd := sc_tupled.nd
  refine fn_P F sc_tupled (fun _ => rfl) (by decide) fun cdv A outer s H E hr => ⟨_, (pss_one (ps_ret (pe_ifExp (pt_val (pe_callB (isiTK (K := K)) rfl T.isinstance_ bt_isinstance (pa_cons (pv 0) (pa_cons (pe_tup (pa_cons (pe_bltn (v := .ty "list") rfl T.list_ bt_list rfl) (pa_cons (pe_bltn (v := .ty "tuple") rfl T.tuple_ bt_tuple rfl) pa_nil))) pa_nil)))) (pe_callTy (tupleK (K := K)) rfl T.tuple_ bt_tuple (pa_cons (pe_lc (own := [("part", 1)]) rfl nd (piSK (K := K) (pv 0)) (blkOk_by (by kernel_rfl)) (fun _ _ _ _ _ => (pgn (i := 1) nd rfl)) (fun _ _ _ _ _ => pts_nil) (fun _ _ _ _ _ => (pe_c c_tupled hr (by decide) rfl (pa_cons (pv 1) pa_nil)))) pa_nil)) (pv 0)))), ?_⟩
  rintro k _
  try dsimp only [cxOf]
  change SX K _ [.dat (kD k), .emp] _ _
  repeat' tm_at "ex"
  refine ⟨by cases k <;> rfl, ?_⟩
  repeat' tm_at "ex"
  refine ⟨fun h => ?_, fun _ => ?_⟩
  · cases k <;> cases h
  · repeat' tm_at "ex"
    rfl
abbrev sp_tupled1 (K : PySem.W.Frag) : Sp := SpP K (fun x : List Key => [tD x]) (fun x => x.length ≤ 1000) (fun x d => d = tD x)
theorem ok_tupled1 (T : Tx K mg) (c_tupled : Cal Pr w K mg base 2 "tupled" (sp_tupled0 K)) (F : FnP K "tupled" (top 8) f fd) : FnOk Pr w K mg base CX0 3 f fd ["thing"] (sp_tupled1 K) := by
  have nd := sc_tupled.nd
  refine fn_P F sc_tupled (fun _ => rfl) (by decide) fun cdv A outer s H E hr => ⟨_, (pss_one (ps_ret (pe_ifExp (pt_val (pe_callB (isiTK (K := K)) rfl T.isinstance_ bt_isinstance (pa_cons (pv 0) (pa_cons (pe_tup (pa_cons (pe_bltn (v := .ty "list") rfl T.list_ bt_list rfl) (pa_cons (pe_bltn (v := .ty "tuple") rfl T.tuple_ bt_tuple rfl) pa_nil))) pa_nil)))) (pe_callTy (tupleK (K := K)) rfl T.tuple_ bt_tuple (pa_cons (pe_lc (own := [("part", 1)]) rfl nd (piSK (K := K) (pv 0)) (blkOk_by (by kernel_rfl)) (fun _ _ _ _ _ => (pgn (i := 1) nd rfl)) (fun _ _ _ _ _ => pts_nil) (fun _ _ _ _ _ => (pe_c c_tupled hr (by decide) rfl (pa_cons (pv 1) pa_nil)))) pa_nil)) (pv 0)))), ?_⟩
  rintro ks hl
  try dsimp only [cxOf]
  change SX K _ [.dat (tD ks), .emp] _ _
  repeat' tm_at "ex"
  refine ⟨fun _ => ?_, nofun⟩
  repeat' tm_at "ex"
  refine ex_of (ef_lcA (tch_name 1) (by decide) ?_)
  repeat' tm_at "ex"
  refine ⟨noOwn_of rfl, Key, ks, kD, kD, rfl, sz hl, fun x hx => ?_, ?_⟩
  · repeat' tm_at "ex"
    exact ⟨agr_wipe.set (by decide), rfl⟩
  · repeat' tm_at "ex"
    rfl
abbrev sp_tupled (K : PySem.W.Frag) : Sp := SpP K (fun x : List (List Key) => [.tup (x.map tD)]) (fun x => x.length ≤ 1000 ∧ ∀ k ∈ x, k.length ≤ 1000) (fun x d => d = .pt (x.map tD))
abbrev sp_tupled2 (K : PySem.W.Frag) : Sp := sp_tupled K
theorem ok_tupled2 (T : Tx K mg) (c_tupled : Cal Pr w K mg base 3 "tupled" (sp_tupled1 K)) (F : FnP K "tupled" (top 8) f fd) : FnOk Pr w K mg base CX0 4 f fd ["thing"] (sp_tupled2 K) := by
  have nd := sc_tupled.nd
  refine fn_P F sc_tupled (fun _ => rfl) (by decide) fun cdv A outer s H E hr => ⟨_, (pss_one (ps_ret (pe_ifExp (pt_val (pe_callB (isiTK (K := K)) rfl T.isinstance_ bt_isinstance (pa_cons (pv 0) (pa_cons (pe_tup (pa_cons (pe_bltn (v := .ty "list") rfl T.list_ bt_list rfl) (pa_cons (pe_bltn (v := .ty "tuple") rfl T.tuple_ bt_tuple rfl) pa_nil))) pa_nil)))) (pe_callTy (tuplePK (K := K)) rfl T.tuple_ bt_tuple (pa_cons (pe_lc (own := [("part", 1)]) rfl nd (piSK (K := K) (pv 0)) (blkOk_by (by kernel_rfl)) (fun _ _ _ _ _ => (pgn (i := 1) nd rfl)) (fun _ _ _ _ _ => pts_nil) (fun _ _ _ _ _ => (pe_c c_tupled hr (by decide) rfl (pa_cons (pv 1) pa_nil)))) pa_nil)) (pv 0)))), ?_⟩
  rintro kss ⟨hl, hk⟩
  try dsimp only [cxOf]
  change SX K _ [.dat (.tup (kss.map tD)), .emp] _ _
  repeat' tm_at "ex"
  refine ⟨fun _ => ?_, nofun⟩
  repeat' tm_at "ex"
  refine ex_of (ef_lcA (tch_name 1) (by decide) ?_)
  repeat' tm_at "ex"
  refine ⟨noOwn_of rfl, List Key, kss, tD, tD, rfl, sz hl, fun x hx => ?_, ?_⟩
  · repeat' tm_at "ex"
    refine ⟨hk x hx, fun d e => ⟨agr_wipe.set (by decide), e⟩⟩
  · repeat' tm_at "ex"
    refine cd_tupP (fun d hd => ?_) rfl
    obtain ⟨k, _, rfl⟩ := List.mem_map.mp hd
    rfl
abbrev sp_tupledT (K : PySem.W.Frag) : Sp := SpP K (fun x : List (List Key) => [.tup (x.map tD)]) (fun x => x.length ≤ 1000 ∧ ∀ k ∈ x, k.length ≤ 1000) (fun x d => d = .tup (x.map tD))
theorem ok_tupledT (T : Tx K mg) (c_tupled : Cal Pr w K mg base 3 "tupled" (sp_tupled1 K)) (F : FnP K "tupled" (top 8) f fd) : FnOk Pr w K mg base CX0 4 f fd ["thing"] (sp_tupledT K) := by
  have nd := sc_tupled.nd
  refine fn_P F sc_tupled (fun _ => rfl) (by decide) fun cdv A outer s H E hr => ⟨_, (pss_one (ps_ret (pe_ifExp (pt_val (pe_callB (isiTK (K := K)) rfl T.isinstance_ bt_isinstance (pa_cons (pv 0) (pa_cons (pe_tup (pa_cons (pe_bltn (v := .ty "list") rfl T.list_ bt_list rfl) (pa_cons (pe_bltn (v := .ty "tuple") rfl T.tuple_ bt_tuple rfl) pa_nil))) pa_nil)))) (pe_callTy (tupleK (K := K)) rfl T.tuple_ bt_tuple (pa_cons (pe_lc (own := [("part", 1)]) rfl nd (piSK (K := K) (pv 0)) (blkOk_by (by kernel_rfl)) (fun _ _ _ _ _ => (pgn (i := 1) nd rfl)) (fun _ _ _ _ _ => pts_nil) (fun _ _ _ _ _ => (pe_c c_tupled hr (by decide) rfl (pa_cons (pv 1) pa_nil)))) pa_nil)) (pv 0)))), ?_⟩
  rintro kss ⟨hl, hk⟩
  try dsimp only [cxOf]
  change SX K _ [.dat (.tup (kss.map tD)), .emp] _ _
  repeat' tm_at "ex"
  refine ⟨fun _ => ?_, nofun⟩
  repeat' tm_at "ex"
  refine ex_of (ef_lcA (tch_name 1) (by decide) ?_)
  repeat' tm_at "ex"
  refine ⟨noOwn_of rfl, List Key, kss, tD, tD, rfl, sz hl, fun x hx => ?_, ?_⟩
  · repeat' tm_at "ex"
    refine ⟨hk x hx, fun d e => ⟨agr_wipe.set (by decide), e⟩⟩
  · repeat' tm_at "ex"
    rfl
theorem cal_tupled (T : Tx K mg) (F : FnP K "tupled" (top 8) f fd) (gf : mg "tupled" = some (.ref f)) (hb : Binds K fd ["thing"] []) : Cal Pr w K mg base 4 "tupled" (sp_tupled K) :=
  cal_of F gf (ok_tupled2 T (cal_of F gf (ok_tupled1 T (cal_of F gf (ok_tupled0 T (cal_of F gf ok_never hb) F) hb) F) hb) F) hb
theorem cal_tupledT (T : Tx K mg) (F : FnP K "tupled" (top 8) f fd) (gf : mg "tupled" = some (.ref f)) (hb : Binds K fd ["thing"] []) : Cal Pr w K mg base 4 "tupled" (sp_tupledT K) :=
  cal_of F gf (ok_tupledT T (cal_of F gf (ok_tupled1 T (cal_of F gf (ok_tupled0 T (cal_of F gf ok_never hb) F) hb) F) hb) F) hb
end

set_option Elab.async false
set_option linter.all false
set_option maxRecDepth 100000
/-! M2: tables by name. -/
section
open PySem L2
theorem _root_.L2.Room.units1 {k : Nat} {A : Around} (r : Room k A) : A.units + 1 < cLine := by have := r.un; omega
section
variable {κ : Type} [DecidableEq κ]
theorem pk_fresh {ks : List (κ × Dt)} {k : κ} {v : Dt} (h : k ∉ ks.map (·.1)) : pk ks k v = ks ++ [(k, v)] := by
  unfold pk
  rw [if_neg]
  intro z
  rw [List.any_eq_true] at z
  obtain ⟨p, hp, e⟩ := z
  exact h (List.mem_map.mpr ⟨p, hp, by simpa using e⟩)
theorem gk_map {f : κ → Dt} {k : κ} : ∀ {xs : List κ}, k ∈ xs → gk (xs.map fun x => (x, f x)) k = some (f k)
  | x :: xs, h => by
    rw [List.map_cons, gk_cons]
    by_cases e : x = k
    · subst e; simp
    · rw [if_neg e]
      rcases List.mem_cons.mp h with z | z
      · exact absurd z.symm e
      · exact gk_map z
theorem gk_map_no {f : κ → Dt} {k : κ} : ∀ {xs : List κ}, k ∉ xs → gk (xs.map fun x => (x, f x)) k = none
  | [], _ => rfl
  | x :: xs, h => by
    rw [List.map_cons, gk_cons, if_neg (fun z => h (by rw [z]; exact List.mem_cons_self ..))]
    exact gk_map_no fun z => h (List.mem_cons_of_mem _ z)
theorem pk_map {f g : κ → Dt} {k : κ} {v : Dt} {xs : List κ} (h : k ∈ xs) (hg : ∀ x ∈ xs, g x = if x = k then v else f x) : pk (xs.map fun x => (x, f x)) k v = xs.map fun x => (x, g x) := by
  unfold pk
  rw [if_pos]
  · rw [List.map_map]
    refine List.map_congr_left fun x hx => ?_
    show (if x = k then (x, v) else (x, f x)) = (x, g x)
    rw [hg x hx]
    by_cases e : x = k <;> simp [e]
  · rw [List.any_eq_true]
    exact ⟨(k, f k), List.mem_map.mpr ⟨k, h, rfl⟩, by simp⟩
end
theorem mgk_fresh : ∀ {more kvs : List (Str × Dt)}, (more.map (·.1)).Nodup → (∀ k ∈ more.map (·.1), k ∉ kvs.map (·.1)) → mgk kvs more = kvs ++ more
  | [], kvs, _, _ => by rw [List.append_nil]; rfl
  | (x, d) :: more, kvs, nd, h => by
    rw [mgk_cons, pk_fresh (h x (by simp)), mgk_fresh, List.append_assoc]; rfl
    · exact (List.nodup_cons.mp nd).2
    · intro k hk
      rw [List.map_append, List.mem_append, not_or]
      refine ⟨h k (by rw [List.map_cons]; exact List.mem_cons_of_mem _ hk), ?_⟩
      simp only [List.map_cons, List.map_nil, List.mem_singleton]
      intro z
      subst z
      exact (List.nodup_cons.mp nd).1 hk
/-! ### begins -/
/-- a mill's names: unlike, none of them the crank's -/
structure Mill.Named (M : Mill) : Prop where
  nd : M.names.Nodup
  ne : ("" : Str) ∉ M.names
theorem Mill.Named.spots {M : Mill} (h : M.Named) : M.spots.Nodup := List.nodup_cons.mpr ⟨h.ne, h.nd⟩
/-- begins by name; as a table with the crank -/
abbrev begF (ns : List Str) (b : Str → Int) : Dt := .tup (ns.map fun n => .tup [.str n, .int (b n)])
abbrev tabF (ns : List Str) (b : Str → Int) : Dt := .dk (ns.map fun n => (n, .int (b n)))
theorem look_tab {ns : List Str} {b : Str → Int} {n : Str} (h : n ∈ ns) : (tabF ns b).look (.str n) = some (some (.int (b n))) := by
  show some (gk _ _) = _
  rw [gk_map (f := fun n => .int (b n)) h]
theorem begF_rows (ns : List Str) (b : Str → Int) : begF ns b = .tup ((ns.map fun n => [(Sum.inr n : Key), Sum.inl (b n)]).map tD) := by
  unfold begF
  rw [List.map_map]; rfl
/-- what a saying is off by -/
def offI (late dial du : Int) : Int := if 0 < dial then (du - late) % dial else du - late
def Sy.off (x : Sy) (b : Str → Int) : Int := offI x.late x.dial (b x.other - b x.one)
theorem pls_strs {xs : List Str} (h : ∀ x ∈ xs, PyData.strOk x = true) (n : Nat) : Dt.pls n (xs.map .str) = true := by
  rw [Dt.pls_all, List.all_eq_true]
  intro d hd
  obtain ⟨x, hx, rfl⟩ := List.mem_map.mp hd
  unfold Dt.pl
  exact h x hx
end

set_option Elab.async false
set_option linter.all false
set_option maxRecDepth 100000
set_option maxHeartbeats 1000000
section
open PySem L2
variable [B : Tb]
variable {Pr : Program} {w : World} {K : PySem.W.Frag} {mg : Str → Option Value} {base : Heap} {f : Addr} {fd : FuncData}

theorem sc_begin_table : FnScope ["begins"] ["begins"] (defScope (top 24)) := ⟨rfl, rfl, rfl, by decide +kernel, rfl, by decide +kernel, by decide +kernel⟩
abbrev sp_begin_table (K : PySem.W.Frag) : Sp := SpP K (fun x : List Str × (Str → Int) => [begF x.1 x.2]) (fun x => x.1.length ≤ 20 ∧ x.1.Nodup ∧ ("" : Str) ∉ x.1 ∧ x.2 "" = 0) (fun x d => d = tabF ("" :: x.1) x.2)
theorem ok_begin_table (T : Tx K mg) (c_tupled : Cal Pr w K mg base 4 "tupled" (sp_tupled K)) (F : FnP K "begin_table" (top 24) f fd) : FnOk Pr w K mg base CX0 5 f fd ["begins"] (sp_begin_table K) := by
  have nd := sc_begin_table.nd
  refine fn_P F sc_begin_table (fun _ => rfl) (by decide) fun cdv A outer s H E hr => ⟨_, (pss_one (ps_ret (pe_dispStar (pe_k T.crank rfl) pe_int (pe_callTy (call_dictT rfl) rfl T.dict_ bt_dict (pa_cons (pe_c c_tupled hr (by decide) rfl (pa_cons (pv 0) pa_nil)) pa_nil))))), ?_⟩
  rintro ⟨ns, b⟩ ⟨hl, nd', ne, b0⟩
  dsimp only at hl nd' ne b0
  try dsimp only [cxOf]
  change SX K _ [.dat (begF ns b)] _ _
  tm_at "ex"
  refine ex_of (ef_dispStar ?_)
  refine ex_of (ef_cb ?_)
  repeat' tm_at "ex"
  refine ⟨ns.map fun n => [(Sum.inr n : Key), Sum.inl (b n)], by rw [begF_rows], ⟨by rw [List.length_map]; omega, fun k hk => ?_⟩, ?_⟩
  · obtain ⟨n, _, rfl⟩ := List.mem_map.mp hk
    simp
  · repeat' tm_at "ex"
    have e : (ns.map fun n => [(Sum.inr n : Key), Sum.inl (b n)]).map tD = ((ns.map fun n => (n, Dt.int (b n))).map fun p => Dt.tup [.str p.1, p.2]) := by
      rw [List.map_map, List.map_map]; rfl
    rw [e]
    have e2 : ((ns.map fun n => (n, Dt.int (b n))).map (·.1)) = ns := by rw [List.map_map]; exact List.map_id _
    refine cf_dictT ⟨_, rfl, ?_, ?_⟩
    · rw [mgk_fresh (by rw [e2]; exact nd') (by simp)]
      simp
      exact Nat.lt_of_le_of_lt hl (by decide)
    · rw [mgk_fresh (kvs := []) (by rw [e2]; exact nd') (by simp), List.nil_append, mgk_fresh (by rw [e2]; exact nd') (by
        rw [e2]
        intro k hk z
        simp only [List.map_cons, List.map_nil, List.mem_singleton] at z
        subst z
        exact ne hk)]
      show Dt.dk _ = Dt.dk _
      rw [List.map_cons, b0]; rfl
theorem sc_saying_off : FnScope ["table", "saying", "name", "one", "other", "late", "dial"] ["table", "saying"] (defScope (top 25)) := ⟨rfl, rfl, rfl, by decide +kernel, rfl, by decide +kernel, by decide +kernel⟩
abbrev sp_saying_off (K : PySem.W.Frag) : Sp := SpP K (fun x : List Str × (Str → Int) × Sy => [tabF x.1 x.2.1, syD x.2.2]) (fun x => x.2.2.one ∈ x.1 ∧ x.2.2.other ∈ x.1) (fun x d => d = .int (x.2.2.off x.2.1))
theorem ok_saying_off (T : Tx K mg) (c_class_of : Cal Pr w K mg base 1 "class_of" (sp_class_of K)) (F : FnP K "saying_off" (top 25) f fd) : FnOk Pr w K mg base CX0 2 f fd ["table", "saying"] (sp_saying_off K) := by
  have nd := sc_saying_off.nd
  refine fn_P F sc_saying_off (fun _ => rfl) (by decide) fun cdv A outer s H E hr => ⟨_, (pss_cons (ps_asg (pv 1) (pg_tupK (K := K) (n := 5) rfl (pgs_cons (pgn (i := 2) nd rfl) (pgs_cons (pgn (i := 3) nd rfl) (pgs_cons (pgn (i := 4) nd rfl) (pgs_cons (pgn (i := 5) nd rfl) (pgs_cons (pgn (i := 6) nd rfl) pgs_nil)))))))
    (pss_one (ps_ret (pe_ix (ixK (K := K)) (pe_c c_class_of hr (by decide) rfl (pa_cons (pe_op op_sub (pe_op op_sub (pe_dget hr.units1 (pv 0) (pv 4) (fun _ _ => rfl)) (pe_dget hr.units1 (pv 0) (pv 3) (fun _ _ => rfl))) (pv 5)) (pa_cons (pv 6) pa_nil))) pe_int (fun _ _ => rfl))))), ?_⟩
  rintro ⟨ns, b, y⟩ ⟨h1, h2⟩
  dsimp only at h1 h2
  try dsimp only [cxOf]
  change SX K _ [.dat (tabF ns b), .dat (syD y), .emp, .emp, .emp, .emp, .emp] _ _
  repeat' tm_at "ex"
  refine ⟨_, look_tab h2, ?_⟩
  repeat' tm_at "ex"
  refine ⟨_, look_tab h1, ?_⟩
  repeat' tm_at "ex"
  show Dt.int _ = Dt.int _
  congr 1
theorem sc_unkept : FnScope ["mill", "begins", "table", "saying"] ["mill", "begins"] (defScope (top 26)) := ⟨rfl, rfl, rfl, by decide +kernel, rfl, by decide +kernel, by decide +kernel⟩
abbrev sp_unkept (K : PySem.W.Frag) : Sp := SpP K (fun x : Mill × (Str → Int) => [milD x.1, begF x.1.names x.2]) (fun x => x.1.Short ∧ x.1.Named ∧ x.2 "" = 0 ∧ ∀ y ∈ x.1.ss, y.one ∈ x.1.spots ∧ y.other ∈ x.1.spots ∧ y.off x.2 = 0) (fun x d => d = .tup [])
theorem ok_unkept (T : Tx K mg) (c_begin_table : Cal Pr w K mg base 5 "begin_table" (sp_begin_table K)) (c_saying_off : Cal Pr w K mg base 2 "saying_off" (sp_saying_off K)) (F : FnP K "unkept" (top 26) f fd) : FnOk Pr w K mg base CX0 6 f fd ["mill", "begins"] (sp_unkept K) := by
  have nd := sc_unkept.nd
  refine fn_P F sc_unkept (fun _ => rfl) (by decide) fun cdv A outer s H E hr => ⟨_, (pss_cons (pst (i := 2) nd rfl (pe_c c_begin_table hr (by decide) rfl (pa_cons (pv 1) pa_nil)))
    (pss_one (ps_ret (pe_callTy (tupleK (K := K)) rfl T.tuple_ bt_tuple (pa_cons (pe_lc (own := [("saying", 3)]) rfl nd (piTK (K := K) (pe_ix (ixK (K := K)) (pv 0) pe_int (fun _ _ => rfl))) (blkOk_by (by kernel_rfl)) (fun _ _ _ _ _ => (pgn (i := 3) nd rfl)) (fun _ _ _ _ _ => (pts_one (pt_cmpR op_ne (pe_c c_saying_off hr (by decide) rfl (pa_cons (pv 2) (pa_cons (pv 3) pa_nil))) pe_int (nomark _)))) (fun _ _ _ _ _ => (pe_ix (ixK (K := K)) (pv 3) pe_int (fun _ _ => rfl)))) pa_nil))))), ?_⟩
  rintro ⟨M, b⟩ ⟨hM, hN, b0, hs⟩
  dsimp only at hM hN b0 hs
  try dsimp only [cxOf]
  change SX K _ [.dat (milD M), .dat (begF M.names b), .emp, .emp] _ _
  repeat' tm_at "ex"
  refine ⟨⟨by have := hM.ws; simp [Mill.names]; exact this, hN.nd, hN.ne, b0⟩, ?_⟩
  repeat' tm_at "ex"
  refine ex_of (ef_lcM (tch_name 3) (by decide) ?_)
  repeat' tm_at "ex"
  refine ⟨noOwn_of rfl, Sy, M.ss, syD, fun _ => none, rfl, sz (by have := hM.ss; omega), fun y hy => ?_, ?_⟩
  · obtain ⟨h1, h2, h3⟩ := hs y hy
    unfold LcT
    repeat' tm_at "ex"
    refine ⟨⟨h1, h2⟩, ?_⟩
    repeat' tm_at "ex"
    rw [h3]
    exact ⟨nofun, fun _ => ⟨agr_wipe.set (by decide), rfl⟩⟩
  · repeat' tm_at "ex"
    have : M.ss.filterMap (fun _ => (none : Option Dt)) = [] := by simp
    rw [this]
end

set_option Elab.async false
set_option linter.all false
set_option maxRecDepth 100000
set_option maxHeartbeats 1000000
section
open PySem L2
variable [B : Tb]
variable {Pr : Program} {w : World} {K : PySem.W.Frag} {mg : Str → Option Value} {base : Heap} {f : Addr} {fd : FuncData}

theorem sc_is_begins : FnScope ["mill", "thing", "pair", "name", "begin"] ["mill", "thing"] (defScope (top 27)) := ⟨rfl, rfl, rfl, by decide +kernel, rfl, by decide +kernel, by decide +kernel⟩
abbrev sp_is_begins (K : PySem.W.Frag) : Sp := SpP K (fun x : Mill × (Str → Int) => [milD x.1, begF x.1.names x.2]) (fun x => x.1.Short ∧ ∀ n ∈ x.1.names, PyData.strOk n = true) (fun x d => d = .bl true)
theorem ok_is_begins (T : Tx K mg) (c_wheel_names : Cal Pr w K mg base 1 "wheel_names" (sp_wheel_names K)) (c_is_tuple_of : Cal Pr w K mg base 1 "is_tuple_of" (sp_is_tuple_of K)) (c_is_number : Cal Pr w K mg base 1 "is_number" (sp_is_number K)) (F : FnP K "is_begins" (top 27) f fd) : FnOk Pr w K mg base CX0 2 f fd ["mill", "thing"] (sp_is_begins K) := by
  have nd := sc_is_begins.nd
  refine fn_P F sc_is_begins (fun _ => rfl) (by decide) fun cdv A outer s H E hr => ⟨_, (pss_cons (ps_if (PW.pt (pw_or (pt_not (pt_val (pe_callB (isiK (K := K)) rfl T.isinstance_ bt_isinstance (pa_cons (pv 1) (pa_cons (pe_bltn (v := .ty "tuple") rfl T.tuple_ bt_tuple rfl) pa_nil))))) (pw_or1 (pt_not (pt_val (pe_callB (allK (K := K) rfl) rfl T.all_ bt_all (pa_cons (pe_lc (own := [("pair", 2)]) rfl nd (piTK (K := K) (pv 1)) (blkOk_by (by kernel_rfl)) (fun _ _ _ _ _ => (pgn (i := 2) nd rfl)) (fun _ _ _ _ _ => pts_nil) (fun _ _ _ _ _ => (pe_c c_is_tuple_of hr (by decide) rfl (pa_cons (pv 2) (pa_cons (pe_k T.pair rfl) pa_nil))))) pa_nil))))))) (pss_one (ps_ret pe_bl)) pss_nil)
    (pss_cons (ps_if (pt_not (pt_val (pe_callB (allK (K := K) rfl) rfl T.all_ bt_all (pa_cons (pe_lc (own := [("name", 3), ("begin", 4)]) rfl nd (piTK (K := K) (pv 1)) (blkOk_by (by kernel_rfl)) (fun _ _ _ _ _ => (pg_tupK (K := K) (n := 2) rfl (pgs_cons (pgn (i := 3) nd rfl) (pgs_cons (pgn (i := 4) nd rfl) pgs_nil)))) (fun _ _ _ _ _ => pts_nil) (fun _ _ _ _ _ => (pe_and (pe_callB (isiK (K := K)) rfl T.isinstance_ bt_isinstance (pa_cons (pv 3) (pa_cons (pe_bltn (v := .ty "str") rfl T.str_ bt_str rfl) pa_nil))) (pe_one (pe_c c_is_number hr (by decide) rfl (pa_cons (pv 4) pa_nil)))))) pa_nil)))) (pss_one (ps_ret pe_bl)) pss_nil)
    (pss_one (ps_ret (pe_cmpR (eqDK (K := K) hr.units) (pe_callTy (tupleK (K := K)) rfl T.tuple_ bt_tuple (pa_cons (pe_lc (own := [("name", 3), ("begin", 4)]) rfl nd (piTK (K := K) (pv 1)) (blkOk_by (by kernel_rfl)) (fun _ _ _ _ _ => (pg_tupK (K := K) (n := 2) rfl (pgs_cons (pgn (i := 3) nd rfl) (pgs_cons (pgn (i := 4) nd rfl) pgs_nil)))) (fun _ _ _ _ _ => pts_nil) (fun _ _ _ _ _ => (pv 3))) pa_nil)) (pe_c c_wheel_names hr (by decide) rfl (pa_cons (pv 0) pa_nil)) (nomark _)))))), ?_⟩
  rintro ⟨M, b⟩ ⟨hM, hk⟩
  dsimp only at hM hk
  have hl : M.names.length ≤ 20 := by have := hM.ws; simp [Mill.names]; exact this
  try dsimp only [cxOf]
  change SX K _ [.dat (milD M), .dat (begF M.names b), .emp, .emp, .emp] _ _
  repeat' tm_at "ex"
  refine ⟨nofun, fun _ => ?_⟩
  repeat' tm_at "ex"
  refine ex_of (ef_lcA (tch_name 2) (by decide) ?_)
  repeat' tm_at "ex"
  refine ⟨noOwn_of rfl, Str, M.names, fun n => .tup [.str n, .int (b n)], fun _ => .bl true, rfl, sz (by omega), fun x hx => ?_, ?_⟩
  · repeat' tm_at "ex"
    exact ⟨agr_wipe.set (by decide), rfl⟩
  repeat' tm_at "ex"
  refine cd_allT ?_
  repeat' tm_at "ex"
  refine ⟨nofun, fun _ => ?_⟩
  repeat' tm_at "ex"
  refine ex_of (ef_lcA (tch_tup (tchs_cons (tch_name 3) (tchs_cons (tch_name 4) tchs_nil))) (by decide) ?_)
  repeat' tm_at "ex"
  refine ⟨noOwn_of rfl, Str, M.names, fun n => .tup [.str n, .int (b n)], fun _ => .bl true, rfl, sz (by omega), fun x hx => ?_, ?_⟩
  · repeat' tm_at "ex"
    refine ⟨fun _ => ?_, nofun⟩
    repeat' tm_at "ex"
    exact ⟨(agr_wipe.set (by decide)).set (by decide), rfl⟩
  repeat' tm_at "ex"
  refine cd_allT ?_
  repeat' tm_at "ex"
  refine ⟨nofun, fun _ => ?_⟩
  repeat' tm_at "ex"
  refine ex_of (ef_lcA (tch_tup (tchs_cons (tch_name 3) (tchs_cons (tch_name 4) tchs_nil))) (by decide) ?_)
  repeat' tm_at "ex"
  refine ⟨noOwn_of rfl, Str, M.names, fun n => .tup [.str n, .int (b n)], .str, rfl, sz (by omega), fun x hx => ?_, ?_⟩
  · repeat' tm_at "ex"
    exact ⟨(agr_wipe.set (by decide)).set (by decide), rfl⟩
  repeat' tm_at "ex"
  refine ⟨hM, ?_⟩
  repeat' tm_at "ex"
  refine od_eqD (n := 60) (by decide) (pls_strs hk 59) (pls_strs hk 59) fun r hr => ?_
  rw [hr.mpr rfl]
theorem sc_is_setting : FnScope ["mill", "thing"] ["mill", "thing"] (defScope (top 28)) := ⟨rfl, rfl, rfl, by decide +kernel, rfl, by decide +kernel, by decide +kernel⟩
abbrev sp_is_setting (K : PySem.W.Frag) : Sp := SpP K (fun x : Mill × (Str → Int) => [milD x.1, begF x.1.names x.2]) (fun x => x.1.Short ∧ x.1.Named ∧ (∀ n ∈ x.1.names, PyData.strOk n = true) ∧ x.2 "" = 0 ∧ ∀ y ∈ x.1.ss, y.one ∈ x.1.spots ∧ y.other ∈ x.1.spots ∧ y.off x.2 = 0) (fun x d => d = .bl true)
theorem ok_is_setting (T : Tx K mg) (c_is_begins : Cal Pr w K mg base 2 "is_begins" (sp_is_begins K)) (c_unkept : Cal Pr w K mg base 6 "unkept" (sp_unkept K)) (F : FnP K "is_setting" (top 28) f fd) : FnOk Pr w K mg base CX0 7 f fd ["mill", "thing"] (sp_is_setting K) := by
  have nd := sc_is_setting.nd
  refine fn_P F sc_is_setting (fun _ => rfl) (by decide) fun cdv A outer s H E hr => ⟨_, (pss_one (ps_ret (pe_and (pe_c c_is_begins hr (by decide) rfl (pa_cons (pv 0) (pa_cons (pv 1) pa_nil))) (pe_one (pe_cmpR op_eq (pe_callB (lenK (K := K)) rfl T.len_ bt_len (pa_cons (pe_c c_unkept hr (by decide) rfl (pa_cons (pv 0) (pa_cons (pv 1) pa_nil))) pa_nil)) pe_int (nomark _)))))), ?_⟩
  rintro ⟨M, b⟩ ⟨hM, hN, hk, b0, hs⟩
  dsimp only at hM hN hk b0 hs
  try dsimp only [cxOf]
  change SX K _ [.dat (milD M), .dat (begF M.names b)] _ _
  repeat' tm_at "ex"
  refine ⟨⟨hM, hk⟩, ?_⟩
  repeat' tm_at "ex"
  refine ⟨fun _ => ?_, nofun⟩
  repeat' tm_at "ex"
  refine ⟨⟨hM, hN, b0, hs⟩, ?_⟩
  repeat' tm_at "ex"
  rfl
end

set_option Elab.async false
set_option linter.all false
set_option maxRecDepth 100000
/-! M3: tables of classes. -/
section
open PySem L2
theorem nomod {x m : Int} : m ∣ x - (if 0 < m then x % m else x) := by
  split
  · exact ⟨x / m, by have := Int.mul_ediv_add_emod x m; omega⟩
  · rw [Int.sub_self]; exact Int.dvd_zero _
theorem cls_turn {x m : Int} (hm : 0 ≤ m) : cls (-(if 0 < m then x % m else x)) m = cls (-x) m := by
  refine cls_eq ?_ hm
  have h := nomod (x := x) (m := m)
  have e : -(if 0 < m then x % m else x) - -x = x - (if 0 < m then x % m else x) := by omega
  rw [e]; exact h
/-- the table of classes over the pairs ps: hidden begins b, dials D -/
abbrev ctD (ps : List (Str × Str)) (b : Str → Int) (D : Str → Str → Int) : Dt := .dt (ps.map fun p => (p, cls (b p.2 - b p.1) (D p.1 p.2)))
theorem look_ct {ps : List (Str × Str)} {b : Str → Int} {D : Str → Str → Int} {u v : Str} (h : (u, v) ∈ ps) : (ctD ps b D).look (.tup [.str u, .str v]) = some (some (cls (b v - b u) (D u v))) := by
  show some (gk _ _) = _
  rw [gk_map (f := fun p : Str × Str => cls (b p.2 - b p.1) (D p.1 p.2)) h]
theorem put_ct {ps : List (Str × Str)} {b : Str → Int} {D D' : Str → Str → Int} {u v : Str} {x : Dt} (hl : ps.length < sizeLine) (h : (u, v) ∈ ps) (hx : x = cls (b v - b u) (D' u v)) (hD : ∀ i j, (i, j) ∈ ps → (i, j) ≠ (u, v) → D' i j = D i j) :
    (ctD ps b D).put (.tup [.str u, .str v]) x = some (ctD ps b D') := by
  show (if _ then some (Dt.dt (pk _ _ _)) else none) = _
  rw [if_pos (by rw [List.length_map]; exact hl), pk_map (f := fun p : Str × Str => cls (b p.2 - b p.1) (D p.1 p.2)) (g := fun p : Str × Str => cls (b p.2 - b p.1) (D' p.1 p.2)) h]
  intro p hp
  split
  · rename_i e
    subst e
    exact hx.symm
  · rename_i e
    rw [hD p.1 p.2 hp e]
/-- one dial made finer -/
def fin2 (D : Str → Str → Int) (u v : Str) (m : Int) : Str → Str → Int := fun i j => if (i = u ∧ j = v) ∨ (i = v ∧ j = u) then (Int.lcm (D u v) m : Int) else D i j
/-! ### the first table -/
def prodP (s t : List Str) : List (Str × Str) := s.flatMap fun u => t.map fun v => (u, v)
theorem mem_prodP {s t : List Str} {u v : Str} : (u, v) ∈ prodP s t ↔ u ∈ s ∧ v ∈ t := by
  unfold prodP
  rw [List.mem_flatMap]
  constructor
  · rintro ⟨x, hx, h⟩
    obtain ⟨y, hy, e⟩ := List.mem_map.mp h
    injection e with e1 e2
    subst e1 e2
    exact ⟨hx, hy⟩
  · rintro ⟨h1, h2⟩
    exact ⟨u, h1, List.mem_map.mpr ⟨v, h2, rfl⟩⟩
theorem prodP_len (s t : List Str) : (prodP s t).length = s.length * t.length := by
  unfold prodP
  induction s with
  | nil => simp
  | cons x s ih => rw [List.flatMap_cons, List.length_append, ih, List.length_map, List.length_cons, Nat.succ_mul]; omega
def D0 : Str → Str → Int := fun u v => if u = v then 0 else 1
theorem cls_D0 {b : Str → Int} {u v : Str} : cls (b v - b u) (D0 u v) = cls 0 (if (!decide (u = v)) = true then 1 else 0) := by
  unfold D0 cls
  by_cases h : u = v
  · subst h; simp
  · simp [h, Int.emod_one]
/-- a new row's cell -/
theorem put_row {s t r : List Str} {u v : Str} {f : Str × Str → Dt} (hl : (prodP s t).length + r.length < sizeLine) (hu : u ∉ s) (hv : v ∉ r) :
    (Dt.dt ((prodP s t ++ r.map fun v => (u, v)).map fun p => (p, f p))).put (.tup [.str u, .str v]) (f (u, v)) = some (.dt ((prodP s t ++ (r ++ [v]).map fun v => (u, v)).map fun p => (p, f p))) := by
  show (if _ then some (Dt.dt (pk _ _ _)) else none) = _
  rw [if_pos (by rw [List.length_map, List.length_append, List.length_map]; exact hl), pk_fresh]
  · simp
  · rw [List.map_map]
    intro z
    obtain ⟨p, hp, e⟩ := List.mem_map.mp z
    have e : p = (u, v) := e
    subst e
    rcases List.mem_append.mp hp with q | q
    · exact hu (mem_prodP.mp q).1
    · obtain ⟨y, hy, e⟩ := List.mem_map.mp q
      injection e with _ e
      subst e
      exact hv hy
end

set_option Elab.async false
set_option linter.all false
set_option maxRecDepth 100000
set_option maxHeartbeats 1000000
section
open PySem L2
variable [B : Tb]
variable {Pr : Program} {w : World} {K : PySem.W.Frag} {mg : Str → Option Value} {base : Heap} {f : Addr} {fd : FuncData}

structure Nar where
  ps : List (Str × Str)
  b : Str → Int
  D : Str → Str → Int
  near : Str
  far : Str
  m : Int
structure Nar.Ok (x : Nar) : Prop where
  l : x.ps.length ≤ 1000
  h1 : (x.near, x.far) ∈ x.ps
  h2 : (x.far, x.near) ∈ x.ps
  ne : x.near ≠ x.far
  m0 : 0 ≤ x.m
  m1 : x.m ≤ 1000
  d0 : 0 ≤ x.D x.near x.far
  d1 : x.D x.near x.far ≤ 1000
  sy : x.D x.far x.near = x.D x.near x.far
theorem sc_narrowed : FnScope ["table", "near", "far", "told", "both"] ["table", "near", "far", "told"] (defScope (top 33)) := ⟨rfl, rfl, rfl, by decide +kernel, rfl, by decide +kernel, by decide +kernel⟩
abbrev sp_narrowed (K : PySem.W.Frag) : Sp := SpO K 0 (fun x : Nar => [.str x.near, .str x.far, cls (x.b x.far - x.b x.near) x.m]) (fun x => ctD x.ps x.b x.D) Nar.Ok (fun x d s => d = .bl true ∧ s = ctD x.ps x.b (fin2 x.D x.near x.far x.m))
theorem ok_narrowed (T : Tx K mg) (c_class_of_both : Cal Pr w K mg base 3 "class_of_both" (sp_class_of_both K)) (c_turned_class : Cal Pr w K mg base 2 "turned_class" (sp_turned_class K)) (F : FnP K "narrowed" (top 33) f fd) : FnOk Pr w K mg base CX0 4 f fd ["table", "near", "far", "told"] (sp_narrowed K) := by
  have nd := sc_narrowed.nd
  refine fn_O F sc_narrowed (fun _ => rfl) (by decide) (by decide) fun cdv A outer s H E hr => ⟨_, (pss_cons (ps_if (pt_cmpR op_eq (pe_ix (ixK (K := K)) (pv 3) pe_int (fun _ _ => rfl)) pe_int (nomark _)) (pss_one (ps_ret pe_bl)) pss_nil)
    (pss_cons (pst (i := 4) nd rfl (pe_c c_class_of_both hr (by decide) rfl (pa_cons (pe_dget hr.units1 (pv 0) (pe_tup (pa_cons (pv 1) (pa_cons (pv 2) pa_nil))) (fun _ _ => rfl)) (pa_cons (pv 3) pa_nil))))
    (pss_cons (ps_if (pt_cmp (pc_notN (pv 4))) (pss_cons (ps_dput hr.units1 (pv 0) (pe_tup (pa_cons (pv 1) (pa_cons (pv 2) pa_nil))) (pv 4) rfl)
    (pss_one (ps_dput hr.units1 (pv 0) (pe_tup (pa_cons (pv 2) (pa_cons (pv 1) pa_nil))) (pe_c c_turned_class hr (by decide) rfl (pa_cons (pv 4) pa_nil)) rfl))) pss_nil)
    (pss_one (ps_ret (pe_cmp (pc_notN (pv 4)))))))), ?_⟩
  rintro ⟨ps, b, D, u, v, m⟩ ⟨hl, h1, h2, ne, m0, m1, d0, d1, sy⟩ l
  dsimp only at hl h1 h2 ne m0 m1 d0 d1 sy
  try dsimp only [cxOf]
  change SX K _ [.own l (ctD ps b D), .dat (.str u), .dat (.str v), .dat (cls (b v - b u) m), .emp] _ _
  repeat' tm_at "ex"
  refine ⟨fun h => ?_, fun h => ?_⟩
  · have h : m = 1 := by simpa using h
    subst h
    repeat' tm_at "ex"
    show Dt.dt _ = Dt.dt _
    congr 1
    refine List.map_congr_left fun p _ => ?_
    have e : fin2 D u v 1 p.1 p.2 = D p.1 p.2 := by
      have hd : ((D u v).natAbs : Int) = D u v := Int.natAbs_of_nonneg d0
      unfold fin2
      split
      · rename_i q
        rcases q with ⟨q1, q2⟩ | ⟨q1, q2⟩
        · rw [q1, q2, Int.lcm_one_right]; exact hd
        · rw [q1, q2, sy, Int.lcm_one_right]; exact hd
      · rfl
    rw [e]
  · repeat' tm_at "ex"
    refine ⟨_, _, _, rfl, look_ct h1, ?_⟩
    repeat' tm_at "ex"
    refine ⟨⟨b v - b u, _, _, _, _⟩, rfl, ⟨d0, d1, m0, m1, nomod, nomod⟩, ?_⟩
    repeat' tm_at "ex"
    refine ⟨fun _ => ?_, nofun⟩
    repeat' tm_at "ex"
    refine ⟨⟨_, _, rfl⟩, ?_⟩
    repeat' tm_at "ex"
    have hz : ps.length < sizeLine := Nat.lt_of_le_of_lt hl (by decide)
    refine ⟨_, _, _, rfl, put_ct (D' := fun i j => if i = u ∧ j = v then (Int.lcm (D u v) m : Int) else D i j) hz h1 (by simp) (fun i j _ n => if_neg fun z => n (by rw [z.1, z.2])), ?_⟩
    repeat' tm_at "ex"
    refine ⟨⟨_, _, rfl⟩, ?_⟩
    repeat' tm_at "ex"
    refine ⟨_, _, _, rfl, put_ct (D' := fin2 D u v m) hz h2 ?_ ?_, ?_⟩
    · have e : fin2 D u v m v u = (Int.lcm (D u v) m : Int) := by
        unfold fin2
        rw [if_pos (.inr ⟨rfl, rfl⟩)]
      have e2 : -(b v - b u) = b u - b v := by omega
      have e3 : cls (b u - b v) (fin2 D u v m v u) = cls (-(b v - b u)) (Int.lcm (D u v) m : Int) := by rw [e, e2]
      rw [e3]
      exact cls_turn (x := b v - b u) (m := (Int.lcm (D u v) m : Int)) (by omega)
    · intro i j _ n
      unfold fin2
      by_cases q : i = u ∧ j = v
      · rw [if_pos (.inl q), if_pos q]
      · rw [if_neg q, if_neg]
        rintro (z | z)
        · exact q z
        · exact n (by rw [z.1, z.2])
    · repeat' tm_at "ex"
      rfl
end

set_option Elab.async false
set_option linter.all false
set_option maxRecDepth 100000
set_option maxHeartbeats 1000000
section
open PySem L2
variable [B : Tb]
variable {Pr : Program} {w : World} {K : PySem.W.Frag} {mg : Str → Option Value} {base : Heap} {f : Addr} {fd : FuncData}

theorem sc_first_table : FnScope ["mill", "found", "near", "far"] ["mill"] (defScope (top 34)) := ⟨rfl, rfl, rfl, by decide +kernel, rfl, by decide +kernel, by decide +kernel⟩
abbrev sp_first_table (K : PySem.W.Frag) : Sp := SpN K (fun x : Mill × (Str → Int) => [milD x.1]) (fun x => x.1.Short ∧ x.1.Named) (fun x d => d = ctD (prodP x.1.spots x.1.spots) x.2 D0)
theorem ok_first_table (T : Tx K mg) (c_spots_of : Cal Pr w K mg base 2 "spots_of" (sp_spots_of K)) (c_class_of : Cal Pr w K mg base 1 "class_of" (sp_class_of K)) (F : FnP K "first_table" (top 34) f fd) : FnOk Pr w K mg base CX0 3 f fd ["mill"] (sp_first_table K) := by
  have nd := sc_first_table.nd
  refine fn_N F sc_first_table (fun _ => rfl) (by decide) fun cdv A outer s H E hr => ⟨_, (pss_cons (pst (i := 1) nd rfl pe_dnewT)
    (pss_cons (ps_for PassesOwn.never rfl (piTK (K := K) (pe_c c_spots_of hr (by decide) rfl (pa_cons (pv 0) pa_nil))) (pgn (i := 2) nd rfl) (pss_one (ps_for PassesOwn.never rfl (piTK (K := K) (pe_c c_spots_of hr (by decide) rfl (pa_cons (pv 0) pa_nil))) (pgn (i := 3) nd rfl) (pss_one (ps_dput hr.units1 (pv 1) (pe_tup (pa_cons (pv 2) (pa_cons (pv 3) pa_nil))) (pe_c c_class_of hr (by decide) rfl (pa_cons pe_int (pa_cons (pe_callTy call_int1 rfl T.int_ bt_int (pa_cons (pe_cmpR op_ne (pv 2) (pv 3) (nomark _)) pa_nil)) pa_nil))) rfl)))))
    (pss_one (ps_ret (pv 1))))), ?_⟩
  rintro ⟨M, b⟩ ⟨hM, hN⟩
  dsimp only at hM hN
  try dsimp only [cxOf]
  change SXF K _ [.dat (milD M), .emp, .emp, .emp] _
  have hsl : M.spots.length ≤ 21 := by have := hM.ws; simp [Mill.spots, Mill.names]; omega
  have hnd := hN.spots
  refine sxf_seq (sx_new (ef_dnewT fun l => ?_))
  refine sxf_seq (sx_forM ?_)
  repeat' tm_at "ex"
  refine ⟨hM, ?_⟩
  repeat' tm_at "ex"
  obtain ⟨E, hE⟩ : ∃ E : Str × Str → Dt, E = fun p => cls (b p.2 - b p.1) (D0 p.1 p.2) := ⟨_, rfl⟩
  have bound : ∀ i j : Nat, i ≤ 21 → j ≤ 21 → i * M.spots.length + j < sizeLine := fun i j hi hj => by
    have h1 : i * M.spots.length ≤ 21 * 21 := Nat.mul_le_mul hi hsl
    have h2 : 500 < sizeLine := by decide
    omega
  refine ⟨Str, M.spots, .str, fun i G => ∃ s2 s3, G = [.dat (milD M), .own l (.dt ((prodP (M.spots.take i) M.spots).map fun p => (p, E p))), s2, s3], rfl, ⟨_, _, rfl⟩, ?_, ?_⟩
  · rintro i u G hu ⟨s2, s3, rfl⟩
    have hui : u ∉ M.spots.take i := fun z => by
      obtain ⟨k, hk, e⟩ := List.getElem_of_mem z
      rw [List.length_take] at hk
      rw [List.getElem_take] at e
      have e2 := (List.getElem?_eq_some_iff.mp hu)
      obtain ⟨h1, h2⟩ := e2
      have := (List.getElem_inj hnd).mp (e.trans h2.symm)
      omega
    have hil : i < M.spots.length := (List.getElem?_eq_some_iff.mp hu).1
    tm_at "ex"
    refine sx_forM ?_
    repeat' tm_at "ex"
    refine ⟨hM, ?_⟩
    repeat' tm_at "ex"
    refine ⟨Str, M.spots, .str, fun j G => ∃ s3, G = [.dat (milD M), .own l (.dt ((prodP (M.spots.take i) M.spots ++ (M.spots.take j).map fun v => (u, v)).map fun p => (p, E p))), .dat (.str u), s3], rfl, ⟨_, by rw [List.take_zero, List.map_nil, List.append_nil]; rfl⟩, ?_, ?_⟩
    · rintro j v G hv ⟨s3, rfl⟩
      have hvj : v ∉ M.spots.take j := fun z => by
        obtain ⟨k, hk, e⟩ := List.getElem_of_mem z
        rw [List.length_take] at hk
        rw [List.getElem_take] at e
        obtain ⟨h1, h2⟩ := (List.getElem?_eq_some_iff.mp hv)
        have := (List.getElem_inj hnd).mp (e.trans h2.symm)
        omega
      have hjl : j < M.spots.length := (List.getElem?_eq_some_iff.mp hv).1
      repeat' tm_at "ex"
      refine cd_intB ?_
      repeat' tm_at "ex"
      refine ⟨⟨_, _, rfl⟩, ?_⟩
      repeat' tm_at "ex"
      have hx : E (u, v) = cls 0 (if (!decide (u = v)) = true then 1 else 0) := by rw [hE]; exact cls_D0
      rw [← hx]
      refine ⟨_, _, _, rfl, put_row ?_ hui hvj, ?_⟩
      · rw [prodP_len, List.length_take, List.length_take]
        exact bound _ _ (by omega) (by omega)
      · refine ⟨.dat (.str v), ?_⟩
        rw [take_snoc hv]
        rfl
    · rintro G ⟨s3, rfl⟩
      refine ⟨.dat (.str u), s3, ?_⟩
      have e : prodP (M.spots.take (i + 1)) M.spots = prodP (M.spots.take i) M.spots ++ (M.spots.take M.spots.length).map fun v => (u, v) := by
        rw [take_snoc hu, List.take_length]
        unfold prodP
        rw [List.flatMap_append, List.flatMap_cons, List.flatMap_nil, List.append_nil]
      rw [e]
  · rintro G ⟨s2, s3, rfl⟩
    refine sxf_ret rfl ?_
    rw [List.take_length, hE]
end

set_option Elab.async false
set_option linter.all false
set_option maxRecDepth 100000
/-! P1: the dials of a mill, closed. -/
section
open PySem L2
theorem filterMap_if {α β : Type} (p : α → Bool) (f : α → β) : ∀ xs : List α, xs.filterMap (fun x => if p x = true then some (f x) else none) = (xs.filter p).map f
  | [] => rfl
  | x :: xs => by
    by_cases h : p x = true
    · rw [List.filterMap_cons_some (by rw [if_pos h]), List.filter_cons_of_pos h, List.map_cons, filterMap_if p f xs]
    · rw [List.filterMap_cons_none (by rw [if_neg h]), List.filter_cons_of_neg h, filterMap_if p f xs]
abbrev Dl := Str → Str → Int
/-- 0 or a divisor of 24 -/
def Dok (n : Int) : Prop := n = 0 ∨ (0 < n ∧ n ∣ 24)
theorem Dok.nn {n : Int} (h : Dok n) : 0 ≤ n := by rcases h with h | h <;> omega
theorem Dok.le {n : Int} (h : Dok n) : n ≤ 1000 := by
  rcases h with h | h
  · omega
  · have := Int.le_of_dvd (by decide) h.2; omega
theorem Dok.zero : Dok 0 := .inl rfl
theorem Dok.one : Dok 1 := .inr ⟨by decide, by decide⟩
theorem Dok.lcm {m n : Int} (h : Dok m) (k : Dok n) : Dok (Int.lcm m n : Int) := by
  by_cases hm : m = 0
  · subst hm; rw [Int.lcm_zero_left]; exact .zero
  · by_cases hn : n = 0
    · subst hn; rw [Int.lcm_zero_right]; exact .zero
    · rcases h with h | h
      · exact absurd h hm
      · rcases k with k | k
        · exact absurd k hn
        · refine .inr ⟨?_, lcm_dvd_of h.2 k.2⟩
          have := Int.lcm_pos hm hn
          omega
theorem Dok.gcd {m n : Int} (h : Dok m) (k : Dok n) : Dok (Int.gcd m n : Int) := by
  by_cases hm : m = 0
  · subst hm
    rw [Int.gcd_zero_left, Int.natAbs_of_nonneg k.nn]; exact k
  · rcases h with h | h
    · exact absurd h hm
    · refine .inr ⟨?_, Int.dvd_trans (Int.gcd_dvd_left ..) h.2⟩
      have := Int.gcd_pos_of_ne_zero_left n hm
      omega
structure DlOk (D : Dl) : Prop where
  ok : ∀ u v, Dok (D u v)
  sy : ∀ u v, D u v = D v u
theorem DlOk.fin2 {D : Dl} (h : DlOk D) (u v : Str) {m : Int} (hm : Dok m) : DlOk (fin2 D u v m) := by
  refine ⟨fun i j => ?_, fun i j => ?_⟩
  · unfold Wd.fin2
    split
    · exact (h.ok u v).lcm hm
    · exact h.ok i j
  · unfold Wd.fin2
    rw [h.sy i j]
    by_cases c : (i = u ∧ j = v) ∨ (i = v ∧ j = u)
    · rw [if_pos c, if_pos (c.elim (fun x => .inr ⟨x.2, x.1⟩) fun x => .inl ⟨x.2, x.1⟩)]
    · rw [if_neg c, if_neg fun z => c (z.elim (fun x => .inr ⟨x.2, x.1⟩) fun x => .inl ⟨x.2, x.1⟩)]
theorem D0_ok : DlOk D0 := by
  refine ⟨fun u v => ?_, fun u v => ?_⟩
  · unfold D0; split
    · exact .zero
    · exact .one
  · unfold D0
    by_cases h : u = v
    · rw [if_pos h, if_pos h.symm]
    · rw [if_neg h, if_neg (Ne.symm h)]
def finS (D : Dl) (y : Sy) : Dl := fin2 D y.one y.other y.dial
/-- the dials of the sayings alone -/
def Mill.D1 (M : Mill) : Dl := M.ss.foldl finS D0
def kn (sp : List Str) (D : Dl) (k : Str) : List Str := sp.filter fun own => !decide (own = k) && !decide (D own k = 1)
def finK (k near : Str) (D : Dl) (far : Str) : Dl := fin2 D near far (Int.gcd (D near k) (D k far) : Int)
def rowK (ks : List Str) (k : Str) (D : Dl) (i : Nat) : Dl := (ks.drop (i + 1)).foldl (finK k (ks.getD i "")) D
def stepD (sp : List Str) (D : Dl) (k : Str) : Dl := (List.range (kn sp D k).length).foldl (rowK (kn sp D k) k) D
/-- the dials that are sure -/
def Mill.D (M : Mill) : Dl := M.spots.foldl (stepD M.spots) M.D1
/-- what the mills of the law keep -/
structure Sy.Ok (y : Sy) (sp : List Str) (b : Str → Int) : Prop where
  one : y.one ∈ sp
  other : y.other ∈ sp
  ne : y.one ≠ y.other
  dial : Dok y.dial
  kept : y.dial ∣ (b y.other - b y.one) - y.late
structure Mill.Ok (M : Mill) (b : Str → Int) : Prop where
  sh : M.Short
  nm : M.Named
  ss : ∀ y ∈ M.ss, y.Ok M.spots b
theorem foldl_ok {α : Type} {f : Dl → α → Dl} (xs : List α) : ∀ {D : Dl}, DlOk D → (∀ x ∈ xs, ∀ D, DlOk D → DlOk (f D x)) → DlOk (xs.foldl f D) := by
  induction xs with
  | nil => exact fun h _ => h
  | cons x xs ih => exact fun {D} h hf => ih (hf x (List.mem_cons_self ..) D h) fun y hy => hf y (List.mem_cons_of_mem _ hy)
theorem finK_ok {D : Dl} (h : DlOk D) (k near far : Str) : DlOk (finK k near D far) := h.fin2 near far ((h.ok near k).gcd (h.ok k far))
theorem rowK_ok {D : Dl} (h : DlOk D) (ks : List Str) (k : Str) (i : Nat) : DlOk (rowK ks k D i) := foldl_ok _ h fun x _ D h => finK_ok h k _ x
theorem stepD_ok {D : Dl} (h : DlOk D) (sp : List Str) (k : Str) : DlOk (stepD sp D k) := foldl_ok _ h fun i _ D h => rowK_ok h _ k i
theorem D1_ok {M : Mill} {b : Str → Int} (h : M.Ok b) (n : Nat) : DlOk ((M.ss.take n).foldl finS D0) := foldl_ok _ D0_ok fun y hy D hD => hD.fin2 _ _ (h.ss y (List.mem_of_mem_take hy)).dial
theorem D_ok {M : Mill} {b : Str → Int} (h : M.Ok b) (n : Nat) : DlOk ((M.spots.take n).foldl (stepD M.spots) M.D1) := foldl_ok _ (by have := D1_ok h M.ss.length; rw [List.take_length] at this; exact this) fun k _ D hD => stepD_ok hD _ k
theorem mem_kn {sp : List Str} {D : Dl} {k x : Str} : x ∈ kn sp D k ↔ x ∈ sp ∧ x ≠ k ∧ D x k ≠ 1 := by
  unfold kn
  rw [List.mem_filter]
  simp [Bool.and_eq_true]
theorem kn_nodup {sp : List Str} {D : Dl} {k : Str} (h : sp.Nodup) : (kn sp D k).Nodup := h.sublist List.filter_sublist
/-- places behind one another in a list without repeats differ -/
theorem drop_ne {ks : List Str} (nd : ks.Nodup) {i j : Nat} {u v : Str} (hu : ks[i]? = some u) (hv : (ks.drop (i + 1))[j]? = some v) : u ≠ v := by
  rw [List.getElem?_drop] at hv
  obtain ⟨h1, e1⟩ := List.getElem?_eq_some_iff.mp hu
  obtain ⟨h2, e2⟩ := List.getElem?_eq_some_iff.mp hv
  intro z
  have := (List.getElem_inj nd).mp (e1.trans (z.trans e2.symm))
  omega
theorem behind_eq {x y m n : Int} : cls ((if 0 < m then x % m else x) + (if 0 < n then y % n else y)) (Int.gcd m n : Int) = cls (x + y) (Int.gcd m n : Int) := by
  refine cls_eq ?_ (by omega)
  have h1 := Int.dvd_trans (Int.gcd_dvd_left m n) (nomod (x := x) (m := m))
  have h2 := Int.dvd_trans (Int.gcd_dvd_right m n) (nomod (x := y) (m := n))
  have h := Int.dvd_neg.mpr (Int.dvd_add h1 h2)
  have e : -(x - (if 0 < m then x % m else x) + (y - (if 0 < n then y % n else y))) = (if 0 < m then x % m else x) + (if 0 < n then y % n else y) - (x + y) := by omega
  rwa [e] at h
end

set_option Elab.async false
set_option linter.all false
set_option maxRecDepth 100000
set_option maxHeartbeats 1000000
section
open PySem L2
variable [B : Tb]
variable {Pr : Program} {w : World} {K : PySem.W.Frag} {mg : Str → Option Value} {base : Heap} {f : Addr} {fd : FuncData}

abbrev tabM (M : Mill) (b : Str → Int) (D : Dl) : Dt := ctD (prodP M.spots M.spots) b D
theorem nar_ok {M : Mill} {b : Str → Int} (hM : M.Ok b) {D : Dl} (hD : DlOk D) {u v : Str} (hu : u ∈ M.spots) (hv : v ∈ M.spots) (ne : u ≠ v) {m : Int} (hm : Dok m) : Nar.Ok ⟨prodP M.spots M.spots, b, D, u, v, m⟩ := by
  refine ⟨?_, mem_prodP.mpr ⟨hu, hv⟩, mem_prodP.mpr ⟨hv, hu⟩, ne, hm.nn, hm.le, (hD.ok u v).nn, (hD.ok u v).le, hD.sy v u⟩
  have hsl : M.spots.length ≤ 21 := by have := hM.sh.ws; simp [Mill.spots, Mill.names]; omega
  show (prodP M.spots M.spots).length ≤ 1000
  rw [prodP_len]
  have := Nat.mul_le_mul hsl hsl
  omega
theorem sc_kept_table : FnScope ["mill", "spot", "table", "spots", "name", "one", "other", "late", "dial", "known", "place", "near", "far", "own"] ["mill"] (defScope (top 35)) := ⟨rfl, rfl, rfl, by decide +kernel, rfl, by decide +kernel, by decide +kernel⟩
abbrev sp_kept_table (K : PySem.W.Frag) : Sp := SpP K (fun x : Mill × (Str → Int) => [milD x.1]) (fun x => x.1.Ok x.2) (fun x d => d = tabM x.1 x.2 x.1.D)
theorem ok_kept_table (T : Tx K mg) (c_tupled : Cal Pr w K mg base 4 "tupled" (sp_tupled K)) (c_first_table : Cal Pr w K mg base 3 "first_table" (sp_first_table K)) (c_spots_of : Cal Pr w K mg base 2 "spots_of" (sp_spots_of K)) (c_narrowed : Cal Pr w K mg base 4 "narrowed" (sp_narrowed K)) (c_class_of : Cal Pr w K mg base 1 "class_of" (sp_class_of K)) (c_class_behind : Cal Pr w K mg base 2 "class_behind" (sp_class_behind K)) (F : FnP K "kept_table" (top 35) f fd) : FnOk Pr w K mg base CX0 5 f fd ["mill"] (sp_kept_table K) := by
  have nd := sc_kept_table.nd
  refine fn_P F sc_kept_table (fun _ => rfl) (by decide) fun cdv A outer s H E hr => ⟨_, (pss_cons (ps_asg (pe_tup (pa_cons (pe_c c_first_table hr (by decide) rfl (pa_cons (pv 0) pa_nil)) (pa_cons (pe_c c_spots_of hr (by decide) rfl (pa_cons (pv 0) pa_nil)) pa_nil))) (pg_tupK (K := K) (n := 2) rfl (pgs_cons (pgn (i := 2) nd rfl) (pgs_cons (pgn (i := 3) nd rfl) pgs_nil))))
    (pss_cons (ps_for PassesOwn.never rfl (piTK (K := K) (pe_c c_tupled hr (by decide) rfl (pa_cons (pe_ix (ixK (K := K)) (pv 0) pe_int (fun _ _ => rfl)) pa_nil))) (pg_tupK (K := K) (n := 5) rfl (pgs_cons (pgn (i := 4) nd rfl) (pgs_cons (pgn (i := 5) nd rfl) (pgs_cons (pgn (i := 6) nd rfl) (pgs_cons (pgn (i := 7) nd rfl) (pgs_cons (pgn (i := 8) nd rfl) pgs_nil)))))) (pss_one (ps_if (pt_not (pt_val (pe_c c_narrowed hr (by decide) rfl (pa_cons (pv 2) (pa_cons (pv 5) (pa_cons (pv 6) (pa_cons (pe_c c_class_of hr (by decide) rfl (pa_cons (pv 7) (pa_cons (pv 8) pa_nil))) pa_nil))))))) (pss_one (ps_ret pe_non)) pss_nil)))
    (pss_cons (ps_for PassesOwn.never rfl (piTK (K := K) (pv 3)) (pgn (i := 1) nd rfl) (pss_cons (ps_setLc (i := 9) (own := [("own", 13)]) rfl nd rfl rfl (sw_true rfl rfl rfl (by kernel_rfl)) (piTK (K := K) (pv 3)) (blkOk_by (by kernel_rfl)) (fun _ _ _ _ _ => (pgn (i := 13) nd rfl)) (fun _ _ _ _ _ => (pts_one (PW.pt (pw_and (pt_cmpR op_ne (pv 13) (pv 1) (nomark _)) (pw_and1 (pt_cmpR op_ne (pe_ix (ixK (K := K)) (pe_dget hr.units1 (pv 2) (pe_tup (pa_cons (pv 13) (pa_cons (pv 1) pa_nil))) (fun _ _ => rfl)) pe_int (fun _ _ => rfl)) pe_int (nomark _))))))) (fun _ _ _ _ _ => (pv 13)))
    (pss_one (ps_for PassesOwn.never rfl (pi_enum (by rfl) T.enumerate_ (pa_cons (pv 9) pa_nil)) (pg_tupK (K := K) (n := 2) rfl (pgs_cons (pgn (i := 10) nd rfl) (pgs_cons (pgn (i := 11) nd rfl) pgs_nil))) (pss_one (ps_for PassesOwn.never rfl (piLK (K := K) (pe_slice (slLK (K := K)) (pv 9) (po_some (pe_op op_add (pv 10) pe_int)) po_none)) (pgn (i := 12) nd rfl) (pss_one (ps_if (pt_not (pt_val (pe_c c_narrowed hr (by decide) rfl (pa_cons (pv 2) (pa_cons (pv 11) (pa_cons (pv 12) (pa_cons (pe_c c_class_behind hr (by decide) rfl (pa_cons (pe_dget hr.units1 (pv 2) (pe_tup (pa_cons (pv 11) (pa_cons (pv 1) pa_nil))) (fun _ _ => rfl)) (pa_cons (pe_dget hr.units1 (pv 2) (pe_tup (pa_cons (pv 1) (pa_cons (pv 12) pa_nil))) (fun _ _ => rfl)) pa_nil))) pa_nil))))))) (pss_one (ps_ret pe_non)) pss_nil))))))))
    (pss_one (ps_ret (pv 2)))))), ?_⟩
  rintro ⟨M, b⟩ hM
  dsimp only at hM
  try dsimp only [cxOf]
  change SX K _ [.dat (milD M), .emp, .emp, .emp, .emp, .emp, .emp, .emp, .emp, .emp, .emp, .emp, .emp, .emp] _ _
  have hsl : M.spots.length ≤ 21 := by have := hM.sh.ws; simp [Mill.spots, Mill.names]; omega
  have hpl : (prodP M.spots M.spots).length ≤ 1000 := by
    rw [prodP_len]
    have := Nat.mul_le_mul hsl hsl
    omega
  have hnd := hM.nm.spots
  refine sx_seq (sx_tupM (ef_call ?_))
  repeat' tm_at "ex"
  refine ⟨(M, b), rfl, ⟨hM.sh, hM.nm⟩, ?_⟩
  repeat' tm_at "ex"
  refine ⟨hM.sh, ?_⟩
  tm_at "ex"
  intro l
  tm_at "ex"
  refine sx_forM (ix_tup (ex_pt ?_))
  repeat' tm_at "ex"
  refine ⟨M.ss.map Sy.row, by rw [List.map_map]; rfl, ⟨by have := hM.sh.ss; rw [List.length_map]; omega, fun k hk => ?_⟩, ?_⟩
  · obtain ⟨y, _, rfl⟩ := List.mem_map.mp hk
    simp [Sy.row]
  repeat' tm_at "ex"
  refine ⟨Sy, M.ss, syD, fun n G => ∃ s4 s5 s6 s7 s8, G = [.dat (milD M), .emp, .own l (tabM M b ((M.ss.take n).foldl finS D0)), .dat (strsD M.spots), s4, s5, s6, s7, s8, .emp, .emp, .emp, .emp, .emp], by rw [List.map_map]; rfl, ⟨_, _, _, _, _, rfl⟩, ?_, ?_⟩
  · rintro n y G hy ⟨s4, s5, s6, s7, s8, rfl⟩
    have hyk := hM.ss y (List.mem_of_getElem? hy)
    have hD := D1_ok hM n
    have e : (M.ss.take (n + 1)).foldl finS D0 = finS ((M.ss.take n).foldl finS D0) y := by rw [take_snoc hy, List.foldl_append]; rfl
    dsimp only
    rw [e]
    generalize (M.ss.take n).foldl finS D0 = D at hD ⊢
    repeat' tm_at "ex"
    refine ex_callO ⟨_, _, rfl⟩ ?_
    repeat' tm_at "ex"
    refine ⟨l, _, ⟨prodP M.spots M.spots, b, D, y.one, y.other, y.dial⟩, rfl, ?_, rfl, nar_ok hM hD hyk.one hyk.other hyk.ne hyk.dial, ?_⟩
    · have e : cls y.late y.dial = cls (b y.other - b y.one) y.dial := by
        refine cls_eq ?_ hyk.dial.nn
        have := Int.dvd_neg.mpr hyk.kept
        have e : -(b y.other - b y.one - y.late) = y.late - (b y.other - b y.one) := by omega
        rwa [e] at this
      show [_, _, cls y.late y.dial] = _
      rw [e]
    rintro d s' ⟨rfl, rfl⟩
    repeat' tm_at "ex"
    refine ⟨nofun, fun _ => ?_⟩
    repeat' tm_at "ex"
    exact ⟨_, _, _, _, _, rfl⟩
  rintro G ⟨s4, s5, s6, s7, s8, rfl⟩
  rw [List.take_length]
  show SX K _ [.dat (milD M), .emp, .own l (tabM M b M.D1), .dat (strsD M.spots), s4, s5, s6, s7, s8, .emp, .emp, .emp, .emp, .emp] _ _
  tm_at "ex"
  refine sx_forM ?_
  repeat' tm_at "ex"
  refine ⟨Str, M.spots, .str, fun n G => ∃ s1 s9 sa sb sc, G = [.dat (milD M), s1, .own l (tabM M b ((M.spots.take n).foldl (stepD M.spots) M.D1)), .dat (strsD M.spots), s4, s5, s6, s7, s8, s9, sa, sb, sc, .emp], rfl, ⟨_, _, _, _, _, rfl⟩, ?_, ?_⟩
  · rintro n k G hk ⟨s1, s9, sa, sb, sc, rfl⟩
    have hD := D_ok hM n
    have hks := List.mem_of_getElem? hk
    have e : (M.spots.take (n + 1)).foldl (stepD M.spots) M.D1 = stepD M.spots ((M.spots.take n).foldl (stepD M.spots) M.D1) k := by rw [take_snoc hk, List.foldl_append]; rfl
    dsimp only
    rw [e]
    clear e
    generalize (M.spots.take n).foldl (stepD M.spots) M.D1 = D at hD ⊢
    repeat' tm_at "ex"
    refine ex_of (ef_lcM (tch_name 13) (by decide) ?_)
    repeat' tm_at "ex"
    refine ⟨noOwn_of rfl, Str, M.spots, .str, fun x => if (!decide (x = k) && !decide (D x k = 1)) = true then some (.str x) else none, rfl, sz (by omega), fun x hx => ?_, ?_⟩
    · unfold LcT
      repeat' tm_at "ex"
      refine ⟨fun h => ?_, fun h => ?_⟩
      · repeat' tm_at "ex"
        refine ⟨_, _, _, rfl, look_ct (mem_prodP.mpr ⟨hx, hks⟩), ?_⟩
        repeat' tm_at "ex"
        refine ⟨fun h2 => ?_, fun h2 => ?_⟩
        · repeat' tm_at "ex"
          refine ⟨agr_wipe.set (by decide), if_pos ?_⟩
          rw [h, h2]; rfl
        · refine ⟨agr_wipe.set (by decide), if_neg ?_⟩
          rw [h2]; simp
      · refine ⟨nofun, fun _ => ⟨agr_wipe.set (by decide), if_neg ?_⟩⟩
        rw [h]; simp
    rw [filterMap_if (fun x => !decide (x = k) && !decide (D x k = 1)) Dt.str]
    show SX K _ [.dat (milD M), .dat (.str k), .own l (tabM M b D), .dat (strsD M.spots), s4, s5, s6, s7, s8, .dat (.lst ((kn M.spots D k).map .str)), sa, sb, sc, .emp] _ _
    have hkn : (kn M.spots D k).Nodup := kn_nodup hnd
    unfold stepD
    have hmem : ∀ x ∈ kn M.spots D k, x ∈ M.spots ∧ x ≠ k := fun x hx => let h := mem_kn.mp hx; ⟨h.1, h.2.1⟩
    have hkl : (kn M.spots D k).length ≤ 21 := Nat.le_trans (List.length_filter_le ..) hsl
    generalize kn M.spots D k = ks at hkn hmem hkl ⊢
    refine sx_for ?_
    repeat' tm_at "ex"
    refine ⟨fun i G => ∃ sa sb sc, G = [.dat (milD M), .dat (.str k), .own l (tabM M b ((List.range i).foldl (rowK ks k) D)), .dat (strsD M.spots), s4, s5, s6, s7, s8, .dat (.lst (ks.map .str)), sa, sb, sc, .emp], ⟨_, _, _, rfl⟩, ?_, ?_⟩
    · rintro i d G hd ⟨sa, sb, sc, rfl⟩
      obtain ⟨d', hd', rfl⟩ := enD_get hd
      rw [List.getElem?_map] at hd'
      obtain ⟨u, hu, rfl⟩ : ∃ u, ks[i]? = some u ∧ Dt.str u = d' := by
        cases hx : ks[i]? with
        | none => rw [hx] at hd'; cases hd'
        | some u => rw [hx] at hd'; exact ⟨u, rfl, Option.some.inj hd'⟩
      have hDi : DlOk ((List.range i).foldl (rowK ks k) D) := foldl_ok _ hD fun j _ D h => rowK_ok h ks k j
      have e : (List.range (i + 1)).foldl (rowK ks k) D = rowK ks k ((List.range i).foldl (rowK ks k) D) i := by rw [List.range_succ, List.foldl_append]; rfl
      dsimp only
      rw [e]
      clear e
      generalize (List.range i).foldl (rowK ks k) D = D' at hDi ⊢
      have eu : ks.getD i "" = u := by rw [List.getD_eq_getElem?_getD, hu]; rfl
      unfold rowK
      rw [eu]
      repeat' tm_at "ex"
      refine sx_forM (ix_list (ex_of (ef_slL ?_)))
      repeat' tm_at "ex"
      have hcut : cutD (ks.map Dt.str) (some (((i : Nat) : Int) + 1)) none = (ks.drop (i + 1)).map .str := by
        have e : (((i : Nat) : Int) + 1) = ((i + 1 : Nat) : Int) := by omega
        rw [e, cut_from, List.map_drop]
      rw [hcut]
      have hus := hmem u (List.mem_of_getElem? hu)
      refine ⟨Str, ks.drop (i + 1), .str, fun j G => ∃ sc, G = [.dat (milD M), .dat (.str k), .own l (tabM M b (((ks.drop (i + 1)).take j).foldl (finK k u) D')), .dat (strsD M.spots), s4, s5, s6, s7, s8, .dat (.lst (ks.map .str)), .dat (.int (i : Int)), .dat (.str u), sc, .emp], rfl, ⟨_, rfl⟩, ?_, ?_⟩
      · rintro j v G hv ⟨sc, rfl⟩
        have hne := drop_ne hkn hu hv
        have hvm : v ∈ ks := List.mem_of_mem_drop (List.mem_of_getElem? hv)
        have hvs := hmem v hvm
        have hDj : DlOk (((ks.drop (i + 1)).take j).foldl (finK k u) D') := foldl_ok _ hDi fun x _ D h => finK_ok h k u x
        have e : ((ks.drop (i + 1)).take (j + 1)).foldl (finK k u) D' = finK k u (((ks.drop (i + 1)).take j).foldl (finK k u) D') v := by rw [take_snoc hv, List.foldl_append]; rfl
        dsimp only
        rw [e]
        clear e
        generalize ((ks.drop (i + 1)).take j).foldl (finK k u) D' = D'' at hDj ⊢
        repeat' tm_at "ex"
        refine ex_callO ⟨_, _, rfl⟩ ?_
        repeat' tm_at "ex"
        refine ⟨_, _, _, rfl, look_ct (mem_prodP.mpr ⟨hus.1, hks⟩), ?_⟩
        repeat' tm_at "ex"
        refine ⟨_, _, _, rfl, look_ct (mem_prodP.mpr ⟨hks, hvs.1⟩), ?_⟩
        repeat' tm_at "ex"
        refine ⟨⟨(hDj.ok u k).nn, (hDj.ok k v).nn⟩, ?_⟩
        intro d hd
        have hd2 : d = cls (b v - b u) (Int.gcd (D'' u k) (D'' k v) : Int) := hd.trans (by
          have e : b v - b u = (b k - b u) + (b v - b k) := by omega
          rw [e]
          exact behind_eq (x := b k - b u) (y := b v - b k) (m := D'' u k) (n := D'' k v))
        subst hd2
        repeat' tm_at "ex"
        refine ⟨l, _, ⟨prodP M.spots M.spots, b, D'', u, v, (Int.gcd (D'' u k) (D'' k v) : Int)⟩, rfl, rfl, rfl, nar_ok hM hDj hus.1 hvs.1 hne ((hDj.ok u k).gcd (hDj.ok k v)), ?_⟩
        rintro d s' ⟨rfl, rfl⟩
        repeat' tm_at "ex"
        refine ⟨nofun, fun _ => ?_⟩
        repeat' tm_at "ex"
        exact ⟨_, rfl⟩
      · rintro G ⟨sc, rfl⟩
        rw [List.take_length]
        exact ⟨_, _, _, rfl⟩
    · rintro G ⟨sa, sb, sc, rfl⟩
      rw [enD_len, List.length_map]
      exact ⟨_, _, _, _, _, rfl⟩
  · rintro G ⟨s1, s9, sa, sb, sc, rfl⟩
    rw [List.take_length]
    refine sx_ret (ex_own rfl ?_)
    rfl
theorem sc_can_be_kept : FnScope ["mill"] ["mill"] (defScope (top 36)) := ⟨rfl, rfl, rfl, by decide +kernel, rfl, by decide +kernel, by decide +kernel⟩
abbrev sp_can_be_kept (K : PySem.W.Frag) : Sp := SpP K (fun x : Mill × (Str → Int) => [milD x.1]) (fun x => x.1.Ok x.2) (fun _ d => d = .bl true)
theorem ok_can_be_kept (T : Tx K mg) (c_kept_table : Cal Pr w K mg base 5 "kept_table" (sp_kept_table K)) (F : FnP K "can_be_kept" (top 36) f fd) : FnOk Pr w K mg base CX0 6 f fd ["mill"] (sp_can_be_kept K) := by
  have nd := sc_can_be_kept.nd
  refine fn_P F sc_can_be_kept (fun _ => rfl) (by decide) fun cdv A outer s H E hr => ⟨_, (pss_one (ps_ret (pe_cmp (pc_notN (pe_c c_kept_table hr (by decide) rfl (pa_cons (pv 0) pa_nil)))))), ?_⟩
  rintro ⟨M, b⟩ hM
  dsimp only at hM
  try dsimp only [cxOf]
  change SX K _ [.dat (milD M)] _ _
  repeat' tm_at "ex"
  refine ⟨(M, b), rfl, hM, ?_⟩
  repeat' tm_at "ex"
  rfl
end

set_option Elab.async false
set_option linter.all false
set_option maxRecDepth 100000
/-! P2: ascending names; sorts that leave all in place. -/
section
open PySem L2
def ltS (u v : Str) : Bool := decide (u.cps.toList < v.cps.toList)
theorem ltS_lt (u v : Str) : ltS u v = PySem.W.dataLt (.str u) (.str v) := (PySem.W.dataLt_str u v).symm
theorem dl_irr (a : PyData) : PySem.W.dataLt a a = false := PyProof.Rows.lex_irrefl (O := PyProof.Rows.itemOrd) _
theorem dl_trans {a b c : PyData} (h1 : PySem.W.dataLt a b = true) (h2 : PySem.W.dataLt b c = true) : PySem.W.dataLt a c = true := PyProof.Rows.lex_trans (O := PyProof.Rows.itemOrd) _ _ _ h1 h2
theorem dl_asymm {a b : PyData} (h : PySem.W.dataLt a b = true) : PySem.W.dataLt b a = false := by
  cases q : PySem.W.dataLt b a with
  | false => rfl
  | true => have := dl_trans h q; rw [dl_irr] at this; cases this
theorem ltS_irr (u : Str) : ltS u u = false := by rw [ltS_lt]; exact dl_irr _
theorem ltS_trans {u v w : Str} (h1 : ltS u v = true) (h2 : ltS v w = true) : ltS u w = true := by rw [ltS_lt] at *; exact dl_trans h1 h2
theorem ltS_asymm {u v : Str} (h : ltS u v = true) : ltS v u = false := by rw [ltS_lt] at *; exact dl_asymm h
theorem ltS_ne {u v : Str} (h : ltS u v = true) : u ≠ v := fun z => by subst z; rw [ltS_irr] at h; cases h
theorem ltS_total {u v : Str} (h : u ≠ v) : ltS u v = true ∨ ltS v u = true := by
  cases h1 : ltS u v with
  | true => exact .inl rfl
  | false =>
    cases h2 : ltS v u with
    | true => exact .inr rfl
    | false =>
      refine absurd (leS_anti u v ?_ ?_) h
      · show (!PySem.W.dataLt (.str v) (.str u)) = true
        rw [← ltS_lt, h2]; rfl
      · show (!PySem.W.dataLt (.str u) (.str v)) = true
        rw [← ltS_lt, h1]; rfl
theorem eqv_str (u v : Str) : PyData.eqv (.str u) (.str v) = decide (u = v) := by
  by_cases h : u = v <;> simp [PyData.eqv, h]
/-- the order of two pairs of texts -/
theorem lt_pair (u v u' v' : Str) : PySem.W.dataLt (.tuple [.str u, .str v]) (.tuple [.str u', .str v']) = if u = u' then ltS v v' else ltS u u' := by
  rw [PySem.W.dataLt_tuple, PySem.W.dataLt_cons (by rfl), eqv_str]
  by_cases h : u = u'
  · rw [if_pos h, if_pos (by simpa using h), PySem.W.dataLt_cons (by rfl), eqv_str]
    by_cases h2 : v = v'
    · rw [if_pos (by simpa using h2)]
      subst h2
      rw [ltS_irr]; rfl
    · rw [if_neg (by simpa using h2), ltS_lt]
  · rw [if_neg h, if_neg (by simpa using h), ltS_lt]
def Asc (l : List Str) : Prop := l.Pairwise fun u v => ltS u v = true
theorem Asc.nodup {l : List Str} (h : Asc l) : l.Nodup := h.imp fun h => ltS_ne h
theorem le_pair {u v u' v' : Str} (h : ltS u u' = true ∨ (u = u' ∧ ltS v v' = true)) : leD (.tup [.str u, .str v]) (.tup [.str u', .str v']) = true := by
  show (!PySem.W.dataLt (.tuple [.str u', .str v']) (.tuple [.str u, .str v])) = true
  rw [lt_pair]
  rcases h with h | ⟨rfl, h⟩
  · rw [if_neg (Ne.symm (ltS_ne h)), ltS_asymm h]; rfl
  · rw [if_pos rfl, ltS_asymm h]; rfl
theorem prodP_sorted {s t : List Str} (hs : Asc s) (ht : Asc t) : (prodP s t).Pairwise fun p q => leD (.tup [.str p.1, .str p.2]) (.tup [.str q.1, .str q.2]) = true := by
  unfold prodP
  induction s with
  | nil => exact List.Pairwise.nil
  | cons x s ih =>
    obtain ⟨h1, h2⟩ := List.pairwise_cons.mp hs
    rw [List.flatMap_cons, List.pairwise_append]
    refine ⟨?_, ih h2, ?_⟩
    · exact List.pairwise_map.mpr (ht.imp fun h => le_pair (.inr ⟨rfl, h⟩))
    · intro p hp q hq
      obtain ⟨v, _, rfl⟩ := List.mem_map.mp hp
      obtain ⟨y, hy, hq⟩ := List.mem_flatMap.mp hq
      obtain ⟨v', _, rfl⟩ := List.mem_map.mp hq
      exact le_pair (.inl (h1 y hy))
theorem srt_id {ds : List Dt} (h : ds.Pairwise fun a b => leD a b = true) : srt ds = ds := by
  unfold srt
  exact List.mergeSort_of_pairwise h
def keyP (p : Str × Str) : Dt := .tup [.str p.1, .str p.2]
theorem sorts_pairs {ps : List (Str × Str)} (h : ∀ p ∈ ps, PyData.strOk p.1 = true ∧ PyData.strOk p.2 = true) : Sorts (ps.map keyP) := by
  have e : ps.map keyP = (ps.map fun p => [(Sum.inr p.1 : Key), Sum.inr p.2]).map tD := by rw [List.map_map]; rfl
  rw [e]
  refine sorts_tups (fun k hk => ?_) (fun k hk => ?_) (fun a ha b hb => ?_)
  · obtain ⟨p, hp, rfl⟩ := List.mem_map.mp hk
    have := h p hp
    simp [oks, okK, this.1, this.2]
  · obtain ⟨p, hp, rfl⟩ := List.mem_map.mp hk
    simp
  · obtain ⟨p, hp, rfl⟩ := List.mem_map.mp ha
    obtain ⟨q, hq, rfl⟩ := List.mem_map.mp hb
    rfl
end

set_option Elab.async false
set_option linter.all false
set_option maxRecDepth 100000
set_option maxHeartbeats 1000000
section
open PySem L2
variable [B : Tb]
variable {Pr : Program} {w : World} {K : PySem.W.Frag} {mg : Str → Option Value} {base : Heap} {f : Addr} {fd : FuncData}

theorem sc_class_table : FnScope ["mill", "table"] ["mill"] (defScope (top 41)) := ⟨rfl, rfl, rfl, by decide +kernel, rfl, by decide +kernel, by decide +kernel⟩
abbrev sp_class_table (K : PySem.W.Frag) : Sp := SpP K (fun x : Mill × (Str → Int) => [milD x.1]) (fun x => x.1.Ok x.2) (fun x d => d = tabM x.1 x.2 x.1.D)
theorem ok_class_table (T : Tx K mg) (c_kept_table : Cal Pr w K mg base 5 "kept_table" (sp_kept_table K)) (F : FnP K "class_table" (top 41) f fd) : FnOk Pr w K mg base CX0 6 f fd ["mill"] (sp_class_table K) := by
  have nd := sc_class_table.nd
  refine fn_P F sc_class_table (fun _ => rfl) (by decide) fun cdv A outer s H E hr => ⟨_, (pss_cons (pst (i := 1) nd rfl (pe_c c_kept_table hr (by decide) rfl (pa_cons (pv 0) pa_nil)))
    (pss_cons (ps_if (pt_cmp (pc_isN (pv 1))) (pss_one ps_never) pss_nil)
    (pss_one (ps_ret (pv 1))))), ?_⟩
  rintro ⟨M, b⟩ hM
  dsimp only at hM
  try dsimp only [cxOf]
  change SX K _ [.dat (milD M), .emp] _ _
  repeat' tm_at "ex"
  refine ⟨(M, b), rfl, hM, ?_⟩
  repeat' tm_at "ex"
  refine ⟨nofun, fun _ => ?_⟩
  repeat' tm_at "ex"
  rfl
theorem sc_sure_late : FnScope ["mill", "one", "other"] ["mill", "one", "other"] (defScope (top 42)) := ⟨rfl, rfl, rfl, by decide +kernel, rfl, by decide +kernel, by decide +kernel⟩
abbrev sp_sure_late (K : PySem.W.Frag) : Sp := SpP K (fun x : Mill × (Str → Int) × Str × Str => [milD x.1, .str x.2.2.1, .str x.2.2.2]) (fun x => x.1.Ok x.2.1 ∧ x.2.2.1 ∈ x.1.spots ∧ x.2.2.2 ∈ x.1.spots) (fun x d => d = cls (x.2.1 x.2.2.2 - x.2.1 x.2.2.1) (x.1.D x.2.2.1 x.2.2.2))
theorem ok_sure_late (T : Tx K mg) (c_check_ends : Cal Pr w K mg base 3 "check_ends" (sp_check_ends K)) (c_class_table : Cal Pr w K mg base 6 "class_table" (sp_class_table K)) (F : FnP K "sure_late" (top 42) f fd) : FnOk Pr w K mg base CX0 7 f fd ["mill", "one", "other"] (sp_sure_late K) := by
  have nd := sc_sure_late.nd
  refine fn_P F sc_sure_late (fun _ => rfl) (by decide) fun cdv A outer s H E hr => ⟨_, (pss_cons (ps_expr (pe_c c_check_ends hr (by decide) rfl (pa_cons (pv 0) (pa_cons (pe_tup (pa_cons (pv 1) (pa_cons (pv 2) pa_nil))) pa_nil))))
    (pss_one (ps_ret (pe_dget hr.units1 (pe_c c_class_table hr (by decide) rfl (pa_cons (pv 0) pa_nil)) (pe_tup (pa_cons (pv 1) (pa_cons (pv 2) pa_nil))) (fun _ _ => rfl))))), ?_⟩
  rintro ⟨M, b, u, v⟩ ⟨hM, hu, hv⟩
  dsimp only at hM hu hv
  try dsimp only [cxOf]
  change SX K _ [.dat (milD M), .dat (.str u), .dat (.str v)] _ _
  repeat' tm_at "ex"
  refine ⟨(M, [u, v], _), rfl, ⟨hM.sh, rfl, (by show 2 ≤ 20; decide), fun n hn => ?_⟩, ?_⟩
  · rcases List.mem_cons.mp hn with rfl | hn
    · exact hu
    · rcases List.mem_cons.mp hn with rfl | hn
      · exact hv
      · cases hn
  repeat' tm_at "ex"
  refine ⟨(M, b), rfl, hM, ?_⟩
  repeat' tm_at "ex"
  refine ⟨_, look_ct (mem_prodP.mpr ⟨hu, hv⟩), ?_⟩
  repeat' tm_at "ex"
  rfl
/-- names: each text may be sorted, ascending -/
structure Mill.Nice (M : Mill) : Prop where
  ok : ∀ n ∈ M.spots, PyData.strOk n = true
  asc : Asc M.spots
def surePs (M : Mill) : List (Str × Str) := (prodP M.spots M.spots).filter fun p => ltS p.1 p.2 && !decide (M.D p.1 p.2 = 1)
def sureD (M : Mill) (b : Str → Int) (p : Str × Str) : Dt := .tup [.str p.1, .str p.2, .int (if 0 < M.D p.1 p.2 then (b p.2 - b p.1) % M.D p.1 p.2 else b p.2 - b p.1), .int (M.D p.1 p.2)]
theorem sc_sure_lates : FnScope ["mill", "table", "two"] ["mill"] (defScope (top 43)) := ⟨rfl, rfl, rfl, by decide +kernel, rfl, by decide +kernel, by decide +kernel⟩
abbrev sp_sure_lates (K : PySem.W.Frag) : Sp := SpP K (fun x : Mill × (Str → Int) => [milD x.1]) (fun x => x.1.Ok x.2 ∧ x.1.Nice) (fun x d => d = .tup ((surePs x.1).map (sureD x.1 x.2)))
theorem ok_sure_lates (T : Tx K mg) (c_class_table : Cal Pr w K mg base 6 "class_table" (sp_class_table K)) (F : FnP K "sure_lates" (top 43) f fd) : FnOk Pr w K mg base CX0 7 f fd ["mill"] (sp_sure_lates K) := by
  have nd := sc_sure_lates.nd
  refine fn_P F sc_sure_lates (fun _ => rfl) (by decide) fun cdv A outer s H E hr => ⟨_, (pss_cons (pst (i := 1) nd rfl (pe_c c_class_table hr (by decide) rfl (pa_cons (pv 0) pa_nil)))
    (pss_one (ps_ret (pe_callTy (tupleK (K := K)) rfl T.tuple_ bt_tuple (pa_cons (pe_lc (own := [("two", 2)]) rfl nd (piLK (K := K) (pe_callB (cr_sortKT rfl hr.units70) rfl T.sorted_ bt_sorted (pa_cons (pv 1) pa_nil))) (blkOk_by (by kernel_rfl)) (fun _ _ _ _ _ => (pgn (i := 2) nd rfl)) (fun _ _ _ _ _ => (pts_one (PW.pt (pw_and (pt_cmpR op_lt_str (pe_ix (ixK (K := K)) (pv 2) pe_int (fun _ _ => rfl)) (pe_ix (ixK (K := K)) (pv 2) pe_int (fun _ _ => rfl)) (nomark _)) (pw_and1 (pt_cmpR op_ne (pe_ix (ixK (K := K)) (pe_dget hr.units1 (pv 1) (pv 2) (fun _ _ => rfl)) pe_int (fun _ _ => rfl)) pe_int (nomark _))))))) (fun _ _ _ _ _ => (pe_tup (starK (K := K) (pv 2) (starK (K := K) (pe_dget hr.units1 (pv 1) (pv 2) (fun _ _ => rfl)) pa_nil))))) pa_nil))))), ?_⟩
  rintro ⟨M, b⟩ ⟨hM, hN⟩
  dsimp only at hM hN
  try dsimp only [cxOf]
  change SX K _ [.dat (milD M), .emp, .emp] _ _
  have hsl : M.spots.length ≤ 21 := by have := hM.sh.ws; simp [Mill.spots, Mill.names]; omega
  have hpl : (prodP M.spots M.spots).length ≤ 1000 := by
    rw [prodP_len]
    have := Nat.mul_le_mul hsl hsl
    omega
  repeat' tm_at "ex"
  refine ⟨(M, b), rfl, hM, ?_⟩
  repeat' tm_at "ex"
  refine ex_of (ef_lcM (tch_name 2) (by decide) ?_)
  refine ix_list (ex_of (ef_cb ?_))
  repeat' tm_at "ex"
  have e : ((prodP M.spots M.spots).map fun p => (p, cls (b p.2 - b p.1) (M.D p.1 p.2))).map keyD = (prodP M.spots M.spots).map keyP := by rw [List.map_map]; rfl
  refine cf_sortKT ?_ ⟨_, rfl, ?_⟩
  · rw [e]
    exact sorts_pairs fun p hp => let h := mem_prodP.mp hp; ⟨hN.ok _ h.1, hN.ok _ h.2⟩
  have e2 : srt ((prodP M.spots M.spots).map keyP) = (prodP M.spots M.spots).map keyP := srt_id (List.pairwise_map.mpr (prodP_sorted hN.asc hN.asc))
  rw [e, e2]
  refine ⟨noOwn_of rfl, Str × Str, prodP M.spots M.spots, keyP, fun p => if (ltS p.1 p.2 && !decide (M.D p.1 p.2 = 1)) = true then some (sureD M b p) else none, rfl, sz hpl, fun p hp => ?_, ?_⟩
  · unfold LcT
    obtain ⟨u, v⟩ := p
    have hm := mem_prodP.mp hp
    show GX K _ (.tup [.str u, .str v]) _ _
    repeat' tm_at "ex"
    refine ⟨fun h => ?_, fun h => ?_⟩
    · repeat' tm_at "ex"
      refine ⟨_, look_ct hp, ?_⟩
      repeat' tm_at "ex"
      refine ⟨fun h2 => ?_, fun h2 => ?_⟩
      · repeat' tm_at "ex"
        refine ⟨_, look_ct hp, ?_⟩
        repeat' tm_at "ex"
        refine ⟨agr_wipe.set (by decide), (if_pos ?_).trans ?_⟩
        · show (decide (u.cps.toList < v.cps.toList) && !decide (M.D u v = 1)) = true
          rw [h, h2]; rfl
        · rfl
      · refine ⟨agr_wipe.set (by decide), if_neg ?_⟩
        show ¬ (decide (u.cps.toList < v.cps.toList) && !decide (M.D u v = 1)) = true
        rw [h2]; simp
    · refine ⟨nofun, fun _ => ⟨agr_wipe.set (by decide), if_neg ?_⟩⟩
      show ¬ (decide (u.cps.toList < v.cps.toList) && !decide (M.D u v = 1)) = true
      rw [h]; simp
  · repeat' tm_at "ex"
    rw [filterMap_if (fun p : Str × Str => ltS p.1 p.2 && !decide (M.D p.1 p.2 = 1)) (sureD M b)]
    rfl
end

set_option Elab.async false
set_option linter.all false
set_option maxRecDepth 100000
set_option maxHeartbeats 1000000
section
open PySem L2
variable [B : Tb]
variable {Pr : Program} {w : World} {K : PySem.W.Frag} {mg : Str → Option Value} {base : Heap} {f : Addr} {fd : FuncData}

/-- rows with a name ahead -/
abbrev Rw := Str × List Key
def Rw.ks (p : Rw) : List Key := .inr p.1 :: p.2
abbrev rwD (p : Rw) : Dt := .tup (.str p.1 :: p.2.map kD)
def Wh.rw (x : Wh) : Rw := (x.name, [.inl x.turn, .inl x.mark])
def Sy.rw (x : Sy) : Rw := (x.name, [.inr x.one, .inr x.other, .inl x.late, .inl x.dial])
/-- two lists of rows: one name, one row -/
structure Tw where
  as : List Rw
  bs : List Rw
structure Tw.Ok (t : Tw) : Prop where
  la : t.as.length ≤ 60
  lb : t.bs.length ≤ 60
  sa : ∀ r ∈ t.as, r.2.length ≤ 10
  sb : ∀ r ∈ t.bs, r.2.length ≤ 10
  oa : ∀ r ∈ t.as, oks r.ks = true
  ob : ∀ r ∈ t.bs, oks r.ks = true
  un : ∀ r ∈ t.as, ∀ q ∈ t.bs, r.1 = q.1 → r = q
theorem gk_rows {ks : List (Str × Dt)} {x : Str} {d : Dt} (h : gk (mgk [] ks) x = some d) : (x, d) ∈ ks := by
  rw [mgk_get] at h
  have key : ∀ l : List (Str × Dt), gk l x = some d → (x, d) ∈ l := by
    intro l
    induction l with
    | nil => intro z; cases z
    | cons p l ih =>
      intro z
      obtain ⟨y, e⟩ := p
      rw [gk_cons] at z
      by_cases q : y = x
      · rw [if_pos q] at z
        cases z
        subst q
        exact List.mem_cons_self ..
      · rw [if_neg q] at z
        exact List.mem_cons_of_mem _ (ih z)
  cases hg : gk ks.reverse x with
  | none => rw [hg] at h; cases h
  | some e =>
    rw [hg] at h
    cases h
    exact List.mem_reverse.mp (key _ hg)
theorem rw_pl {p : Rw} (h : oks p.ks = true) : Dt.pl 60 (rwD p) = true := pls_ks p.ks h 58
theorem sc_unlike_rows : FnScope ["rows", "others", "table", "row"] ["rows", "others"] (defScope (top 48)) := ⟨rfl, rfl, rfl, by decide +kernel, rfl, by decide +kernel, by decide +kernel⟩
abbrev sp_unlike_rows (K : PySem.W.Frag) : Sp := SpP K (fun t : Tw => [.tup (t.as.map rwD), .tup (t.bs.map rwD)]) Tw.Ok (fun _ d => d = .lst [])
theorem ok_unlike_rows (T : Tx K mg) (c_tupled : Cal Pr w K mg base 4 "tupled" (sp_tupledT K)) (F : FnP K "unlike_rows" (top 48) f fd) : FnOk Pr w K mg base CX0 5 f fd ["rows", "others"] (sp_unlike_rows K) := by
  have nd := sc_unlike_rows.nd
  refine fn_P F sc_unlike_rows (fun _ => rfl) (by decide) fun cdv A outer s H E hr => ⟨_, (pss_cons (pst (i := 2) nd rfl (pe_dc (own := [("row", 3)]) rfl nd (piTK (K := K) (pe_c c_tupled hr (by decide) rfl (pa_cons (pv 1) pa_nil))) (blkOk_by (by kernel_rfl)) (fun _ _ _ _ _ => (pgn (i := 3) nd rfl)) (fun _ _ _ _ _ => pts_nil) (fun _ _ _ _ _ => (pe_ix (ixK (K := K)) (pv 3) pe_int (fun _ _ => rfl))) (fun _ _ _ _ _ => (pv 3))))
    (pss_one (ps_ret (pe_callB (cr_sortedDt hr.units70) rfl T.sorted_ bt_sorted (pa_cons (pe_lc (own := [("row", 3)]) rfl nd (piTK (K := K) (pe_c c_tupled hr (by decide) rfl (pa_cons (pv 0) pa_nil))) (blkOk_by (by kernel_rfl)) (fun _ _ _ _ _ => (pgn (i := 3) nd rfl)) (fun _ _ _ _ _ => (pts_one (PW.pt (pw_and (pt_cmp (pc_din hr.units1 (pe_ix (ixK (K := K)) (pv 3) pe_int (fun _ _ => rfl)) (pv 2))) (pw_and1 (pt_cmpR (neDK (K := K) hr.units) (pe_dget hr.units1 (pv 2) (pe_ix (ixK (K := K)) (pv 3) pe_int (fun _ _ => rfl)) (fun _ _ => rfl)) (pv 3) (nomark _))))))) (fun _ _ _ _ _ => (pe_ix (ixK (K := K)) (pv 3) pe_int (fun _ _ => rfl)))) pa_nil))))), ?_⟩
  rintro ⟨as, bs⟩ ⟨la, lb, sa, sb, oa, ob, un⟩
  dsimp only at la lb sa sb oa ob un
  try dsimp only [cxOf]
  change SX K _ [.dat (.tup (as.map rwD)), .dat (.tup (bs.map rwD)), .emp, .emp] _ _
  have ea : as.map rwD = (as.map Rw.ks).map tD := by rw [List.map_map]; rfl
  have eb : bs.map rwD = (bs.map Rw.ks).map tD := by rw [List.map_map]; rfl
  tm_at "ex"
  tm_at "ex"
  refine ex_of (ef_dcA (tch_name 3) (by decide) ?_)
  repeat' tm_at "ex"
  refine ⟨bs.map Rw.ks, by rw [eb], ⟨by rw [List.length_map]; omega, fun k hk => ?_⟩, ?_⟩
  · obtain ⟨r, hr', rfl⟩ := List.mem_map.mp hk
    have := sb r hr'
    simp [Rw.ks]; omega
  repeat' tm_at "ex"
  refine ⟨noOwn_of rfl, Rw, bs, rwD, fun r => r.1, rwD, eb.symm, sz (by omega), fun r hr' => ?_, ?_⟩
  · repeat' tm_at "ex"
    exact ⟨agr_wipe.set (by decide), rfl⟩
  repeat' tm_at "ex"
  refine ex_of (ef_lcM (tch_name 3) (by decide) ?_)
  repeat' tm_at "ex"
  refine ⟨as.map Rw.ks, by rw [ea], ⟨by rw [List.length_map]; omega, fun k hk => ?_⟩, ?_⟩
  · obtain ⟨r, hr', rfl⟩ := List.mem_map.mp hk
    have := sa r hr'
    simp [Rw.ks]; omega
  repeat' tm_at "ex"
  refine ⟨noOwn_of rfl, Rw, as, rwD, fun _ => none, ea.symm, sz (by omega), fun r hr' => ?_, ?_⟩
  · unfold LcT
    repeat' tm_at "ex"
    refine ⟨fun hs => ?_, fun _ => ⟨nofun, fun _ => ⟨agr_wipe.set (by decide), rfl⟩⟩⟩
    obtain ⟨d, hd⟩ := Option.isSome_iff_exists.mp hs
    have hm := gk_rows hd
    obtain ⟨q, hq, e⟩ := List.mem_map.mp hm
    injection e with e1 e2
    have e3 := un r hr' q hq e1.symm
    subst e3
    repeat' tm_at "ex"
    refine ⟨d, by show some (gk _ _) = _; rw [hd], ?_⟩
    repeat' tm_at "ex"
    subst e2
    refine od_neD (n := 60) (by decide) (rw_pl (oa r hr')) (rw_pl (oa r hr')) fun b hb => ?_
    have : b = false := by
      cases b with
      | false => rfl
      | true => exact absurd rfl (hb.mp rfl)
    subst this
    repeat' tm_at "ex"
    exact ⟨nofun, fun _ => ⟨agr_wipe.set (by decide), rfl⟩⟩
  repeat' tm_at "ex"
  have e : as.filterMap (fun _ => (none : Option Dt)) = [] := by simp
  rw [e]
  refine cf_sort (sorts_strs [] (fun k hk => absurd hk (by simp))) ?_
  simp [srt]
theorem sc_check_names : FnScope ["one", "other", "part", "name"] ["one", "other"] (defScope (top 49)) := ⟨rfl, rfl, rfl, by decide +kernel, rfl, by decide +kernel, by decide +kernel⟩
/-- two mills of which nothing is told twice -/
structure Un2 (M N : Mill) : Prop where
  w : Tw.Ok ⟨M.ws.map Wh.rw, N.ws.map Wh.rw⟩
  s : Tw.Ok ⟨M.ss.map Sy.rw, N.ss.map Sy.rw⟩
abbrev sp_check_names (K : PySem.W.Frag) : Sp := SpP K (fun x : Mill × Mill => [milD x.1, milD x.2]) (fun x => Un2 x.1 x.2) (fun _ d => d = .non)
theorem ok_check_names (T : Tx K mg) (c_unlike_rows : Cal Pr w K mg base 5 "unlike_rows" (sp_unlike_rows K)) (F : FnP K "check_names" (top 49) f fd) : FnOk Pr w K mg base CX0 6 f fd ["one", "other"] (sp_check_names K) := by
  have nd := sc_check_names.nd
  refine fn_P F sc_check_names (fun _ => rfl) (by decide) fun cdv A outer s H E hr => ⟨_, (pss_one (ps_for PassesOwn.never rfl (piTK (K := K) (pe_tup (pa_cons pe_int (pa_cons pe_int pa_nil)))) (pgn (i := 2) nd rfl) (pss_one (ps_for PassesOwn.never rfl (piLK (K := K) (pe_c c_unlike_rows hr (by decide) rfl (pa_cons (pe_ix (ixK (K := K)) (pv 0) (pv 2) (fun _ _ => rfl)) (pa_cons (pe_ix (ixK (K := K)) (pv 1) (pv 2) (fun _ _ => rfl)) pa_nil)))) (pgn (i := 3) nd rfl) (pss_one ps_never))))), ?_⟩
  rintro ⟨M, N⟩ ⟨hw, hs⟩
  dsimp only at hw hs
  try dsimp only [cxOf]
  change SX K _ [.dat (milD M), .dat (milD N), .emp, .emp] _ _
  refine sx_forM ?_
  repeat' tm_at "ex"
  refine ⟨Int, [0, 1], .int, fun _ G => ∃ s2 s3, G = [.dat (milD M), .dat (milD N), s2, s3], rfl, ⟨_, _, rfl⟩, ?_, fun _ _ => rfl⟩
  rintro i x G hx ⟨s2, s3, rfl⟩
  have hx' : x = 0 ∨ x = 1 := by
    have := List.mem_of_getElem? hx
    simpa using this
  rcases hx' with rfl | rfl
  · tm_at "ex"
    refine sx_forM ?_
    repeat' tm_at "ex"
    refine ⟨⟨M.ws.map Wh.rw, N.ws.map Wh.rw⟩, by rw [List.map_map, List.map_map]; rfl, hw, ?_⟩
    repeat' tm_at "ex"
    exact ⟨Str, [], .str, fun _ G => ∃ s2 s3, G = [.dat (milD M), .dat (milD N), s2, s3], rfl, ⟨_, _, rfl⟩, (fun i x G h => by simp at h), fun G h => h⟩
  · tm_at "ex"
    refine sx_forM ?_
    repeat' tm_at "ex"
    refine ⟨⟨M.ss.map Sy.rw, N.ss.map Sy.rw⟩, by rw [List.map_map, List.map_map]; rfl, hs, ?_⟩
    repeat' tm_at "ex"
    exact ⟨Str, [], .str, fun _ G => ∃ s2 s3, G = [.dat (milD M), .dat (milD N), s2, s3], rfl, ⟨_, _, rfl⟩, (fun i x G h => by simp at h), fun G h => h⟩
end

set_option Elab.async false
set_option linter.all false
set_option maxRecDepth 100000
set_option maxHeartbeats 1000000
section
open PySem L2
variable [B : Tb]
variable {Pr : Program} {w : World} {K : PySem.W.Frag} {mg : Str → Option Value} {base : Heap} {f : Addr} {fd : FuncData}

structure Jn (M N J : Mill) : Prop where
  lw : M.ws.length + N.ws.length < 60
  ls : M.ss.length + N.ss.length < 60
  ow : ∀ x ∈ M.ws ++ N.ws, PyData.strOk x.name = true
  os : ∀ x ∈ M.ss ++ N.ss, PyData.strOk x.name = true ∧ PyData.strOk x.one = true ∧ PyData.strOk x.other = true
  ew : J.ws.map Wh.row = setK ((M.ws ++ N.ws).map Wh.row)
  es : J.ss.map Sy.row = setK ((M.ss ++ N.ss).map Sy.row)
theorem wh_row {x : Wh} (h : PyData.strOk x.name = true) : oks x.row = true := by simp [oks, okK, Wh.row, h]
theorem sy_row {x : Sy} (h : PyData.strOk x.name = true ∧ PyData.strOk x.one = true ∧ PyData.strOk x.other = true) : oks x.row = true := by simp [oks, okK, Sy.row, h]
theorem set_wh {xs : List Wh} (hl : xs.length < 64) (h : ∀ x ∈ xs, PyData.strOk x.name = true) : IsSet (xs.map whD) ((setK (xs.map Wh.row)).map tD) := by
  have e : xs.map whD = (xs.map Wh.row).map tD := by rw [List.map_map]; rfl
  rw [e]
  refine .tups _ (by rw [List.length_map]; exact hl) (fun k hk => ?_) (fun k hk => ?_) fun a ha b hb => ?_
  · obtain ⟨x, hx, rfl⟩ := List.mem_map.mp hk; exact wh_row (h x hx)
  · obtain ⟨x, hx, rfl⟩ := List.mem_map.mp hk; exact fun z => by cases z
  · obtain ⟨x, hx, rfl⟩ := List.mem_map.mp ha
    obtain ⟨y, hy, rfl⟩ := List.mem_map.mp hb
    rfl
theorem set_sy {xs : List Sy} (hl : xs.length < 64) (h : ∀ x ∈ xs, PyData.strOk x.name = true ∧ PyData.strOk x.one = true ∧ PyData.strOk x.other = true) : IsSet (xs.map syD) ((setK (xs.map Sy.row)).map tD) := by
  have e : xs.map syD = (xs.map Sy.row).map tD := by rw [List.map_map]; rfl
  rw [e]
  refine .tups _ (by rw [List.length_map]; exact hl) (fun k hk => ?_) (fun k hk => ?_) fun a ha b hb => ?_
  · obtain ⟨x, hx, rfl⟩ := List.mem_map.mp hk; exact sy_row (h x hx)
  · obtain ⟨x, hx, rfl⟩ := List.mem_map.mp hk; exact fun z => by cases z
  · obtain ⟨x, hx, rfl⟩ := List.mem_map.mp ha
    obtain ⟨y, hy, rfl⟩ := List.mem_map.mp hb
    rfl
theorem sc_both_together : FnScope ["one", "other", "part"] ["one", "other"] (defScope (top 50)) := ⟨rfl, rfl, rfl, by decide +kernel, rfl, by decide +kernel, by decide +kernel⟩
abbrev sp_both_together (K : PySem.W.Frag) : Sp := SpP K (fun x : Mill × Mill × Mill => [milD x.1, milD x.2.1]) (fun x => Jn x.1 x.2.1 x.2.2) (fun x d => d = milD x.2.2)
theorem ok_both_together (T : Tx K mg) (c_set_of : Cal Pr w K mg base 1 "set_of" (sp_set_of K)) (c_tupled : Cal Pr w K mg base 4 "tupled" (sp_tupledT K)) (F : FnP K "both_together" (top 50) f fd) : FnOk Pr w K mg base CX0 5 f fd ["one", "other"] (sp_both_together K) := by
  have nd := sc_both_together.nd
  refine fn_P F sc_both_together (fun _ => rfl) (by decide) fun cdv A outer s H E hr => ⟨_, (pss_one (ps_ret (pe_callTy (tupleK (K := K)) rfl T.tuple_ bt_tuple (pa_cons (pe_lc (own := [("part", 2)]) rfl nd (piTK (K := K) (pe_tup (pa_cons pe_int (pa_cons pe_int pa_nil)))) (blkOk_by (by kernel_rfl)) (fun _ _ _ _ _ => (pgn (i := 2) nd rfl)) (fun _ _ _ _ _ => pts_nil) (fun _ _ _ _ _ => (pe_c c_set_of hr (by decide) rfl (pa_cons (pe_lst (starK (K := K) (pe_c c_tupled hr (by decide) rfl (pa_cons (pe_ix (ixK (K := K)) (pv 0) (pv 2) (fun _ _ => rfl)) pa_nil)) (starK (K := K) (pe_c c_tupled hr (by decide) rfl (pa_cons (pe_ix (ixK (K := K)) (pv 1) (pv 2) (fun _ _ => rfl)) pa_nil)) pa_nil))) pa_nil)))) pa_nil)))), ?_⟩
  rintro ⟨M, N, J⟩ ⟨lw, ls, ow, os, ew, es⟩
  dsimp only at lw ls ow os ew es
  try dsimp only [cxOf]
  change SX K _ [.dat (milD M), .dat (milD N), .emp] _ _
  repeat' tm_at "ex"
  refine ex_of (ef_lcA (tch_name 2) (by decide) ?_)
  repeat' tm_at "ex"
  refine ⟨noOwn_of rfl, Int, [0, 1], .int, fun x => if x = 0 then .tup (J.ws.map whD) else .tup (J.ss.map syD), rfl, sz (by decide), fun x hx => ?_, ?_⟩
  · have hx' : x = 0 ∨ x = 1 := by simpa using hx
    rcases hx' with rfl | rfl
    · repeat' tm_at "ex"
      refine ⟨M.ws.map Wh.row, by rw [List.map_map]; rfl, ⟨by rw [List.length_map]; omega, fun k hk => ?_⟩, ?_⟩
      · obtain ⟨y, hy, rfl⟩ := List.mem_map.mp hk
        simp [Wh.row]
      repeat' tm_at "ex"
      refine ⟨N.ws.map Wh.row, by rw [List.map_map]; rfl, ⟨by rw [List.length_map]; omega, fun k hk => ?_⟩, ?_⟩
      · obtain ⟨y, hy, rfl⟩ := List.mem_map.mp hk
        simp [Wh.row]
      repeat' tm_at "ex"
      have ec : (M.ws.map Wh.row).map tD ++ ((N.ws.map Wh.row).map tD ++ []) = (M.ws ++ N.ws).map whD := by
        rw [List.append_nil, List.map_map, List.map_map, List.map_append]; rfl
      rw [ec]
      refine ⟨by rw [List.length_map, List.length_append]; exact sz (by omega), ?_⟩
      repeat' tm_at "ex"
      refine ⟨(_, _), rfl, set_wh (by rw [List.length_append]; omega) ow, ?_⟩
      repeat' tm_at "ex"
      refine ⟨agr_wipe.set (by decide), ?_⟩
      rw [← ew, List.map_map]
      rfl
    · repeat' tm_at "ex"
      refine ⟨M.ss.map Sy.row, by rw [List.map_map]; rfl, ⟨by rw [List.length_map]; omega, fun k hk => ?_⟩, ?_⟩
      · obtain ⟨y, hy, rfl⟩ := List.mem_map.mp hk
        simp [Sy.row]
      repeat' tm_at "ex"
      refine ⟨N.ss.map Sy.row, by rw [List.map_map]; rfl, ⟨by rw [List.length_map]; omega, fun k hk => ?_⟩, ?_⟩
      · obtain ⟨y, hy, rfl⟩ := List.mem_map.mp hk
        simp [Sy.row]
      repeat' tm_at "ex"
      have ec : (M.ss.map Sy.row).map tD ++ ((N.ss.map Sy.row).map tD ++ []) = (M.ss ++ N.ss).map syD := by
        rw [List.append_nil, List.map_map, List.map_map, List.map_append]; rfl
      rw [ec]
      refine ⟨by rw [List.length_map, List.length_append]; exact sz (by omega), ?_⟩
      repeat' tm_at "ex"
      refine ⟨(_, _), rfl, set_sy (by rw [List.length_append]; omega) os, ?_⟩
      repeat' tm_at "ex"
      refine ⟨agr_wipe.set (by decide), ?_⟩
      rw [← es, List.map_map]
      rfl
  · repeat' tm_at "ex"
    rfl
theorem sc_joined : FnScope ["one", "other"] ["one", "other"] (defScope (top 51)) := ⟨rfl, rfl, rfl, by decide +kernel, rfl, by decide +kernel, by decide +kernel⟩
abbrev sp_joined (K : PySem.W.Frag) : Sp := SpP K (fun x : Mill × Mill × Mill => [milD x.1, milD x.2.1]) (fun x => Un2 x.1 x.2.1 ∧ Jn x.1 x.2.1 x.2.2) (fun x d => d = milD x.2.2)
theorem ok_joined (T : Tx K mg) (c_check_names : Cal Pr w K mg base 6 "check_names" (sp_check_names K)) (c_both_together : Cal Pr w K mg base 5 "both_together" (sp_both_together K)) (F : FnP K "joined" (top 51) f fd) : FnOk Pr w K mg base CX0 7 f fd ["one", "other"] (sp_joined K) := by
  have nd := sc_joined.nd
  refine fn_P F sc_joined (fun _ => rfl) (by decide) fun cdv A outer s H E hr => ⟨_, (pss_cons (ps_expr (pe_c c_check_names hr (by decide) rfl (pa_cons (pv 0) (pa_cons (pv 1) pa_nil))))
    (pss_one (ps_ret (pe_c c_both_together hr (by decide) rfl (pa_cons (pv 0) (pa_cons (pv 1) pa_nil)))))), ?_⟩
  rintro ⟨M, N, J⟩ ⟨h1, h2⟩
  dsimp only at h1 h2
  try dsimp only [cxOf]
  change SX K _ [.dat (milD M), .dat (milD N)] _ _
  repeat' tm_at "ex"
  refine ⟨h1, ?_⟩
  repeat' tm_at "ex"
  refine ⟨(M, N, J), rfl, h2, ?_⟩
  repeat' tm_at "ex"
  rfl
theorem sc_check_both : FnScope ["one", "other"] ["one", "other"] (defScope (top 52)) := ⟨rfl, rfl, rfl, by decide +kernel, rfl, by decide +kernel, by decide +kernel⟩
abbrev sp_check_both (K : PySem.W.Frag) : Sp := SpP K (fun x : (Mill × Mill) × (Str → Int) => [milD x.1.1, milD x.1.2]) (fun x => x.1.1.Ok x.2 ∧ x.1.2.Ok x.2 ∧ Un2 x.1.1 x.1.2) (fun _ d => d = .non)
theorem ok_check_both (T : Tx K mg) (c_check_names : Cal Pr w K mg base 6 "check_names" (sp_check_names K)) (c_can_be_kept : Cal Pr w K mg base 6 "can_be_kept" (sp_can_be_kept K)) (F : FnP K "check_both" (top 52) f fd) : FnOk Pr w K mg base CX0 7 f fd ["one", "other"] (sp_check_both K) := by
  have nd := sc_check_both.nd
  refine fn_P F sc_check_both (fun _ => rfl) (by decide) fun cdv A outer s H E hr => ⟨_, (pss_cons (ps_if (PW.pt (pw_or (pt_not (pt_val (pe_c c_can_be_kept hr (by decide) rfl (pa_cons (pv 0) pa_nil)))) (pw_or1 (pt_not (pt_val (pe_c c_can_be_kept hr (by decide) rfl (pa_cons (pv 1) pa_nil))))))) (pss_one ps_never) pss_nil)
    (pss_one (ps_expr (pe_c c_check_names hr (by decide) rfl (pa_cons (pv 0) (pa_cons (pv 1) pa_nil)))))), ?_⟩
  rintro ⟨⟨M, N⟩, b⟩ ⟨h1, h2, h3⟩
  dsimp only at h1 h2 h3
  try dsimp only [cxOf]
  change SX K _ [.dat (milD M), .dat (milD N)] _ _
  repeat' tm_at "ex"
  refine ⟨(M, b), rfl, h1, ?_⟩
  repeat' tm_at "ex"
  refine ⟨nofun, fun _ => ?_⟩
  repeat' tm_at "ex"
  refine ⟨(N, b), rfl, h2, ?_⟩
  repeat' tm_at "ex"
  refine ⟨nofun, fun _ => ?_⟩
  repeat' tm_at "ex"
  refine ⟨h3, fun _ _ => rfl⟩
theorem sc_agreed : FnScope ["one", "other", "both"] ["one", "other"] (defScope (top 53)) := ⟨rfl, rfl, rfl, by decide +kernel, rfl, by decide +kernel, by decide +kernel⟩
abbrev sp_agreed (K : PySem.W.Frag) : Sp := SpP K (fun x : (Mill × Mill) × Mill × (Str → Int) => [milD x.1.1, milD x.1.2]) (fun x => x.1.1.Ok x.2.2 ∧ x.1.2.Ok x.2.2 ∧ Un2 x.1.1 x.1.2 ∧ Jn x.1.1 x.1.2 x.2.1 ∧ x.2.1.Ok x.2.2) (fun x d => d = milD x.2.1)
theorem ok_agreed (T : Tx K mg) (c_check_both : Cal Pr w K mg base 7 "check_both" (sp_check_both K)) (c_both_together : Cal Pr w K mg base 5 "both_together" (sp_both_together K)) (c_can_be_kept : Cal Pr w K mg base 6 "can_be_kept" (sp_can_be_kept K)) (F : FnP K "agreed" (top 53) f fd) : FnOk Pr w K mg base CX0 8 f fd ["one", "other"] (sp_agreed K) := by
  have nd := sc_agreed.nd
  refine fn_P F sc_agreed (fun _ => rfl) (by decide) fun cdv A outer s H E hr => ⟨_, (pss_cons (ps_expr (pe_c c_check_both hr (by decide) rfl (pa_cons (pv 0) (pa_cons (pv 1) pa_nil))))
    (pss_cons (pst (i := 2) nd rfl (pe_c c_both_together hr (by decide) rfl (pa_cons (pv 0) (pa_cons (pv 1) pa_nil))))
    (pss_cons (ps_if (pt_not (pt_val (pe_c c_can_be_kept hr (by decide) rfl (pa_cons (pv 2) pa_nil)))) (pss_one ps_never) pss_nil)
    (pss_one (ps_ret (pv 2)))))), ?_⟩
  rintro ⟨⟨M, N⟩, J, b⟩ ⟨h1, h2, h3, h4, h5⟩
  dsimp only at h1 h2 h3 h4 h5
  try dsimp only [cxOf]
  change SX K _ [.dat (milD M), .dat (milD N), .emp] _ _
  repeat' tm_at "ex"
  refine ⟨((M, N), b), rfl, ⟨h1, h2, h3⟩, ?_⟩
  repeat' tm_at "ex"
  refine ⟨(M, N, J), rfl, h4, ?_⟩
  repeat' tm_at "ex"
  refine ⟨(J, b), rfl, h5, ?_⟩
  repeat' tm_at "ex"
  refine ⟨nofun, fun _ => ?_⟩
  repeat' tm_at "ex"
  rfl
theorem sc_sure_across : FnScope ["one", "other", "near", "far"] ["one", "other", "near", "far"] (defScope (top 54)) := ⟨rfl, rfl, rfl, by decide +kernel, rfl, by decide +kernel, by decide +kernel⟩
abbrev sp_sure_across (K : PySem.W.Frag) : Sp := SpP K (fun x : (Mill × Mill) × (Mill × (Str → Int)) × Str × Str => [milD x.1.1, milD x.1.2, .str x.2.2.1, .str x.2.2.2]) (fun x => x.1.1.Ok x.2.1.2 ∧ x.1.2.Ok x.2.1.2 ∧ Un2 x.1.1 x.1.2 ∧ Jn x.1.1 x.1.2 x.2.1.1 ∧ x.2.1.1.Ok x.2.1.2 ∧ x.2.2.1 ∈ x.1.1.spots ∧ x.2.2.2 ∈ x.1.2.spots ∧ x.2.2.1 ∈ x.2.1.1.spots ∧ x.2.2.2 ∈ x.2.1.1.spots)
  (fun x d => d = cls (x.2.1.2 x.2.2.2 - x.2.1.2 x.2.2.1) (x.2.1.1.D x.2.2.1 x.2.2.2))
theorem ok_sure_across (T : Tx K mg) (c_check_ends : Cal Pr w K mg base 3 "check_ends" (sp_check_ends K)) (c_class_table : Cal Pr w K mg base 6 "class_table" (sp_class_table K)) (c_agreed : Cal Pr w K mg base 8 "agreed" (sp_agreed K)) (F : FnP K "sure_across" (top 54) f fd) : FnOk Pr w K mg base CX0 9 f fd ["one", "other", "near", "far"] (sp_sure_across K) := by
  have nd := sc_sure_across.nd
  refine fn_P F sc_sure_across (fun _ => rfl) (by decide) fun cdv A outer s H E hr => ⟨_, (pss_cons (ps_expr (pe_c c_check_ends hr (by decide) rfl (pa_cons (pv 0) (pa_cons (pe_lst (pa_cons (pv 2) pa_nil)) pa_nil))))
    (pss_cons (ps_expr (pe_c c_check_ends hr (by decide) rfl (pa_cons (pv 1) (pa_cons (pe_lst (pa_cons (pv 3) pa_nil)) pa_nil))))
    (pss_one (ps_ret (pe_dget hr.units1 (pe_c c_class_table hr (by decide) rfl (pa_cons (pe_c c_agreed hr (by decide) rfl (pa_cons (pv 0) (pa_cons (pv 1) pa_nil))) pa_nil)) (pe_tup (pa_cons (pv 2) (pa_cons (pv 3) pa_nil))) (fun _ _ => rfl)))))), ?_⟩
  rintro ⟨⟨M, N⟩, ⟨J, b⟩, u, v⟩ ⟨h1, h2, h3, h4, h5, hu, hv, hu2, hv2⟩
  dsimp only at h1 h2 h3 h4 h5 hu hv hu2 hv2
  try dsimp only [cxOf]
  change SX K _ [.dat (milD M), .dat (milD N), .dat (.str u), .dat (.str v)] _ _
  repeat' tm_at "ex"
  refine ⟨(M, [u], _), rfl, ⟨h1.sh, rfl, (by show 1 ≤ 20; decide), fun n hn => by rw [List.mem_singleton.mp hn]; exact hu⟩, ?_⟩
  repeat' tm_at "ex"
  refine ⟨(N, [v], _), rfl, ⟨h2.sh, rfl, (by show 1 ≤ 20; decide), fun n hn => by rw [List.mem_singleton.mp hn]; exact hv⟩, ?_⟩
  repeat' tm_at "ex"
  refine ⟨((M, N), J, b), rfl, ⟨h1, h2, h3, h4, h5⟩, ?_⟩
  repeat' tm_at "ex"
  refine ⟨h5, ?_⟩
  repeat' tm_at "ex"
  refine ⟨_, look_ct (mem_prodP.mpr ⟨hu2, hv2⟩), ?_⟩
  rfl
end

set_option Elab.async false
set_option linter.all false
set_option maxRecDepth 100000
set_option maxHeartbeats 1000000
section
open PySem L2
variable [B : Tb]
variable {Pr : Program} {w : World} {K : PySem.W.Frag} {mg : Str → Option Value} {base : Heap} {f : Addr} {fd : FuncData}

theorem setS_id {l : List Str} (h : Asc l) : setS l = l := by
  rw [← setS_eq (l' := l) h.nodup fun _ => Iff.rfl]
  exact List.mergeSort_of_pairwise (h.imp fun {a b} z => by
    show (!PySem.W.dataLt (.str b) (.str a)) = true
    rw [← ltS_lt, ltS_asymm z]; rfl)
def pairsIn (sp : List Str) : List (Str × Str) := (List.range sp.length).flatMap fun i => (sp.drop (i + 1)).map fun v => (sp.getD i "", v)
theorem enD_strs (sp : List Str) : enD (sp.map .str) = (List.range sp.length).map fun i => Dt.tup [.int ((i : Nat) : Int), .str (sp.getD i "")] := by
  unfold enD
  rw [List.length_map]
  refine List.map_congr_left fun i hi => ?_
  have hi := List.mem_range.mp hi
  simp [List.getD_eq_getElem?_getD, List.getElem?_map, List.getElem?_eq_getElem hi]
theorem pairsIn_len (sp : List Str) : (pairsIn sp).length ≤ sp.length * sp.length := by
  unfold pairsIn
  rw [List.length_flatMap]
  have key : ∀ l : List Nat, (l.map fun i => ((sp.drop (i + 1)).map fun v => (sp.getD i "", v)).length).sum ≤ l.length * sp.length := by
    intro l
    induction l with
    | nil => simp
    | cons i l ih =>
      rw [List.map_cons, List.sum_cons, List.length_cons, Nat.succ_mul]
      have : ((sp.drop (i + 1)).map fun v => (sp.getD i "", v)).length ≤ sp.length := by rw [List.length_map, List.length_drop]; omega
      omega
  have := key (List.range sp.length)
  rwa [List.length_range] at this
theorem mem_pairsIn {sp : List Str} {p : Str × Str} (h : p ∈ pairsIn sp) : p.1 ∈ sp ∧ p.2 ∈ sp := by
  unfold pairsIn at h
  obtain ⟨i, hi, h⟩ := List.mem_flatMap.mp h
  obtain ⟨v, hv, rfl⟩ := List.mem_map.mp h
  have hi := List.mem_range.mp hi
  refine ⟨?_, List.mem_of_mem_drop hv⟩
  show sp.getD i "" ∈ sp
  rw [List.getD_eq_getElem?_getD, List.getElem?_eq_getElem hi]
  exact List.getElem_mem hi
theorem sc_pairs_of : FnScope ["names", "spots", "far", "place", "near"] ["names"] (defScope (top 55)) := ⟨rfl, rfl, rfl, by decide +kernel, rfl, by decide +kernel, by decide +kernel⟩
abbrev sp_pairs_of (K : PySem.W.Frag) : Sp := SpP K (fun x : List Str × Dt => [x.2]) (fun x => x.2.seq = some (x.1.map .str) ∧ x.1.length ≤ 21 ∧ Asc ("" :: x.1) ∧ ∀ n ∈ x.1, PyData.strOk n = true) (fun x d => d = .lst ((pairsIn ("" :: x.1)).map keyP))
theorem ok_pairs_of (T : Tx K mg) (c_set_of : Cal Pr w K mg base 1 "set_of" (sp_set_of K)) (F : FnP K "pairs_of" (top 55) f fd) : FnOk Pr w K mg base CX0 2 f fd ["names"] (sp_pairs_of K) := by
  have nd := sc_pairs_of.nd
  refine fn_P F sc_pairs_of (fun _ => rfl) (by decide) fun cdv A outer s H E hr => ⟨_, (pss_cons (pst (i := 1) nd rfl (pe_c c_set_of hr (by decide) rfl (pa_cons (pe_lst (pa_cons (pe_k T.crank rfl) (starK (K := K) (pv 0) pa_nil))) pa_nil)))
    (pss_one (ps_ret (pe_lc2 (own := [("place", 3), ("near", 4), ("far", 2)]) (vs1 := [2]) rfl nd (pi_enumT (by rfl) T.enumerate_ (pa_cons (pv 1) pa_nil)) (blkOk_by (by kernel_rfl)) (by decide) (fun _ _ _ _ _ => (pg_tupK (K := K) (n := 2) rfl (pgs_cons (pgn (i := 3) nd rfl) (pgs_cons (pgn (i := 4) nd rfl) pgs_nil)))) (fun _ _ _ _ _ => pts_nil) (fun _ _ _ _ _ => (piTK (K := K) (pe_slice (slTK (K := K)) (pv 1) (po_some (pe_op op_add (pv 3) pe_int)) po_none))) (fun _ _ _ _ _ => (pgn (i := 2) nd rfl)) (fun _ _ _ _ _ => pts_nil) (fun _ _ _ _ _ => (pe_tup (pa_cons (pv 4) (pa_cons (pv 2) pa_nil)))))))), ?_⟩
  rintro ⟨ns, d⟩ ⟨hd, hl, ha, hk⟩
  dsimp only at hd hl ha hk
  try dsimp only [cxOf]
  change SX K _ [.dat d, .emp, .emp, .emp, .emp] _ _
  obtain ⟨sp, hsp⟩ : ∃ sp, sp = ("" : Str) :: ns := ⟨_, rfl⟩
  have hlen : sp.length ≤ 22 := by rw [hsp, List.length_cons]; omega
  repeat' tm_at "ex"
  refine ⟨_, hd, ?_⟩
  repeat' tm_at "ex"
  rw [List.append_nil]
  have ec : Dt.str "" :: ns.map Dt.str = sp.map .str := by rw [hsp]; rfl
  rw [ec]
  refine ⟨by rw [List.length_map]; exact sz (by omega), ?_⟩
  repeat' tm_at "ex"
  have hok : ∀ k ∈ sp, PyData.strOk k = true := fun k hk' => by
    rw [hsp] at hk'
    rcases List.mem_cons.mp hk' with rfl | z
    · decide +kernel
    · exact hk k z
  refine ⟨(_, _), rfl, .strs sp (by omega) hok, ?_⟩
  rw [setS_id (by rw [hsp]; exact ha)]
  repeat' tm_at "ex"
  refine ex_of (ef_lc2M (tch_tup (tchs_cons (tch_name 3) (tchs_cons (tch_name 4) tchs_nil))) (by decide) (tch_name 2) (by decide) ?_)
  repeat' tm_at "ex"
  refine ⟨noOwn_of rfl, Nat, List.range sp.length, _, fun i => ((sp.drop (i + 1)).map fun v => keyP (sp.getD i "", v)), enD_strs sp, ?_, fun i hi => ?_, ?_⟩
  · have h1 := pairsIn_len sp
    have e : ((List.range sp.length).flatMap fun i => (sp.drop (i + 1)).map fun v => keyP (sp.getD i "", v)) = (pairsIn sp).map keyP := by
      unfold pairsIn
      rw [List.map_flatMap]
      congr 1
      funext i
      rw [List.map_map]; rfl
    rw [e, List.length_map]
    have h2 := Nat.mul_le_mul hlen hlen
    have h3 : 500 < sizeLine := by decide
    omega
  · unfold LcT2
    repeat' tm_at "ex"
    refine ⟨fun _ => ?_, nofun⟩
    repeat' tm_at "ex"
    refine ex_slT ?_
    repeat' tm_at "ex"
    have hcut : cutD (sp.map Dt.str) (some (((i : Nat) : Int) + 1)) none = (sp.drop (i + 1)).map .str := by
      have e : (((i : Nat) : Int) + 1) = ((i + 1 : Nat) : Int) := by omega
      rw [e, cut_from, List.map_drop]
    rw [hcut]
    refine ⟨(agr_wipe.set (by decide)).set (by decide), noOwn_of rfl, ?_⟩
    refine Exists.elim (inner_of (E := Dt.str) (r := fun v => some (keyP (sp.getD i "", v))) (xs := sp.drop (i + 1)) fun x hx => ?_) fun rs ⟨h1, h2, h3⟩ => ⟨rs, h1, ?_, h3⟩
    · unfold LcT
      repeat' tm_at "ex"
      refine ⟨fun _ => ?_, nofun⟩
      repeat' tm_at "ex"
      exact ⟨agr_wipe.set (by decide), rfl⟩
    · rw [← h2, List.filterMap_eq_map']
  · show Dt.lst _ = Dt.lst _
    rw [← hsp]
    unfold pairsIn
    rw [List.map_flatMap]
    congr 2
    funext i
    rw [List.map_map]; rfl
theorem sc_letter : FnScope ["mill", "some", "table", "pair"] ["mill", "some"] (defScope (top 56)) := ⟨rfl, rfl, rfl, by decide +kernel, rfl, by decide +kernel, by decide +kernel⟩
def sureR (M : Mill) (b : Str → Int) (ps : List (Str × Str)) : List Dt := (ps.filter fun p => !decide (M.D p.1 p.2 = 1)).map (sureD M b)
abbrev sp_letter (K : PySem.W.Frag) : Sp := SpP K (fun x : Mill × (Str → Int) × List Str => [milD x.1, strsD x.2.2]) (fun x => x.1.Ok x.2.1 ∧ x.1.Nice ∧ x.2.2.length ≤ 20 ∧ Asc ("" :: x.2.2) ∧ ∀ n ∈ x.2.2, n ∈ x.1.names) (fun x d => d = .tup (sureR x.1 x.2.1 (pairsIn ("" :: x.2.2))))
theorem ok_letter (T : Tx K mg) (c_check_wheels : Cal Pr w K mg base 2 "check_wheels" (sp_check_wheels K)) (c_class_table : Cal Pr w K mg base 6 "class_table" (sp_class_table K)) (c_pairs_of : Cal Pr w K mg base 2 "pairs_of" (sp_pairs_of K)) (F : FnP K "letter" (top 56) f fd) : FnOk Pr w K mg base CX0 7 f fd ["mill", "some"] (sp_letter K) := by
  have nd := sc_letter.nd
  refine fn_P F sc_letter (fun _ => rfl) (by decide) fun cdv A outer s H E hr => ⟨_, (pss_cons (ps_expr (pe_c c_check_wheels hr (by decide) rfl (pa_cons (pv 0) (pa_cons (pv 1) pa_nil))))
    (pss_cons (pst (i := 2) nd rfl (pe_c c_class_table hr (by decide) rfl (pa_cons (pv 0) pa_nil)))
    (pss_one (ps_ret (pe_callTy (tupleK (K := K)) rfl T.tuple_ bt_tuple (pa_cons (pe_lc (own := [("pair", 3)]) rfl nd (piLK (K := K) (pe_c c_pairs_of hr (by decide) rfl (pa_cons (pv 1) pa_nil))) (blkOk_by (by kernel_rfl)) (fun _ _ _ _ _ => (pgn (i := 3) nd rfl)) (fun _ _ _ _ _ => (pts_one (pt_cmpR op_ne (pe_ix (ixK (K := K)) (pe_dget hr.units1 (pv 2) (pv 3) (fun _ _ => rfl)) pe_int (fun _ _ => rfl)) (pe_k T.unsure rfl) (nomark _)))) (fun _ _ _ _ _ => (pe_tup (starK (K := K) (pv 3) (starK (K := K) (pe_dget hr.units1 (pv 2) (pv 3) (fun _ _ => rfl)) pa_nil))))) pa_nil)))))), ?_⟩
  rintro ⟨M, b, ns⟩ ⟨hM, hN, hl, ha, hn⟩
  dsimp only at hM hN hl ha hn
  try dsimp only [cxOf]
  change SX K _ [.dat (milD M), .dat (strsD ns), .emp, .emp] _ _
  repeat' tm_at "ex"
  refine ⟨(M, ns, _), rfl, ⟨hM.sh, rfl, hn⟩, ?_⟩
  repeat' tm_at "ex"
  refine ⟨(M, b), rfl, hM, ?_⟩
  repeat' tm_at "ex"
  refine ex_of (ef_lcM (tch_name 3) (by decide) ?_)
  repeat' tm_at "ex"
  refine ⟨(ns, _), rfl, ⟨rfl, (by show ns.length ≤ 21; omega), ha, fun n h => hN.ok n (List.mem_cons_of_mem _ (hn n h))⟩, ?_⟩
  repeat' tm_at "ex"
  have hlen : (pairsIn ("" :: ns)).length ≤ 1000 := by
    have h1 := pairsIn_len ("" :: ns)
    have h0 : (("" : Str) :: ns).length ≤ 21 := by rw [List.length_cons]; omega
    have h2 := Nat.mul_le_mul h0 h0
    omega
  have hsub : ∀ x ∈ ("" : Str) :: ns, x ∈ M.spots := fun x hx => by
    rcases List.mem_cons.mp hx with rfl | z
    · exact List.mem_cons_self ..
    · exact List.mem_cons_of_mem _ (hn x z)
  refine ⟨noOwn_of rfl, Str × Str, pairsIn ("" :: ns), keyP, fun p => if (!decide (M.D p.1 p.2 = 1)) = true then some (sureD M b p) else none, rfl, sz hlen, fun p hp => ?_, ?_⟩
  · unfold LcT
    obtain ⟨u, v⟩ := p
    have hm := mem_pairsIn hp
    have hp2 : (u, v) ∈ prodP M.spots M.spots := mem_prodP.mpr ⟨hsub _ hm.1, hsub _ hm.2⟩
    show GX K _ (.tup [.str u, .str v]) _ _
    repeat' tm_at "ex"
    refine ⟨_, look_ct hp2, ?_⟩
    repeat' tm_at "ex"
    refine ⟨fun h => ?_, fun h => ?_⟩
    · repeat' tm_at "ex"
      refine ⟨_, look_ct hp2, ?_⟩
      repeat' tm_at "ex"
      exact ⟨agr_wipe.set (by decide), (if_pos h).trans rfl⟩
    · refine ⟨agr_wipe.set (by decide), if_neg ?_⟩
      show ¬ (!decide (M.D u v = 1)) = true
      rw [h]; simp
  · repeat' tm_at "ex"
    rw [filterMap_if (fun p : Str × Str => !decide (M.D p.1 p.2 = 1)) (sureD M b)]
    rfl
end

set_option Elab.async false
set_option linter.all false
set_option maxRecDepth 100000
set_option maxHeartbeats 1000000
section
open PySem L2
variable [B : Tb]
variable {Pr : Program} {w : World} {K : PySem.W.Frag} {mg : Str → Option Value} {base : Heap} {f : Addr} {fd : FuncData}

def Mill.cut (M : Mill) (n : Str) : Mill := ⟨M.ws, M.ss.filter fun y => !decide (n ∈ [y.one, y.other])⟩
theorem Mill.Ok.cut {M : Mill} {b : Str → Int} (h : M.Ok b) (n : Str) : (M.cut n).Ok b := by
  refine ⟨⟨h.sh.ws, Nat.le_trans (List.length_filter_le ..) h.sh.ss⟩, ⟨h.nm.nd, h.nm.ne⟩, fun y hy => ?_⟩
  exact h.ss y ((List.mem_filter.mp hy).1)
theorem sc_cut_off : FnScope ["mill", "name", "saying"] ["mill", "name"] (defScope (top 59)) := ⟨rfl, rfl, rfl, by decide +kernel, rfl, by decide +kernel, by decide +kernel⟩
abbrev sp_cut_off (K : PySem.W.Frag) : Sp := SpP K (fun x : Mill × Str => [milD x.1, .str x.2]) (fun x => x.1.Short ∧ x.2 ∈ x.1.names) (fun x d => d = milD (x.1.cut x.2))
theorem ok_cut_off (T : Tx K mg) (c_check_wheels : Cal Pr w K mg base 2 "check_wheels" (sp_check_wheels K)) (c_tupled : Cal Pr w K mg base 4 "tupled" (sp_tupledT K)) (F : FnP K "cut_off" (top 59) f fd) : FnOk Pr w K mg base CX0 5 f fd ["mill", "name"] (sp_cut_off K) := by
  have nd := sc_cut_off.nd
  refine fn_P F sc_cut_off (fun _ => rfl) (by decide) fun cdv A outer s H E hr => ⟨_, (pss_cons (ps_expr (pe_c c_check_wheels hr (by decide) rfl (pa_cons (pv 0) (pa_cons (pe_lst (pa_cons (pv 1) pa_nil)) pa_nil))))
    (pss_one (ps_ret (pe_tup (pa_cons (pe_c c_tupled hr (by decide) rfl (pa_cons (pe_ix (ixK (K := K)) (pv 0) pe_int (fun _ _ => rfl)) pa_nil)) (pa_cons (pe_callTy (tupleK (K := K)) rfl T.tuple_ bt_tuple (pa_cons (pe_lc (own := [("saying", 2)]) rfl nd (piTK (K := K) (pe_c c_tupled hr (by decide) rfl (pa_cons (pe_ix (ixK (K := K)) (pv 0) pe_int (fun _ _ => rfl)) pa_nil))) (blkOk_by (by kernel_rfl)) (fun _ _ _ _ _ => (pgn (i := 2) nd rfl)) (fun _ _ _ _ _ => (pts_one (pt_cmpR (notinK (K := K)) (pv 1) (pe_slice (slTK (K := K)) (pv 2) (po_some pe_int) (po_some pe_int)) rfl))) (fun _ _ _ _ _ => (pv 2))) pa_nil)) pa_nil)))))), ?_⟩
  rintro ⟨M, n⟩ ⟨hM, hn⟩
  dsimp only at hM hn
  try dsimp only [cxOf]
  change SX K _ [.dat (milD M), .dat (.str n), .emp] _ _
  repeat' tm_at "ex"
  refine ⟨(M, [n], _), rfl, ⟨hM, rfl, fun x hx => by rw [List.mem_singleton.mp hx]; exact hn⟩, ?_⟩
  repeat' tm_at "ex"
  refine ⟨M.ws.map Wh.row, by rw [List.map_map]; rfl, ⟨by have := hM.ws; rw [List.length_map]; omega, fun k hk => ?_⟩, ?_⟩
  · obtain ⟨y, hy, rfl⟩ := List.mem_map.mp hk
    simp [Wh.row]
  repeat' tm_at "ex"
  refine ex_of (ef_lcM (tch_name 2) (by decide) ?_)
  repeat' tm_at "ex"
  refine ⟨M.ss.map Sy.row, by rw [List.map_map]; rfl, ⟨by have := hM.ss; rw [List.length_map]; omega, fun k hk => ?_⟩, ?_⟩
  · obtain ⟨y, hy, rfl⟩ := List.mem_map.mp hk
    simp [Sy.row]
  repeat' tm_at "ex"
  refine ⟨noOwn_of rfl, Sy, M.ss, syD, fun y => if (!decide (n ∈ [y.one, y.other])) = true then some (syD y) else none, by rw [List.map_map]; rfl, sz (by have := hM.ss; omega), fun y hy => ?_, ?_⟩
  · unfold LcT
    repeat' tm_at "ex"
    refine ex_slT ?_
    repeat' tm_at "ex"
    refine od_inS (xs := [y.one, y.other]) rfl ?_
    rw [if_pos rfl]
    repeat' tm_at "ex"
    refine ⟨fun h => ?_, fun h => ?_⟩
    · repeat' tm_at "ex"
      exact ⟨agr_wipe.set (by decide), if_pos h⟩
    · refine ⟨agr_wipe.set (by decide), if_neg ?_⟩
      rw [h]; simp
  · repeat' tm_at "ex"
    rw [filterMap_if (fun y : Sy => !decide (n ∈ [y.one, y.other])) syD]
    show Dt.tup [.tup ((M.ws.map Wh.row).map tD), _] = _
    rw [List.map_map]; rfl
def bridgePs (M : Mill) (n : Str) : List (Str × Str) := (pairsIn ("" :: M.names.filter fun x => !decide (x = n))).filter fun p => !decide (M.D p.1 p.2 = 1) && decide ((M.cut n).D p.1 p.2 = 1)
theorem sc_bridged : FnScope ["mill", "name", "less", "others", "near", "far", "own", "pair"] ["mill", "name"] (defScope (top 60)) := ⟨rfl, rfl, rfl, by decide +kernel, rfl, by decide +kernel, by decide +kernel⟩
abbrev sp_bridged (K : PySem.W.Frag) : Sp := SpP K (fun x : Mill × (Str → Int) × Str => [milD x.1, .str x.2.2]) (fun x => x.1.Ok x.2.1 ∧ x.1.Nice ∧ x.2.2 ∈ x.1.names) (fun x d => d = .tup ((bridgePs x.1 x.2.2).map keyP))
theorem ok_bridged (T : Tx K mg) (c_cut_off : Cal Pr w K mg base 5 "cut_off" (sp_cut_off K)) (c_class_table : Cal Pr w K mg base 6 "class_table" (sp_class_table K)) (c_wheel_names : Cal Pr w K mg base 1 "wheel_names" (sp_wheel_names K)) (c_pairs_of : Cal Pr w K mg base 2 "pairs_of" (sp_pairs_of K)) (F : FnP K "bridged" (top 60) f fd) : FnOk Pr w K mg base CX0 7 f fd ["mill", "name"] (sp_bridged K) := by
  have nd := sc_bridged.nd
  refine fn_P F sc_bridged (fun _ => rfl) (by decide) fun cdv A outer s H E hr => ⟨_, (pss_cons (pst (i := 2) nd rfl (pe_c c_cut_off hr (by decide) rfl (pa_cons (pv 0) (pa_cons (pv 1) pa_nil))))
    (pss_cons (ps_asg (pe_tup (pa_cons (pe_c c_class_table hr (by decide) rfl (pa_cons (pv 0) pa_nil)) (pa_cons (pe_c c_class_table hr (by decide) rfl (pa_cons (pv 2) pa_nil)) pa_nil))) (pg_tupK (K := K) (n := 2) rfl (pgs_cons (pgn (i := 4) nd rfl) (pgs_cons (pgn (i := 5) nd rfl) pgs_nil))))
    (pss_cons (ps_setLc (i := 3) (own := [("own", 6)]) rfl nd rfl rfl (sw_true rfl rfl rfl (by kernel_rfl)) (piTK (K := K) (pe_c c_wheel_names hr (by decide) rfl (pa_cons (pv 0) pa_nil))) (blkOk_by (by kernel_rfl)) (fun _ _ _ _ _ => (pgn (i := 6) nd rfl)) (fun _ _ _ _ _ => (pts_one (pt_cmpR op_ne (pv 6) (pv 1) (nomark _)))) (fun _ _ _ _ _ => (pv 6)))
    (pss_one (ps_ret (pe_callTy (tupleK (K := K)) rfl T.tuple_ bt_tuple (pa_cons (pe_lc (own := [("pair", 7)]) rfl nd (piLK (K := K) (pe_c c_pairs_of hr (by decide) rfl (pa_cons (pv 3) pa_nil))) (blkOk_by (by kernel_rfl)) (fun _ _ _ _ _ => (pgn (i := 7) nd rfl)) (fun _ _ _ _ _ => (pts_one (PW.pt (pw_and (pt_cmpR op_ne (pe_ix (ixK (K := K)) (pe_dget hr.units1 (pv 4) (pv 7) (fun _ _ => rfl)) pe_int (fun _ _ => rfl)) (pe_k T.unsure rfl) (nomark _)) (pw_and1 (pt_cmpR op_eq (pe_ix (ixK (K := K)) (pe_dget hr.units1 (pv 5) (pv 7) (fun _ _ => rfl)) pe_int (fun _ _ => rfl)) (pe_k T.unsure rfl) (nomark _))))))) (fun _ _ _ _ _ => (pv 7))) pa_nil))))))), ?_⟩
  rintro ⟨M, b, n⟩ ⟨hM, hN, hn⟩
  dsimp only at hM hN hn
  try dsimp only [cxOf]
  change SX K _ [.dat (milD M), .dat (.str n), .emp, .emp, .emp, .emp, .emp, .emp] _ _
  repeat' tm_at "ex"
  refine ⟨⟨hM.sh, hn⟩, ?_⟩
  repeat' tm_at "ex"
  refine ⟨(M, b), rfl, hM, ?_⟩
  repeat' tm_at "ex"
  refine ⟨(M.cut n, b), rfl, hM.cut n, ?_⟩
  repeat' tm_at "ex"
  refine ex_of (ef_lcM (tch_name 6) (by decide) ?_)
  repeat' tm_at "ex"
  refine ⟨hM.sh, ?_⟩
  repeat' tm_at "ex"
  have hnl : M.names.length ≤ 20 := by have := hM.sh.ws; simp [Mill.names]; exact this
  refine ⟨noOwn_of rfl, Str, M.names, .str, fun x => if (!decide (x = n)) = true then some (.str x) else none, rfl, sz (by omega), fun x hx => ?_, ?_⟩
  · unfold LcT
    repeat' tm_at "ex"
    refine ⟨fun h => ?_, fun h => ?_⟩
    · repeat' tm_at "ex"
      exact ⟨agr_wipe.set (by decide), if_pos h⟩
    · refine ⟨agr_wipe.set (by decide), if_neg ?_⟩
      rw [h]; simp
  rw [filterMap_if (fun x : Str => !decide (x = n)) Dt.str]
  obtain ⟨os, hos⟩ : ∃ os, os = M.names.filter fun x => !decide (x = n) := ⟨_, rfl⟩
  have hosl : os.length ≤ 20 := by rw [hos]; exact Nat.le_trans (List.length_filter_le ..) hnl
  have hsub : ∀ x ∈ os, x ∈ M.names := fun x hx => by rw [hos] at hx; exact (List.mem_filter.mp hx).1
  have hasc : Asc ("" :: os) := by
    have h := hN.asc
    rw [hos]
    exact List.Pairwise.sublist (List.Sublist.cons_cons _ List.filter_sublist) h
  rw [← hos]
  repeat' tm_at "ex"
  refine ex_of (ef_lcM (tch_name 7) (by decide) ?_)
  repeat' tm_at "ex"
  refine ⟨(os, _), rfl, ⟨rfl, (by show os.length ≤ 21; omega), hasc, fun m h => hN.ok m (List.mem_cons_of_mem _ (hsub m h))⟩, ?_⟩
  repeat' tm_at "ex"
  have hlen : (pairsIn ("" :: os)).length ≤ 1000 := by
    have h1 := pairsIn_len ("" :: os)
    have h0 : (("" : Str) :: os).length ≤ 21 := by rw [List.length_cons]; omega
    have h2 := Nat.mul_le_mul h0 h0
    omega
  have hsp : ∀ x ∈ ("" : Str) :: os, x ∈ M.spots := fun x hx => by
    rcases List.mem_cons.mp hx with rfl | z
    · exact List.mem_cons_self ..
    · exact List.mem_cons_of_mem _ (hsub x z)
  refine ⟨noOwn_of rfl, Str × Str, pairsIn ("" :: os), keyP, fun p => if (!decide (M.D p.1 p.2 = 1) && decide ((M.cut n).D p.1 p.2 = 1)) = true then some (keyP p) else none, rfl, sz hlen, fun p hp => ?_, ?_⟩
  · unfold LcT
    obtain ⟨u, v⟩ := p
    have hm := mem_pairsIn hp
    have hp2 : (u, v) ∈ prodP M.spots M.spots := mem_prodP.mpr ⟨hsp _ hm.1, hsp _ hm.2⟩
    show GX K _ (.tup [.str u, .str v]) _ _
    repeat' tm_at "ex"
    refine ⟨_, look_ct hp2, ?_⟩
    repeat' tm_at "ex"
    refine ⟨fun h => ?_, fun h => ?_⟩
    · repeat' tm_at "ex"
      refine ⟨_, look_ct (ps := prodP (M.cut n).spots (M.cut n).spots) hp2, ?_⟩
      repeat' tm_at "ex"
      refine ⟨fun h2 => ?_, fun h2 => ?_⟩
      · repeat' tm_at "ex"
        refine ⟨agr_wipe.set (by decide), (if_pos ?_).trans rfl⟩
        show (!decide (M.D u v = 1) && decide ((M.cut n).D u v = 1)) = true
        rw [h, h2]; rfl
      · refine ⟨agr_wipe.set (by decide), if_neg ?_⟩
        show ¬ (!decide (M.D u v = 1) && decide ((M.cut n).D u v = 1)) = true
        rw [h2]; simp
    · refine ⟨nofun, fun _ => ⟨agr_wipe.set (by decide), if_neg ?_⟩⟩
      show ¬ (!decide (M.D u v = 1) && decide ((M.cut n).D u v = 1)) = true
      rw [h]; simp
  · repeat' tm_at "ex"
    rw [filterMap_if (fun p : Str × Str => !decide (M.D p.1 p.2 = 1) && decide ((M.cut n).D p.1 p.2 = 1)) keyP]
    unfold bridgePs
    rw [← hos]
theorem sc_is_bridge : FnScope ["mill", "name"] ["mill", "name"] (defScope (top 61)) := ⟨rfl, rfl, rfl, by decide +kernel, rfl, by decide +kernel, by decide +kernel⟩
abbrev sp_is_bridge (K : PySem.W.Frag) : Sp := SpP K (fun x : Mill × (Str → Int) × Str => [milD x.1, .str x.2.2]) (fun x => x.1.Ok x.2.1 ∧ x.1.Nice ∧ x.2.2 ∈ x.1.names) (fun x d => d = .bl (decide ((0 : Int) < ((bridgePs x.1 x.2.2).length : Int))))
theorem ok_is_bridge (T : Tx K mg) (c_bridged : Cal Pr w K mg base 7 "bridged" (sp_bridged K)) (F : FnP K "is_bridge" (top 61) f fd) : FnOk Pr w K mg base CX0 8 f fd ["mill", "name"] (sp_is_bridge K) := by
  have nd := sc_is_bridge.nd
  refine fn_P F sc_is_bridge (fun _ => rfl) (by decide) fun cdv A outer s H E hr => ⟨_, (pss_one (ps_ret (pe_cmpR op_gt (pe_callB (lenK (K := K)) rfl T.len_ bt_len (pa_cons (pe_c c_bridged hr (by decide) rfl (pa_cons (pv 0) (pa_cons (pv 1) pa_nil))) pa_nil)) pe_int (nomark _)))), ?_⟩
  rintro ⟨M, b, n⟩ ⟨hM, hN, hn⟩
  dsimp only at hM hN hn
  try dsimp only [cxOf]
  change SX K _ [.dat (milD M), .dat (.str n)] _ _
  repeat' tm_at "ex"
  refine ⟨(M, b, n), rfl, ⟨hM, hN, hn⟩, ?_⟩
  repeat' tm_at "ex"
  rw [List.length_map]
end

set_option Elab.async false
set_option linter.all false
set_option maxRecDepth 100000
set_option maxHeartbeats 1000000
section
open PySem L2
variable [B : Tb]
variable {Pr : Program} {w : World} {K : PySem.W.Frag} {mg : Str → Option Value} {base : Heap} {f : Addr} {fd : FuncData}

def hasOne (p : Str × Str) (l : List Str) : Bool := decide (p.1 ∈ l) || decide (p.2 ∈ l)
def stepL (lots : List (List Str)) (p : Str × Str) : List (List Str) := lots.filter (fun l => !hasOne p l) ++ [setS (lots.filter (hasOne p)).flatten]
def lotsW (ns : List Str) (ps : List (Str × Str)) : List (List Str) := ps.foldl stepL (ns.map fun n => [n])
/-- short, of texts that may be sorted -/
structure LotsOk (lots : List (List Str)) : Prop where
  n : lots.length ≤ 40
  f : lots.flatten.length ≤ 40
  ok : ∀ l ∈ lots, ∀ x ∈ l, PyData.strOk x = true
theorem setS_len (l : List Str) : (setS l).length ≤ l.length := by
  unfold setS setBy
  rw [List.length_mergeSort]
  exact dd_len l
theorem filter_flat (p : List Str → Bool) : ∀ lots : List (List Str), (lots.filter p).flatten.length + (lots.filter fun l => !p l).flatten.length = lots.flatten.length
  | [] => rfl
  | l :: lots => by
    have ih := filter_flat p lots
    by_cases h : p l = true
    · rw [List.filter_cons_of_pos h, List.filter_cons_of_neg (by simp [h]), List.flatten_cons, List.flatten_cons, List.length_append, List.length_append]; omega
    · rw [List.filter_cons_of_neg h, List.filter_cons_of_pos (by simp [h]), List.flatten_cons, List.flatten_cons, List.length_append, List.length_append]; omega
theorem stepL_flat (lots : List (List Str)) (p : Str × Str) : (stepL lots p).flatten.length ≤ lots.flatten.length := by
  have h := filter_flat (hasOne p) lots
  have h2 := setS_len (lots.filter (hasOne p)).flatten
  unfold stepL
  rw [List.flatten_append, List.length_append, List.flatten_cons, List.flatten_nil, List.append_nil]
  omega
theorem stepL_n (lots : List (List Str)) (p : Str × Str) : (stepL lots p).length ≤ lots.length + 1 := by
  unfold stepL
  rw [List.length_append, List.length_singleton]
  have := List.length_filter_le (fun l => !hasOne p l) lots
  omega
theorem stepL_mem {lots : List (List Str)} {p : Str × Str} {Q : Str → Prop} (h : ∀ l ∈ lots, ∀ x ∈ l, Q x) : ∀ l ∈ stepL lots p, ∀ x ∈ l, Q x := fun l hl x hx => by
  unfold stepL at hl
  rcases List.mem_append.mp hl with z | z
  · exact h l (List.mem_filter.mp z).1 x hx
  · rw [List.mem_singleton.mp z] at hx
    obtain ⟨m, hm, hx⟩ := List.mem_flatten.mp ((setBy_mem x _).mp hx)
    exact h m (List.mem_filter.mp hm).1 x hx
theorem foldL_inv {Q : Str → Prop} : ∀ (l : List (Str × Str)) (lots : List (List Str)), (∀ m ∈ lots, ∀ x ∈ m, Q x) →
    (l.foldl stepL lots).length ≤ lots.length + l.length ∧ (l.foldl stepL lots).flatten.length ≤ lots.flatten.length ∧ ∀ m ∈ l.foldl stepL lots, ∀ x ∈ m, Q x
  | [], lots, h => ⟨Nat.le_refl _, Nat.le_refl _, h⟩
  | p :: l, lots, h => by
    obtain ⟨h1, h2, h3⟩ := foldL_inv l (stepL lots p) (stepL_mem h)
    have := stepL_n lots p
    have := stepL_flat lots p
    rw [List.foldl_cons, List.length_cons]
    exact ⟨by omega, by omega, h3⟩
theorem ones_len : ∀ ns : List Str, (ns.map fun n => [n]).flatten.length = ns.length
  | [] => rfl
  | n :: ns => by rw [List.map_cons, List.flatten_cons, List.length_append, ones_len ns]; simp; omega
theorem strs_inj : ∀ {a b : List Str}, a.map Dt.str = b.map Dt.str → a = b
  | [], [], _ => rfl
  | [], _ :: _, h => by cases h
  | _ :: _, [], h => by cases h
  | x :: a, y :: b, h => by
    rw [List.map_cons, List.map_cons] at h
    injection h with h1 h2
    injection h1 with h1
    rw [h1, strs_inj h2]
theorem strsD_inj {a b : List Str} (h : strsD a = strsD b) : a = b := by
  injection h with h
  exact strs_inj h
theorem not_both {lots : List (List Str)} {p : Str × Str} {l : List Str} (hl : l ∈ lots) : strsD l ∉ (lots.filter (hasOne p)).map strsD ↔ hasOne p l = false := by
  rw [List.mem_map]
  constructor
  · intro h
    cases c : hasOne p l with
    | false => rfl
    | true => exact absurd ⟨l, List.mem_filter.mpr ⟨hl, c⟩, rfl⟩ h
  · rintro h ⟨m, hm, e⟩
    have := strsD_inj e
    subst this
    rw [(List.mem_filter.mp hm).2] at h
    cases h
theorem pl_strsD {l : List Str} (h : ∀ x ∈ l, PyData.strOk x = true) (n : Nat) : Dt.pl (n + 2) (strsD l) = true := pls_strs h (n + 1)
theorem sc_lots_without : FnScope ["names", "pairs", "lots", "near", "far", "both", "name", "lot"] ["names", "pairs"] (defScope (top 57)) := ⟨rfl, rfl, rfl, by decide +kernel, rfl, by decide +kernel, by decide +kernel⟩
abbrev sp_lots_without (K : PySem.W.Frag) : Sp := SpP K (fun x : List Str × List (Str × Str) => [.lst (x.1.map .str), .lst (x.2.map keyP)]) (fun x => x.1.length ≤ 20 ∧ x.2.length ≤ 20 ∧ ∀ n ∈ x.1, PyData.strOk n = true) (fun x d => d = .lst ((lotsW x.1 x.2).map strsD))
theorem ok_lots_without (T : Tx K mg) (c_set_of : Cal Pr w K mg base 1 "set_of" (sp_set_of K)) (F : FnP K "lots_without" (top 57) f fd) : FnOk Pr w K mg base CX0 2 f fd ["names", "pairs"] (sp_lots_without K) := by
  have nd := sc_lots_without.nd
  refine fn_P F sc_lots_without (fun _ => rfl) (by decide) fun cdv A outer s H E hr => ⟨_, (pss_cons (ps_setLc (i := 2) (own := [("name", 6)]) rfl nd rfl rfl (sw_true rfl rfl rfl (by kernel_rfl)) (piSK (K := K) (pv 0)) (blkOk_by (by kernel_rfl)) (fun _ _ _ _ _ => (pgn (i := 6) nd rfl)) (fun _ _ _ _ _ => pts_nil) (fun _ _ _ _ _ => (pe_tup (pa_cons (pv 6) pa_nil))))
    (pss_cons (ps_for PassesOwn.never rfl (piLK (K := K) (pv 1)) (pg_tupK (K := K) (n := 2) rfl (pgs_cons (pgn (i := 3) nd rfl) (pgs_cons (pgn (i := 4) nd rfl) pgs_nil))) (pss_cons (pst (i := 5) nd rfl (pe_lc (own := [("lot", 7)]) rfl nd (piLK (K := K) (pv 2)) (blkOk_by (by kernel_rfl)) (fun _ _ _ _ _ => (pgn (i := 7) nd rfl)) (fun _ _ _ _ _ => (pts_one (PW.pt (pw_or (pt_cmpR (inK (K := K)) (pv 3) (pv 7) rfl) (pw_or1 (pt_cmpR (inK (K := K)) (pv 4) (pv 7) rfl)))))) (fun _ _ _ _ _ => (pv 7))))
    (pss_one (pst (i := 2) nd rfl (pe_lst (starK (K := K) (pe_lc (own := [("lot", 7)]) rfl nd (piLK (K := K) (pv 2)) (blkOk_by (by kernel_rfl)) (fun _ _ _ _ _ => (pgn (i := 7) nd rfl)) (fun _ _ _ _ _ => (pts_one (pt_cmpR (notinDK (K := K) hr.units65) (pv 7) (pv 5) rfl))) (fun _ _ _ _ _ => (pv 7))) (pa_cons (pe_c c_set_of hr (by decide) rfl (pa_cons (pe_lc2 (own := [("lot", 7), ("name", 6)]) (vs1 := [6]) rfl nd (piLK (K := K) (pv 5)) (blkOk_by (by kernel_rfl)) (by decide) (fun _ _ _ _ _ => (pgn (i := 7) nd rfl)) (fun _ _ _ _ _ => pts_nil) (fun _ _ _ _ _ => (piTK (K := K) (pv 7))) (fun _ _ _ _ _ => (pgn (i := 6) nd rfl)) (fun _ _ _ _ _ => pts_nil) (fun _ _ _ _ _ => (pv 6))) pa_nil)) pa_nil)))))))
    (pss_one (ps_ret (pv 2))))), ?_⟩
  rintro ⟨ns, ps⟩ ⟨hl, hp, hk⟩
  dsimp only at hl hp hk
  try dsimp only [cxOf]
  change SX K _ [.dat (.lst (ns.map .str)), .dat (.lst (ps.map keyP)), .emp, .emp, .emp, .emp, .emp, .emp] _ _
  repeat' tm_at "ex"
  refine ex_of (ef_lcA (tch_name 6) (by decide) ?_)
  repeat' tm_at "ex"
  refine ⟨noOwn_of rfl, Str, ns, .str, fun n => strsD [n], rfl, sz (by omega), fun x hx => ?_, ?_⟩
  · repeat' tm_at "ex"
    exact ⟨agr_wipe.set (by decide), rfl⟩
  tm_at "ex"
  refine sx_forM ?_
  repeat' tm_at "ex"
  refine ⟨Str × Str, ps, keyP, fun i G => ∃ s3 s4 s5, G = [.dat (.lst (ns.map .str)), .dat (.lst (ps.map keyP)), .dat (.lst (((ps.take i).foldl stepL (ns.map fun n => [n])).map strsD)), s3, s4, s5, .emp, .emp], rfl, ⟨.emp, .emp, .emp, ?_⟩, ?_, ?_⟩
  · rw [List.take_zero, List.foldl_nil, List.map_map]; rfl
  · rintro i ⟨u, v⟩ G hi ⟨s3, s4, s5, rfl⟩
    have e : (ps.take (i + 1)).foldl stepL (ns.map fun n => [n]) = stepL ((ps.take i).foldl stepL (ns.map fun n => [n])) (u, v) := by rw [take_snoc hi, List.foldl_append]; rfl
    have inv : ((ps.take i).foldl stepL (ns.map fun n => [n])).length ≤ 20 + i ∧ ((ps.take i).foldl stepL (ns.map fun n => [n])).flatten.length ≤ 20 ∧ ∀ l ∈ (ps.take i).foldl stepL (ns.map fun n => [n]), ∀ x ∈ l, PyData.strOk x = true := by
      obtain ⟨h1, h2, h3⟩ := foldL_inv (Q := fun x => PyData.strOk x = true) (ps.take i) (ns.map fun n => [n]) (fun m hm x hx => by
        obtain ⟨n, hn, rfl⟩ := List.mem_map.mp hm
        rw [List.mem_singleton.mp hx]
        exact hk n hn)
      rw [List.length_map, List.length_take] at h1
      have h4 := ones_len ns
      exact ⟨by omega, by omega, h3⟩
    have hil : i < ps.length := (List.getElem?_eq_some_iff.mp hi).1
    dsimp only
    rw [e]
    clear e
    generalize (ps.take i).foldl stepL (ns.map fun n => [n]) = lots at inv ⊢
    obtain ⟨v1, v2, v3⟩ := inv
    show GX K _ (.tup [.str u, .str v]) _ _
    repeat' tm_at "ex"
    refine ex_of (ef_lcM (tch_name 7) (by decide) ?_)
    repeat' tm_at "ex"
    refine ⟨noOwn_of rfl, List Str, lots, strsD, fun l => if hasOne (u, v) l = true then some (strsD l) else none, rfl, sz (by omega), fun l hl' => ?_, ?_⟩
    · unfold LcT
      repeat' tm_at "ex"
      refine od_inS (xs := l) rfl ?_
      repeat' tm_at "ex"
      refine ⟨fun h => ⟨fun _ => ?_, nofun⟩, fun h => ?_⟩
      · repeat' tm_at "ex"
        refine ⟨agr_wipe.set (by decide), if_pos ?_⟩
        show (decide (u ∈ l) || decide (v ∈ l)) = true
        rw [show decide (u ∈ l) = true from h]; rfl
      · repeat' tm_at "ex"
        refine od_inS (xs := l) rfl ?_
        repeat' tm_at "ex"
        refine ⟨fun h2 => ?_, fun h2 => ?_⟩
        · repeat' tm_at "ex"
          refine ⟨agr_wipe.set (by decide), if_pos ?_⟩
          show (decide (u ∈ l) || decide (v ∈ l)) = true
          rw [show decide (v ∈ l) = true from h2]; simp
        · refine ⟨agr_wipe.set (by decide), if_neg ?_⟩
          show ¬ (decide (u ∈ l) || decide (v ∈ l)) = true
          rw [show decide (u ∈ l) = false from h, show decide (v ∈ l) = false from h2]; simp
    rw [filterMap_if (hasOne (u, v)) strsD]
    show SX K _ [.dat (.lst (ns.map .str)), .dat (.lst (ps.map keyP)), .dat (.lst (lots.map strsD)), .dat (.str u), .dat (.str v), .dat (.lst ((lots.filter (hasOne (u, v))).map strsD)), .emp, .emp] _ _
    have hfl : (lots.filter (hasOne (u, v))).length ≤ 40 := Nat.le_trans (List.length_filter_le ..) (by omega)
    have hff := filter_flat (hasOne (u, v)) lots
    repeat' tm_at "ex"
    refine ex_of (ef_lcM (tch_name 7) (by decide) ?_)
    repeat' tm_at "ex"
    refine ⟨noOwn_of rfl, List Str, lots, strsD, fun l => if (!hasOne (u, v) l) = true then some (strsD l) else none, rfl, sz (by omega), fun l hl' => ?_, ?_⟩
    · unfold LcT
      repeat' tm_at "ex"
      refine od_notInD (n := 60) (by decide) (pl_strsD (v3 l hl') 58) ?_ fun c hc => ?_
      · rw [Dt.pls_all, List.all_eq_true]
        intro d hd
        obtain ⟨m, hm, rfl⟩ := List.mem_map.mp hd
        exact pl_strsD (v3 m (List.mem_filter.mp hm).1) 58
      · have hc2 : c = true ↔ hasOne (u, v) l = false := hc.trans (not_both hl')
        repeat' tm_at "ex"
        refine ⟨fun h => ?_, fun h => ?_⟩
        · repeat' tm_at "ex"
          refine ⟨agr_wipe.set (by decide), if_pos ?_⟩
          rw [hc2.mp h]; rfl
        · refine ⟨agr_wipe.set (by decide), if_neg fun z => ?_⟩
          have : c = true := hc2.mpr (by simpa using z)
          rw [h] at this; cases this
    rw [filterMap_if (fun l => !hasOne (u, v) l) strsD]
    repeat' tm_at "ex"
    refine ex_of (ef_lc2M (tch_name 7) (by decide) (tch_name 6) (by decide) ?_)
    repeat' tm_at "ex"
    have hfm : ((lots.filter (hasOne (u, v))).flatMap fun l => l.map Dt.str) = (lots.filter (hasOne (u, v))).flatten.map .str := by rw [List.map_flatten]; rfl
    refine ⟨noOwn_of rfl, List Str, lots.filter (hasOne (u, v)), strsD, fun l => l.map .str, rfl, ?_, fun l hl' => ?_, ?_⟩
    · rw [hfm, List.length_map]
      have : 100 < sizeLine := by decide
      omega
    · unfold LcT2
      repeat' tm_at "ex"
      refine ⟨fun _ => ?_, nofun⟩
      repeat' tm_at "ex"
      refine ⟨agr_wipe.set (by decide), noOwn_of rfl, ?_⟩
      refine Exists.elim (inner_of (E := Dt.str) (r := fun v => some (Dt.str v)) (xs := l) fun x hx => ?_) fun rs ⟨h1, h2, h3⟩ => ⟨rs, h1, ?_, h3⟩
      · unfold LcT
        repeat' tm_at "ex"
        refine ⟨fun _ => ?_, nofun⟩
        repeat' tm_at "ex"
        exact ⟨agr_wipe.set (by decide), rfl⟩
      · rw [← h2, List.filterMap_eq_map']
    rw [hfm]
    repeat' tm_at "ex"
    refine ⟨(_, _), rfl, .strs (lots.filter (hasOne (u, v))).flatten (by omega) (fun k hk' => ?_), ?_⟩
    · obtain ⟨m, hm, hx⟩ := List.mem_flatten.mp hk'
      exact v3 m (List.mem_filter.mp hm).1 k hx
    repeat' tm_at "ex"
    refine ⟨?_, .dat (.str u), .dat (.str v), .dat (.lst ((lots.filter (hasOne (u, v))).map strsD)), ?_⟩
    · rw [List.length_append, List.length_map]
      have := List.length_filter_le (fun l => !hasOne (u, v) l) lots
      exact sz (by simp; omega)
    · unfold stepL
      rw [List.map_append]
      rfl
  · rintro G ⟨s3, s4, s5, rfl⟩
    rw [List.take_length]
    repeat' tm_at "ex"
    rfl
end

set_option Elab.async false
set_option linter.all false
set_option maxRecDepth 100000
set_option maxHeartbeats 1000000
section
open PySem L2
variable [B : Tb]
variable {Pr : Program} {w : World} {K : PySem.W.Frag} {mg : Str → Option Value} {base : Heap} {f : Addr} {fd : FuncData}

/-! ### hinders, tables by rows -/
theorem sc_hinders_by : FnScope ["table", "begins", "rows", "place", "one", "begin", "other", "later"] ["table", "begins"] (defScope (top 66)) := ⟨rfl, rfl, rfl, by decide +kernel, rfl, by decide +kernel, by decide +kernel⟩
/-- begins that agree with the hidden ones -/
structure Hd2 (M : Mill) (b k : Str → Int) (ns : List Str) : Prop where
  sub : ∀ n ∈ ns, n ∈ M.names
  l : ns.length ≤ 20
  k0 : k "" = 0
  ag : ∀ u ∈ ("" : Str) :: ns, ∀ v ∈ ("" : Str) :: ns, M.D u v ∣ (k v - k u) - (b v - b u)
abbrev sp_hinders_by (K : PySem.W.Frag) : Sp := SpP K (fun x : Mill × (Str → Int) × (Str → Int) × List Str => [tabM x.1 x.2.1 x.1.D, begF x.2.2.2 x.2.2.1]) (fun x => x.1.Ok x.2.1 ∧ Hd2 x.1 x.2.1 x.2.2.1 x.2.2.2) (fun _ d => d = .non)
theorem ok_hinders_by (T : Tx K mg) (c_tupled : Cal Pr w K mg base 4 "tupled" (sp_tupledT K)) (c_in_class : Cal Pr w K mg base 1 "in_class" (sp_in_class K)) (F : FnP K "hinders_by" (top 66) f fd) : FnOk Pr w K mg base CX0 5 f fd ["table", "begins"] (sp_hinders_by K) := by
  have nd := sc_hinders_by.nd
  refine fn_P F sc_hinders_by (fun _ => rfl) (by decide) fun cdv A outer s H E hr => ⟨_, (pss_cons (pst (i := 2) nd rfl (pe_lst (pa_cons (pe_tup (pa_cons (pe_k T.crank rfl) (pa_cons pe_int pa_nil))) (starK (K := K) (pe_c c_tupled hr (by decide) rfl (pa_cons (pv 1) pa_nil)) pa_nil))))
    (pss_cons (ps_for PassesOwn.never rfl (pi_enum (by rfl) T.enumerate_ (pa_cons (pv 2) pa_nil)) (pg_tupK (K := K) (n := 2) rfl (pgs_cons (pgn (i := 3) nd rfl) (pgs_cons (pg_tupK (K := K) (n := 2) rfl (pgs_cons (pgn (i := 4) nd rfl) (pgs_cons (pgn (i := 5) nd rfl) pgs_nil))) pgs_nil))) (pss_one (ps_for PassesOwn.never rfl (piLK (K := K) (pe_slice (slLK (K := K)) (pv 2) (po_some (pe_op op_add (pv 3) pe_int)) po_none)) (pg_tupK (K := K) (n := 2) rfl (pgs_cons (pgn (i := 6) nd rfl) (pgs_cons (pgn (i := 7) nd rfl) pgs_nil))) (pss_one (ps_if (pt_not (pt_val (pe_c c_in_class hr (by decide) rfl (pa_cons (pe_op op_sub (pv 7) (pv 5)) (pa_cons (pe_dget hr.units1 (pv 0) (pe_tup (pa_cons (pv 4) (pa_cons (pv 6) pa_nil))) (fun _ _ => rfl)) pa_nil))))) (pss_one (ps_ret (pe_tup (pa_cons (pv 4) (pa_cons (pv 6) pa_nil))))) pss_nil)))))
    (pss_one (ps_ret pe_non)))), ?_⟩
  rintro ⟨M, b, k, ns⟩ ⟨hM, hs, hl, k0, ag⟩
  dsimp only at hM hs hl k0 ag
  try dsimp only [cxOf]
  have hDk := (D_ok hM M.spots.length)
  rw [List.take_length] at hDk
  change DlOk M.D at hDk
  generalize M.D = D at hDk ag ⊢
  change SX K _ [.dat (tabM M b D), .dat (begF ns k), .emp, .emp, .emp, .emp, .emp, .emp] _ _
  repeat' tm_at "ex"
  refine ⟨ns.map fun n => [(Sum.inr n : Key), Sum.inl (k n)], by rw [begF_rows], ⟨by rw [List.length_map]; omega, fun q hq => ?_⟩, ?_⟩
  · obtain ⟨n, _, rfl⟩ := List.mem_map.mp hq
    simp
  repeat' tm_at "ex"
  obtain ⟨sp, hsp⟩ : ∃ sp, sp = ("" : Str) :: ns := ⟨_, rfl⟩
  have hlen : sp.length ≤ 21 := by rw [hsp, List.length_cons]; omega
  have hms : ∀ x ∈ sp, x ∈ M.spots := fun x hx => by
    rw [hsp] at hx
    rcases List.mem_cons.mp hx with rfl | z
    · exact List.mem_cons_self ..
    · exact List.mem_cons_of_mem _ (hs x z)
  rw [← hsp] at ag
  have er : Dt.tup [.str "", .int 0] :: ((ns.map fun n => [(Sum.inr n : Key), Sum.inl (k n)]).map tD ++ []) = sp.map fun n => Dt.tup [.str n, .int (k n)] := by
    rw [hsp, List.map_cons, k0, List.append_nil, List.map_map]; rfl
  rw [er]
  refine ⟨by rw [List.length_map]; exact sz (by omega), ?_⟩
  tm_at "ex"
  refine sx_for ?_
  repeat' tm_at "ex"
  refine ⟨fun i G => ∃ s3 s4 s5 s6 s7, G = [.dat (tabM M b D), .dat (begF ns k), .dat (.lst (sp.map fun n => Dt.tup [.str n, .int (k n)])), s3, s4, s5, s6, s7], ⟨_, _, _, _, _, rfl⟩, ?_, ?_⟩
  · rintro i d G hd ⟨s3, s4, s5, s6, s7, rfl⟩
    obtain ⟨d', hd', rfl⟩ := enD_get hd
    rw [List.getElem?_map] at hd'
    obtain ⟨u, hu, rfl⟩ : ∃ u, sp[i]? = some u ∧ Dt.tup [.str u, .int (k u)] = d' := by
      cases hx : sp[i]? with
      | none => rw [hx] at hd'; cases hd'
      | some u => rw [hx] at hd'; exact ⟨u, rfl, Option.some.inj hd'⟩
    have hum := List.mem_of_getElem? hu
    repeat' tm_at "ex"
    refine sx_forM (ix_list (ex_of (ef_slL ?_)))
    repeat' tm_at "ex"
    have hcut : cutD (sp.map fun n => Dt.tup [.str n, .int (k n)]) (some (((i : Nat) : Int) + 1)) none = (sp.drop (i + 1)).map fun n => Dt.tup [.str n, .int (k n)] := by
      have e : (((i : Nat) : Int) + 1) = ((i + 1 : Nat) : Int) := by omega
      rw [e, cut_from, List.map_drop]
    rw [hcut]
    refine ⟨Str, sp.drop (i + 1), _, fun j G => ∃ s6 s7, G = [.dat (tabM M b D), .dat (begF ns k), .dat (.lst (sp.map fun n => Dt.tup [.str n, .int (k n)])), .dat (.int (i : Int)), .dat (.str u), .dat (.int (k u)), s6, s7], rfl, ⟨_, _, rfl⟩, ?_, ?_⟩
    · rintro j v G hv ⟨s6, s7, rfl⟩
      have hvm : v ∈ sp := List.mem_of_mem_drop (List.mem_of_getElem? hv)
      have hp : (u, v) ∈ prodP M.spots M.spots := mem_prodP.mpr ⟨hms u hum, hms v hvm⟩
      repeat' tm_at "ex"
      refine ⟨_, look_ct hp, ?_⟩
      repeat' tm_at "ex"
      refine ⟨(hDk.ok u v).nn, ?_⟩
      intro d hd
      have hd2 : d = .bl true := hd.trans (by
        show Dt.bl (decide (D u v ∣ (k v - k u) - (if 0 < D u v then (b v - b u) % D u v else b v - b u))) = .bl true
        rw [decide_eq_true]
        have h1 := Int.dvd_add (ag u hum v hvm) (nomod (x := b v - b u) (m := D u v))
        have e : k v - k u - (b v - b u) + (b v - b u - (if 0 < D u v then (b v - b u) % D u v else b v - b u)) = (k v - k u) - (if 0 < D u v then (b v - b u) % D u v else b v - b u) := by omega
        rwa [e] at h1)
      subst hd2
      repeat' tm_at "ex"
      refine ⟨nofun, fun _ => ?_⟩
      repeat' tm_at "ex"
      exact ⟨_, _, rfl⟩
    · rintro G ⟨s6, s7, rfl⟩
      exact ⟨_, _, _, _, _, rfl⟩
  · rintro G ⟨s3, s4, s5, s6, s7, rfl⟩
    repeat' tm_at "ex"
    rfl
theorem sc_hinders : FnScope ["mill", "begins", "own"] ["mill", "begins"] (defScope (top 67)) := ⟨rfl, rfl, rfl, by decide +kernel, rfl, by decide +kernel, by decide +kernel⟩
abbrev sp_hinders (K : PySem.W.Frag) : Sp := SpP K (fun x : Mill × (Str → Int) × (Str → Int) × List Str => [milD x.1, begF x.2.2.2 x.2.2.1]) (fun x => x.1.Ok x.2.1 ∧ Hd2 x.1 x.2.1 x.2.2.1 x.2.2.2) (fun _ d => d = .non)
theorem ok_hinders (T : Tx K mg) (c_check_wheels : Cal Pr w K mg base 2 "check_wheels" (sp_check_wheels K)) (c_hinders_by : Cal Pr w K mg base 5 "hinders_by" (sp_hinders_by K)) (c_class_table : Cal Pr w K mg base 6 "class_table" (sp_class_table K)) (F : FnP K "hinders" (top 67) f fd) : FnOk Pr w K mg base CX0 7 f fd ["mill", "begins"] (sp_hinders K) := by
  have nd := sc_hinders.nd
  refine fn_P F sc_hinders (fun _ => rfl) (by decide) fun cdv A outer s H E hr => ⟨_, (pss_cons (ps_expr (pe_c c_check_wheels hr (by decide) rfl (pa_cons (pv 0) (pa_cons (pe_lc (own := [("own", 2)]) rfl nd (piTK (K := K) (pv 1)) (blkOk_by (by kernel_rfl)) (fun _ _ _ _ _ => (pgn (i := 2) nd rfl)) (fun _ _ _ _ _ => pts_nil) (fun _ _ _ _ _ => (pe_ix (ixK (K := K)) (pv 2) pe_int (fun _ _ => rfl)))) pa_nil))))
    (pss_one (ps_ret (pe_c c_hinders_by hr (by decide) rfl (pa_cons (pe_c c_class_table hr (by decide) rfl (pa_cons (pv 0) pa_nil)) (pa_cons (pv 1) pa_nil)))))), ?_⟩
  rintro ⟨M, b, k, ns⟩ ⟨hM, hs⟩
  dsimp only at hM hs
  try dsimp only [cxOf]
  change SX K _ [.dat (milD M), .dat (begF ns k), .emp] _ _
  repeat' tm_at "ex"
  refine ex_of (ef_lcA (tch_name 2) (by decide) ?_)
  repeat' tm_at "ex"
  refine ⟨noOwn_of rfl, Str, ns, fun n => .tup [.str n, .int (k n)], .str, rfl, sz (by have := hs.l; omega), fun x hx => ?_, ?_⟩
  · repeat' tm_at "ex"
    exact ⟨agr_wipe.set (by decide), rfl⟩
  repeat' tm_at "ex"
  refine ⟨(M, ns, _), rfl, ⟨hM.sh, rfl, hs.sub⟩, ?_⟩
  repeat' tm_at "ex"
  refine ⟨(M, b), rfl, hM, ?_⟩
  repeat' tm_at "ex"
  exact ⟨⟨hM, hs⟩, fun _ h => h⟩
end

set_option Elab.async false
set_option linter.all false
set_option maxRecDepth 100000
set_option maxHeartbeats 1000000
section
open PySem L2
variable [B : Tb]
variable {Pr : Program} {w : World} {K : PySem.W.Frag} {mg : Str → Option Value} {base : Heap} {f : Addr} {fd : FuncData}

def lcmL (D : Dl) (n : Str) (us : List Str) : Int := us.foldl (fun m u => (Int.lcm m (D u n) : Int)) 1
structure Lf where
  M : Mill
  b : Str → Int
  us : List Str
  k : Str → Int
  n : Str
  x : Int
structure Lf.Ok (t : Lf) : Prop where
  m : t.M.Ok t.b
  u : ∀ u ∈ t.us, u ∈ t.M.spots
  n : t.n ∈ t.M.spots
  x : ∀ u ∈ t.us, t.M.D u t.n ∣ t.x - (t.k u + (t.b t.n - t.b u))
theorem lcmL_ok {D : Dl} (h : DlOk D) (n : Str) (us : List Str) : Dok (lcmL D n us) := by
  unfold lcmL
  have key : ∀ (us : List Str) (m : Int), Dok m → Dok (us.foldl (fun m u => (Int.lcm m (D u n) : Int)) m) := by
    intro us
    induction us with
    | nil => exact fun m h => h
    | cons u us ih => exact fun m hm => ih _ (hm.lcm (h.ok u n))
  exact key us 1 .one
theorem sc_left_class : FnScope ["table", "known", "name", "found", "other", "begin", "late", "dial"] ["table", "known", "name"] (defScope (top 63)) := ⟨rfl, rfl, rfl, by decide +kernel, rfl, by decide +kernel, by decide +kernel⟩
abbrev sp_left_class (K : PySem.W.Frag) : Sp := SpO K 1 (fun t : Lf => [tabM t.M t.b t.M.D, .str t.n]) (fun t => tabF t.us t.k) Lf.Ok (fun t d s => d = cls t.x (lcmL t.M.D t.n t.us) ∧ s = tabF t.us t.k)
theorem ok_left_class (T : Tx K mg) (c_class_of_both : Cal Pr w K mg base 3 "class_of_both" (sp_class_of_both K)) (c_class_of : Cal Pr w K mg base 1 "class_of" (sp_class_of K)) (F : FnP K "left_class" (top 63) f fd) : FnOk Pr w K mg base CX0 4 f fd ["table", "known", "name"] (sp_left_class K) := by
  have nd := sc_left_class.nd
  refine fn_O F sc_left_class (fun _ => rfl) (by decide) (by decide) fun cdv A outer s H E hr => ⟨_, (pss_cons (pst (i := 3) nd rfl (pe_tup (pa_cons pe_int (pa_cons pe_int pa_nil))))
    (pss_cons (ps_lock (ps_for PassesOwn.never rfl (pi_items (pv 1)) (pg_tupK (K := K) (n := 2) rfl (pgs_cons (pgn (i := 4) nd rfl) (pgs_cons (pgn (i := 5) nd rfl) pgs_nil))) (pss_cons (ps_asg (pe_dget hr.units1 (pv 0) (pe_tup (pa_cons (pv 4) (pa_cons (pv 2) pa_nil))) (fun _ _ => rfl)) (pg_tupK (K := K) (n := 2) rfl (pgs_cons (pgn (i := 6) nd rfl) (pgs_cons (pgn (i := 7) nd rfl) pgs_nil))))
    (pss_one (pst (i := 3) nd rfl (pe_c c_class_of_both hr (by decide) rfl (pa_cons (pv 3) (pa_cons (pe_c c_class_of hr (by decide) rfl (pa_cons (pe_op op_add (pv 5) (pv 6)) (pa_cons (pv 7) pa_nil))) pa_nil))))))))
    (pss_one (ps_ret (pv 3))))), ?_⟩
  rintro ⟨M, b, us, k, n, x⟩ ⟨hM, hu, hn, hx⟩ l
  dsimp only at hM hu hn hx
  try dsimp only [cxOf]
  have hDk := (D_ok hM M.spots.length)
  rw [List.take_length] at hDk
  change DlOk M.D at hDk
  generalize M.D = D at hDk hx ⊢
  change SX K _ [.dat (tabM M b D), .own l (tabF us k), .dat (.str n), .emp, .emp, .emp, .emp, .emp] _ _
  repeat' tm_at "ex"
  have e1 : cls x (lcmL D n []) = .tup [.int 0, .int 1] := by simp [cls, lcmL, Int.emod_one]
  refine sx_items (i := 1) (l := l) (ks := us.map fun u => (u, .int (k u))) rfl (fun j G => ∃ s4 s5 s6 s7, G = [.dat (tabM M b D), .dat (.ad l), .dat (.str n), .dat (cls x (lcmL D n (us.take j))), s4, s5, s6, s7]) ⟨.emp, .emp, .emp, .emp, by rw [List.take_zero, e1]; rfl⟩ ?_ ?_
  · rintro j ⟨u', d'⟩ G hj ⟨s4, s5, s6, s7, rfl⟩
    rw [List.getElem?_map] at hj
    obtain ⟨u, huj, e1, e2⟩ : ∃ u, us[j]? = some u ∧ u' = u ∧ d' = .int (k u) := by
      cases hx : us[j]? with
      | none => rw [hx] at hj; cases hj
      | some u => rw [hx] at hj; have hj := Option.some.inj hj; exact ⟨u, rfl, (congrArg Prod.fst hj).symm, (congrArg Prod.snd hj).symm⟩
    subst e1 e2
    have hum := List.mem_of_getElem? huj
    have e : lcmL D n (us.take (j + 1)) = (Int.lcm (lcmL D n (us.take j)) (D u' n) : Int) := by
      unfold lcmL
      rw [take_snoc huj, List.foldl_append]; rfl
    have hm := lcmL_ok hDk n (us.take j)
    dsimp only
    rw [e]
    clear e
    generalize lcmL D n (us.take j) = m at hm ⊢
    repeat' tm_at "ex"
    refine ⟨_, look_ct (mem_prodP.mpr ⟨hu u' hum, hn⟩), ?_⟩
    show GX K _ (.tup [.int (if 0 < D u' n then (b n - b u') % D u' n else b n - b u'), .int (D u' n)]) _ _
    repeat' tm_at "ex"
    have h1 := hx u' hum
    have h2 : D u' n ∣ x - (k u' + (if 0 < D u' n then (b n - b u') % D u' n else b n - b u')) := by
      have h3 := Int.dvd_add h1 (nomod (x := b n - b u') (m := D u' n))
      have e : x - (k u' + (b n - b u')) + (b n - b u' - (if 0 < D u' n then (b n - b u') % D u' n else b n - b u')) = x - (k u' + (if 0 < D u' n then (b n - b u') % D u' n else b n - b u')) := by omega
      rwa [e] at h3
    have h4 : D u' n ∣ x - (if 0 < D u' n then (k u' + (if 0 < D u' n then (b n - b u') % D u' n else b n - b u')) % D u' n else (k u' + (if 0 < D u' n then (b n - b u') % D u' n else b n - b u'))) := by
      have h5 := Int.dvd_add h2 (nomod (x := k u' + (if 0 < D u' n then (b n - b u') % D u' n else b n - b u')) (m := D u' n))
      have e : ∀ a c : Int, x - a + (a - c) = x - c := fun a c => by omega
      rwa [e] at h5
    refine ⟨⟨x, _, _, _, _⟩, rfl, ⟨hm.nn, hm.le, (hDk.ok u' n).nn, (hDk.ok u' n).le, nomod, h4⟩, ?_⟩
    repeat' tm_at "ex"
    exact ⟨_, _, _, _, rfl⟩
  · rintro G ⟨s4, s5, s6, s7, rfl⟩
    rw [List.length_map, List.take_length]
    refine ⟨rfl, ?_⟩
    repeat' tm_at "ex"
    rfl
end

set_option Elab.async false
set_option linter.all false
set_option maxRecDepth 100000
/-! Q1: the closed dials of a mill tell who hangs together, up to each q. -/
section
open PySem L2
variable [B : Tb]
/-! ### dials and the q's -/
def Qs : List Int := [2, 3, 4, 8, 16]
def dials : List Int := [0, 1, 2, 3, 4, 6, 8, 12, 24]
theorem Dok.mem {m : Int} (h : Dok m) : m ∈ dials := by
  rcases h with rfl | ⟨h1, h2⟩
  · decide
  · have h3 := Int.le_of_dvd (by decide) h2
    have key : ∀ k : Fin 25, (0 : Int) < (k.val : Int) → ((k.val : Int) ∣ 24) → (k.val : Int) ∈ dials := by decide
    have := key ⟨m.toNat, by omega⟩
    have e : ((m.toNat : Nat) : Int) = m := by omega
    simp only [e] at this
    exact this h1 h2
theorem q_lcm {q m n : Int} (hq : q ∈ Qs) (hm : Dok m) (hn : Dok n) : q ∣ (Int.lcm m n : Int) ↔ q ∣ m ∨ q ∣ n := by
  have key : ∀ q ∈ Qs, ∀ m ∈ dials, ∀ n ∈ dials, q ∣ (Int.lcm m n : Int) ↔ q ∣ m ∨ q ∣ n := by decide +kernel
  exact key q hq m hm.mem n hn.mem
theorem q_gcd {q m n : Int} : q ∣ (Int.gcd m n : Int) ↔ q ∣ m ∧ q ∣ n :=
  ⟨fun h => ⟨Int.dvd_trans h (Int.gcd_dvd_left ..), Int.dvd_trans h (Int.gcd_dvd_right ..)⟩, fun h => Int.dvd_coe_gcd h.1 h.2⟩
theorem q_dvd {m n : Int} (hm : Dok m) (hn : Dok n) (h : ∀ q ∈ Qs, q ∣ m → q ∣ n) : m ∣ n := by
  have key : ∀ m ∈ dials, ∀ n ∈ dials, (∀ q ∈ Qs, q ∣ m → q ∣ n) → m ∣ n := by decide +kernel
  exact key m hm.mem n hn.mem h
theorem q_ext {m n : Int} (hm : Dok m) (hn : Dok n) (h : ∀ q ∈ Qs, q ∣ m ↔ q ∣ n) : m = n := by
  have key : ∀ m ∈ dials, ∀ n ∈ dials, (∀ q ∈ Qs, q ∣ m ↔ q ∣ n) → m = n := by decide +kernel
  exact key m hm.mem n hn.mem h
theorem q_one {q : Int} (hq : q ∈ Qs) : ¬ q ∣ 1 := by
  have key : ∀ q ∈ Qs, ¬ q ∣ 1 := by decide
  exact key q hq
theorem q_one_iff {m : Int} (hm : Dok m) : m = 1 ↔ ∀ q ∈ Qs, ¬ q ∣ m := by
  have key : ∀ m ∈ dials, m = 1 ↔ ∀ q ∈ Qs, ¬ q ∣ m := by decide +kernel
  exact key m hm.mem
/-! ### who hangs together -/
inductive Cn (E : Str → Str → Prop) : Str → Str → Prop
  | refl (u : Str) : Cn E u u
  | tail {u v w : Str} : Cn E u v → E v w → Cn E u w
theorem Cn.trans {E : Str → Str → Prop} {u v w : Str} (h : Cn E u v) (k : Cn E v w) : Cn E u w := by
  induction k with
  | refl => exact h
  | tail _ e ih => exact .tail ih e
theorem Cn.one {E : Str → Str → Prop} {u v : Str} (h : E u v) : Cn E u v := .tail (.refl u) h
theorem Cn.symm {E : Str → Str → Prop} (sy : ∀ u v, E u v → E v u) {u v : Str} (h : Cn E u v) : Cn E v u := by
  induction h with
  | refl => exact .refl _
  | tail _ e ih => exact (Cn.one (sy _ _ e)).trans ih
theorem Cn.mono {E E' : Str → Str → Prop} (f : ∀ u v, E u v → Cn E' u v) {u v : Str} (h : Cn E u v) : Cn E' u v := by
  induction h with
  | refl => exact .refl _
  | tail _ e ih => exact ih.trans (f _ _ e)
/-- the ends of a saying -/
def Sy.At (y : Sy) (u v : Str) : Prop := (y.one = u ∧ y.other = v) ∨ (y.one = v ∧ y.other = u)
theorem Sy.At.symm {y : Sy} {u v : Str} (h : y.At u v) : y.At v u := Or.symm h
def Mill.E (M : Mill) (q : Int) (u v : Str) : Prop := ∃ y ∈ M.ss, q ∣ y.dial ∧ y.At u v
theorem Mill.E.symm {M : Mill} {q : Int} {u v : Str} (h : M.E q u v) : M.E q v u := by
  obtain ⟨y, hy, hd, ha⟩ := h
  exact ⟨y, hy, hd, ha.symm⟩
abbrev Mill.C (M : Mill) (q : Int) : Str → Str → Prop := Cn (M.E q)
theorem Mill.C.symm {M : Mill} {q : Int} {u v : Str} (h : M.C q u v) : M.C q v u := Cn.symm (fun _ _ => Mill.E.symm) h
theorem foldl_keep {α β : Type} {f : β → α → β} {P : β → Prop} : ∀ (xs : List α) {b : β}, P b → (∀ x ∈ xs, ∀ b, P b → P (f b x)) → P (xs.foldl f b)
  | [], _, h, _ => h
  | x :: xs, b, h, hf => foldl_keep xs (hf x (List.mem_cons_self ..) b h) fun y hy => hf y (List.mem_cons_of_mem _ hy)
theorem foldl_hit {α β : Type} {f : β → α → β} {P Q : β → Prop} {x : α} : ∀ (xs : List α) {b : β}, x ∈ xs → P b → (∀ y ∈ xs, ∀ b, P b → P (f b y)) → (∀ b, P b → Q (f b x)) → (∀ y ∈ xs, ∀ b, P b → Q b → Q (f b y)) → Q (xs.foldl f b)
  | [], _, hx, _, _, _, _ => nomatch hx
  | y :: xs, b, hx, h, hf, hq, hk => by
    have hP := hf y (List.mem_cons_self ..) b h
    have hf' : ∀ y ∈ xs, ∀ b, P b → P (f b y) := fun z hz => hf z (List.mem_cons_of_mem _ hz)
    rcases List.mem_cons.mp hx with e | hx
    · have := foldl_keep (P := fun b => P b ∧ Q b) xs (b := f b y) ⟨hP, e ▸ hq b h⟩ fun z hz b hb => ⟨hf' z hz b hb.1, hk z (List.mem_cons_of_mem _ hz) b hb.1 hb.2⟩
      exact this.2
    · exact foldl_hit xs hx hP hf' hq fun z hz => hk z (List.mem_cons_of_mem _ hz)
/-! ### sound -/
def Snd (M : Mill) (q : Int) (D : Dl) : Prop := ∀ u v, q ∣ D u v → M.C q u v
theorem snd_fin {M : Mill} {q : Int} (hq : q ∈ Qs) {D : Dl} (hD : DlOk D) (h : Snd M q D) {u v : Str} {m : Int} (hm : Dok m) (hc : q ∣ m → M.C q u v) : Snd M q (fin2 D u v m) := by
  intro i j hi
  unfold fin2 at hi
  split at hi
  · rename_i c
    have : M.C q u v := ((q_lcm hq (hD.ok u v) hm).mp hi).elim (h u v) hc
    rcases c with ⟨rfl, rfl⟩ | ⟨rfl, rfl⟩
    · exact this
    · exact Mill.C.symm this
  · exact h i j hi
theorem snd_D1 {M : Mill} {b : Str → Int} (hM : M.Ok b) {q : Int} (hq : q ∈ Qs) : DlOk M.D1 ∧ Snd M q M.D1 := by
  unfold Mill.D1
  refine foldl_keep (P := fun D => DlOk D ∧ Snd M q D) M.ss ⟨D0_ok, fun u v h => ?_⟩ fun y hy D hD => ?_
  · unfold D0 at h
    split at h
    · rename_i e; subst e; exact .refl _
    · exact absurd h (q_one hq)
  · have hd := (hM.ss y hy).dial
    exact ⟨hD.1.fin2 _ _ hd, snd_fin hq hD.1 hD.2 hd fun h => .one ⟨y, hy, h, .inl ⟨rfl, rfl⟩⟩⟩
theorem snd_finK {M : Mill} {q : Int} (hq : q ∈ Qs) {D : Dl} (hD : DlOk D) (h : Snd M q D) (k u v : Str) : Snd M q (finK k u D v) :=
  snd_fin hq hD h ((hD.ok u k).gcd (hD.ok k v)) fun hg => (h u k (q_gcd.mp hg).1).trans (h k v (q_gcd.mp hg).2)
theorem snd_step {M : Mill} {q : Int} (hq : q ∈ Qs) {D : Dl} (hD : DlOk D ∧ Snd M q D) (sp : List Str) (k : Str) : DlOk (stepD sp D k) ∧ Snd M q (stepD sp D k) := by
  unfold stepD
  refine foldl_keep (P := fun D => DlOk D ∧ Snd M q D) _ hD fun i _ D hD => ?_
  unfold rowK
  exact foldl_keep (P := fun D => DlOk D ∧ Snd M q D) _ hD fun v _ D hD => ⟨finK_ok hD.1 k _ v, snd_finK hq hD.1 hD.2 k _ v⟩
theorem Mill.D_dl {M : Mill} {b : Str → Int} (hM : M.Ok b) : DlOk M.D := by
  have := D_ok hM M.spots.length
  rwa [List.take_length] at this
theorem q_D_sound {M : Mill} {b : Str → Int} (hM : M.Ok b) {q : Int} (hq : q ∈ Qs) : Snd M q M.D := by
  unfold Mill.D
  exact (foldl_keep (P := fun D => DlOk D ∧ Snd M q D) M.spots (snd_D1 hM hq) fun k _ D hD => snd_step hq hD _ k).2
/-! ### whole -/
/-- ways through some spots only -/
inductive Th (E : Str → Str → Prop) (S : Str → Prop) : Str → Str → Prop
  | refl (u : Str) : Th E S u u
  | edge {u v : Str} : E u v → Th E S u v
  | via {u p v : Str} : S p → Th E S u p → Th E S p v → Th E S u v
theorem Th.split {E : Str → Str → Prop} {S S' : Str → Prop} {k u v : Str} (hS : ∀ p, S' p → S p ∨ p = k) (h : Th E S' u v) : Th E S u v ∨ (Th E S u k ∧ Th E S k v) := by
  induction h with
  | refl => exact .inl (.refl _)
  | edge e => exact .inl (.edge e)
  | @via u p v hp _ _ i1 i2 =>
    rcases hS p hp with hp | rfl
    · rcases i1 with i1 | ⟨i1, i1'⟩
      · rcases i2 with i2 | ⟨i2, i2'⟩
        · exact .inl (.via hp i1 i2)
        · exact .inr ⟨.via hp i1 i2, i2'⟩
      · rcases i2 with i2 | ⟨i2, i2'⟩
        · exact .inr ⟨i1, .via hp i1' i2⟩
        · exact .inr ⟨i1, i2'⟩
    · refine .inr ⟨?_, ?_⟩
      · exact i1.elim id fun z => z.1
      · exact i2.elim id fun z => z.2
/-- what a table keeps while others are made finer -/
theorem fin2_mono {q : Int} {D : Dl} (hD : DlOk D) (u v : Str) (m : Int) {i j : Str} (h : q ∣ D i j) : q ∣ fin2 D u v m i j := by
  unfold fin2
  split
  · rename_i c
    have e : D i j = D u v := c.elim (fun z => by rw [z.1, z.2]) fun z => by rw [z.1, z.2, hD.sy]
    rw [e] at h
    exact Int.dvd_trans h (Int.dvd_lcm_left ..)
  · exact h
structure Kp (q : Int) (D : Dl) (k : Str) (D' : Dl) : Prop where
  ok : DlOk D'
  row : ∀ x, D' x k = D x k
  le : ∀ i j, q ∣ D i j → q ∣ D' i j
theorem Kp.fin {q : Int} {D D' : Dl} {k u v : Str} (h : Kp q D k D') (hu : u ≠ k) (hv : v ≠ k) : Kp q D k (finK k u D' v) := by
  refine ⟨finK_ok h.ok k u v, fun x => ?_, fun i j hi => fin2_mono h.ok u v _ (h.le i j hi)⟩
  unfold finK fin2
  rw [if_neg fun z => z.elim (fun z => hv z.2.symm) fun z => hu z.2.symm]
  exact h.row x
theorem Kp.rowK {q : Int} {D D' : Dl} {k : Str} {ks : List Str} (hk : ∀ x ∈ ks, x ≠ k) (h : Kp q D k D') {i : Nat} (hi : i < ks.length) : Kp q D k (rowK ks k D' i) := by
  unfold Wd.rowK
  refine foldl_keep (P := Kp q D k) _ h fun v hv D' hD' => hD'.fin ?_ (hk v (List.mem_of_mem_drop hv))
  rw [List.getD_eq_getElem?_getD, List.getElem?_eq_getElem hi]
  exact hk _ (List.getElem_mem hi)
theorem Kp.step {q : Int} {D : Dl} (hD : DlOk D) (sp : List Str) (k : Str) : Kp q D k (stepD sp D k) := by
  unfold stepD
  exact foldl_keep (P := Kp q D k) _ ⟨hD, fun _ => rfl, fun _ _ => id⟩ fun i hi D' hD' => hD'.rowK (fun x hx => (mem_kn.mp hx).2.1) (List.mem_range.mp hi)
/-- two that both hang at k are put together -/
theorem step_put {q : Int} (hq : q ∈ Qs) {D : Dl} (hD : DlOk D) {sp : List Str} {k u v : Str} {a c : Nat} (ha : (kn sp D k)[a]? = some u) (hc : (kn sp D k)[c]? = some v) (hac : a < c) (h1 : q ∣ D u k) (h2 : q ∣ D v k) : q ∣ stepD sp D k u v := by
  unfold stepD
  have hk : ∀ x ∈ kn sp D k, x ≠ k := fun x hx => (mem_kn.mp hx).2.1
  generalize kn sp D k = ks at ha hc hk ⊢
  have hal := (List.getElem?_eq_some_iff.mp ha).1
  have hu := hk u (List.mem_of_getElem? ha)
  refine foldl_hit (P := Kp q D k) (Q := fun D' => q ∣ D' u v) (x := a) _ (List.mem_range.mpr hal) ⟨hD, fun _ => rfl, fun _ _ => id⟩ (fun i hi D' hD' => hD'.rowK hk (List.mem_range.mp hi)) (fun D' hD' => ?_) fun i hi D' hD' hx => ?_
  · unfold rowK
    have eu : ks.getD a "" = u := by rw [List.getD_eq_getElem?_getD, ha]; rfl
    rw [eu]
    have hvm : v ∈ ks.drop (a + 1) := by
      refine List.mem_of_getElem? (i := c - (a + 1)) ?_
      rw [List.getElem?_drop, show a + 1 + (c - (a + 1)) = c by omega]
      exact hc
    refine foldl_hit (P := Kp q D k) (Q := fun D' => q ∣ D' u v) (x := v) _ hvm hD' (fun x hx D' hD' => hD'.fin hu (hk x (List.mem_of_mem_drop hx))) (fun D' hD' => ?_) fun x hx D' hD' hx => fin2_mono hD'.ok _ _ _ hx
    unfold finK fin2
    rw [if_pos (.inl ⟨rfl, rfl⟩)]
    refine Int.dvd_trans ?_ (Int.dvd_lcm_right ..)
    rw [q_gcd, hD'.ok.sy k v, hD'.row u, hD'.row v]
    exact ⟨h1, h2⟩
  · unfold rowK
    exact (foldl_keep (P := fun D' => DlOk D' ∧ q ∣ D' u v) _ ⟨hD'.ok, hx⟩ fun x _ D' hD' => ⟨finK_ok hD'.1 k _ x, fin2_mono hD'.1 _ _ _ hD'.2⟩).2
theorem step_has {q : Int} (hq : q ∈ Qs) {D : Dl} (hD : DlOk D) {sp : List Str} (h0 : ∀ u, q ∣ D u u) {k u v : Str} (hu : u ∈ sp) (hv : v ∈ sp) (h1 : q ∣ D u k) (h2 : q ∣ D k v) : q ∣ stepD sp D k u v := by
  have K := Kp.step (q := q) hD sp k
  by_cases e1 : u = k
  · subst e1; exact K.le _ _ h2
  by_cases e2 : v = k
  · subst e2; exact K.le _ _ h1
  by_cases e3 : u = v
  · subst e3; exact K.le _ _ (h0 u)
  rw [hD.sy k v] at h2
  have n1 : ∀ x, q ∣ D x k → D x k ≠ 1 := fun x h e => q_one hq (e ▸ h)
  obtain ⟨a, ha⟩ := List.getElem?_of_mem (mem_kn.mpr ⟨hu, e1, n1 u h1⟩)
  obtain ⟨c, hc⟩ := List.getElem?_of_mem (mem_kn.mpr ⟨hv, e2, n1 v h2⟩)
  rcases Nat.lt_trichotomy a c with h | h | h
  · exact step_put hq hD ha hc h h1 h2
  · subst h
    exact absurd (Option.some.inj (ha.symm.trans hc)) e3
  · rw [K.ok.sy]
    exact step_put hq hD hc ha h h2 h1
theorem D1_has {M : Mill} {b : Str → Int} (hM : M.Ok b) {q : Int} {u v : Str} (h : u = v ∨ M.E q u v) : q ∣ M.D1 u v := by
  unfold Mill.D1
  rcases h with rfl | ⟨y, hy, hd, ha⟩
  · refine (foldl_keep (P := fun D => DlOk D ∧ q ∣ D u u) M.ss ⟨D0_ok, ?_⟩ fun y hy D hD => ⟨hD.1.fin2 _ _ (hM.ss y hy).dial, fin2_mono hD.1 _ _ _ hD.2⟩).2
    unfold D0
    rw [if_pos rfl]
    exact Int.dvd_zero q
  · refine foldl_hit (P := DlOk) (Q := fun D => q ∣ D u v) (x := y) M.ss hy D0_ok (fun y hy D hD => hD.fin2 _ _ (hM.ss y hy).dial) (fun D hD => ?_) fun y hy D hD hx => fin2_mono hD _ _ _ hx
    unfold finS fin2
    rw [if_pos (ha.elim (fun z => .inl ⟨z.1.symm, z.2.symm⟩) fun z => .inr ⟨z.2.symm, z.1.symm⟩)]
    exact Int.dvd_trans hd (Int.dvd_lcm_right ..)
theorem q_D_whole {M : Mill} {b : Str → Int} (hM : M.Ok b) {q : Int} (hq : q ∈ Qs) : ∀ n ≤ M.spots.length, DlOk ((M.spots.take n).foldl (stepD M.spots) M.D1) ∧ ∀ u ∈ M.spots, ∀ v ∈ M.spots, Th (M.E q) (fun p => p ∈ M.spots.take n) u v → q ∣ (M.spots.take n).foldl (stepD M.spots) M.D1 u v
  | 0, _ => by
    refine ⟨D_ok hM 0, fun u _ v _ h => ?_⟩
    rw [List.take_zero] at h
    refine D1_has hM ?_
    cases h with
    | refl => exact .inl rfl
    | edge e => exact .inr e
    | via hp _ _ => cases hp
  | n + 1, hn => by
    obtain ⟨hD, ih⟩ := q_D_whole hM hq n (by omega)
    refine ⟨D_ok hM (n + 1), fun u hu v hv h => ?_⟩
    obtain ⟨k, hk⟩ : ∃ k, M.spots[n]? = some k := ⟨_, List.getElem?_eq_getElem (by omega)⟩
    have hks := List.mem_of_getElem? hk
    rw [take_snoc hk] at h
    rw [take_snoc hk, List.foldl_append]
    show q ∣ stepD M.spots _ k u v
    have ih0 : ∀ u, q ∣ (M.spots.take n).foldl (stepD M.spots) M.D1 u u := fun u => by
      refine (foldl_keep (P := fun D => DlOk D ∧ q ∣ D u u) _ ⟨D_ok hM 0, D1_has hM (.inl rfl)⟩ fun k _ D hD => ?_).2
      have := Kp.step (q := q) hD.1 M.spots k
      exact ⟨this.ok, this.le _ _ hD.2⟩
    generalize (M.spots.take n).foldl (stepD M.spots) M.D1 = D at hD ih ih0 ⊢
    rcases h.split (S := fun p => p ∈ M.spots.take n) (k := k) (fun p hp => (List.mem_append.mp hp).elim .inl fun z => .inr (List.mem_singleton.mp z)) with h | ⟨h1, h2⟩
    · exact (Kp.step hD M.spots k).le _ _ (ih u hu v hv h)
    · exact step_has hq hD ih0 hu hv (ih u hu k hks h1) (ih k hks v hv h2)
theorem q_D {M : Mill} {b : Str → Int} (hM : M.Ok b) {q : Int} (hq : q ∈ Qs) {u v : Str} (hu : u ∈ M.spots) (hv : v ∈ M.spots) : q ∣ M.D u v ↔ M.C q u v := by
  refine ⟨q_D_sound hM hq u v, fun h => ?_⟩
  have := (q_D_whole hM hq M.spots.length (Nat.le_refl _)).2 u hu v hv
  rw [List.take_length] at this
  refine this ?_
  clear this hv
  induction h with
  | refl => exact .refl _
  | @tail v w h e ih =>
    refine .via ?_ ih (.edge e)
    obtain ⟨y, hy, _, ha⟩ := e
    have := hM.ss y hy
    exact ha.elim (fun z => z.1 ▸ this.one) fun z => z.2 ▸ this.other
theorem D_self {M : Mill} {b : Str → Int} (hM : M.Ok b) {u : Str} (hu : u ∈ M.spots) : M.D u u = 0 :=
  q_ext ((Mill.D_dl hM).ok u u) .zero fun q hq => ⟨fun _ => Int.dvd_zero q, fun _ => (q_D hM hq hu hu).mpr (.refl u)⟩
end

set_option Elab.async false
set_option linter.all false
set_option maxRecDepth 100000
/-! Q2: begins that agree in pairs go on. -/
section
open PySem L2
variable [B : Tb]
theorem bez (m n : Nat) : ∃ s t : Int, (m : Int) * s + (n : Int) * t = (Nat.gcd m n : Int) := by
  induction m, n using Nat.gcd.induction with
  | H0 n => exact ⟨0, 1, by simp⟩
  | H1 m n hm ih =>
    obtain ⟨s, t, e⟩ := ih
    refine ⟨t - ((n / m : Nat) : Int) * s, s, ?_⟩
    rw [Nat.gcd_rec, ← e]
    have h : ((n % m : Nat) : Int) = (n : Int) - (m : Int) * ((n / m : Nat) : Int) := by
      have := Nat.mod_add_div n m
      have h2 : ((n % m + m * (n / m) : Nat) : Int) = (n : Int) := by rw [this]
      rw [Int.natCast_add, Int.natCast_mul] at h2
      omega
    rw [h, Int.sub_mul, Int.mul_sub, Int.mul_assoc]
    omega
theorem bezI {m n : Int} (hm : 0 ≤ m) (hn : 0 ≤ n) : ∃ s t : Int, m * s + n * t = (Int.gcd m n : Int) := by
  obtain ⟨s, t, e⟩ := bez m.natAbs n.natAbs
  rw [Int.natAbs_of_nonneg hm, Int.natAbs_of_nonneg hn] at e
  exact ⟨s, t, e⟩
theorem crt2 {m n a c : Int} (hm : 0 ≤ m) (hn : 0 ≤ n) (h : (Int.gcd m n : Int) ∣ a - c) : ∃ x, m ∣ x - a ∧ n ∣ x - c := by
  obtain ⟨s, t, e⟩ := bezI hm hn
  obtain ⟨k, hk⟩ := h
  refine ⟨a - m * (s * k), ⟨-(s * k), ?_⟩, ⟨t * k, ?_⟩⟩
  · rw [Int.mul_neg]; omega
  · have : (m * s + n * t) * k = a - c := by rw [e]; exact hk.symm
    rw [Int.add_mul, Int.mul_assoc, Int.mul_assoc] at this
    omega
theorem gcd_lcm {a c m : Int} (ha : Dok a) (hc : Dok c) (hm : Dok m) : (Int.gcd (Int.lcm a c) m : Int) = (Int.lcm (Int.gcd a m) (Int.gcd c m) : Int) := by
  refine q_ext ((ha.lcm hc).gcd hm) ((ha.gcd hm).lcm (hc.gcd hm)) fun q hq => ?_
  rw [q_gcd, q_lcm hq ha hc, q_lcm hq (ha.gcd hm) (hc.gcd hm), q_gcd, q_gcd]
  exact or_and_right
theorem lcmL_snoc (D : Dl) (n : Str) (us : List Str) (u : Str) : lcmL D n (us ++ [u]) = (Int.lcm (lcmL D n us) (D u n) : Int) := by
  unfold lcmL
  rw [List.foldl_append]; rfl
theorem snoc_ind {α : Type} {P : List α → Prop} (h0 : P []) (h : ∀ l x, P l → P (l ++ [x])) (l : List α) : P l := by
  have key : ∀ l : List α, P l.reverse := fun l => by
    induction l with
    | nil => exact h0
    | cons x l ih => rw [List.reverse_cons]; exact h _ _ ih
  have := key l.reverse
  rwa [List.reverse_reverse] at this
theorem gcd_lcmL {D : Dl} (hD : DlOk D) {n : Str} {m z : Int} (hm : Dok m) : ∀ {us : List Str}, (∀ u ∈ us, (Int.gcd (D u n) m : Int) ∣ z) → (Int.gcd (lcmL D n us) m : Int) ∣ z := by
  intro us
  induction us using snoc_ind with
  | h0 => intro _; show (Int.gcd 1 m : Int) ∣ z; rw [Int.one_gcd]; exact Int.one_dvd z
  | h us w ih =>
    intro h
    rw [lcmL_snoc, gcd_lcm (lcmL_ok hD n us) (hD.ok w n) hm]
    exact lcm_dvd_of (ih fun u hu => h u (List.mem_append_left _ hu)) (h w (List.mem_append_right _ (List.mem_singleton.mpr rfl)))
theorem dvd_lcmL {D : Dl} {n u : Str} : ∀ {us : List Str}, u ∈ us → D u n ∣ lcmL D n us := by
  intro us
  induction us using snoc_ind with
  | h0 => intro h; cases h
  | h us w ih =>
    intro h
    rw [lcmL_snoc]
    rcases List.mem_append.mp h with h | h
    · exact Int.dvd_trans (ih h) (Int.dvd_lcm_left ..)
    · rw [List.mem_singleton.mp h]; exact Int.dvd_lcm_right ..
theorem lcmL_dvd {D : Dl} {n : Str} {z : Int} : ∀ {us : List Str}, (∀ u ∈ us, D u n ∣ z) → lcmL D n us ∣ z := by
  intro us
  induction us using snoc_ind with
  | h0 => intro _; exact Int.one_dvd z
  | h us w ih =>
    intro h
    rw [lcmL_snoc]
    exact lcm_dvd_of (ih fun u hu => h u (List.mem_append_left _ hu)) (h w (List.mem_append_right _ (List.mem_singleton.mpr rfl)))
/-- what goes by n is sure -/
theorem D_tri {M : Mill} {b : Str → Int} (hM : M.Ok b) {u n v : Str} (hu : u ∈ M.spots) (hn : n ∈ M.spots) (hv : v ∈ M.spots) : (Int.gcd (M.D u n) (M.D v n) : Int) ∣ M.D u v := by
  have hD := Mill.D_dl hM
  refine q_dvd ((hD.ok u n).gcd (hD.ok v n)) (hD.ok u v) fun q hq h => ?_
  have h := q_gcd.mp h
  rw [q_D hM hq hu hn, q_D hM hq hv hn] at h
  exact (q_D hM hq hu hv).mpr (h.1.trans (Mill.C.symm h.2))
theorem left_x {M : Mill} {b : Str → Int} (hM : M.Ok b) {k : Str → Int} {n : Str} (hn : n ∈ M.spots) : ∀ {us : List Str}, (∀ u ∈ us, u ∈ M.spots) → (∀ u ∈ us, ∀ v ∈ us, M.D u v ∣ (k v - k u) - (b v - b u)) → ∃ x, ∀ u ∈ us, M.D u n ∣ x - (k u + (b n - b u)) := by
  have hD := Mill.D_dl hM
  intro us
  induction us using snoc_ind with
  | h0 => exact fun _ _ => ⟨0, fun u h => nomatch h⟩
  | h us w ih =>
    intro hs ag
    have hw : w ∈ us ++ [w] := List.mem_append_right _ (List.mem_singleton.mpr rfl)
    have hl : ∀ u ∈ us, u ∈ us ++ [w] := fun u hu => List.mem_append_left _ hu
    obtain ⟨x0, h0⟩ := ih (fun u hu => hs u (hl u hu)) fun u hu v hv => ag u (hl u hu) v (hl v hv)
    have hg : (Int.gcd (lcmL M.D n us) (M.D w n) : Int) ∣ x0 - (k w + (b n - b w)) := by
      refine gcd_lcmL hD (hD.ok w n) fun u hu => ?_
      have h1 := Int.dvd_trans (Int.gcd_dvd_left (M.D u n) (M.D w n)) (h0 u hu)
      have h2 := Int.dvd_trans (D_tri hM (hs u (hl u hu)) hn (hs w hw)) (ag u (hl u hu) w hw)
      have := Int.dvd_sub h1 h2
      have e : x0 - (k u + (b n - b u)) - (k w - k u - (b w - b u)) = x0 - (k w + (b n - b w)) := by omega
      rwa [e] at this
    obtain ⟨x, h1, h2⟩ := crt2 (lcmL_ok hD n us).nn (hD.ok w n).nn hg
    refine ⟨x, fun u hu => ?_⟩
    rcases List.mem_append.mp hu with hu | hu
    · have := Int.dvd_add (Int.dvd_trans (dvd_lcmL hu) h1) (h0 u hu)
      have e : x - x0 + (x0 - (k u + (b n - b u))) = x - (k u + (b n - b u)) := by omega
      rwa [e] at this
    · rw [List.mem_singleton.mp hu]; exact h2
/-- the number that is laid -/
def resI (x L : Int) : Int := if 0 < L then x % L else x
theorem resI_dvd {x L : Int} : L ∣ x - resI x L := by
  unfold resI
  split
  · exact ⟨x / L, by have := Int.mul_ediv_add_emod x L; omega⟩
  · rw [Int.sub_self]; exact Int.dvd_zero _
theorem resI_eq {x L z : Int} (hL : 0 ≤ L) (h : L ∣ x - z) (hz : L = 0 ∨ (0 ≤ z ∧ z < L)) : resI x L = z := by
  unfold resI
  split
  · rename_i hp
    rcases hz with rfl | ⟨h1, h2⟩
    · omega
    · obtain ⟨c, hc⟩ := h
      have e : x = z + L * c := by omega
      rw [e, Int.add_mul_emod_self_left, Int.emod_eq_of_lt h1 h2]
  · have : L = 0 := by omega
    subst this
    have := Int.zero_dvd.mp h
    omega
/-- one more is laid -/
def updK (k : Str → Int) (n : Str) (z : Int) : Str → Int := fun u => if u = n then z else k u
theorem upd_ag {M : Mill} {b : Str → Int} (hM : M.Ok b) {k : Str → Int} {n : Str} (hn : n ∈ M.spots) {us : List Str} (hs : ∀ u ∈ us, u ∈ M.spots) (nu : n ∉ us) (ag : ∀ u ∈ us, ∀ v ∈ us, M.D u v ∣ (k v - k u) - (b v - b u)) {x : Int} (hx : ∀ u ∈ us, M.D u n ∣ x - (k u + (b n - b u))) :
    ∀ u ∈ us ++ [n], ∀ v ∈ us ++ [n], M.D u v ∣ (updK k n (resI x (lcmL M.D n us)) v - updK k n (resI x (lcmL M.D n us)) u) - (b v - b u) := by
  have hD := Mill.D_dl hM
  have one : ∀ u ∈ us, M.D u n ∣ (resI x (lcmL M.D n us) - k u) - (b n - b u) := fun u hu => by
    have h1 := Int.dvd_trans (dvd_lcmL (D := M.D) (n := n) hu) (resI_dvd (x := x) (L := lcmL M.D n us))
    have := Int.dvd_sub (hx u hu) h1
    have e : x - (k u + (b n - b u)) - (x - resI x (lcmL M.D n us)) = (resI x (lcmL M.D n us) - k u) - (b n - b u) := by omega
    rwa [e] at this
  intro u hu v hv
  unfold updK
  rcases List.mem_append.mp hu with hu | hu
  · have eu : u ≠ n := fun z => nu (z ▸ hu)
    rcases List.mem_append.mp hv with hv | hv
    · have ev : v ≠ n := fun z => nu (z ▸ hv)
      rw [if_neg eu, if_neg ev]
      exact ag u hu v hv
    · rw [List.mem_singleton.mp hv, if_neg eu, if_pos rfl]
      exact one u hu
  · rw [List.mem_singleton.mp hu]
    rcases List.mem_append.mp hv with hv | hv
    · have ev : v ≠ n := fun z => nu (z ▸ hv)
      rw [if_pos rfl, if_neg ev, hD.sy]
      have := Int.dvd_neg.mpr (one v hv)
      have e : -(resI x (lcmL M.D n us) - k v - (b n - b v)) = k v - resI x (lcmL M.D n us) - (b v - b n) := by omega
      rwa [e] at this
    · rw [List.mem_singleton.mp hv, D_self hM hn]
      have e : (if n = n then resI x (lcmL M.D n us) else k n) - (if n = n then resI x (lcmL M.D n us) else k n) - (b n - b n) = 0 := by omega
      rw [e]; exact Int.dvd_zero 0
/-- if the hidden begins are the least, they are laid -/
theorem laid_eq {M : Mill} {b : Str → Int} (hM : M.Ok b) {k : Str → Int} {n : Str} {us : List Str} (hk : ∀ u ∈ us, k u = b u) {x : Int} (hx : ∀ u ∈ us, M.D u n ∣ x - (k u + (b n - b u))) (hz : lcmL M.D n us = 0 ∨ (0 ≤ b n ∧ b n < lcmL M.D n us)) : resI x (lcmL M.D n us) = b n := by
  refine resI_eq (lcmL_ok (Mill.D_dl hM) n us).nn (lcmL_dvd fun u hu => ?_) hz
  have := hx u hu
  rw [hk u hu] at this
  have e : x - (b u + (b n - b u)) = x - b n := by omega
  rwa [e] at this
/-- agreeing begins keep the sayings -/
theorem ag_kept {M : Mill} {b k : Str → Int} (hM : M.Ok b) (ag : ∀ u ∈ M.spots, ∀ v ∈ M.spots, M.D u v ∣ (k v - k u) - (b v - b u)) {y : Sy} (hy : y ∈ M.ss) : y.dial ∣ (k y.other - k y.one) - y.late := by
  have ho := hM.ss y hy
  have h1 : y.dial ∣ M.D y.one y.other := q_dvd ho.dial ((Mill.D_dl hM).ok _ _) fun q hq h => (q_D hM hq ho.one ho.other).mpr (.one ⟨y, hy, h, .inl ⟨rfl, rfl⟩⟩)
  have h2 := Int.dvd_add (Int.dvd_trans h1 (ag _ ho.one _ ho.other)) ho.kept
  have e : k y.other - k y.one - (b y.other - b y.one) + (b y.other - b y.one - y.late) = k y.other - k y.one - y.late := by omega
  rwa [e] at h2
end

set_option Elab.async false
set_option linter.all false
set_option maxRecDepth 100000
set_option maxHeartbeats 1000000
section
open PySem L2
variable [B : Tb]
variable {Pr : Program} {w : World} {K : PySem.W.Frag} {mg : Str → Option Value} {base : Heap} {f : Addr} {fd : FuncData}

/-! ### sets of lots -/
def unK (k : List Key) : List Str := k.filterMap fun x => match x with
  | .inl _ => none
  | .inr s => some s
def kOf (l : List Str) : List Key := l.map Sum.inr
omit [B : Tb] in
theorem unK_kOf (l : List Str) : unK (kOf l) = l := by
  unfold unK kOf
  induction l with
  | nil => rfl
  | cons x l ih => rw [List.map_cons, List.filterMap_cons]; simp only; rw [ih]
def setL (ls : List (List Str)) : List (List Str) := (setK (ls.map kOf)).map unK
omit [B : Tb] in
theorem kOf_unK {ls : List (List Str)} {k : List Key} (h : k ∈ setK (ls.map kOf)) : kOf (unK k) = k := by
  obtain ⟨l, _, rfl⟩ := List.mem_map.mp ((setBy_mem k _).mp h)
  rw [unK_kOf]
omit [B : Tb] in
theorem tD_kOf (l : List Str) : tD (kOf l) = strsD l := by
  unfold kOf tD
  rw [List.map_map]; rfl
omit [B : Tb] in
theorem setL_D (ls : List (List Str)) : (setL ls).map strsD = (setK (ls.map kOf)).map tD := by
  unfold setL
  rw [List.map_map]
  refine List.map_congr_left fun k hk => ?_
  show strsD (unK k) = tD k
  rw [← tD_kOf, kOf_unK hk]
omit [B : Tb] in
theorem mem_setL {ls : List (List Str)} {l : List Str} : l ∈ setL ls ↔ l ∈ ls := by
  unfold setL
  rw [List.mem_map]
  constructor
  · rintro ⟨k, hk, rfl⟩
    obtain ⟨m, hm, rfl⟩ := List.mem_map.mp ((setBy_mem k _).mp hk)
    rwa [unK_kOf]
  · intro h
    exact ⟨kOf l, (setBy_mem _ _).mpr (List.mem_map.mpr ⟨l, h, rfl⟩), unK_kOf l⟩
omit [B : Tb] in
theorem setL_nodup (ls : List (List Str)) : (setL ls).Nodup := by
  unfold setL
  refine List.pairwise_map.mpr (List.Pairwise.imp_of_mem ?_ (setBy_nodup (le := leK) (ls.map kOf)))
  intro a c ha hc ne e
  exact ne (by rw [← kOf_unK ha, ← kOf_unK hc, e])
omit [B : Tb] in
theorem sameK_strs : ∀ a b : List Str, sameK (kOf a) (kOf b) = true
  | [], b => by unfold kOf sameK; rfl
  | _ :: _, [] => by unfold kOf sameK; rfl
  | x :: a, y :: b => by
    have := sameK_strs a b
    show ((_ : Bool) && sameK (kOf a) (kOf b)) = true
    rw [this]; rfl
omit [B : Tb] in
theorem set_lots {ls : List (List Str)} (hl : ls.length < 64) (h : ∀ l ∈ ls, l ≠ [] ∧ ∀ x ∈ l, PyData.strOk x = true) : IsSet (ls.map strsD) ((setL ls).map strsD) := by
  have e : ls.map strsD = (ls.map kOf).map tD := by rw [List.map_map]; exact List.map_congr_left fun l _ => (tD_kOf l).symm
  rw [e, setL_D]
  refine .tups _ (by rw [List.length_map]; exact hl) (fun k hk => ?_) (fun k hk => ?_) fun a ha b hb => ?_
  · obtain ⟨l, hl, rfl⟩ := List.mem_map.mp hk
    unfold oks
    rw [List.all_eq_true]
    intro x hx
    obtain ⟨s, hs, rfl⟩ := List.mem_map.mp hx
    exact (h l hl).2 s hs
  · obtain ⟨l, hl, rfl⟩ := List.mem_map.mp hk
    intro z
    exact (h l hl).1 (List.map_eq_nil_iff.mp z)
  · obtain ⟨l, hl, rfl⟩ := List.mem_map.mp ha
    obtain ⟨m, hm, rfl⟩ := List.mem_map.mp hb
    exact sameK_strs l m
/-! ### lots at a wheel -/
def Mill.rest (M : Mill) (n : Str) : List Str := M.names.filter fun x => !decide (x = n)
def Mill.prs (M : Mill) (n : Str) : List (Str × Str) := (M.ss.filter fun y => decide (y.one ∈ M.rest n) && decide (y.other ∈ M.rest n)).map fun y => (y.one, y.other)
def Mill.lots (M : Mill) (n : Str) : List (List Str) := setL (lotsW (M.rest n) (M.prs n))
/-- what lots are -/
structure Ltk (ns : List Str) (lots : List (List Str)) : Prop where
  cov : ∀ x ∈ ns, ∃ l ∈ lots, x ∈ l
  sub : ∀ l ∈ lots, ∀ x ∈ l, x ∈ ns
  dis : ∀ l ∈ lots, ∀ m ∈ lots, ∀ x, x ∈ l → x ∈ m → l = m
  ne : ∀ l ∈ lots, l ≠ []
omit [B : Tb] in
theorem hasOne_iff {p : Str × Str} {l : List Str} : hasOne p l = true ↔ p.1 ∈ l ∨ p.2 ∈ l := by
  unfold hasOne
  rw [Bool.or_eq_true, decide_eq_true_eq, decide_eq_true_eq]
omit [B : Tb] in
theorem mem_stepL {lots : List (List Str)} {p : Str × Str} {l : List Str} : l ∈ stepL lots p ↔ (l ∈ lots ∧ hasOne p l = false) ∨ l = setS (lots.filter (hasOne p)).flatten := by
  unfold stepL
  rw [List.mem_append, List.mem_filter, List.mem_singleton]
  simp
omit [B : Tb] in
theorem mem_merge {lots : List (List Str)} {p : Str × Str} {x : Str} : x ∈ setS (lots.filter (hasOne p)).flatten ↔ ∃ m ∈ lots, hasOne p m = true ∧ x ∈ m := by
  rw [show (x ∈ setS (lots.filter (hasOne p)).flatten ↔ x ∈ (lots.filter (hasOne p)).flatten) from setBy_mem x _, List.mem_flatten]
  constructor
  · rintro ⟨m, hm, hx⟩
    obtain ⟨h1, h2⟩ := List.mem_filter.mp hm
    exact ⟨m, h1, h2, hx⟩
  · rintro ⟨m, h1, h2, hx⟩
    exact ⟨m, List.mem_filter.mpr ⟨h1, h2⟩, hx⟩
omit [B : Tb] in
theorem Ltk.step {ns : List Str} {lots : List (List Str)} (h : Ltk ns lots) {p : Str × Str} (h1 : p.1 ∈ ns) (h2 : p.2 ∈ ns) : Ltk ns (stepL lots p) ∧ ∃ l ∈ stepL lots p, p.1 ∈ l ∧ p.2 ∈ l := by
  obtain ⟨l1, hl1, hp1⟩ := h.cov _ h1
  obtain ⟨l2, hl2, hp2⟩ := h.cov _ h2
  have m1 : p.1 ∈ setS (lots.filter (hasOne p)).flatten := mem_merge.mpr ⟨l1, hl1, hasOne_iff.mpr (.inl hp1), hp1⟩
  have m2 : p.2 ∈ setS (lots.filter (hasOne p)).flatten := mem_merge.mpr ⟨l2, hl2, hasOne_iff.mpr (.inr hp2), hp2⟩
  refine ⟨⟨fun x hx => ?_, fun l hl x hx => ?_, fun l hl m hm x hxl hxm => ?_, fun l hl => ?_⟩, _, mem_stepL.mpr (.inr rfl), m1, m2⟩
  · obtain ⟨l, hl, hx⟩ := h.cov x hx
    cases c : hasOne p l with
    | false => exact ⟨l, mem_stepL.mpr (.inl ⟨hl, c⟩), hx⟩
    | true => exact ⟨_, mem_stepL.mpr (.inr rfl), mem_merge.mpr ⟨l, hl, c, hx⟩⟩
  · rcases mem_stepL.mp hl with ⟨hl, _⟩ | rfl
    · exact h.sub l hl x hx
    · obtain ⟨m, hm, _, hx⟩ := mem_merge.mp hx
      exact h.sub m hm x hx
  · rcases mem_stepL.mp hl with ⟨hl, cl⟩ | rfl
    · rcases mem_stepL.mp hm with ⟨hm, cm⟩ | rfl
      · exact h.dis l hl m hm x hxl hxm
      · obtain ⟨m, hm, cm, hx⟩ := mem_merge.mp hxm
        have := h.dis l hl m hm x hxl hx
        subst this
        rw [cl] at cm; cases cm
    · rcases mem_stepL.mp hm with ⟨hm, cm⟩ | rfl
      · obtain ⟨l, hl, cl, hx⟩ := mem_merge.mp hxl
        have := h.dis l hl m hm x hx hxm
        subst this
        rw [cl] at cm; cases cm
      · rfl
  · rcases mem_stepL.mp hl with ⟨hl, cl⟩ | rfl
    · exact h.ne l hl
    · intro z
      rw [z] at m1; cases m1
omit [B : Tb] in
theorem Ltk.keep {lots : List (List Str)} {p : Str × Str} {u v : Str} (h : ∃ l ∈ lots, u ∈ l ∧ v ∈ l) : ∃ l ∈ stepL lots p, u ∈ l ∧ v ∈ l := by
  obtain ⟨l, hl, hu, hv⟩ := h
  cases c : hasOne p l with
  | false => exact ⟨l, mem_stepL.mpr (.inl ⟨hl, c⟩), hu, hv⟩
  | true => exact ⟨_, mem_stepL.mpr (.inr rfl), mem_merge.mpr ⟨l, hl, c, hu⟩, mem_merge.mpr ⟨l, hl, c, hv⟩⟩
omit [B : Tb] in
theorem Ltk.all {ns : List Str} : ∀ (ps : List (Str × Str)) {lots : List (List Str)}, Ltk ns lots → (∀ p ∈ ps, p.1 ∈ ns ∧ p.2 ∈ ns) →
    Ltk ns (ps.foldl stepL lots) ∧ (∀ u v, (∃ l ∈ lots, u ∈ l ∧ v ∈ l) → ∃ l ∈ ps.foldl stepL lots, u ∈ l ∧ v ∈ l) ∧ ∀ p ∈ ps, ∃ l ∈ ps.foldl stepL lots, p.1 ∈ l ∧ p.2 ∈ l
  | [], lots, h, _ => ⟨h, fun _ _ z => z, fun p hp => nomatch hp⟩
  | p :: ps, lots, h, hp => by
    obtain ⟨k1, k2⟩ := h.step (hp p (List.mem_cons_self ..)).1 (hp p (List.mem_cons_self ..)).2
    obtain ⟨i1, i2, i3⟩ := Ltk.all ps k1 fun r hr => hp r (List.mem_cons_of_mem _ hr)
    refine ⟨i1, fun u v z => i2 u v (Ltk.keep z), fun r hr => ?_⟩
    rcases List.mem_cons.mp hr with rfl | hr
    · exact i2 _ _ k2
    · exact i3 r hr
omit [B : Tb] in
theorem Ltk.ones (ns : List Str) : Ltk ns (ns.map fun n => [n]) := by
  refine ⟨fun x hx => ⟨[x], List.mem_map.mpr ⟨x, hx, rfl⟩, List.mem_singleton.mpr rfl⟩, fun l hl x hx => ?_, fun l hl m hm x hxl hxm => ?_, fun l hl => ?_⟩
  · obtain ⟨n, hn, rfl⟩ := List.mem_map.mp hl
    rw [List.mem_singleton.mp hx]; exact hn
  · obtain ⟨n, hn, rfl⟩ := List.mem_map.mp hl
    obtain ⟨r, hr, rfl⟩ := List.mem_map.mp hm
    rw [← List.mem_singleton.mp hxl, ← List.mem_singleton.mp hxm]
  · obtain ⟨n, hn, rfl⟩ := List.mem_map.mp hl
    exact List.cons_ne_nil _ _
omit [B : Tb] in
theorem Ltk.set {ns : List Str} {lots : List (List Str)} (h : Ltk ns lots) : Ltk ns (setL lots) :=
  ⟨fun x hx => let ⟨l, hl, k⟩ := h.cov x hx; ⟨l, mem_setL.mpr hl, k⟩, fun l hl => h.sub l (mem_setL.mp hl), fun l hl m hm => h.dis l (mem_setL.mp hl) m (mem_setL.mp hm), fun l hl => h.ne l (mem_setL.mp hl)⟩
omit [B : Tb] in
theorem mem_rest {M : Mill} {n x : Str} : x ∈ M.rest n ↔ x ∈ M.names ∧ x ≠ n := by
  unfold Mill.rest
  rw [List.mem_filter]
  simp
omit [B : Tb] in
theorem prs_in {M : Mill} {n : Str} : ∀ p ∈ M.prs n, p.1 ∈ M.rest n ∧ p.2 ∈ M.rest n := by
  intro p hp
  unfold Mill.prs at hp
  obtain ⟨y, hy, rfl⟩ := List.mem_map.mp hp
  have := (List.mem_filter.mp hy).2
  rw [Bool.and_eq_true, decide_eq_true_eq, decide_eq_true_eq] at this
  exact this
omit [B : Tb] in
theorem lotsW_ltk (M : Mill) (n : Str) : Ltk (M.rest n) (lotsW (M.rest n) (M.prs n)) := (Ltk.all (M.prs n) (Ltk.ones _) prs_in).1
omit [B : Tb] in
theorem lots_ltk (M : Mill) (n : Str) : Ltk (M.rest n) (M.lots n) := (lotsW_ltk M n).set
omit [B : Tb] in
/-- a saying of two others lies within one lot -/
theorem lots_tog {M : Mill} {n : Str} {y : Sy} (hy : y ∈ M.ss) (h1 : y.one ∈ M.rest n) (h2 : y.other ∈ M.rest n) : ∃ l ∈ M.lots n, y.one ∈ l ∧ y.other ∈ l := by
  obtain ⟨l, hl, k⟩ := (Ltk.all (M.prs n) (Ltk.ones _) prs_in).2.2 (y.one, y.other) (by
    unfold Mill.prs
    refine List.mem_map.mpr ⟨y, List.mem_filter.mpr ⟨hy, ?_⟩, rfl⟩
    rw [Bool.and_eq_true, decide_eq_true_eq, decide_eq_true_eq]
    exact ⟨h1, h2⟩)
  exact ⟨l, mem_setL.mpr hl, k⟩
theorem sc_split_at : FnScope ["mill", "some", "names", "pairs", "name", "saying"] ["mill", "some"] (defScope (top 58)) := ⟨rfl, rfl, rfl, by decide +kernel, rfl, by decide +kernel, by decide +kernel⟩
abbrev sp_split_at (K : PySem.W.Frag) : Sp := SpP K (fun x : Mill × Str => [milD x.1, .tup [.str x.2]]) (fun x => x.1.Short ∧ (∀ n ∈ x.1.names, PyData.strOk n = true) ∧ x.2 ∈ x.1.names) (fun x d => d = .tup ((x.1.lots x.2).map strsD))
theorem ok_split_at (T : Tx K mg) (c_check_wheels : Cal Pr w K mg base 2 "check_wheels" (sp_check_wheels K)) (c_set_of : Cal Pr w K mg base 1 "set_of" (sp_set_of K)) (c_lots_without : Cal Pr w K mg base 2 "lots_without" (sp_lots_without K)) (c_wheel_names : Cal Pr w K mg base 1 "wheel_names" (sp_wheel_names K)) (F : FnP K "split_at" (top 58) f fd) : FnOk Pr w K mg base CX0 3 f fd ["mill", "some"] (sp_split_at K) := by
  have nd := sc_split_at.nd
  refine fn_P F sc_split_at (fun _ => rfl) (by decide) fun cdv A outer s H E hr => ⟨_, (pss_cons (ps_expr (pe_c c_check_wheels hr (by decide) rfl (pa_cons (pv 0) (pa_cons (pv 1) pa_nil))))
    (pss_cons (pst (i := 2) nd rfl (pe_lc (own := [("name", 4)]) rfl nd (piTK (K := K) (pe_c c_wheel_names hr (by decide) rfl (pa_cons (pv 0) pa_nil))) (blkOk_by (by kernel_rfl)) (fun _ _ _ _ _ => (pgn (i := 4) nd rfl)) (fun _ _ _ _ _ => (pts_one (pt_cmpR (notinK (K := K)) (pv 4) (pv 1) rfl))) (fun _ _ _ _ _ => (pv 4))))
    (pss_cons (ps_setLc (i := 3) (own := [("saying", 5)]) rfl nd rfl rfl (sw_true rfl rfl rfl (by kernel_rfl)) (piTK (K := K) (pe_ix (ixK (K := K)) (pv 0) pe_int (fun _ _ => rfl))) (blkOk_by (by kernel_rfl)) (fun _ _ _ _ _ => (pgn (i := 5) nd rfl)) (fun _ _ _ _ _ => (pts_one (PW.pt (pw_and (pt_cmpR (inK (K := K)) (pe_ix (ixK (K := K)) (pv 5) pe_int (fun _ _ => rfl)) (pv 2) rfl) (pw_and1 (pt_cmpR (inK (K := K)) (pe_ix (ixK (K := K)) (pv 5) pe_int (fun _ _ => rfl)) (pv 2) rfl)))))) (fun _ _ _ _ _ => (pe_slice (slTK (K := K)) (pv 5) (po_some pe_int) (po_some pe_int))))
    (pss_one (ps_ret (pe_c c_set_of hr (by decide) rfl (pa_cons (pe_c c_lots_without hr (by decide) rfl (pa_cons (pv 2) (pa_cons (pv 3) pa_nil))) pa_nil))))))), ?_⟩
  rintro ⟨M, n⟩ ⟨hM, hK, hn⟩
  dsimp only at hM hK hn
  try dsimp only [cxOf]
  change SX K _ [.dat (milD M), .dat (.tup [.str n]), .emp, .emp, .emp, .emp] _ _
  repeat' tm_at "ex"
  refine ⟨(M, [n], _), rfl, ⟨hM, rfl, fun x hx => by rw [List.mem_singleton.mp hx]; exact hn⟩, ?_⟩
  repeat' tm_at "ex"
  refine ex_of (ef_lcM (tch_name 4) (by decide) ?_)
  repeat' tm_at "ex"
  refine ⟨hM, ?_⟩
  repeat' tm_at "ex"
  have hnl : M.names.length ≤ 20 := by have := hM.ws; simp [Mill.names]; exact this
  refine ⟨noOwn_of rfl, Str, M.names, .str, fun x => if (!decide (x = n)) = true then some (.str x) else none, rfl, sz (by omega), fun x hx => ?_, ?_⟩
  · unfold LcT
    repeat' tm_at "ex"
    refine od_inS (xs := [n]) rfl ?_
    rw [if_pos rfl]
    repeat' tm_at "ex"
    refine ⟨fun h => ?_, fun h => ?_⟩
    · repeat' tm_at "ex"
      refine ⟨agr_wipe.set (by decide), if_pos ?_⟩
      simpa using h
    · refine ⟨agr_wipe.set (by decide), if_neg ?_⟩
      simpa using h
  rw [filterMap_if (fun x : Str => !decide (x = n)) Dt.str]
  change SX K _ [.dat (milD M), .dat (.tup [.str n]), .dat (.lst ((M.rest n).map .str)), .emp, .emp, .emp] _ _
  tm_at "ex"
  refine sx_set (ex_of (ef_lcM (tch_name 5) (by decide) ?_))
  repeat' tm_at "ex"
  refine ⟨noOwn_of rfl, Sy, M.ss, syD, fun y => if (decide (y.one ∈ M.rest n) && decide (y.other ∈ M.rest n)) = true then some (.tup [.str y.one, .str y.other]) else none, rfl, sz (by have := hM.ss; omega), fun y hy => ?_, ?_⟩
  · unfold LcT
    repeat' tm_at "ex"
    refine od_inS (xs := M.rest n) rfl ?_
    rw [if_neg (by decide)]
    repeat' tm_at "ex"
    refine ⟨fun h => ?_, fun h => ?_⟩
    · repeat' tm_at "ex"
      refine od_inS (xs := M.rest n) rfl ?_
      rw [if_neg (by decide)]
      repeat' tm_at "ex"
      refine ⟨fun h2 => ?_, fun h2 => ?_⟩
      · refine ex_slT ?_
        repeat' tm_at "ex"
        refine ⟨agr_wipe.set (by decide), (if_pos ?_).trans rfl⟩
        rw [h, h2]; rfl
      · refine ⟨agr_wipe.set (by decide), if_neg ?_⟩
        rw [h2]; simp
    · refine ⟨nofun, fun _ => ⟨agr_wipe.set (by decide), if_neg ?_⟩⟩
      rw [h]; simp
  rw [filterMap_if (fun y : Sy => decide (y.one ∈ M.rest n) && decide (y.other ∈ M.rest n)) fun y => Dt.tup [.str y.one, .str y.other]]
  have ep : (M.ss.filter fun y => decide (y.one ∈ M.rest n) && decide (y.other ∈ M.rest n)).map (fun y => Dt.tup [.str y.one, .str y.other]) = (M.prs n).map keyP := by
    unfold Mill.prs
    rw [List.map_map]; rfl
  rw [ep]
  change SX K _ [.dat (milD M), .dat (.tup [.str n]), .dat (.lst ((M.rest n).map .str)), .dat (.lst ((M.prs n).map keyP)), .emp, .emp] _ _
  have hrl : (M.rest n).length ≤ 20 := Nat.le_trans (List.length_filter_le ..) hnl
  have hpl : (M.prs n).length ≤ 20 := by
    unfold Mill.prs
    rw [List.length_map]
    exact Nat.le_trans (List.length_filter_le ..) hM.ss
  have hrk : ∀ x ∈ M.rest n, PyData.strOk x = true := fun x hx => hK x (mem_rest.mp hx).1
  have hL := lotsW_ltk M n
  repeat' tm_at "ex"
  refine ⟨⟨hrl, hpl, hrk⟩, ?_⟩
  repeat' tm_at "ex"
  have hll : (lotsW (M.rest n) (M.prs n)).length < 64 := by
    have := (foldL_inv (Q := fun _ => True) (M.prs n) ((M.rest n).map fun n => [n]) (fun _ _ _ _ => trivial)).1
    rw [List.length_map] at this
    unfold lotsW
    omega
  refine ⟨(_, _), rfl, set_lots hll (fun l hl => ⟨hL.ne l hl, fun x hx => hrk x (hL.sub l hl x hx)⟩), ?_⟩
  repeat' tm_at "ex"
  rfl
end

set_option Elab.async false
set_option linter.all false
set_option maxRecDepth 100000
set_option maxHeartbeats 1000000
section
open PySem L2
variable [B : Tb]
variable {Pr : Program} {w : World} {K : PySem.W.Frag} {mg : Str → Option Value} {base : Heap} {f : Addr} {fd : FuncData}

/-! ### lots by a table -/
abbrev tabL (ns : List Str) (F : Str → List Str) : Dt := .dk (ns.map fun n => (n, strsD (F n)))
theorem look_tabL {ns : List Str} {F : Str → List Str} {n : Str} (h : n ∈ ns) : (tabL ns F).look (.str n) = some (some (strsD (F n))) := by
  show some (gk _ _) = _
  rw [gk_map (f := fun n => strsD (F n)) h]
theorem put_tabL {ns : List Str} {F F' : Str → List Str} {n : Str} (hl : ns.length < sizeLine) (h : n ∈ ns) (hF : ∀ x ∈ ns, F' x = if x = n then F' n else F x) : (tabL ns F).put (.str n) (strsD (F' n)) = some (tabL ns F') := by
  show (if _ then some (Dt.dk (pk _ _ _)) else none) = _
  rw [if_pos (by rw [List.length_map]; exact hl), pk_map (f := fun n => strsD (F n)) (g := fun n => strsD (F' n)) h]
  intro x hx
  show strsD (F' x) = _
  rw [hF x hx]
  split <;> rfl
theorem put_tabL_new {ns : List Str} {F : Str → List Str} {n : Str} (hl : ns.length < sizeLine) (h : n ∉ ns) : (tabL ns F).put (.str n) (strsD (F n)) = some (tabL (ns ++ [n]) F) := by
  show (if _ then some (Dt.dk (pk _ _ _)) else none) = _
  rw [if_pos (by rw [List.length_map]; exact hl), pk_fresh (by rw [List.map_map]; intro z; obtain ⟨y, hy, e⟩ := List.mem_map.mp z; exact h (e ▸ hy))]
  show some (Dt.dk _) = some (Dt.dk ((ns ++ [n]).map fun n => (n, strsD (F n))))
  rw [List.map_append]
  rfl
omit [B : Tb] in
theorem nodup_len {α : Type} [DecidableEq α] : ∀ {l m : List α}, l.Nodup → (∀ x ∈ l, x ∈ m) → l.length ≤ m.length
  | [], _, _, _ => Nat.zero_le _
  | x :: l, m, nd, h => by
    have hx := h x (List.mem_cons_self ..)
    have := nodup_len (l := l) (m := m.erase x) (List.nodup_cons.mp nd).2 fun y hy => (List.mem_erase_of_ne (fun z => (List.nodup_cons.mp nd).1 (by rw [← z]; exact hy))).mpr (h y (List.mem_cons_of_mem _ hy))
    rw [List.length_erase_of_mem hx] at this
    have := List.length_pos_of_mem hx
    rw [List.length_cons]; omega
structure Fd (sp : List Str) (F : Str → List Str) : Prop where
  self : ∀ s ∈ sp, s ∈ F s
  sub : ∀ s ∈ sp, ∀ t ∈ F s, t ∈ sp
  eq : ∀ s ∈ sp, ∀ t ∈ F s, F t = F s
  nd : ∀ s ∈ sp, (F s).Nodup
def bothF (F : Str → List Str) (p : Str × Str) : List Str := setS (F p.1 ++ F p.2)
def setF (F : Str → List Str) (vs : List Str) (l : List Str) : Str → List Str := fun s => if s ∈ vs then l else F s
def stepF (F : Str → List Str) (p : Str × Str) : Str → List Str := setF F (bothF F p) (bothF F p)
omit [B : Tb] in
theorem mem_bothF {F : Str → List Str} {p : Str × Str} {x : Str} : x ∈ bothF F p ↔ x ∈ F p.1 ∨ x ∈ F p.2 := by
  rw [show (x ∈ bothF F p ↔ x ∈ F p.1 ++ F p.2) from setBy_mem x _, List.mem_append]
omit [B : Tb] in
theorem Fd.step {sp : List Str} {F : Str → List Str} (h : Fd sp F) {p : Str × Str} (h1 : p.1 ∈ sp) (h2 : p.2 ∈ sp) : Fd sp (stepF F p) := by
  have inb : ∀ s ∈ sp, ∀ t ∈ F s, (t ∈ bothF F p ↔ s ∈ bothF F p) := fun s hs t ht => by
    have e := h.eq s hs t ht
    have key : ∀ v ∈ sp, (t ∈ F v ↔ s ∈ F v) := fun v hv => by
      constructor
      · intro z
        rw [← h.eq v hv t z, e]; exact h.self s hs
      · intro z
        rw [← h.eq v hv s z]; exact ht
    rw [mem_bothF, mem_bothF, key _ h1, key _ h2]
  refine ⟨fun s hs => ?_, fun s hs t ht => ?_, fun s hs t ht => ?_, fun s hs => ?_⟩ <;> unfold stepF setF at *
  · split
    · assumption
    · exact h.self s hs
  · split at ht
    · rcases mem_bothF.mp ht with z | z
      · exact h.sub _ h1 t z
      · exact h.sub _ h2 t z
    · exact h.sub s hs t ht
  · split at ht
    · rename_i c; rw [if_pos ht, if_pos c]
    · rename_i c; rw [if_neg fun z => c ((inb s hs t ht).mp z), if_neg c]; exact h.eq s hs t ht
  · split
    · exact setBy_nodup _
    · exact h.nd s hs
omit [B : Tb] in
theorem Fd.ones (sp : List Str) : Fd sp fun s => [s] :=
  ⟨fun s _ => List.mem_singleton.mpr rfl, fun s hs t ht => by rw [List.mem_singleton.mp ht]; exact hs, fun s _ t ht => by rw [List.mem_singleton.mp ht], fun s _ => by simp⟩
omit [B : Tb] in
theorem Fd.all {sp : List Str} : ∀ (ps : List (Str × Str)) {F : Str → List Str}, Fd sp F → (∀ p ∈ ps, p.1 ∈ sp ∧ p.2 ∈ sp) → Fd sp (ps.foldl stepF F)
  | [], _, h, _ => h
  | p :: ps, _, h, hp => Fd.all ps (h.step (hp p (List.mem_cons_self ..)).1 (hp p (List.mem_cons_self ..)).2) fun r hr => hp r (List.mem_cons_of_mem _ hr)
omit [B : Tb] in
theorem Fd.perm {sp : List Str} (nd : sp.Nodup) {F : Str → List Str} (h : Fd sp F) : (setL (sp.map F)).flatten.Perm sp := by
  refine (List.perm_ext_iff_of_nodup ?_ nd).mpr fun x => ?_
  · unfold List.Nodup
    rw [List.pairwise_flatten]
    refine ⟨fun l hl => ?_, ?_⟩
    · obtain ⟨s, hs, rfl⟩ := List.mem_map.mp (mem_setL.mp hl)
      exact h.nd s hs
    · refine List.Pairwise.imp_of_mem ?_ (setL_nodup _)
      intro l m hl hm ne x hx y hy e
      subst e
      obtain ⟨s, hs, rfl⟩ := List.mem_map.mp (mem_setL.mp hl)
      obtain ⟨t, ht, rfl⟩ := List.mem_map.mp (mem_setL.mp hm)
      exact ne ((h.eq s hs x hx).symm.trans (h.eq t ht x hy))
  · rw [List.mem_flatten]
    constructor
    · rintro ⟨l, hl, hx⟩
      obtain ⟨s, hs, rfl⟩ := List.mem_map.mp (mem_setL.mp hl)
      exact h.sub s hs x hx
    · intro hx
      exact ⟨F x, mem_setL.mpr (List.mem_map.mpr ⟨x, hx, rfl⟩), h.self x hx⟩
theorem sc_lots_by : FnScope ["spots", "pairs", "found", "spot", "near", "far", "both"] ["spots", "pairs"] (defScope (top 44)) := ⟨rfl, rfl, rfl, by decide +kernel, rfl, by decide +kernel, by decide +kernel⟩
abbrev sp_lots_by (K : PySem.W.Frag) : Sp := SpP K (fun x : List Str × List (Str × Str) => [strsD x.1, .lst (x.2.map keyP)]) (fun x => x.1.length ≤ 21 ∧ x.1.Nodup ∧ (∀ n ∈ x.1, PyData.strOk n = true) ∧ ∀ p ∈ x.2, p.1 ∈ x.1 ∧ p.2 ∈ x.1) (fun x d => ∃ lots : List (List Str), d = .tup (lots.map strsD) ∧ lots.flatten.Perm x.1 ∧ lots.length ≤ 21)
theorem ok_lots_by (T : Tx K mg) (c_set_of : Cal Pr w K mg base 1 "set_of" (sp_set_of K)) (F : FnP K "lots_by" (top 44) f fd) : FnOk Pr w K mg base CX0 2 f fd ["spots", "pairs"] (sp_lots_by K) := by
  have nd := sc_lots_by.nd
  refine fn_P F sc_lots_by (fun _ => rfl) (by decide) fun cdv A outer s H E hr => ⟨_, (pss_cons (pst (i := 2) nd rfl pe_dnewK)
    (pss_cons (ps_for PassesOwn.never rfl (piTK (K := K) (pv 0)) (pgn (i := 3) nd rfl) (pss_one (ps_dput hr.units1 (pv 2) (pv 3) (pe_tup (pa_cons (pv 3) pa_nil)) rfl)))
    (pss_cons (ps_for PassesOwn.never rfl (piLK (K := K) (pv 1)) (pg_tupK (K := K) (n := 2) rfl (pgs_cons (pgn (i := 4) nd rfl) (pgs_cons (pgn (i := 5) nd rfl) pgs_nil))) (pss_cons (pst (i := 6) nd rfl (pe_c c_set_of hr (by decide) rfl (pa_cons (pe_lst (starK (K := K) (pe_dget hr.units1 (pv 2) (pv 4) (fun _ _ => rfl)) (starK (K := K) (pe_dget hr.units1 (pv 2) (pv 5) (fun _ _ => rfl)) pa_nil))) pa_nil)))
    (pss_one (ps_for PassesOwn.never rfl (piTK (K := K) (pv 6)) (pgn (i := 3) nd rfl) (pss_one (ps_dput hr.units1 (pv 2) (pv 3) (pv 6) rfl))))))
    (pss_one (ps_ret (pe_c c_set_of hr (by decide) rfl (pa_cons (pe_listVals rfl (pv 2) rfl T.list_) pa_nil))))))), ?_⟩
  rintro ⟨sp, ps⟩ ⟨hl, hnd, hk, hp⟩
  dsimp only at hl hnd hk hp
  try dsimp only [cxOf]
  change SX K _ [.dat (strsD sp), .dat (.lst (ps.map keyP)), .emp, .emp, .emp, .emp, .emp] _ _
  have hz : sp.length < sizeLine := Nat.lt_of_le_of_lt hl (by decide)
  refine sx_seq (sx_new (ef_dnewK fun l => ?_))
  tm_at "ex"
  refine sx_forM ?_
  repeat' tm_at "ex"
  refine ⟨Str, sp, .str, fun i G => ∃ s3, G = [.dat (strsD sp), .dat (.lst (ps.map keyP)), .own l (tabL (sp.take i) fun s => [s]), s3, .emp, .emp, .emp], rfl, ⟨_, rfl⟩, ?_, ?_⟩
  · rintro i u G hu ⟨s3, rfl⟩
    have hui : u ∉ sp.take i := fun z => by
      obtain ⟨k, hk, e⟩ := List.getElem_of_mem z
      rw [List.length_take] at hk
      rw [List.getElem_take] at e
      obtain ⟨h1, h2⟩ := (List.getElem?_eq_some_iff.mp hu)
      have := (List.getElem_inj hnd).mp (e.trans h2.symm)
      omega
    repeat' tm_at "ex"
    refine ⟨⟨_, _, rfl⟩, ?_⟩
    repeat' tm_at "ex"
    refine ⟨_, _, _, rfl, put_tabL_new (F := fun s => [s]) (by rw [List.length_take]; omega) hui, ?_⟩
    refine ⟨.dat (.str u), ?_⟩
    rw [take_snoc hu]
    rfl
  rintro G ⟨s3, rfl⟩
  rw [List.take_length]
  tm_at "ex"
  refine sx_forM ?_
  repeat' tm_at "ex"
  refine ⟨Str × Str, ps, keyP, fun i G => ∃ s3 s4 s5 s6, G = [.dat (strsD sp), .dat (.lst (ps.map keyP)), .own l (tabL sp ((ps.take i).foldl stepF fun s => [s])), s3, s4, s5, s6], rfl, ⟨_, _, _, _, rfl⟩, ?_, ?_⟩
  · rintro i ⟨u, v⟩ G hi ⟨s3, s4, s5, s6, rfl⟩
    have hF := Fd.all (ps.take i) (Fd.ones sp) fun p h => hp p (List.mem_of_mem_take h)
    have e : (ps.take (i + 1)).foldl stepF (fun s => [s]) = stepF ((ps.take i).foldl stepF fun s => [s]) (u, v) := by rw [take_snoc hi, List.foldl_append]; rfl
    have huv := hp (u, v) (List.mem_of_getElem? hi)
    dsimp only
    rw [e]
    clear e
    generalize (ps.take i).foldl stepF (fun s => [s]) = F at hF ⊢
    show GX K _ (.tup [.str u, .str v]) _ _
    repeat' tm_at "ex"
    refine ⟨_, _, _, rfl, look_tabL huv.1, ?_⟩
    refine ⟨_, rfl, ?_⟩
    repeat' tm_at "ex"
    refine ⟨_, _, _, rfl, look_tabL huv.2, ?_⟩
    refine ⟨_, rfl, ?_⟩
    have lu : (F u).length ≤ 21 := Nat.le_trans (nodup_len (hF.nd u huv.1) (hF.sub u huv.1)) hl
    have lv : (F v).length ≤ 21 := Nat.le_trans (nodup_len (hF.nd v huv.2) (hF.sub v huv.2)) hl
    have ec : (F u).map Dt.str ++ ((F v).map .str ++ []) = (F u ++ F v).map .str := by rw [List.append_nil, List.map_append]
    repeat' tm_at "ex"
    rw [ec]
    refine ⟨by rw [List.length_map, List.length_append]; exact sz (by omega), ?_⟩
    repeat' tm_at "ex"
    refine ⟨(_, _), rfl, .strs (F u ++ F v) (by rw [List.length_append]; omega) (fun k hk' => ?_), ?_⟩
    · rcases List.mem_append.mp hk' with z | z
      · exact hk k (hF.sub u huv.1 k z)
      · exact hk k (hF.sub v huv.2 k z)
    repeat' tm_at "ex"
    refine sx_forM ?_
    repeat' tm_at "ex"
    have hb : ∀ x ∈ bothF F (u, v), x ∈ sp := fun x hx => by
      rcases mem_bothF.mp hx with z | z
      · exact hF.sub u huv.1 x z
      · exact hF.sub v huv.2 x z
    have hbl : (bothF F (u, v)).Nodup := setBy_nodup _
    refine ⟨Str, bothF F (u, v), .str, fun j G => ∃ s3, G = [.dat (strsD sp), .dat (.lst (ps.map keyP)), .own l (tabL sp (setF F ((bothF F (u, v)).take j) (bothF F (u, v)))), s3, .dat (.str u), .dat (.str v), .dat (strsD (bothF F (u, v)))], rfl, ⟨s3, ?_⟩, ?_, ?_⟩
    · have e : setF F ((bothF F (u, v)).take 0) (bothF F (u, v)) = F := by funext s; unfold setF; rw [List.take_zero]; simp
      rw [e]; rfl
    · rintro j x G hx ⟨s3', rfl⟩
      repeat' tm_at "ex"
      refine ⟨⟨_, _, rfl⟩, ?_⟩
      repeat' tm_at "ex"
      have hxm := List.mem_of_getElem? hx
      refine ⟨_, _, _, rfl, ?_, .dat (.str x), rfl⟩
      have e : setF F ((bothF F (u, v)).take (j + 1)) (bothF F (u, v)) x = bothF F (u, v) := by
        unfold setF
        rw [if_pos (by rw [take_snoc hx]; simp)]
      refine (congrArg (fun z => (tabL sp (setF F ((bothF F (u, v)).take j) (bothF F (u, v)))).put (.str x) (strsD z)) e.symm).trans (put_tabL hz (hb x hxm) fun y hy => ?_)
      unfold setF
      by_cases c : y = x
      · subst c
        rw [if_pos rfl]
      · rw [if_neg c, take_snoc hx]
        simp [c]
    · rintro G ⟨s3', rfl⟩
      rw [List.take_length]
      exact ⟨_, _, _, _, rfl⟩
  · rintro G ⟨s3, s4, s5, s6, rfl⟩
    have hF := Fd.all ps (Fd.ones sp) hp
    rw [List.take_length]
    generalize ps.foldl stepF (fun s => [s]) = F at hF ⊢
    refine sx_ret (ex_call (ea_cons (ex_of (ef_listVals (ex_own rfl ?_)))))
    refine ⟨_, rfl, ea_nil ⟨((sp.map F).map strsD, _), ?_, set_lots (by rw [List.length_map]; omega) (fun m hm => ?_), ?_⟩⟩
    · rw [List.map_map, List.map_map]; rfl
    · obtain ⟨s, hs, rfl⟩ := List.mem_map.mp hm
      exact ⟨fun z => (by have := hF.self s hs; rw [z] at this; cases this), fun x hx => hk x (hF.sub s hs x hx)⟩
    · rintro d rfl
      refine ⟨_, rfl, hF.perm hnd, ?_⟩
      have := nodup_len (setL_nodup (sp.map F)) (m := sp.map F) fun m hm => mem_setL.mp hm
      rw [List.length_map] at this
      omega
theorem sc_hang_together : FnScope ["mill", "saying"] ["mill"] (defScope (top 45)) := ⟨rfl, rfl, rfl, by decide +kernel, rfl, by decide +kernel, by decide +kernel⟩
abbrev sp_hang_together (K : PySem.W.Frag) : Sp := SpP K (fun x : Mill × (Str → Int) => [milD x.1]) (fun x => x.1.Ok x.2 ∧ x.1.Nice) (fun x d => ∃ lots : List (List Str), d = .tup (lots.map strsD) ∧ lots.flatten.Perm x.1.spots ∧ lots.length ≤ 21)
theorem ok_hang_together (T : Tx K mg) (c_lots_by : Cal Pr w K mg base 2 "lots_by" (sp_lots_by K)) (c_spots_of : Cal Pr w K mg base 2 "spots_of" (sp_spots_of K)) (F : FnP K "hang_together" (top 45) f fd) : FnOk Pr w K mg base CX0 3 f fd ["mill"] (sp_hang_together K) := by
  have nd := sc_hang_together.nd
  refine fn_P F sc_hang_together (fun _ => rfl) (by decide) fun cdv A outer s H E hr => ⟨_, (pss_one (ps_ret (pe_c c_lots_by hr (by decide) rfl (pa_cons (pe_c c_spots_of hr (by decide) rfl (pa_cons (pv 0) pa_nil)) (pa_cons (pe_lc (own := [("saying", 1)]) rfl nd (piTK (K := K) (pe_ix (ixK (K := K)) (pv 0) pe_int (fun _ _ => rfl))) (blkOk_by (by kernel_rfl)) (fun _ _ _ _ _ => (pgn (i := 1) nd rfl)) (fun _ _ _ _ _ => pts_nil) (fun _ _ _ _ _ => (pe_tup (pa_cons (pe_ix (ixK (K := K)) (pv 1) pe_int (fun _ _ => rfl)) (pa_cons (pe_ix (ixK (K := K)) (pv 1) pe_int (fun _ _ => rfl)) pa_nil))))) pa_nil))))), ?_⟩
  rintro ⟨M, b⟩ ⟨hM, hN⟩
  dsimp only at hM hN
  try dsimp only [cxOf]
  change SX K _ [.dat (milD M), .emp] _ _
  repeat' tm_at "ex"
  refine ⟨hM.sh, ?_⟩
  repeat' tm_at "ex"
  refine ex_of (ef_lcA (tch_name 1) (by decide) ?_)
  repeat' tm_at "ex"
  refine ⟨noOwn_of rfl, Sy, M.ss, syD, fun y => keyP (y.one, y.other), rfl, sz (by have := hM.sh.ss; omega), fun y hy => ?_, ?_⟩
  · repeat' tm_at "ex"
    exact ⟨agr_wipe.set (by decide), rfl⟩
  repeat' tm_at "ex"
  have hsl : M.spots.length ≤ 21 := by have := hM.sh.ws; simp [Mill.spots, Mill.names]; omega
  refine ⟨(M.spots, M.ss.map fun y => (y.one, y.other)), ?_, ⟨hsl, hM.nm.spots, hN.ok, fun p hp => ?_⟩, fun _ h => h⟩
  · rw [List.map_map]; rfl
  obtain ⟨y, hy, rfl⟩ := List.mem_map.mp hp
  exact ⟨(hM.ss y hy).one, (hM.ss y hy).other⟩
end

set_option Elab.async false
set_option linter.all false
set_option maxRecDepth 100000
set_option maxHeartbeats 1000000
section
open PySem L2
variable [B : Tb]
variable {Pr : Program} {w : World} {K : PySem.W.Frag} {mg : Str → Option Value} {base : Heap} {f : Addr} {fd : FuncData}

omit [B : Tb] in
theorem atI_last {α : Type} {xs : List α} {x : α} (h : xs.getLast? = some x) : L2.atI xs (-1) = some x := by
  unfold L2.atI L2.ixN
  have hl : 0 < xs.length := by
    cases xs with
    | nil => cases h
    | cons y ys => simp
  rw [if_neg (by decide), if_pos (by omega)]
  show xs[_]? = _
  rw [← h, List.getLast?_eq_getElem?, show (-1 + (xs.length : Int)).toNat = xs.length - 1 by omega]
/-! ### steps, rows of steps -/
structure St where
  name : Str
  way : Int
  a : Str
  b : Str
abbrev stpD (s : St) : Dt := .tup [.str s.name, .int s.way, .str s.a, .str s.b]
def Mill.steps (M : Mill) : List St := M.ss.flatMap fun y => [⟨y.name, 1, y.one, y.other⟩, ⟨y.name, -1, y.other, y.one⟩]
omit [B : Tb] in
theorem steps_len : ∀ ss : List Sy, (ss.flatMap fun y => [(⟨y.name, 1, y.one, y.other⟩ : St), ⟨y.name, -1, y.other, y.one⟩]).length = 2 * ss.length
  | [] => rfl
  | y :: ss => by rw [List.flatMap_cons, List.length_append, steps_len ss]; simp; omega
theorem sc_steps_of : FnScope ["mill", "found", "name", "one", "other", "late", "dial"] ["mill"] (defScope (top 37)) := ⟨rfl, rfl, rfl, by decide +kernel, rfl, by decide +kernel, by decide +kernel⟩
abbrev sp_steps_of (K : PySem.W.Frag) : Sp := SpP K (fun M : Mill => [milD M]) (fun M => M.Short) (fun M d => d = .lst (M.steps.map stpD))
theorem ok_steps_of (T : Tx K mg) (c_tupled : Cal Pr w K mg base 4 "tupled" (sp_tupledT K)) (F : FnP K "steps_of" (top 37) f fd) : FnOk Pr w K mg base CX0 5 f fd ["mill"] (sp_steps_of K) := by
  have nd := sc_steps_of.nd
  refine fn_P F sc_steps_of (fun _ => rfl) (by decide) fun cdv A outer s H E hr => ⟨_, (pss_cons (pst (i := 1) nd rfl (pe_lst pa_nil))
    (pss_cons (ps_for PassesOwn.never rfl (piTK (K := K) (pe_c c_tupled hr (by decide) rfl (pa_cons (pe_ix (ixK (K := K)) (pv 0) pe_int (fun _ _ => rfl)) pa_nil))) (pg_tupK (K := K) (n := 5) rfl (pgs_cons (pgn (i := 2) nd rfl) (pgs_cons (pgn (i := 3) nd rfl) (pgs_cons (pgn (i := 4) nd rfl) (pgs_cons (pgn (i := 5) nd rfl) (pgs_cons (pgn (i := 6) nd rfl) pgs_nil)))))) (pss_one (ps_expr (pe_bm PySem.F.plainAttrs_list PySem.F.slot_list_extend PySem.F.type_list_extend mt_extend (pv 1) (pa_cons (pe_lst (pa_cons (pe_tup (pa_cons (pv 2) (pa_cons (pe_k T.ahead rfl) (pa_cons (pv 3) (pa_cons (pv 4) pa_nil))))) (pa_cons (pe_tup (pa_cons (pv 2) (pa_cons (pe_k T.back rfl) (pa_cons (pv 4) (pa_cons (pv 3) pa_nil))))) pa_nil))) pa_nil)))))
    (pss_one (ps_ret (pv 1))))), ?_⟩
  rintro M hM
  try dsimp only [cxOf]
  change SX K _ [.dat (milD M), .emp, .emp, .emp, .emp, .emp, .emp] _ _
  refine sx_seq (sx_new (ef_lst (ea_nil ⟨sz (by decide), fun l => ?_⟩)))
  tm_at "ex"
  refine sx_forM (ix_tup ?_)
  repeat' tm_at "ex"
  refine ⟨M.ss.map Sy.row, by rw [List.map_map]; rfl, ⟨by have := hM.ss; rw [List.length_map]; omega, fun k hk => ?_⟩, ?_⟩
  · obtain ⟨y, hy, rfl⟩ := List.mem_map.mp hk
    simp [Sy.row]
  repeat' tm_at "ex"
  refine ⟨Sy, M.ss, syD, fun i G => ∃ s2 s3 s4 s5 s6, G = [.dat (milD M), .own l (.lst (((M.ss.take i).flatMap fun y => [(⟨y.name, 1, y.one, y.other⟩ : St), ⟨y.name, -1, y.other, y.one⟩]).map stpD)), s2, s3, s4, s5, s6], by rw [List.map_map]; rfl, ⟨_, _, _, _, _, rfl⟩, ?_, ?_⟩
  · rintro i y G hy ⟨s2, s3, s4, s5, s6, rfl⟩
    have hi := (List.getElem?_eq_some_iff.mp hy).1
    repeat' tm_at "gx"
    refine sx_extend ⟨_, _, rfl⟩ ?_
    repeat' tm_at "ex"
    refine ⟨_, _, _, rfl, rfl, ?_, .dat (.str y.name), .dat (.str y.one), .dat (.str y.other), .dat (.int y.late), .dat (.int y.dial), ?_⟩
    · rw [List.length_map, steps_len, List.length_take]
      have := hM.ss
      exact sz (by simp; omega)
    · rw [take_snoc hy, List.flatMap_append, List.map_append]
      rfl
  · rintro G ⟨s2, s3, s4, s5, s6, rfl⟩
    rw [List.take_length]
    refine sx_ret (ex_own rfl ?_)
    rfl
abbrev Row := List (Str × Int)
abbrev nwD (p : Str × Int) : Dt := .tup [.str p.1, .int p.2]
abbrev rowD (r : Row) : Dt := .tup (r.map nwD)
/-- a row of steps from near on, and the spots it comes to -/
inductive Pth (ss : List St) (near : Str) : Row → List Str → Prop
  | nil : Pth ss near [] [near]
  | snoc {r : Row} {s : List Str} {st : St} {u : Str} : Pth ss near r s → st ∈ ss → s.getLast? = some u → st.a = u → st.b ∉ s → Pth ss near (r ++ [(st.name, st.way)]) (s ++ [st.b])
omit [B : Tb] in
theorem Pth.good {ss : List St} {near : Str} {r : Row} {s sp : List Str} (h : Pth ss near r s) (hn : near ∈ sp) (hs : ∀ st ∈ ss, st.b ∈ sp) : s.Nodup ∧ (∀ x ∈ s, x ∈ sp) ∧ (∀ p ∈ r, ∃ st ∈ ss, p = (st.name, st.way)) := by
  induction h with
  | nil => exact ⟨by simp, fun x hx => by rw [List.mem_singleton.mp hx]; exact hn, fun p hp => nomatch hp⟩
  | @snoc r s st u _ hst _ _ hb ih =>
    refine ⟨?_, fun x hx => ?_, fun p hp => ?_⟩
    · rw [List.nodup_append]
      refine ⟨ih.1, by simp, fun x hx y hy => ?_⟩
      rw [List.mem_singleton.mp hy]
      exact fun z => hb (z ▸ hx)
    · rcases List.mem_append.mp hx with z | z
      · exact ih.2.1 x z
      · rw [List.mem_singleton.mp z]; exact hs st hst
    · rcases List.mem_append.mp hp with z | z
      · exact ih.2.2 p z
      · exact ⟨st, hst, List.mem_singleton.mp z⟩
omit [B : Tb] in
theorem Pth.lens {ss : List St} {near : Str} {r : Row} {s : List Str} (h : Pth ss near r s) : s.length = r.length + 1 := by
  induction h with
  | nil => rfl
  | snoc _ _ _ _ _ ih => rw [List.length_append, List.length_append, ih]; rfl
abbrev wayD (w : Row × List Str) : Dt := .tup [rowD w.1, strsD w.2]
def wt (C N : Nat) (w : Row × List Str) : Nat := C ^ (N + 1 - w.2.length)
def wts (C N : Nat) (ws : List (Row × List Str)) : Nat := (ws.map (wt C N)).sum
omit [B : Tb] in
theorem wt_pos {C N : Nat} (hC : 1 ≤ C) (w : Row × List Str) : 1 ≤ wt C N w := Nat.one_le_pow _ _ hC
omit [B : Tb] in
theorem wts_snoc (C N : Nat) (ws : List (Row × List Str)) (w : Row × List Str) : wts C N (ws ++ [w]) = wts C N ws + wt C N w := by
  unfold wts
  rw [List.map_append, List.sum_append]
  simp
omit [B : Tb] in
theorem wts_len {C N : Nat} (hC : 1 ≤ C) : ∀ ws : List (Row × List Str), ws.length ≤ wts C N ws
  | [] => Nat.zero_le _
  | w :: ws => by
    have h1 := wts_len (N := N) hC ws
    have h2 := wt_pos (N := N) hC w
    unfold wts at *
    rw [List.map_cons, List.sum_cons, List.length_cons]; omega
omit [B : Tb] in
theorem alike_row : ∀ r r' : Row, PySem.W.alikeAll (Dt.pds (r.map nwD)) (Dt.pds (r'.map nwD)) = true
  | [], r' => by show PySem.W.alikeAll [] _ = true; unfold PySem.W.alikeAll; rfl
  | p :: r, [] => by show PySem.W.alikeAll (_ :: _) [] = true; unfold PySem.W.alikeAll; rfl
  | p :: r, p' :: r' => by
    show PySem.W.alikeAll ((nwD p).pd :: Dt.pds (r.map nwD)) ((nwD p').pd :: Dt.pds (r'.map nwD)) = true
    unfold PySem.W.alikeAll
    rw [Bool.and_eq_true]
    exact ⟨rfl, alike_row r r'⟩
omit [B : Tb] in
theorem sorts_rows {rows : List Row} (ne : ∀ r ∈ rows, r ≠ []) (ok : ∀ r ∈ rows, ∀ p ∈ r, PyData.strOk p.1 = true) : Sorts (rows.map rowD) := by
  refine Sorts.of ?_ ?_ (.inl fun d hd => ?_)
  · rw [Dt.pls_all, List.all_eq_true]
    intro d hd
    obtain ⟨r, hm, rfl⟩ := List.mem_map.mp hd
    show Dt.pls 59 (r.map nwD) = true
    rw [Dt.pls_all, List.all_eq_true]
    intro d hd
    obtain ⟨p, hp, rfl⟩ := List.mem_map.mp hd
    have := ok r hm p hp
    show Dt.pls 58 [.str p.1, .int p.2] = true
    rw [Dt.pls_all]
    simp [Dt.pl, this]
  · intro d hd d' hd'
    rw [Dt.pds_eq] at hd hd'
    simp only [List.map_map, List.mem_map] at hd hd'
    obtain ⟨k, hk, rfl⟩ := hd
    obtain ⟨k', hk', rfl⟩ := hd'
    show PySem.W.alike (.tuple (Dt.pds (k.map nwD))) (.tuple (Dt.pds (k'.map nwD))) = true
    unfold PySem.W.alike
    exact alike_row _ _
  · rw [Dt.pds_eq] at hd
    simp only [List.map_map, List.mem_map] at hd
    obtain ⟨k, hk, rfl⟩ := hd
    cases k with
    | nil => exact absurd rfl (ne [] hk)
    | cons x r => exact ⟨_, _, rfl⟩
omit [B : Tb] in
theorem srt_rows {rows : List Row} : ∃ rs : List Row, srt (rows.map rowD) = rs.map rowD ∧ rs.Perm rows := by
  refine ⟨rows.mergeSort fun a b => leD (rowD a) (rowD b), ?_, List.mergeSort_perm _ _⟩
  unfold srt
  rw [List.map_mergeSort (r := fun a b => leD (rowD a) (rowD b))]
  intro a _ b _; rfl
structure Rb where
  ss : List St
  near : Str
  far : Str
  sp : List Str
structure Rb.Ok (t : Rb) : Prop where
  l : t.ss.length ≤ 12
  n : t.near ∈ t.sp
  ne : t.near ≠ t.far
  sp : t.sp.length ≤ 5
  b : ∀ st ∈ t.ss, st.b ∈ t.sp
  ok : ∀ st ∈ t.ss, PyData.strOk st.name = true
def big : Nat := 371293
theorem sc_rows_between : FnScope ["steps", "near", "far", "found", "fresh", "row", "seen", "name", "way", "here", "goal"] ["steps", "near", "far"] (defScope (top 38)) := ⟨rfl, rfl, rfl, by decide +kernel, rfl, by decide +kernel, by decide +kernel⟩
abbrev sp_rows_between (K : PySem.W.Frag) : Sp := SpP K (fun t : Rb => [.lst (t.ss.map stpD), .str t.near, .str t.far]) Rb.Ok (fun t d => ∃ rows : List Row, d = .lst (rows.map rowD) ∧ rows.length ≤ big ∧ ∀ r ∈ rows, ∃ s, Pth t.ss t.near r s ∧ s.getLast? = some t.far)
theorem ok_rows_between (T : Tx K mg)  (F : FnP K "rows_between" (top 38) f fd) : FnOk Pr w K mg base CX0 1 f fd ["steps", "near", "far"] (sp_rows_between K) := by
  have nd := sc_rows_between.nd
  refine fn_P F sc_rows_between (fun _ => rfl) (by decide) fun cdv A outer s H E hr => ⟨_, (pss_cons (ps_par (i := 3) (j := 4) rfl nd rfl rfl (by decide) rfl rfl (pa_cons (pe_lst pa_nil) (pa_cons (pe_lst (pa_cons (pe_tup (pa_cons (pe_tup pa_nil) (pa_cons (pe_tup (pa_cons (pv 1) pa_nil)) pa_nil))) pa_nil)) pa_nil)) (by rfl))
    (pss_cons (ps_while PassesOwn.never (pt_cmpR op_gt (pe_callB (lenK (K := K)) rfl T.len_ bt_len (pa_cons (pv 4) pa_nil)) pe_int (nomark _)) (pss_cons (ps_asg (pe_bm0 PySem.F.plainAttrs_list PySem.F.slot_list_pop PySem.F.type_list_pop mt_pop (pv 4)) (pg_tupK (K := K) (n := 2) rfl (pgs_cons (pgn (i := 5) nd rfl) (pgs_cons (pgn (i := 6) nd rfl) pgs_nil))))
    (pss_one (ps_if (pt_cmpR op_eq (pe_ix (ixK (K := K)) (pv 6) (pe_un un_neg pe_int) (fun _ _ => rfl)) (pv 2) (nomark _)) (pss_one (ps_expr (pe_bm PySem.F.plainAttrs_list PySem.F.slot_list_append PySem.F.type_list_append mt_append (pv 3) (pa_cons (pv 5) pa_nil)))) (pss_one (ps_for PassesOwn.never rfl (piLK (K := K) (pv 0)) (pg_tupK (K := K) (n := 4) rfl (pgs_cons (pgn (i := 7) nd rfl) (pgs_cons (pgn (i := 8) nd rfl) (pgs_cons (pgn (i := 9) nd rfl) (pgs_cons (pgn (i := 10) nd rfl) pgs_nil))))) (pss_one (ps_if (PW.pt (pw_and (pt_cmpR op_eq (pv 9) (pe_ix (ixK (K := K)) (pv 6) (pe_un un_neg pe_int) (fun _ _ => rfl)) (nomark _)) (pw_and1 (pt_cmpR (notinK (K := K)) (pv 10) (pv 6) rfl)))) (pss_one (ps_expr (pe_bm PySem.F.plainAttrs_list PySem.F.slot_list_append PySem.F.type_list_append mt_append (pv 4) (pa_cons (pe_tup (pa_cons (pe_tup (starK (K := K) (pv 5) (pa_cons (pe_tup (pa_cons (pv 7) (pa_cons (pv 8) pa_nil))) pa_nil))) (pa_cons (pe_tup (starK (K := K) (pv 6) (pa_cons (pv 10) pa_nil))) pa_nil))) pa_nil)))) pss_nil))))))))
    (pss_one (ps_ret (pe_callB (cr_sortedDt hr.units70) rfl T.sorted_ bt_sorted (pa_cons (pv 3) pa_nil)))))), ?_⟩
  rintro ⟨ss, near, far, sp⟩ ⟨hl, hn, hne, hsp, hb, hok⟩
  dsimp only at hl hn hne hsp hb hok
  try dsimp only [cxOf]
  change SX K _ [.dat (.lst (ss.map stpD)), .dat (.str near), .dat (.str far), .emp, .emp, .emp, .emp, .emp, .emp, .emp, .emp] _ _
  have hC : 1 ≤ ss.length + 1 := by omega
  have hbig : (ss.length + 1) ^ sp.length ≤ big := Nat.le_trans (Nat.pow_le_pow_left (by omega : ss.length + 1 ≤ 13) _) (Nat.pow_le_pow_right (by decide) hsp)
  have hbs : big < sizeLine := by decide
  refine sx_seq (sx_parNN (ef_lst (ea_nil ⟨sz (by decide), ?_⟩)))
  repeat' tm_at "ex"
  intro l l2
  tm_at "ex"
  refine sx_while (fun m G => ∃ (fd : List Row) (fr : List (Row × List Str)) (s5 s6 s7 s8 s9 sa : Sl), m = wts (ss.length + 1) sp.length fr ∧ fd.length + m ≤ big ∧ (∀ r ∈ fd, ∃ s, Pth ss near r s ∧ s.getLast? = some far) ∧ (∀ w ∈ fr, Pth ss near w.1 w.2) ∧
    G = [.dat (.lst (ss.map stpD)), .dat (.str near), .dat (.str far), .own l (.lst (fd.map rowD)), .own l2 (.lst (fr.map wayD)), s5, s6, s7, s8, s9, sa]) (wts (ss.length + 1) sp.length [([], [near])]) ⟨[], [([], [near])], .emp, .emp, .emp, .emp, .emp, .emp, rfl, ?_, (fun r h => nomatch h), (fun w h => by rw [List.mem_singleton.mp h]; exact .nil), rfl⟩ ?_
  · show 0 + wts _ _ [([], [near])] ≤ big
    have e : wts (ss.length + 1) sp.length [([], [near])] = (ss.length + 1) ^ sp.length := by
      show (ss.length + 1) ^ (sp.length + 1 - 1) + 0 = _
      rw [Nat.add_sub_cancel, Nat.add_zero]
    rw [e, Nat.zero_add]; exact hbig
  · rintro m G ⟨fd, fr, s5, s6, s7, s8, s9, sa, rfl, hm, hfd, hfr, rfl⟩
    refine tx_test (ex_op (ex_lenO ⟨_, _, rfl, ?_⟩))
    repeat' tm_at "ex"
    refine ⟨fun hc => ?_, fun hc => ?_⟩
    · have hne0 : fr ≠ [] := fun z => by subst z; simp at hc
      obtain ⟨fr', w, rfl⟩ : ∃ fr' w, fr = fr' ++ [w] := ⟨_, _, (List.dropLast_concat_getLast hne0).symm⟩
      obtain ⟨r, s⟩ := w
      have hP : Pth ss near r s := hfr (r, s) (List.mem_append_right _ (List.mem_singleton.mpr rfl))
      have hfr' : ∀ w ∈ fr', Pth ss near w.1 w.2 := fun w hw => hfr w (List.mem_append_left _ hw)
      obtain ⟨g1, g2, g3⟩ := hP.good hn hb
      have hsl : s.length ≤ sp.length := nodup_len g1 g2
      obtain ⟨u, hu⟩ : ∃ u, s.getLast? = some u := by
        cases c : s.getLast? with
        | some u => exact ⟨u, rfl⟩
        | none =>
          rw [List.getLast?_eq_none_iff] at c
          subst c
          exfalso
          generalize hs0 : ([] : List Str) = s0 at hP
          cases hP with
          | nil => cases hs0
          | snoc => exact absurd hs0.symm (by simp)
      rw [wts_snoc] at hm
      rw [wts_snoc]
      refine sx_seq (sx_asg (ex_pop ⟨_, fr'.map wayD, wayD (r, s), by rw [List.map_append]; rfl, ?_⟩))
      repeat' tm_at "ex"
      have hix : L2.atI (s.map Dt.str) (-1) = some (.str u) := atI_last (by rw [List.getLast?_map, hu]; rfl)
      refine od_ix rfl hix ?_
      repeat' tm_at "ex"
      refine ⟨fun c => ?_, fun c => ?_⟩
      · have euf : u = far := by simpa using c
        subst euf
        refine sx_append ⟨_, _, rfl⟩ ?_ ⟨_, _, rfl⟩
        repeat' tm_at "ex"
        have hw1 := wt_pos (N := sp.length) hC (r, s)
        refine ⟨_, _, rfl, ?_, wts (ss.length + 1) sp.length fr', by omega, fd ++ [r], fr', .dat (rowD r), .dat (strsD s), s7, s8, s9, sa, rfl, ?_, fun r' hr' => ?_, hfr', ?_⟩
        · rw [List.length_map]; omega
        · rw [List.length_append, List.length_singleton]; omega
        · rcases List.mem_append.mp hr' with z | z
          · exact hfd r' z
          · rw [List.mem_singleton.mp z]; exact ⟨s, hP, hu⟩
        · rw [show (fd ++ [r]).map rowD = fd.map rowD ++ [rowD r] from List.map_append]; rfl
      · refine sx_forM ?_
        repeat' tm_at "ex"
        obtain ⟨w1, hw1⟩ : ∃ w1, w1 = (ss.length + 1) ^ (sp.length - s.length) := ⟨_, rfl⟩
        have hw : wt (ss.length + 1) sp.length (r, s) = w1 * (ss.length + 1) := by
          unfold wt
          rw [hw1, ← Nat.pow_succ, show sp.length + 1 - s.length = sp.length - s.length + 1 by omega]
        have hw0 : 1 ≤ w1 := by rw [hw1]; exact Nat.one_le_pow _ _ hC
        have hwt : ∀ x r', wt (ss.length + 1) sp.length (r', s ++ [x]) = w1 := fun x r' => by
          unfold wt
          rw [hw1, List.length_append, List.length_singleton, Nat.add_sub_add_right]
        rw [hw] at hm ⊢
        refine ⟨St, ss, stpD, fun i G => ∃ (fr : List (Row × List Str)) (s7 s8 s9 sa : Sl), wts (ss.length + 1) sp.length fr ≤ wts (ss.length + 1) sp.length fr' + i * w1 ∧ (∀ w ∈ fr, Pth ss near w.1 w.2) ∧
          G = [.dat (.lst (ss.map stpD)), .dat (.str near), .dat (.str far), .own l (.lst (fd.map rowD)), .own l2 (.lst (fr.map wayD)), .dat (rowD r), .dat (strsD s), s7, s8, s9, sa], rfl, ⟨fr', _, _, _, _, by omega, hfr', rfl⟩, ?_, ?_⟩
        · rintro i st G hst ⟨fr, s7, s8, s9, sa, h1, h2, rfl⟩
          have hil : i < ss.length := (List.getElem?_eq_some_iff.mp hst).1
          have hstm := List.mem_of_getElem? hst
          have hmul : i * w1 + w1 ≤ ss.length * w1 := by
            have := Nat.mul_le_mul_right w1 hil
            rwa [Nat.succ_mul] at this
          have hfl := wts_len (C := ss.length + 1) (N := sp.length) hC fr
          have hcm : w1 * (ss.length + 1) = ss.length * w1 + w1 := by rw [Nat.mul_comm, Nat.succ_mul]
          repeat' tm_at "ex"
          refine od_ix rfl hix ?_
          repeat' tm_at "ex"
          refine ⟨fun c1 => ?_, fun c1 => ?_⟩
          · repeat' tm_at "ex"
            refine od_inS (xs := s) rfl ?_
            rw [if_pos rfl]
            repeat' tm_at "ex"
            refine ⟨fun c2 => ?_, fun c2 => ?_⟩
            · refine sx_append ⟨_, _, rfl⟩ ?_ ⟨_, _, rfl⟩
              repeat' tm_at "ex"
              refine ⟨?_, ?_⟩
              · rw [List.length_append, List.length_map]
                have := hP.lens
                exact sz (by simp; omega)
              repeat' tm_at "ex"
              refine ⟨by rw [List.length_append, List.length_map]; exact sz (by simp; omega), ?_⟩
              repeat' tm_at "ex"
              have ea : st.a = u := by simpa using c1
              have eb : st.b ∉ s := by simpa using c2
              refine ⟨_, _, rfl, ?_, fr ++ [(r ++ [(st.name, st.way)], s ++ [st.b])], .dat (.str st.name), .dat (.int st.way), .dat (.str st.a), .dat (.str st.b), ?_, fun w hw' => ?_, ?_⟩
              · rw [List.length_map]; omega
              · rw [wts_snoc, hwt, Nat.succ_mul]; omega
              · rcases List.mem_append.mp hw' with z | z
                · exact h2 w z
                · rw [List.mem_singleton.mp z]; exact .snoc hP hstm hu ea eb
              · rw [List.map_append]
                show _ = [_, _, _, _, Sl.own l2 (.lst (fr.map wayD ++ [.tup [.tup ((r ++ [(st.name, st.way)]).map nwD), .tup ((s ++ [st.b]).map .str)]])), _, _, _, _, _, _]
                rw [List.map_append, List.map_append]
                rfl
            · repeat' tm_at "ex"
              exact ⟨fr, _, _, _, _, by rw [Nat.succ_mul]; omega, h2, rfl⟩
          · refine ⟨nofun, fun _ => ?_⟩
            repeat' tm_at "ex"
            exact ⟨fr, _, _, _, _, by rw [Nat.succ_mul]; omega, h2, rfl⟩
        · rintro G ⟨fr, s7, s8, s9, sa, h1, h2, rfl⟩
          have hcm : w1 * (ss.length + 1) = ss.length * w1 + w1 := by rw [Nat.mul_comm, Nat.succ_mul]
          refine ⟨wts (ss.length + 1) sp.length fr, ?_, fd, fr, _, _, _, _, _, _, rfl, ?_, hfd, h2, rfl⟩
          · omega
          · omega
    · have hfd0 : ∀ r ∈ fd, r ≠ [] ∧ ∀ p ∈ r, PyData.strOk p.1 = true := fun r hr => by
        obtain ⟨s, hP, hl⟩ := hfd r hr
        refine ⟨fun z => ?_, fun p hp => ?_⟩
        · subst z
          generalize hr0 : ([] : Row) = r0 at hP
          cases hP with
          | nil => exact hne (Option.some.inj hl)
          | snoc => exact absurd hr0.symm (by simp)
        · obtain ⟨st, hst, rfl⟩ := (hP.good hn hb).2.2 p hp
          exact hok st hst
      obtain ⟨rs, e1, e2⟩ := srt_rows (rows := fd)
      refine sx_ret (ex_cSort (ea_cons (ex_own rfl (ea_nil (cf_sort (sorts_rows (fun r hr => (hfd0 r hr).1) fun r hr => (hfd0 r hr).2) ?_)))))
      refine ⟨rs, by rw [e1], ?_, fun r hr => hfd r (e2.mem_iff.mp hr)⟩
      rw [e2.length_eq]; omega
/-! ### rings -/
theorem od_gtS {x y : Str} {Q : Dt → Prop} (p : Q (.bl (decide (y.cps.toList < x.cps.toList)))) : OD K (fun x y H Q => ∃ i j, x = .str i ∧ y = .str j ∧ Q (.bl (decide (j.cps.toList < i.cps.toList))) H) (.str x) (.str y) Q := fun H H1 a b W s r1 r2 k => by
  rw [r1.str_inv, r2.str_inv]
  exact ⟨x, y, rfl, rfl, k _ _ H H1 (Gr.refl s) (.bl _) p⟩
def Mill.above (M : Mill) (n : Str) : List St := M.steps.filter fun s => decide (n.cps.toList < s.name.cps.toList)
structure RingOk (M : Mill) (r : Row) : Prop where
  e : ∃ y ∈ M.ss, ∃ row s, r = (y.name, 1) :: row ∧ Pth M.steps y.other row s ∧ s.getLast? = some y.one
omit [B : Tb] in
theorem Pth.mono {ss ss' : List St} {near : Str} {r : Row} {s : List Str} (h : Pth ss near r s) (hs : ∀ st ∈ ss, st ∈ ss') : Pth ss' near r s := by
  induction h with
  | nil => exact .nil
  | snoc _ a b c d ih => exact .snoc ih (hs _ a) b c d
omit [B : Tb] in
theorem mem_steps {M : Mill} {st : St} (h : st ∈ M.steps) : ∃ y ∈ M.ss, st.name = y.name ∧ ((st.a = y.one ∧ st.b = y.other) ∨ (st.a = y.other ∧ st.b = y.one)) := by
  unfold Mill.steps at h
  obtain ⟨y, hy, h⟩ := List.mem_flatMap.mp h
  rcases List.mem_cons.mp h with rfl | h
  · exact ⟨y, hy, rfl, .inl ⟨rfl, rfl⟩⟩
  · rw [List.mem_singleton] at h
    subst h
    exact ⟨y, hy, rfl, .inr ⟨rfl, rfl⟩⟩
theorem sc_all_rings : FnScope ["mill", "steps", "found", "name", "one", "other", "late", "dial", "rows", "step", "row"] ["mill"] (defScope (top 39)) := ⟨rfl, rfl, rfl, by decide +kernel, rfl, by decide +kernel, by decide +kernel⟩
abbrev sp_all_rings (K : PySem.W.Frag) : Sp := SpP K (fun x : Mill × (Str → Int) => [milD x.1]) (fun x => x.1.Ok x.2 ∧ x.1.ss.length ≤ 6 ∧ x.1.ws.length ≤ 4 ∧ ∀ y ∈ x.1.ss, PyData.strOk y.name = true) (fun x d => ∃ rows : List Row, d = .lst (rows.map rowD) ∧ rows.length ≤ 6 * big ∧ ∀ r ∈ rows, RingOk x.1 r)
theorem ok_all_rings (T : Tx K mg) (c_tupled : Cal Pr w K mg base 4 "tupled" (sp_tupledT K)) (c_steps_of : Cal Pr w K mg base 5 "steps_of" (sp_steps_of K)) (c_rows_between : Cal Pr w K mg base 1 "rows_between" (sp_rows_between K)) (F : FnP K "all_rings" (top 39) f fd) : FnOk Pr w K mg base CX0 6 f fd ["mill"] (sp_all_rings K) := by
  have nd := sc_all_rings.nd
  refine fn_P F sc_all_rings (fun _ => rfl) (by decide) fun cdv A outer s H E hr => ⟨_, (pss_cons (ps_par (i := 1) (j := 2) rfl nd rfl rfl (by decide) rfl rfl (pa_cons (pe_c c_steps_of hr (by decide) rfl (pa_cons (pv 0) pa_nil)) (pa_cons (pe_lst pa_nil) pa_nil)) (by rfl))
    (pss_cons (ps_for PassesOwn.never rfl (piTK (K := K) (pe_c c_tupled hr (by decide) rfl (pa_cons (pe_ix (ixK (K := K)) (pv 0) pe_int (fun _ _ => rfl)) pa_nil))) (pg_tupK (K := K) (n := 5) rfl (pgs_cons (pgn (i := 3) nd rfl) (pgs_cons (pgn (i := 4) nd rfl) (pgs_cons (pgn (i := 5) nd rfl) (pgs_cons (pgn (i := 6) nd rfl) (pgs_cons (pgn (i := 7) nd rfl) pgs_nil)))))) (pss_cons (pst (i := 8) nd rfl (pe_c c_rows_between hr (by decide) rfl (pa_cons (pe_lc (own := [("step", 9)]) rfl nd (piLK (K := K) (pv 1)) (blkOk_by (by kernel_rfl)) (fun _ _ _ _ _ => (pgn (i := 9) nd rfl)) (fun _ _ _ _ _ => (pts_one (pt_cmpR op_gt_str (pe_ix (ixK (K := K)) (pv 9) pe_int (fun _ _ => rfl)) (pv 3) (nomark _)))) (fun _ _ _ _ _ => (pv 9))) (pa_cons (pv 5) (pa_cons (pv 4) pa_nil)))))
    (pss_one (ps_expr (pe_bm PySem.F.plainAttrs_list PySem.F.slot_list_extend PySem.F.type_list_extend mt_extend (pv 2) (pa_cons (pe_lc (own := [("row", 10)]) rfl nd (piLK (K := K) (pv 8)) (blkOk_by (by kernel_rfl)) (fun _ _ _ _ _ => (pgn (i := 10) nd rfl)) (fun _ _ _ _ _ => pts_nil) (fun _ _ _ _ _ => (pe_tup (pa_cons (pe_tup (pa_cons (pv 3) (pa_cons (pe_k T.ahead rfl) pa_nil))) (starK (K := K) (pv 10) pa_nil))))) pa_nil))))))
    (pss_one (ps_ret (pe_callB (cr_sortedDt hr.units70) rfl T.sorted_ bt_sorted (pa_cons (pv 2) pa_nil)))))), ?_⟩
  rintro ⟨M, b⟩ ⟨hM, hs, hw, hk⟩
  dsimp only at hM hs hw hk
  try dsimp only [cxOf]
  change SX K _ [.dat (milD M), .emp, .emp, .emp, .emp, .emp, .emp, .emp, .emp, .emp, .emp] _ _
  have hbs : 6 * big < sizeLine := by decide
  refine sx_seq (sx_parN (ex_call (ea_cons (ex_var (by with_unfolding_all exact rfl) (ea_nil ⟨M, rfl, hM.sh, ?_⟩)))))
  rintro d rfl
  refine ef_lst (ea_nil ⟨sz (by decide), fun l => ?_⟩)
  tm_at "ex"
  refine sx_forM (ix_tup ?_)
  repeat' tm_at "ex"
  refine ⟨M.ss.map Sy.row, by rw [List.map_map]; rfl, ⟨by rw [List.length_map]; omega, fun k hk => ?_⟩, ?_⟩
  · obtain ⟨y, hy, rfl⟩ := List.mem_map.mp hk
    simp [Sy.row]
  repeat' tm_at "ex"
  refine ⟨Sy, M.ss, syD, fun i G => ∃ (fd : List Row) (s3 s4 s5 s6 s7 s8 : Sl), fd.length ≤ i * big ∧ (∀ r ∈ fd, RingOk M r) ∧ G = [.dat (milD M), .dat (.lst (M.steps.map stpD)), .own l (.lst (fd.map rowD)), s3, s4, s5, s6, s7, s8, .emp, .emp], by rw [List.map_map]; rfl, ⟨[], .emp, .emp, .emp, .emp, .emp, .emp, Nat.zero_le _, (fun r h => nomatch h), rfl⟩, ?_, ?_⟩
  · rintro i y G hy ⟨fd, s3, s4, s5, s6, s7, s8, h1, h2, rfl⟩
    have hi := (List.getElem?_eq_some_iff.mp hy).1
    have hym := List.mem_of_getElem? hy
    have hyo := hM.ss y hym
    repeat' tm_at "ex"
    refine ex_of (ef_lcM (tch_name 9) (by decide) ?_)
    repeat' tm_at "ex"
    refine ⟨noOwn_of rfl, St, M.steps, stpD, fun s => if decide (y.name.cps.toList < s.name.cps.toList) = true then some (stpD s) else none, rfl, ?_, fun s hs' => ?_, ?_⟩
    · have := steps_len M.ss
      unfold Mill.steps
      rw [this]; exact sz (by omega)
    · unfold LcT
      repeat' tm_at "ex"
      refine od_gtS ?_
      repeat' tm_at "ex"
      refine ⟨fun h => ?_, fun h => ?_⟩
      · repeat' tm_at "ex"
        exact ⟨agr_wipe.set (by decide), if_pos h⟩
      · refine ⟨agr_wipe.set (by decide), if_neg ?_⟩
        rw [h]; simp
    rw [filterMap_if (fun s : St => decide (y.name.cps.toList < s.name.cps.toList)) stpD]
    repeat' tm_at "ex"
    have hst : ∀ st ∈ M.above y.name, st ∈ M.steps := fun st h => (List.mem_filter.mp h).1
    refine ⟨⟨M.above y.name, y.other, y.one, M.spots⟩, rfl, ⟨?_, hyo.other, Ne.symm hyo.ne, ?_, fun st h => ?_, fun st h => ?_⟩, ?_⟩
    · have h1 := steps_len M.ss
      have h2 : (M.above y.name).length ≤ M.steps.length := List.length_filter_le ..
      unfold Mill.steps at h2
      rw [h1] at h2
      show (M.above y.name).length ≤ 12
      omega
    · show M.spots.length ≤ 5
      simp [Mill.spots, Mill.names]; exact hw
    · obtain ⟨z, hz, _, c⟩ := mem_steps (hst st h)
      rcases c with c | c
      · rw [c.2]; exact (hM.ss z hz).other
      · rw [c.2]; exact (hM.ss z hz).one
    · obtain ⟨z, hz, e, _⟩ := mem_steps (hst st h)
      rw [e]; exact hk z hz
    rintro d ⟨rows, rfl, hr1, hr2⟩
    refine sx_extend ⟨_, _, rfl⟩ (ef_lcA (tch_name 10) (by decide) ?_)
    repeat' tm_at "ex"
    refine ⟨noOwn_of rfl, Row, rows, rowD, fun r => rowD ((y.name, 1) :: r), rfl, by omega, fun r hr => ?_, ?_⟩
    · have hlen : r.length ≤ 20 := by
        obtain ⟨s, hP, _⟩ := hr2 r hr
        have g := hP.good (sp := M.spots) hyo.other (fun st h => by
          obtain ⟨z, hz, _, c⟩ := mem_steps (hst st h)
          rcases c with c | c
          · rw [c.2]; exact (hM.ss z hz).other
          · rw [c.2]; exact (hM.ss z hz).one)
        have h3 := nodup_len g.1 g.2.1
        have h4 := hP.lens
        have h5 : M.spots.length ≤ 5 := by simp [Mill.spots, Mill.names]; exact hw
        omega
      repeat' tm_at "ex"
      refine ⟨by rw [List.append_nil, List.length_cons, List.length_map]; exact sz (by omega), ?_⟩
      repeat' tm_at "ex"
      refine ⟨agr_wipe.set (by decide), ?_⟩
      rw [List.append_nil]; rfl
    · refine ⟨_, _, _, rfl, rfl, ?_, fd ++ rows.map fun r => (y.name, 1) :: r, .dat (.str y.name), .dat (.str y.one), .dat (.str y.other), .dat (.int y.late), .dat (.int y.dial), .dat (.lst (rows.map rowD)), ?_, fun r hr => ?_, ?_⟩
      · rw [List.length_map, List.length_map]
        have := Nat.mul_le_mul_right big (show i + 1 ≤ 6 by omega)
        rw [Nat.succ_mul] at this
        omega
      · rw [List.length_append, List.length_map, Nat.succ_mul]; omega
      · rcases List.mem_append.mp hr with z | z
        · exact h2 r z
        · obtain ⟨row, hrow, rfl⟩ := List.mem_map.mp z
          obtain ⟨s, hP, hl⟩ := hr2 row hrow
          exact ⟨y, hym, row, s, rfl, hP.mono hst, hl⟩
      · rw [List.map_append, List.map_map]; rfl
  · rintro G ⟨fd, s3, s4, s5, s6, s7, s8, h1, h2, rfl⟩
    obtain ⟨rs, e1, e2⟩ := srt_rows (rows := fd)
    refine sx_ret (ex_cSort (ea_cons (ex_own rfl (ea_nil (cf_sort (sorts_rows (fun r hr => ?_) fun r hr p hp => ?_) ?_)))))
    · obtain ⟨y, _, row, s, rfl, _, _⟩ := (h2 r hr).e
      exact fun z => nomatch z
    · obtain ⟨y, hy, row, s, rfl, hP, _⟩ := (h2 r hr).e
      rcases List.mem_cons.mp hp with rfl | hp
      · exact hk y hy
      · obtain ⟨st, hst, rfl⟩ := (hP.good (sp := M.spots) (hM.ss y hy).other (fun st h => by
          obtain ⟨z, hz, _, c⟩ := mem_steps h
          rcases c with c | c
          · rw [c.2]; exact (hM.ss z hz).other
          · rw [c.2]; exact (hM.ss z hz).one)).2.2 p hp
        obtain ⟨z, hz, e, _⟩ := mem_steps hst
        show PyData.strOk st.name = true
        rw [e]; exact hk z hz
    · refine ⟨rs, by rw [e1], ?_, fun r hr => h2 r (e2.mem_iff.mp hr)⟩
      rw [e2.length_eq]
      have := Nat.mul_le_mul_right big hs
      omega
end

set_option Elab.async false
set_option linter.all false
set_option maxRecDepth 100000
set_option maxHeartbeats 1000000
section
open PySem L2
variable [B : Tb]
variable {Pr : Program} {w : World} {K : PySem.W.Frag} {mg : Str → Option Value} {base : Heap} {f : Addr} {fd : FuncData}

/-! ### begins laid -/
def addU (us : List Str) (n : Str) : List Str := if n ∈ us then us else us ++ [n]
def usAt (us0 ns : List Str) : List Str := ns.foldl addU ("" :: us0)
/-- the hidden begins are the least ones, one behind another -/
def Least (M : Mill) (b : Str → Int) (us0 : List Str) : Prop := ∀ (i : Nat) (n : Str), M.names[i]? = some n → n ∉ usAt us0 (M.names.take i) → lcmL M.D n (usAt us0 (M.names.take i)) = 0 ∨ (0 ≤ b n ∧ b n < lcmL M.D n (usAt us0 (M.names.take i)))
def Agree (M : Mill) (b k : Str → Int) (us : List Str) : Prop := ∀ u ∈ us, ∀ v ∈ us, M.D u v ∣ (k v - k u) - (b v - b u)
structure Ld where
  M : Mill
  b : Str → Int
  us : List Str
  k : Str → Int
structure Ld.Ok (t : Ld) : Prop where
  m : t.M.Ok t.b
  u : ∀ u ∈ t.us, u ∈ t.M.names
  nd : t.us.Nodup
  k0 : t.k "" = 0
  ag : Agree t.M t.b t.k ("" :: t.us)
structure Ld.Post (t : Ld) (k : Str → Int) : Prop where
  k0 : k "" = 0
  ext : ∀ u ∈ t.us, k u = t.k u
  ag : Agree t.M t.b k t.M.spots
  least : (∀ u ∈ ("" : Str) :: t.us, t.k u = t.b u) → Least t.M t.b t.us → ∀ u ∈ t.M.spots, k u = t.b u
omit [B : Tb] in
theorem mem_addU {us : List Str} {n x : Str} : x ∈ addU us n ↔ x ∈ us ∨ x = n := by
  unfold addU
  split
  · rename_i h
    exact ⟨.inl, fun z => z.elim id fun e => e ▸ h⟩
  · rw [List.mem_append, List.mem_singleton]
omit [B : Tb] in
theorem mem_usAt {us0 : List Str} {x : Str} : ∀ (ns : List Str) {us : List Str}, x ∈ ns.foldl addU us ↔ x ∈ us ∨ x ∈ ns
  | [], us => by simp
  | n :: ns, us => by
    rw [List.foldl_cons, mem_usAt (us0 := us0) ns, mem_addU, List.mem_cons]
    constructor
    · rintro ((h | h) | h)
      · exact .inl h
      · exact .inr (.inl h)
      · exact .inr (.inr h)
    · rintro (h | h | h)
      · exact .inl (.inl h)
      · exact .inl (.inr h)
      · exact .inr h
omit [B : Tb] in
theorem addU_nodup {us : List Str} {n : Str} (h : us.Nodup) : (addU us n).Nodup := by
  unfold addU
  split
  · exact h
  · rename_i c
    rw [List.nodup_append]
    refine ⟨h, by simp, fun x hx y hy => ?_⟩
    rw [List.mem_singleton.mp hy]
    exact fun z => c (z ▸ hx)
omit [B : Tb] in
theorem usAt_nodup : ∀ (ns : List Str) {us : List Str}, us.Nodup → (ns.foldl addU us).Nodup
  | [], _, h => h
  | n :: ns, _, h => usAt_nodup ns (addU_nodup h)
theorem look_tab_no {ns : List Str} {b : Str → Int} {n : Str} (h : n ∉ ns) : (tabF ns b).look (.str n) = some none := by
  show some (gk _ _) = _
  rw [gk_map_no (f := fun n => .int (b n)) h]
theorem put_tab_new {ns : List Str} {k : Str → Int} {n : Str} {z : Int} (hl : ns.length < sizeLine) (h : n ∉ ns) : (tabF ns k).put (.str n) (.int z) = some (tabF (ns ++ [n]) (updK k n z)) := by
  show (if _ then some (Dt.dk (pk _ _ _)) else none) = _
  rw [if_pos (by rw [List.length_map]; exact hl), pk_fresh (by rw [List.map_map]; intro z; obtain ⟨y, hy, e⟩ := List.mem_map.mp z; exact h (e ▸ hy))]
  show some (Dt.dk _) = some (Dt.dk ((ns ++ [n]).map fun x => (x, Dt.int (updK k n z x))))
  rw [List.map_append]
  have e : ns.map (fun x => (x, Dt.int (updK k n z x))) = ns.map fun x => (x, Dt.int (k x)) := List.map_congr_left fun x hx => by
    unfold updK
    rw [if_neg fun (e : x = n) => h (e ▸ hx)]
  rw [e]
  have e2 : updK k n z n = z := by unfold updK; rw [if_pos rfl]
  show some (Dt.dk (_ ++ [(n, Dt.int z)])) = some (Dt.dk (_ ++ [(n, Dt.int (updK k n z n))]))
  rw [e2]
abbrev begP (ns : List Str) (b : Str → Int) : Dt := .pt (ns.map fun n => .tup [.str n, .int (b n)])
theorem sc_laid_by : FnScope ["table", "names", "told", "known", "name"] ["table", "names", "told"] (defScope (top 64)) := ⟨rfl, rfl, rfl, by decide +kernel, rfl, by decide +kernel, by decide +kernel⟩
abbrev sp_laid_by (K : PySem.W.Frag) : Sp := SpP K (fun t : Ld => [tabM t.M t.b t.M.D, strsD t.M.names, tabF t.us t.k]) Ld.Ok (fun t d => ∃ k, d = begP t.M.names k ∧ t.Post k)
theorem ok_laid_by (T : Tx K mg) (c_left_class : Cal Pr w K mg base 4 "left_class" (sp_left_class K)) (F : FnP K "laid_by" (top 64) f fd) : FnOk Pr w K mg base CX0 5 f fd ["table", "names", "told"] (sp_laid_by K) := by
  have nd := sc_laid_by.nd
  refine fn_P F sc_laid_by (fun _ => rfl) (by decide) fun cdv A outer s H E hr => ⟨_, (pss_cons (pst (i := 3) nd rfl (pe_dispStar (pe_k T.crank rfl) pe_int (pv 2)))
    (pss_cons (ps_for PassesOwn.never rfl (piTK (K := K) (pv 1)) (pgn (i := 4) nd rfl) (pss_one (ps_if (pt_cmp (pc_dnotin hr.units1 (pv 4) (pv 3))) (pss_one (ps_dput hr.units1 (pv 3) (pv 4) (pe_ix (ixK (K := K)) (pe_c c_left_class hr (by decide) rfl (pa_cons (pv 0) (pa_cons (pv 3) (pa_cons (pv 4) pa_nil)))) pe_int (fun _ _ => rfl)) rfl)) pss_nil)))
    (pss_one (ps_ret (pe_callTy (tuplePK (K := K)) rfl T.tuple_ bt_tuple (pa_cons (pe_lc (own := [("name", 4)]) rfl nd (piTK (K := K) (pv 1)) (blkOk_by (by kernel_rfl)) (fun _ _ _ _ _ => (pgn (i := 4) nd rfl)) (fun _ _ _ _ _ => pts_nil) (fun _ _ _ _ _ => (pe_tup (pa_cons (pv 4) (pa_cons (pe_dget hr.units1 (pv 3) (pv 4) (fun _ _ => rfl)) pa_nil))))) pa_nil)))))), ?_⟩
  rintro ⟨M, b, us0, k0⟩ ⟨hM, hu, hnd, hk0, hag⟩
  dsimp only at hM hu hnd hk0 hag
  try dsimp only [cxOf]
  change SX K _ [.dat (tabM M b M.D), .dat (strsD M.names), .dat (tabF us0 k0), .emp, .emp] _ _
  have hnl : M.names.length ≤ 20 := by have := hM.sh.ws; simp [Mill.names]; exact this
  have hul : us0.length ≤ 20 := Nat.le_trans (nodup_len hnd hu) hnl
  have hmem : ∀ {x : Str} {ns : List Str}, x ∈ usAt us0 ns ↔ x ∈ ("" : Str) :: us0 ∨ x ∈ ns := fun {x ns} => mem_usAt (us0 := us0) ns
  have hsub : ∀ i, ∀ x ∈ usAt us0 (M.names.take i), x ∈ M.spots := fun i x hx => by
    rcases hmem.mp hx with z | z
    · rcases List.mem_cons.mp z with rfl | z
      · exact List.mem_cons_self ..
      · exact List.mem_cons_of_mem _ (hu x z)
    · exact List.mem_cons_of_mem _ (List.mem_of_mem_take z)
  have hund : ∀ i, (usAt us0 (M.names.take i)).Nodup := fun i => usAt_nodup _ (List.nodup_cons.mpr ⟨fun z => hM.nm.ne (hu _ z), hnd⟩)
  have hlen : ∀ i, (usAt us0 (M.names.take i)).length ≤ 21 := fun i => by
    have := nodup_len (hund i) (hsub i)
    have h2 : M.spots.length ≤ 21 := by simp [Mill.spots]; omega
    omega
  refine sx_seq (sx_new (ef_dispStar (ex_var (by with_unfolding_all exact rfl) ⟨_, rfl, ?_, fun l => ?_⟩)))
  · rw [List.length_map]; exact Nat.lt_of_le_of_lt hul (by decide)
  have et : mgk [(("" : Str), Dt.int 0)] (us0.map fun (n : Str) => (n, Dt.int (k0 n))) = (usAt us0 (M.names.take 0)).map fun (n : Str) => (n, Dt.int (k0 n)) := by
    have e2 : ((us0.map fun (n : Str) => (n, Dt.int (k0 n))).map (·.1)) = us0 := by rw [List.map_map]; exact List.map_id _
    rw [mgk_fresh (by rw [e2]; exact hnd) (by
      rw [e2]
      intro k hk z
      simp only [List.map_cons, List.map_nil, List.mem_singleton] at z
      subst z
      exact hM.nm.ne (hu _ hk))]
    show _ = (("" : Str), Dt.int (k0 "")) :: us0.map fun (n : Str) => (n, Dt.int (k0 n))
    rw [hk0]; rfl
  rw [et]
  tm_at "ex"
  refine sx_forM ?_
  repeat' tm_at "ex"
  refine ⟨Str, M.names, .str, fun i G => ∃ (k : Str → Int) (s4 : Sl), (∀ l d, s4 ≠ .own l d) ∧ (∀ u ∈ ("" : Str) :: us0, k u = k0 u) ∧ Agree M b k (usAt us0 (M.names.take i)) ∧ ((∀ u ∈ ("" : Str) :: us0, k0 u = b u) → Least M b us0 → ∀ u ∈ usAt us0 (M.names.take i), k u = b u) ∧
    G = [.dat (tabM M b M.D), .dat (strsD M.names), .dat (tabF us0 k0), .own l (tabF (usAt us0 (M.names.take i)) k), s4], rfl, ⟨k0, .emp, nofun, fun _ _ => rfl, hag, fun h _ => h, rfl⟩, ?_, ?_⟩
  · rintro i n G hn ⟨k, s4, h4, h1, h2, h3, rfl⟩
    have hi := (List.getElem?_eq_some_iff.mp hn).1
    have hns : n ∈ M.spots := List.mem_cons_of_mem _ (List.mem_of_getElem? hn)
    have eu : usAt us0 (M.names.take (i + 1)) = addU (usAt us0 (M.names.take i)) n := by unfold usAt; rw [take_snoc hn, List.foldl_append]; rfl
    have hs := hsub i
    have hl := hlen i
    have hL : Least M b us0 → n ∉ usAt us0 (M.names.take i) → lcmL M.D n (usAt us0 (M.names.take i)) = 0 ∨ (0 ≤ b n ∧ b n < lcmL M.D n (usAt us0 (M.names.take i))) := fun h => h i n hn
    have h0 : ∀ u ∈ ("" : Str) :: us0, u ∈ usAt us0 (M.names.take i) := fun u hu' => hmem.mpr (.inl hu')
    dsimp only
    rw [eu]
    clear eu
    generalize usAt us0 (M.names.take i) = us at h2 h3 hs hl hL h0 ⊢
    tm_at "gx"
    by_cases c : n ∈ us
    · refine sx_if (tx_test (ex_dnotinO (ex_var (by with_unfolding_all exact rfl) ⟨_, _, _, rfl, look_tab c, ?_⟩)))
      refine ⟨_, rfl, nofun, fun _ => ?_⟩
      repeat' tm_at "ex"
      have e : addU us n = us := by unfold addU; rw [if_pos c]
      rw [e]
      exact ⟨k, .dat (.str n), nofun, h1, h2, h3, rfl⟩
    · refine sx_if (tx_test (ex_dnotinO (ex_var (by with_unfolding_all exact rfl) ⟨_, _, _, rfl, look_tab_no c, ?_⟩)))
      refine ⟨_, rfl, fun _ => ?_, nofun⟩
      obtain ⟨x, hx⟩ := left_x hM hns hs h2
      refine sx_dput (ex_op (ex_callO1 (ex_var (by with_unfolding_all exact rfl) ⟨⟨_, _, rfl⟩, ea_cons (ex_var (by with_unfolding_all exact rfl) (ea_nil ⟨l, _, ⟨M, b, us, k, n, x⟩, rfl, rfl, rfl, ⟨hM, hs, hns, hx⟩, ?_⟩))⟩)))
      rintro d s' ⟨rfl, rfl⟩
      repeat' tm_at "ex"
      refine ⟨⟨_, _, rfl⟩, ?_⟩
      repeat' tm_at "ex"
      have e : addU us n = us ++ [n] := by unfold addU; rw [if_neg c]
      refine ⟨_, _, _, rfl, put_tab_new (Nat.lt_of_le_of_lt hl (by decide)) c, updK k n (resI x (lcmL M.D n us)), .dat (.str n), nofun, ?_, ?_, ?_, ?_⟩
      · intro u hu'
        unfold updK
        rw [if_neg fun (e : u = n) => c (e ▸ h0 u hu')]
        exact h1 u hu'
      · rw [e]; exact upd_ag hM hns hs c h2 hx
      · rw [e]
        intro g1 g2 u hu'
        have g3 := h3 g1 g2
        unfold updK
        rcases List.mem_append.mp hu' with z | z
        · rw [if_neg fun (e : u = n) => c (e ▸ z)]
          exact g3 u z
        · rw [List.mem_singleton.mp z, if_pos rfl]
          exact laid_eq hM g3 hx (hL g2 c)
      · rw [e]; rfl
  · rintro G ⟨k, s4, h4, h1, h2, h3, rfl⟩
    rw [List.take_length] at h2 h3 ⊢
    have hall : ∀ x ∈ M.spots, x ∈ usAt us0 M.names := fun x hx => by
      refine hmem.mpr ?_
      rcases List.mem_cons.mp hx with rfl | hx
      · exact .inl (List.mem_cons_self ..)
      · exact .inr hx
    generalize usAt us0 M.names = us at h2 h3 hall ⊢
    repeat' tm_at "ex"
    refine ex_of (ef_lcA (tch_name 4) (by decide) ?_)
    repeat' tm_at "ex"
    refine ⟨fun i hi l d e => (by rw [List.mem_singleton.mp hi] at e; exact h4 l d (Option.some.inj e)), Str, M.names, .str, fun n => .tup [.str n, .int (k n)], rfl, sz (by omega), fun x hx => ?_, ?_⟩
    · repeat' tm_at "ex"
      refine ⟨_, _, _, rfl, look_tab (hall x (List.mem_cons_of_mem _ hx)), ?_⟩
      repeat' tm_at "ex"
      exact ⟨agr_wipe.set (by decide), rfl⟩
    · refine ea_nil (cd_tupP (fun d hd => ?_) ⟨k, rfl, ?_⟩)
      · obtain ⟨x, _, rfl⟩ := List.mem_map.mp hd; rfl
      refine ⟨?_, fun u hu' => h1 u (List.mem_cons_of_mem _ hu'), fun u hu' v hv' => h2 u (hall u hu') v (hall v hv'), fun g1 g2 u hu' => h3 g1 g2 u (hall u hu')⟩
      rw [h1 "" (List.mem_cons_self ..)]; exact hk0
theorem sc_least_setting : FnScope ["mill"] ["mill"] (defScope (top 65)) := ⟨rfl, rfl, rfl, by decide +kernel, rfl, by decide +kernel, by decide +kernel⟩
abbrev sp_least_setting (K : PySem.W.Frag) : Sp := SpP K (fun x : Mill × (Str → Int) => [milD x.1]) (fun x => x.1.Ok x.2) (fun x d => ∃ k, d = begP x.1.names k ∧ Ld.Post ⟨x.1, x.2, [], fun _ => 0⟩ k)
theorem ok_least_setting (T : Tx K mg) (c_laid_by : Cal Pr w K mg base 5 "laid_by" (sp_laid_by K)) (c_class_table : Cal Pr w K mg base 6 "class_table" (sp_class_table K)) (c_wheel_names : Cal Pr w K mg base 1 "wheel_names" (sp_wheel_names K)) (F : FnP K "least_setting" (top 65) f fd) : FnOk Pr w K mg base CX0 7 f fd ["mill"] (sp_least_setting K) := by
  have nd := sc_least_setting.nd
  refine fn_P F sc_least_setting (fun _ => rfl) (by decide) fun cdv A outer s H E hr => ⟨_, (pss_one (ps_ret (pe_c c_laid_by hr (by decide) rfl (pa_cons (pe_c c_class_table hr (by decide) rfl (pa_cons (pv 0) pa_nil)) (pa_cons (pe_c c_wheel_names hr (by decide) rfl (pa_cons (pv 0) pa_nil)) (pa_cons pe_dnewK pa_nil)))))), ?_⟩
  rintro ⟨M, b⟩ hM
  dsimp only at hM
  try dsimp only [cxOf]
  change SX K _ [.dat (milD M)] _ _
  repeat' tm_at "ex"
  refine ⟨(M, b), rfl, hM, ?_⟩
  repeat' tm_at "ex"
  refine ⟨hM.sh, ?_⟩
  repeat' tm_at "ex"
  refine ex_of (ef_dnewK (ea_nil ?_))
  refine ⟨⟨M, b, [], fun _ => 0⟩, rfl, ⟨hM, (fun u h => nomatch h), List.nodup_nil, rfl, fun u hu v hv => ?_⟩, fun _ h => h⟩
  rw [List.mem_singleton.mp hu, List.mem_singleton.mp hv]
  have e : (0 : Int) - 0 - (b "" - b "") = 0 := by omega
  show M.D "" "" ∣ (0 : Int) - 0 - (b "" - b "")
  rw [e]
  exact Int.dvd_zero _
theorem sc_setting_with : FnScope ["mill", "begins", "table", "own"] ["mill", "begins"] (defScope (top 68)) := ⟨rfl, rfl, rfl, by decide +kernel, rfl, by decide +kernel, by decide +kernel⟩
abbrev sp_setting_with (K : PySem.W.Frag) : Sp := SpP K (fun x : Mill × (Str → Int) × (Str → Int) × List Str => [milD x.1, begF x.2.2.2 x.2.2.1]) (fun x => x.1.Ok x.2.1 ∧ Hd2 x.1 x.2.1 x.2.2.1 x.2.2.2 ∧ x.2.2.2.Nodup) (fun x d => ∃ k, d = begP x.1.names k ∧ Ld.Post ⟨x.1, x.2.1, x.2.2.2, x.2.2.1⟩ k)
theorem ok_setting_with (T : Tx K mg) (c_check_wheels : Cal Pr w K mg base 2 "check_wheels" (sp_check_wheels K)) (c_class_table : Cal Pr w K mg base 6 "class_table" (sp_class_table K)) (c_laid_by : Cal Pr w K mg base 5 "laid_by" (sp_laid_by K)) (c_hinders_by : Cal Pr w K mg base 5 "hinders_by" (sp_hinders_by K)) (c_wheel_names : Cal Pr w K mg base 1 "wheel_names" (sp_wheel_names K)) (c_tupled : Cal Pr w K mg base 4 "tupled" (sp_tupled K)) (F : FnP K "setting_with" (top 68) f fd) : FnOk Pr w K mg base CX0 7 f fd ["mill", "begins"] (sp_setting_with K) := by
  have nd := sc_setting_with.nd
  refine fn_P F sc_setting_with (fun _ => rfl) (by decide) fun cdv A outer s H E hr => ⟨_, (pss_cons (ps_expr (pe_c c_check_wheels hr (by decide) rfl (pa_cons (pv 0) (pa_cons (pe_lc (own := [("own", 3)]) rfl nd (piTK (K := K) (pv 1)) (blkOk_by (by kernel_rfl)) (fun _ _ _ _ _ => (pgn (i := 3) nd rfl)) (fun _ _ _ _ _ => pts_nil) (fun _ _ _ _ _ => (pe_ix (ixK (K := K)) (pv 3) pe_int (fun _ _ => rfl)))) pa_nil))))
    (pss_cons (pst (i := 2) nd rfl (pe_c c_class_table hr (by decide) rfl (pa_cons (pv 0) pa_nil)))
    (pss_cons (ps_if (pt_cmp (pc_notN (pe_c c_hinders_by hr (by decide) rfl (pa_cons (pv 2) (pa_cons (pv 1) pa_nil))))) (pss_one ps_never) pss_nil)
    (pss_one (ps_ret (pe_c c_laid_by hr (by decide) rfl (pa_cons (pv 2) (pa_cons (pe_c c_wheel_names hr (by decide) rfl (pa_cons (pv 0) pa_nil)) (pa_cons (pe_callTy (call_dictT rfl) rfl T.dict_ bt_dict (pa_cons (pe_c c_tupled hr (by decide) rfl (pa_cons (pv 1) pa_nil)) pa_nil)) pa_nil))))))))), ?_⟩
  rintro ⟨M, b, k, ns⟩ ⟨hM, hs, hnd⟩
  dsimp only at hM hs hnd
  try dsimp only [cxOf]
  change SX K _ [.dat (milD M), .dat (begF ns k), .emp, .emp] _ _
  repeat' tm_at "ex"
  refine ex_of (ef_lcA (tch_name 3) (by decide) ?_)
  repeat' tm_at "ex"
  refine ⟨noOwn_of rfl, Str, ns, fun n => .tup [.str n, .int (k n)], .str, rfl, sz (by have := hs.l; omega), fun x hx => ?_, ?_⟩
  · repeat' tm_at "ex"
    exact ⟨agr_wipe.set (by decide), rfl⟩
  repeat' tm_at "ex"
  refine ⟨(M, ns, _), rfl, ⟨hM.sh, rfl, hs.sub⟩, ?_⟩
  repeat' tm_at "ex"
  refine ⟨(M, b), rfl, hM, ?_⟩
  repeat' tm_at "ex"
  refine ⟨⟨hM, hs⟩, ?_⟩
  repeat' tm_at "ex"
  refine ⟨nofun, fun _ => ?_⟩
  repeat' tm_at "ex"
  refine ⟨hM.sh, ?_⟩
  repeat' tm_at "ex"
  refine ⟨ns.map fun n => [(Sum.inr n : Key), Sum.inl (k n)], by rw [begF_rows], ⟨by rw [List.length_map]; have := hs.l; omega, fun q hq => ?_⟩, ?_⟩
  · obtain ⟨n, _, rfl⟩ := List.mem_map.mp hq
    simp
  repeat' tm_at "ex"
  have e : (ns.map fun n => [(Sum.inr n : Key), Sum.inl (k n)]).map tD = ((ns.map fun n => (n, Dt.int (k n))).map fun p => Dt.tup [.str p.1, p.2]) := by
    rw [List.map_map, List.map_map]; rfl
  rw [e]
  have e2 : ((ns.map fun n => (n, Dt.int (k n))).map (·.1)) = ns := by rw [List.map_map]; exact List.map_id _
  refine cf_dictT ?_
  rw [mgk_fresh (kvs := []) (by rw [e2]; exact hnd) (by simp), List.nil_append]
  exact ea_nil ⟨⟨M, b, ns, k⟩, rfl, ⟨hM, hs.sub, hnd, hs.k0, hs.ag⟩, fun _ h => h⟩
end

set_option Elab.async false
set_option linter.all false
set_option maxRecDepth 100000
set_option maxHeartbeats 1000000
section
open PySem L2
variable [B : Tb]
variable {Pr : Program} {w : World} {K : PySem.W.Frag} {mg : Str → Option Value} {base : Heap} {f : Addr} {fd : FuncData}

/-! ### the law's own defs: numbers, draws -/
theorem sc__law_gcd : FnScope ["_law_one", "_law_two"] ["_law_one", "_law_two"] (defScope (top 78)) := ⟨rfl, rfl, rfl, by decide +kernel, rfl, by decide +kernel, by decide +kernel⟩
abbrev sp__law_gcd (K : PySem.W.Frag) : Sp := SpP K (fun x : Int × Int => [.int x.1, .int x.2]) (fun x => 0 ≤ x.1 ∧ 0 ≤ x.2) (fun x d => d = .int (Int.gcd x.1 x.2))
theorem ok__law_gcd (T : Tx K mg)  (F : FnP K "_law_gcd" (top 78) f fd) : FnOk Pr w K mg base CX0 1 f fd ["_law_one", "_law_two"] (sp__law_gcd K) := by
  have nd := sc__law_gcd.nd
  refine fn_P F sc__law_gcd (fun _ => rfl) (by decide) fun cdv A outer s H E hr => ⟨_, (pss_cons (ps_while PassesOwn.never (pt_cmpR op_ne (pv 1) pe_int (nomark _)) (pss_one (ps_par (i := 0) (j := 1) rfl nd rfl rfl (by decide) rfl rfl (pa_cons (pv 1) (pa_cons (pe_op op_mod (pv 0) (pv 1)) pa_nil)) (by rfl))))
    (pss_one (ps_ret (pe_callB call_abs rfl T.abs_ bt_abs (pa_cons (pv 0) pa_nil))))), ?_⟩
  rintro ⟨a0, b0⟩ ⟨ha0, hb0⟩
  dsimp only [cxOf]
  change SX K _ [.dat (.int a0), .dat (.int b0)] _ _
  tm_at "ex"
  refine sx_while (fun m G => ∃ a b : Int, G = [.dat (.int a), .dat (.int b)] ∧ 0 ≤ a ∧ 0 ≤ b ∧ m = b.toNat ∧ Int.gcd a b = Int.gcd a0 b0) _ ⟨a0, b0, rfl, ha0, hb0, rfl, rfl⟩ ?_
  rintro m _ ⟨a, b, rfl, ha, hb, rfl, hg⟩
  repeat' tm_at "ex"
  refine ⟨fun h => ?_, fun h => ?_⟩
  · have h : b ≠ 0 := by simpa using h
    refine sx_par ?_
    repeat' tm_at "ex"
    · show 0 < b
      omega
    · have h1 := Int.emod_nonneg a h
      have h2 := Int.emod_lt_of_pos a (show 0 < b by omega)
      exact ⟨(a % b).toNat, by omega, b, a % b, rfl, hb, h1, rfl, by rw [gcd_step ha (by omega), hg]⟩
  · have h : b = 0 := by simpa using h
    subst h
    repeat' tm_at "ex"
    refine cd_abs ?_
    show Dt.int _ = Dt.int _
    rw [if_neg (by omega), ← hg, Int.gcd_zero_right]
    congr 1
    omega
theorem sc__law_lcm : FnScope ["_law_one_so", "_law_two_so"] ["_law_one_so", "_law_two_so"] (defScope (top 80)) := ⟨rfl, rfl, rfl, by decide +kernel, rfl, by decide +kernel, by decide +kernel⟩
abbrev sp__law_lcm (K : PySem.W.Frag) : Sp := SpP K (fun x : Int × Int => [.int x.1, .int x.2]) (fun x => Dok x.1 ∧ Dok x.2) (fun x d => d = .int (Int.lcm x.1 x.2))
theorem ok__law_lcm (T : Tx K mg) (c__law_gcd : Cal Pr w K mg base 1 "_law_gcd" (sp__law_gcd K)) (F : FnP K "_law_lcm" (top 80) f fd) : FnOk Pr w K mg base CX0 2 f fd ["_law_one_so", "_law_two_so"] (sp__law_lcm K) := by
  have nd := sc__law_lcm.nd
  refine fn_P F sc__law_lcm (fun _ => rfl) (by decide) fun cdv A outer s H E hr => ⟨_, (pss_one (ps_ret (pe_ifExp (pt_cmpR op_eq (pe_op op_mul (pv 0) (pv 1)) pe_int (nomark _)) pe_int (pe_op op_mul (pe_op op_fdiv (pv 0) (pe_c c__law_gcd hr (by decide) rfl (pa_cons (pv 0) (pa_cons (pv 1) pa_nil)))) (pv 1))))), ?_⟩
  rintro ⟨a, b⟩ ⟨ha, hb⟩
  dsimp only at ha hb
  dsimp only [cxOf]
  change SX K _ [.dat (.int a), .dat (.int b)] _ _
  have a1 := ha.nn
  have a2 := ha.le
  have b1 := hb.nn
  have b2 := hb.le
  repeat' tm_at "ex"
  · exact .inl ⟨by omega, by omega⟩
  repeat' tm_at "ex"
  refine ⟨fun h => ?_, fun h => ?_⟩
  · have h := of_decide_eq_true h
    repeat' tm_at "ex"
    show Dt.int _ = Dt.int _
    congr 1
    rcases Int.mul_eq_zero.mp h with h | h
    · subst h; simp
    · subst h; simp
  · have h := of_decide_eq_false h
    have ha0 : a ≠ 0 := fun z => h (by rw [z]; exact Int.zero_mul b)
    have hb0 : b ≠ 0 := fun z => h (by rw [z]; exact Int.mul_zero a)
    repeat' tm_at "ex"
    refine ⟨⟨a1, b1⟩, fun d e => ?_⟩
    subst e
    dsimp only
    have g1 : 0 < (Int.gcd a b : Int) := by
      have := Int.gcd_pos_of_ne_zero_left b ha0
      omega
    have g2 : (Int.gcd a b : Int) ≤ a := Int.le_of_dvd (by omega) (Int.gcd_dvd_left ..)
    repeat' tm_at "ex"
    · exact ⟨g1, by omega⟩
    · exact .inr ⟨by omega, by omega⟩
    · rw [lcm_way (by omega) (by omega)]
/-! ### the source of draws -/
structure Tin where
  g : Int
  s : Int
  c : Int
abbrev tinD (t : Tin) : Dt := .lst [.int t.g, .int t.s, .int t.c]
theorem sc__law_take : FnScope ["_law_tin", "_law_top_so", "_law_once", "_law_far", "_law_twice", "_law_digit_so"] ["_law_tin", "_law_top_so"] (defScope (top 71)) := ⟨rfl, rfl, rfl, by decide +kernel, rfl, by decide +kernel, by decide +kernel⟩
abbrev sp__law_take (K : PySem.W.Frag) : Sp := SpO K 0 (fun x : Tin × Int => [.int x.2]) (fun x => tinD x.1) (fun x => (0 < x.2 ∧ x.2 ≤ 1000) ∧ 0 ≤ x.1.c ∧ x.1.c ≤ 1000000) (fun x d s => ∃ (i : Int) (t : Tin), d = .int i ∧ (0 ≤ i ∧ i < x.2) ∧ s = tinD t ∧ 0 ≤ t.c ∧ t.c ≤ x.1.c + 1)
theorem ok__law_take (T : Tx K mg)  (F : FnP K "_law_take" (top 71) f fd) : FnOk Pr w K mg base CX0 1 f fd ["_law_tin", "_law_top_so"] (sp__law_take K) := by
  have nd := sc__law_take.nd
  refine fn_O F sc__law_take (fun _ => rfl) (by decide) (by decide) fun cdv A outer s H E hr => ⟨_, (pss_cons (ps_if (pt_cmpR op_gt (pe_ix (ixK (K := K)) (pv 0) pe_int (fun _ _ => rfl)) pe_int (nomark _)) (pss_cons (pst (i := 5) nd rfl (pe_op op_mod (pe_callTy call_int1 rfl T.int_ bt_int (pa_cons (pe_ix (ixK (K := K)) (pv 0) pe_int (fun _ _ => rfl)) pa_nil)) (pv 1)))
    (pss_cons (ps_asg (pe_op op_fdiv (pe_ix (ixK (K := K)) (pv 0) pe_int (fun _ _ => rfl)) (pv 1)) (pg_sub (pv 0) pe_int set_list))
    (pss_one (ps_ret (pv 5))))) pss_nil)
    (pss_cons (ps_asg (pe_op op_add (pe_ix (ixK (K := K)) (pv 0) pe_int (fun _ _ => rfl)) pe_int) (pg_sub (pv 0) pe_int set_list))
    (pss_cons (pst (i := 2) nd rfl (pe_op op_mod (pe_callTy call_int1 rfl T.int_ bt_int (pa_cons (pe_op op_mul (pe_op op_add (pe_ix (ixK (K := K)) (pv 0) pe_int (fun _ _ => rfl)) (pe_op op_mul pe_int (pe_ix (ixK (K := K)) (pv 0) pe_int (fun _ _ => rfl)))) (pe_op op_add pe_int (pe_ix (ixK (K := K)) (pv 0) pe_int (fun _ _ => rfl)))) pa_nil)) pe_int))
    (pss_cons (pst (i := 3) nd rfl (pe_op op_add (pe_op op_mod (pe_callTy call_int1 rfl T.int_ bt_int (pa_cons (pv 2) pa_nil)) pe_int) pe_int))
    (pss_cons (pst (i := 4) nd rfl (pe_op op_mod (pe_callTy call_int1 rfl T.int_ bt_int (pa_cons (pe_op op_mul (pe_op op_add (pe_op op_add (pv 2) (pe_ix (ixK (K := K)) (pv 0) pe_int (fun _ _ => rfl))) (pe_op op_fdiv (pe_ix (ixK (K := K)) (pv 0) pe_int (fun _ _ => rfl)) pe_int)) (pv 3)) pa_nil)) pe_int))
    (pss_one (ps_ret (pe_op op_mod (pe_callTy call_int1 rfl T.int_ bt_int (pa_cons (pe_op op_fdiv (pe_op op_mod (pe_callTy call_int1 rfl T.int_ bt_int (pa_cons (pe_op op_add (pe_op op_mul (pv 4) pe_int) (pv 2)) pa_nil)) pe_int) pe_int) pa_nil)) (pv 1))))))))), ?_⟩
  rintro ⟨⟨g, s0, c⟩, top⟩ ⟨⟨ht, ht2⟩, hc, hc2⟩ l
  dsimp only at ht ht2 hc hc2
  try dsimp only [cxOf]
  change SX K _ [.own l (.lst [.int g, .int s0, .int c]), .dat (.int top), .emp, .emp, .emp, .emp] _ _
  have mod1 := fun x : Int => Int.emod_nonneg x (show top ≠ 0 by omega)
  have mod2 := fun x : Int => Int.emod_lt_of_pos x ht
  repeat' tm_at "tk"
  refine ⟨fun hg => ?_, fun hg => ?_⟩
  · repeat' tm_at "tk"
    · exact ht
    · exact ⟨ht, by omega⟩
    exact ⟨g % top, ⟨g / top, s0, c⟩, rfl, ⟨mod1 g, mod2 g⟩, rfl, hc, by show c ≤ c + 1; omega⟩
  · repeat' tm_at "tk"
    · exact .inl ⟨by decide, by decide⟩
    · exact .inr ⟨by omega, by omega⟩
    · decide
    · decide
    · exact ⟨by decide, by decide⟩
    · have h1 := Int.emod_nonneg ((s0 + 48271 * (c + 1)) * (39373 + (c + 1)) % 2147483647) (show (40009 : Int) ≠ 0 by decide)
      have h2 := Int.emod_lt_of_pos ((s0 + 48271 * (c + 1)) * (39373 + (c + 1)) % 2147483647) (show (0 : Int) < 40009 by decide)
      exact .inr ⟨by omega, by omega⟩
    · decide
    · exact .inr ⟨by decide, by decide⟩
    · decide
    · exact ⟨by decide, by decide⟩
    · exact ht
    · exact ⟨_, ⟨g, s0, c + 1⟩, rfl, ⟨mod1 _, mod2 _⟩, rfl, by show 0 ≤ c + 1; omega, Int.le_refl _⟩
theorem sc__law_of : FnScope ["_law_tin", "_law_lot"] ["_law_tin", "_law_lot"] (defScope (top 73)) := ⟨rfl, rfl, rfl, by decide +kernel, rfl, by decide +kernel, by decide +kernel⟩
abbrev sp__law_of (K : PySem.W.Frag) : Sp := SpO K 0 (fun x : Tin × List Dt × Dt => [x.2.2]) (fun x => tinD x.1) (fun x => (x.2.2.seq = some x.2.1 ∧ 0 < x.2.1.length ∧ x.2.1.length ≤ 1000) ∧ 0 ≤ x.1.c ∧ x.1.c ≤ 1000000) (fun x d s => ∃ (t : Tin), d ∈ x.2.1 ∧ s = tinD t ∧ 0 ≤ t.c ∧ t.c ≤ x.1.c + 1)
theorem ok__law_of (T : Tx K mg) (c__law_take : Cal Pr w K mg base 1 "_law_take" (sp__law_take K)) (F : FnP K "_law_of" (top 73) f fd) : FnOk Pr w K mg base CX0 2 f fd ["_law_tin", "_law_lot"] (sp__law_of K) := by
  have nd := sc__law_of.nd
  refine fn_O F sc__law_of (fun _ => rfl) (by decide) (by decide) fun cdv A outer s H E hr => ⟨_, (pss_one (ps_ret (pe_ix (ixK (K := K)) (pv 1) (pe_c c__law_take hr (by decide) rfl (pa_cons (pv 0) (pa_cons (pe_callB (lenK (K := K)) rfl T.len_ bt_len (pa_cons (pv 1) pa_nil)) pa_nil))) (fun _ _ => rfl)))), ?_⟩
  rintro ⟨t, ds, d0⟩ ⟨⟨hs, hp, hl⟩, hc, hc2⟩ l
  dsimp only at hs hp hl hc hc2
  try dsimp only [cxOf]
  change SX K _ [.own l (tinD t), .dat d0] _ _
  refine sx_ret (ex_op (ex_var (by with_unfolding_all exact rfl) (ex_callO ⟨_, _, rfl⟩ ?_)))
  repeat' tm_at "ex"
  refine cd_len hs ?_
  repeat' tm_at "ex"
  refine ⟨l, _, (t, (ds.length : Int)), rfl, rfl, rfl, ⟨⟨by show (0 : Int) < (ds.length : Int); omega, by show (ds.length : Int) ≤ 1000; omega⟩, hc, hc2⟩, ?_⟩
  rintro d s' ⟨i, t', rfl, ⟨i0, i1⟩, rfl, h1, h2⟩
  dsimp only at i1
  obtain ⟨x, hx⟩ : ∃ x, ds[i.toNat]? = some x := ⟨_, List.getElem?_eq_getElem (by omega)⟩
  refine od_ix hs (d := x) ?_ ?_
  · unfold L2.atI L2.ixN
    rw [if_pos i0, if_pos i1]
    exact hx
  · exact ⟨_, rfl, t', List.mem_of_getElem? hx, rfl, h1, h2⟩
omit [B : Tb] in
theorem erase_perm {α : Type} {y : α} : ∀ {l : List α} {k : Nat}, l[k]? = some y → ([y] ++ l.eraseIdx k).Perm l
  | [], _, h => by simp at h
  | x :: l, 0, h => by
    have e : x = y := by simpa using h
    subst e
    exact List.Perm.refl _
  | x :: l, k + 1, h => by
    have ih := erase_perm (l := l) (k := k) (y := y) (by simpa using h)
    show (y :: x :: l.eraseIdx k).Perm (x :: l)
    exact (List.Perm.swap x y _).trans (List.Perm.cons x ih)
theorem sc__law_pick : FnScope ["_law_tin", "_law_lot", "_law_many", "_law_turn", "_law_left_so", "_law_found"] ["_law_tin", "_law_lot", "_law_many"] (defScope (top 74)) := ⟨rfl, rfl, rfl, by decide +kernel, rfl, by decide +kernel, by decide +kernel⟩
abbrev sp__law_pick (K : PySem.W.Frag) : Sp := SpO K 0 (fun x : Tin × List Dt × Dt × Int => [x.2.2.1, .int x.2.2.2]) (fun x => tinD x.1) (fun x => (x.2.2.1.seq = some x.2.1 ∧ x.2.1.length ≤ 1000 ∧ 0 ≤ x.2.2.2 ∧ x.2.2.2 ≤ 1000) ∧ 0 ≤ x.1.c ∧ x.1.c ≤ 900000)
  (fun x d s => ∃ (t : Tin) (xs rest : List Dt), d = .lst xs ∧ (xs ++ rest).Perm x.2.1 ∧ (xs.length : Int) = min x.2.2.2 x.2.1.length ∧ s = tinD t ∧ 0 ≤ t.c ∧ t.c ≤ x.1.c + xs.length)
theorem ok__law_pick (T : Tx K mg) (c__law_take : Cal Pr w K mg base 1 "_law_take" (sp__law_take K)) (F : FnP K "_law_pick" (top 74) f fd) : FnOk Pr w K mg base CX0 2 f fd ["_law_tin", "_law_lot", "_law_many"] (sp__law_pick K) := by
  have nd := sc__law_pick.nd
  refine fn_O F sc__law_pick (fun _ => rfl) (by decide) (by decide) fun cdv A outer s H E hr => ⟨_, (pss_cons (ps_par (i := 4) (j := 5) rfl nd rfl rfl (by decide) rfl rfl (pa_cons (pe_callTy (listK (K := K)) rfl T.list_ bt_list (pa_cons (pv 1) pa_nil)) (pa_cons (pe_lst pa_nil) pa_nil)) (by rfl))
    (pss_cons (ps_for PassesOwn.never rfl (pi_range1 rfl T.range_ (pa_cons (pe_callB (call_min2 rfl) rfl T.min_ bt_min (pa_cons (pe_callTy call_int1 rfl T.int_ bt_int (pa_cons (pv 2) pa_nil)) (pa_cons (pe_callB (lenK (K := K)) rfl T.len_ bt_len (pa_cons (pv 4) pa_nil)) pa_nil))) pa_nil)) (pgn (i := 3) nd rfl) (pss_one (ps_expr (pe_bm PySem.F.plainAttrs_list PySem.F.slot_list_append PySem.F.type_list_append mt_append (pv 5) (pa_cons (pe_bm PySem.F.plainAttrs_list PySem.F.slot_list_pop PySem.F.type_list_pop mt_popAt (pv 4) (pa_cons (pe_c c__law_take hr (by decide) rfl (pa_cons (pv 0) (pa_cons (pe_callB (lenK (K := K)) rfl T.len_ bt_len (pa_cons (pv 4) pa_nil)) pa_nil))) pa_nil)) pa_nil)))))
    (pss_one (ps_ret (pv 5))))), ?_⟩
  rintro ⟨t, ds, d0, many⟩ ⟨⟨hs, hl, hm, hm2⟩, hc, hc2⟩ l
  dsimp only at hs hl hm hm2 hc hc2
  try dsimp only [cxOf]
  change SX K _ [.own l (tinD t), .dat d0, .dat (.int many), .emp, .emp, .emp] _ _
  have hz : 1000 < sizeLine := by decide
  refine sx_seq (sx_parNN (ef_cb (ea_cons (ex_var (by with_unfolding_all exact rfl) (ea_nil (cf_list hs ?_))))))
  refine ef_lst (ea_nil ⟨sz (by decide), fun l2 l3 => ?_⟩)
  refine sx_seq (sx_for (ix_rng1 (ea_cons (ex_cb ?_))))
  refine ea_cons (ex_cb (ea_cons (ex_var (by with_unfolding_all exact rfl) (ea_nil (cd_intI ?_)))))
  refine ea_cons (ex_lenO ⟨_, _, rfl, ?_⟩)
  refine ea_nil (cd_min (ea_nil ?_))
  obtain ⟨j, hj⟩ : ∃ j : Int, j = if (ds.length : Int) < many then (ds.length : Int) else many := ⟨_, rfl⟩
  rw [← hj]
  have hj0 : 0 ≤ j ∧ j ≤ ds.length ∧ j = min many ds.length := by
    rw [hj]
    split <;> omega
  refine ⟨j, rfl, by omega, by omega, ?_⟩
  refine ⟨fun i G => ∃ (t' : Tin) (xs left : List Dt) (s3 : Sl), (xs ++ left).Perm ds ∧ xs.length = i ∧ 0 ≤ t'.c ∧ t'.c ≤ t.c + i ∧ G = [.own l (tinD t'), .dat d0, .dat (.int many), s3, .own l2 (.lst left), .own l3 (.lst xs)], ⟨t, [], ds, .emp, List.Perm.refl _, rfl, hc, by omega, rfl⟩, ?_, ?_⟩
  · rintro i d G hi ⟨t', xs, left, s3, hp, hx, h1, h2, rfl⟩
    have hil : i < j.toNat := by
      have := (List.getElem?_eq_some_iff.mp hi).1
      simpa [rgD] using this
    have hlen := hp.length_eq
    rw [List.length_append] at hlen
    refine gx_name ?_
    refine sx_append ⟨_, _, rfl⟩ ?_ ⟨_, _, rfl⟩
    refine ex_popAt ⟨_, _, rfl⟩ ?_
    refine ex_callO ⟨_, _, rfl⟩ ?_
    refine ea_cons (ex_lenO ⟨_, _, rfl, ?_⟩)
    refine ea_nil ⟨l, _, (t', (left.length : Int)), rfl, rfl, rfl, ⟨⟨by show (0 : Int) < (left.length : Int); omega, by show (left.length : Int) ≤ 1000; omega⟩, h1, by show t'.c ≤ 1000000; omega⟩, ?_⟩
    rintro d s' ⟨k, t2, rfl, ⟨k0, k1⟩, rfl, h3, h4⟩
    dsimp only at k1 h4
    obtain ⟨y, hy⟩ : ∃ y, left[k.toNat]? = some y := ⟨_, List.getElem?_eq_getElem (by omega)⟩
    refine ⟨_, _, k, y, rfl, rfl, k0, k1, by omega, hy, _, _, rfl, by omega, t2, xs ++ [y], left.eraseIdx k.toNat, _, ?_, by rw [List.length_append, hx]; rfl, h3, by omega, rfl⟩
    refine List.Perm.trans ?_ hp
    rw [List.append_assoc]
    refine List.Perm.append_left xs ?_
    exact erase_perm hy
  · rintro G ⟨t', xs, left, s3, hp, hx, h1, h2, rfl⟩
    have hrl : (rgD 0 j.toNat).length = j.toNat := by simp [rgD]
    rw [hrl] at hx h2
    refine sx_ret (ex_own rfl ?_)
    exact ⟨_, rfl, t', xs, left, rfl, hp, by omega, rfl, h1, by omega⟩
def kitM : Mill := ⟨[⟨"a", 12, 1⟩, ⟨"b", 8, 1⟩, ⟨"c", 6, 1⟩, ⟨"d", 5, 1⟩], [⟨"p", "a", "b", 3, 12⟩, ⟨"q", "b", "c", 2, 4⟩, ⟨"r", "a", "c", 5, 6⟩, ⟨"s", "d", "", 7, 0⟩]⟩
theorem sc__law_kit : FnScope ["_law_hubs"] [] (defScope (top 79)) := ⟨rfl, rfl, rfl, by decide +kernel, rfl, by decide +kernel, by decide +kernel⟩
abbrev sp__law_kit (K : PySem.W.Frag) : Sp := SpP K (fun _ : Unit => []) (fun _ => True) (fun _ d => d = milD kitM)
theorem ok__law_kit (T : Tx K mg)  (F : FnP K "_law_kit" (top 79) f fd) : FnOk Pr w K mg base CX0 1 f fd [] (sp__law_kit K) := by
  have nd := sc__law_kit.nd
  refine fn_P F sc__law_kit (fun _ => rfl) (by decide) fun cdv A outer s H E hr => ⟨_, (pss_cons (pst (i := 0) nd rfl (pe_tup (pa_cons (pe_tup (pa_cons pe_str (pa_cons pe_int (pa_cons pe_int pa_nil)))) (pa_cons (pe_tup (pa_cons pe_str (pa_cons pe_int (pa_cons pe_int pa_nil)))) (pa_cons (pe_tup (pa_cons pe_str (pa_cons pe_int (pa_cons pe_int pa_nil)))) (pa_cons (pe_tup (pa_cons pe_str (pa_cons pe_int (pa_cons pe_int pa_nil)))) pa_nil))))))
    (pss_one (ps_ret (pe_tup (pa_cons (pv 0) (pa_cons (pe_tup (pa_cons (pe_tup (pa_cons pe_str (pa_cons pe_str (pa_cons pe_str (pa_cons pe_int (pa_cons pe_int pa_nil)))))) (pa_cons (pe_tup (pa_cons pe_str (pa_cons pe_str (pa_cons pe_str (pa_cons pe_int (pa_cons pe_int pa_nil)))))) (pa_cons (pe_tup (pa_cons pe_str (pa_cons pe_str (pa_cons pe_str (pa_cons pe_int (pa_cons pe_int pa_nil)))))) (pa_cons (pe_tup (pa_cons pe_str (pa_cons pe_str (pa_cons pe_str (pa_cons pe_int (pa_cons pe_int pa_nil)))))) pa_nil))))) pa_nil)))))), ?_⟩
  rintro ⟨⟩ _
  try dsimp only [cxOf]
  change SX K _ [.emp] _ _
  repeat' tm_at "ex"
  rfl
theorem sc__law_box : FnScope ["_law_script", "_law_k", "_law_great_so"] ["_law_script", "_law_k"] (defScope (top 70)) := ⟨rfl, rfl, rfl, by decide +kernel, rfl, by decide +kernel, by decide +kernel⟩
abbrev sp__law_box (K : PySem.W.Frag) : Sp := SpN K (fun x : List Int × Int => [.lst (x.1.map .int), .int x.2]) (fun x => 0 ≤ x.2) (fun x d => ∃ t : Tin, d = tinD t ∧ t.c = 0)
theorem ok__law_box (T : Tx K mg)  (F : FnP K "_law_box" (top 70) f fd) : FnOk Pr w K mg base CX0 1 f fd ["_law_script", "_law_k"] (sp__law_box K) := by
  have nd := sc__law_box.nd
  refine fn_N F sc__law_box (fun _ => rfl) (by decide) fun cdv A outer s H E hr => ⟨_, (pss_cons (pst (i := 2) nd rfl (pe_ifExp (pt_cmpR op_lt (pv 1) (pe_callB (lenK (K := K)) rfl T.len_ bt_len (pa_cons (pv 0) pa_nil)) (nomark _)) (pe_ix (ixK (K := K)) (pv 0) (pv 1) (fun _ _ => rfl)) pe_int))
    (pss_one (ps_ret (pe_lst (pa_cons (pe_op op_mul (pe_callB call_abs rfl T.abs_ bt_abs (pa_cons (pv 2) pa_nil)) (pe_callTy call_int1 rfl T.int_ bt_int (pa_cons (pe_cmpR op_ge (pe_callB call_abs rfl T.abs_ bt_abs (pa_cons (pv 2) pa_nil)) (pe_op op_pow pe_int pe_int) (nomark _)) pa_nil))) (pa_cons (pe_op op_add (pe_op op_add (pe_op op_mod (pe_callTy call_int1 rfl T.int_ bt_int (pa_cons (pv 2) pa_nil)) pe_int) (pe_op op_mul pe_int (pv 1))) pe_int) (pa_cons pe_int pa_nil))))))), ?_⟩
  rintro ⟨ns, k⟩ hk
  dsimp only at hk
  try dsimp only [cxOf]
  change SXF K _ [.dat (.lst (ns.map .int)), .dat (.int k), .emp] _
  refine sxf_seq (sx_set (EX.imp (P := fun d G1 => ∃ g : Int, d = .int g ∧ G1 = [.dat (.lst (ns.map .int)), .dat (.int k), .emp]) ?_ ?_))
  · repeat' tm_at "ex"
    refine ⟨fun h => ?_, fun h => ?_⟩
    · have h := of_decide_eq_true h
      rw [List.length_map] at h
      obtain ⟨g, hg⟩ : ∃ g, ns[k.toNat]? = some g := ⟨_, List.getElem?_eq_getElem (by omega)⟩
      refine ex_op (ex_var (by with_unfolding_all exact rfl) (ex_var (by with_unfolding_all exact rfl) (od_ix (d := .int g) rfl ?_ ⟨g, rfl, rfl⟩)))
      unfold L2.atI L2.ixN
      rw [if_pos hk, List.length_map, if_pos h]
      show (ns.map Dt.int)[k.toNat]? = _
      rw [List.getElem?_map, hg]; rfl
    · repeat' tm_at "ex"
      rfl
  · rintro d G1 ⟨g, rfl, rfl⟩
    refine sxf_retF (ef_lst (ea_cons (ex_op (ex_cb ?_))))
    repeat' tm_at "ex"
    refine cd_abs ?_
    repeat' tm_at "ex"
    refine cd_abs ?_
    repeat' tm_at "ex"
    · exact ⟨by decide, by decide, by decide⟩
    refine cd_intB ?_
    repeat' tm_at "ex"
    · generalize decide ((10 : Int) ^ Int.toNat 18 ≤ _) = b
      cases b <;> exact .inr ⟨by decide, by decide⟩
    repeat' tm_at "tk"
    · decide
    · exact .inl ⟨by decide, by decide⟩
    · exact ⟨⟨_, _, 0⟩, rfl, rfl⟩
theorem ef_orT {G : List Sl} {P : Dt → List Sl → Prop} {ta tb : TE} (h : EF K ta G fun d G1 => ∃ ds, d = .lst ds ∧ (ds ≠ [] → P d G1) ∧ (ds = [] → EF K tb G1 P)) : EF K (tOrT K ta tb) G P := fun H0 F H H1 σ Q I q =>
  h H0 F H H1 σ _ I fun p d u G1 Ha Hb I1 s1 a1 a2 a3 a4 ⟨ds, e, h1, h2⟩ => by
    subst e
    obtain ⟨xs, rfl, r⟩ := a4.lst_inv
    refine ⟨!ds.isEmpty, .inl ⟨xs, SqL.of a3, by rw [r.emp]⟩, ?_⟩
    cases ds with
    | cons y ys => exact q p _ _ G1 Ha Hb I1 s1 a1 a2 a3 a4 (h1 nofun)
    | nil => exact h2 rfl H0 F Ha Hb σ Q I1 fun p' d u G' H' H2 I' s b1 b2 b3 b4 z => q p' d u G' H' H2 I' (s1.trans s) (stp_fresh s1 b1) b2 b3 b4 z
theorem sc__law_cells : FnScope ["_law_script", "_law_roof_so", "_law_row_so", "_law_k", "_law_bit_so"] ["_law_script", "_law_roof_so"] (defScope (top 72)) := ⟨rfl, rfl, rfl, by decide +kernel, rfl, by decide +kernel, by decide +kernel⟩
abbrev sp__law_cells (K : PySem.W.Frag) : Sp := SpP K (fun ns : List Int => [.fl ns, .int 2]) (fun ns => ns.length ≤ 100) (fun ns d => ∃ ms : List Int, d = .lst (ms.map .int) ∧ 1 ≤ ms.length ∧ ms.length ≤ 2)
theorem ok__law_cells (T : Tx K mg)  (F : FnP K "_law_cells" (top 72) f fd) : FnOk Pr w K mg base CX0 1 f fd ["_law_script", "_law_roof_so"] (sp__law_cells K) := by
  have nd := sc__law_cells.nd
  refine fn_P F sc__law_cells (fun _ => rfl) (by decide) fun cdv A outer s H E hr => ⟨_, (pss_cons (pst (i := 2) nd rfl (pe_orT (pe_callTy (listK (K := K)) rfl T.list_ bt_list (pa_cons (pe_slice (slLK (K := K)) (pv 0) po_none (po_some (pv 1))) pa_nil)) (pe_one (pe_lst (pa_cons pe_int pa_nil)))))
    (pss_cons (ps_for PassesOwn.never rfl (pi_enum (by rfl) T.enumerate_ (pa_cons (pe_slice (slLK (K := K)) (pv 0) (po_some (pv 1)) (po_some pe_int)) pa_nil)) (pg_tupK (K := K) (n := 2) rfl (pgs_cons (pgn (i := 3) nd rfl) (pgs_cons (pgn (i := 4) nd rfl) pgs_nil))) (pss_one (ps_asg (pe_op op_add (pe_ix (ixK (K := K)) (pv 2) (pe_op op_mod (pe_callTy call_int1 rfl T.int_ bt_int (pa_cons (pv 3) pa_nil)) (pv 1)) (fun _ _ => rfl)) (pe_op op_mul (pv 4) (pe_op op_add (pv 3) pe_int))) (pg_sub (pv 2) (pe_op op_mod (pe_callTy call_int1 rfl T.int_ bt_int (pa_cons (pv 3) pa_nil)) (pv 1)) set_list))))
    (pss_one (ps_ret (pv 2))))), ?_⟩
  rintro ns hl
  try dsimp only [cxOf]
  change SX K _ [.dat (.fl ns), .dat (.int 2), .emp, .emp, .emp] _ _
  have hl100 : ns.length ≤ 100 := hl
  refine sx_seq (sx_new (EF.imp (P := fun d G1 => ∃ ms : List Int, d = .lst (ms.map .int) ∧ 1 ≤ ms.length ∧ ms.length ≤ 2 ∧ (2 < ns.length → ms.length = 2) ∧ G1 = [.dat (.fl ns), .dat (.int 2), .emp, .emp, .emp]) ?_ ?_))
  · refine ef_orT (ef_cb (ea_cons (ex_of (ef_slFl ?_))))
    repeat' tm_at "ex"
    have hcut : cutD ns none (some 2) = ns.take 2 := cut_to ns 2
    rw [hcut]
    refine cf_list rfl ⟨_, rfl, fun h => ?_, fun h => ?_⟩
    · have h1 : ns ≠ [] := fun z => h (by rw [z]; rfl)
      have h2 := List.length_pos_iff.mpr h1
      exact ⟨ns.take 2, rfl, by rw [List.length_take]; omega, by rw [List.length_take]; omega, fun h3 => by rw [List.length_take]; omega, rfl⟩
    · have h1 : ns = [] := by
        cases ns with
        | nil => rfl
        | cons x xs => simp at h
      refine ef_lst ?_
      repeat' tm_at "ex"
      exact ⟨[0], rfl, Nat.le_refl _, by decide, fun h3 => (by rw [h1] at h3; exact absurd h3 (by decide)), rfl⟩
  · rintro d G1 ⟨ms, rfl, m1, m2, m3, rfl⟩ l
    tm_at "ex"
    refine sx_for (ix_enum (ea_cons (ex_of (ef_slFl ?_))))
    repeat' tm_at "ex"
    have hlt : ∀ i, i < (cutD ns (some 2) (some 63)).length → 2 < ns.length := fun i h => by
      unfold cutD at h
      rw [show ((some 2 : Option Int)) = some ((2 : Nat) : Int) from rfl, HT.sIx_nat, List.length_take, List.length_drop] at h
      omega
    have hcl : (cutD ns (some 2) (some 63)).length ≤ 100 := by
      unfold cutD
      rw [List.length_take, List.length_drop]
      omega
    generalize cutD ns (some 2) (some 63) = cs at hlt hcl ⊢
    refine ⟨fun i G => ∃ (ks : List Int) (s3 s4 : Sl), ks.length = ms.length ∧ G = [.dat (.fl ns), .dat (.int 2), .own l (.lst (ks.map .int)), s3, s4], ⟨ms, .emp, .emp, rfl, rfl⟩, ?_, ?_⟩
    · rintro i d G hd ⟨ks, s3, s4, hk, rfl⟩
      obtain ⟨d', hd', rfl⟩ := enD_get hd
      rw [List.getElem?_map] at hd'
      obtain ⟨u, hu, rfl⟩ : ∃ u, cs[i]? = some u ∧ Dt.int u = d' := by
        cases hx : cs[i]? with
        | none => rw [hx] at hd'; cases hd'
        | some u => rw [hx] at hd'; exact ⟨u, rfl, Option.some.inj hd'⟩
      have h2 := m3 (hlt i (List.getElem?_eq_some_iff.mp hu).1)
      have hk2 : ks.length = 2 := by omega
      have hm1 := Int.emod_nonneg (i : Int) (show (2 : Int) ≠ 0 by decide)
      have hm2 := Int.emod_lt_of_pos (i : Int) (show (0 : Int) < 2 by decide)
      obtain ⟨z, hz⟩ : ∃ z, ks[((i : Int) % 2).toNat]? = some z := ⟨_, List.getElem?_eq_getElem (by omega)⟩
      have hix : L2.ixN (ks.map Dt.int).length ((i : Int) % 2) = some ((i : Int) % 2).toNat := by
        unfold L2.ixN
        rw [if_pos hm1, if_pos (by rw [List.length_map]; omega)]
      have hat : L2.atI (ks.map Dt.int) ((i : Int) % 2) = some (.int z) := by
        unfold L2.atI
        rw [hix]
        show (ks.map Dt.int)[_]? = _
        rw [List.getElem?_map, hz]; rfl
      repeat' tm_at "gx"
      refine sx_setL (ex_op ?_)
      refine ex_ixO ⟨_, _, rfl⟩ ?_
      have hil : i < cs.length := (List.getElem?_eq_some_iff.mp hu).1
      repeat' tm_at "tk"
      · decide
      refine ⟨_, _, _, _, rfl, rfl, hat, ?_⟩
      repeat' tm_at "tk"
      · exact .inr ⟨by omega, by omega⟩
      refine ⟨⟨_, _, rfl⟩, ?_⟩
      repeat' tm_at "tk"
      · decide
      refine ⟨_, _, _, _, rfl, rfl, hix, ks.set ((i : Int) % 2).toNat (z + u * ((i : Int) + 2)), .dat (.int (i : Int)), .dat (.int u), by rw [List.length_set]; exact hk, ?_⟩
      rw [List.map_set]
      rfl
    · rintro G ⟨ks, s3, s4, hk, rfl⟩
      refine sx_ret (ex_own rfl ⟨ks, rfl, by omega, by omega⟩)
end

set_option Elab.async false
set_option linter.all false
set_option maxRecDepth 100000
/-! M4: list of a text; a dict display of one pair. -/
section
open PySem L2
/-- the signs of a text -/
def sgs (x : Str) : List Str := x.cps.toList.map fun c => ⟨#[c]⟩
theorem call_listS {X : Cx} (hc : X.calm = true) : CallR X (.type "list") (fun xs H Q => ∃ x : Str, xs = [.str x] ∧ x.cps.size ≤ sizeLine ∧ ∀ l, H l = none → Q (.ref l) (upd H l (.lst ((sgs x).map V.str)))) := by
  intro pins s σ H xs us Q I r h
  obtain ⟨x, rfl, hz, q⟩ := h
  obtain ⟨u, rfl, rx⟩ := vals1 r
  obtain ⟨t, rfl⟩ := rx
  refine PySem.call_list_str (I.ok.hd hc) x t (fun h' tk acc c' hk e hi => ?_) hz
  refine ⟨.ref s.heap.objs.size, upd H s.heap.objs.size (.lst ((sgs x).map V.str)), I.laid hk (Nat.le_refl _) ⟨by simp [sgs]; exact hz, acc.toList, c', ?_, by rw [Array.toArray_toList]; exact e⟩, rfl, q _ (I.hok.fresh (Nat.le_refl _))⟩
  refine vals_of_idx _ _ (by simp [sgs]; exact hi.1) fun j u hj => ?_
  obtain ⟨c, t', hc, rfl⟩ := hi.2 j u (by rw [← Array.getElem?_toList]; exact hj)
  refine ⟨.str ⟨#[c]⟩, ?_, ⟨_, rfl⟩⟩
  unfold sgs
  rw [List.map_map, List.getElem?_map, Array.getElem?_toList, hc]
  rfl
variable [B : Tb]
variable {K : PySem.W.Frag}
theorem cf_listS {Q : Dt → Prop} {x : Str} (hz : x.cps.size ≤ sizeLine) (p : Q (.lst ((sgs x).map .str))) : CF K (fun xs H Q => ∃ x : Str, xs = [.str x] ∧ x.cps.size ≤ sizeLine ∧ ∀ l, H l = none → Q (.ref l) (upd H l (.lst ((sgs x).map V.str)))) [.str x] Q := fun H H1 vs W s r k => by
  cases r with
  | cons r rr =>
    cases rr
    rw [r.str_inv]
    exact ⟨x, rfl, hz, fun q hq => k q (.lst ((sgs x).map .str)) _ H _ (.of (Same.refl _) (s.trans (Same.upd hq)) (Same.upd hq) (fun _ _ _ z => z) id) (.of hq) (s.free hq) upd_same (Ra.strs _) p⟩
theorem ef_disp1 {G : List Sl} {P : Dt → List Sl → Prop} {x : Str} {n : Int} (p : P (.dk [(x, .int n)]) G) : EF K (tDisp [(tC (.str x), tC (.int n))]) G P := fun H0 F H H1 σ Q I q => by
  intro a ha
  refine ⟨upd_same, [(Sum.inr x, V.int n)], rfl, (by show 1 ≤ 15; decide), ?_⟩
  have up : upd (upd H1 a (.dK [])) a (.dK (mergeK [] [(Sum.inr x, V.int n)])) = upd H1 a (.dK [(Sum.inr x, V.int n)]) := by
    funext b
    by_cases z : b = a
    · subst z; rw [upd_same, upd_same]; rfl
    · rw [upd_ne z, upd_ne z, upd_ne z]
  rw [up]
  have g : Gr H H1 H (upd H1 a (.dK [(Sum.inr x, V.int n)])) := .of (Same.refl _) (I.s.trans (Same.upd ha)) (Same.upd ha) (fun _ _ _ z => z) id
  exact q a (.dk [(x, .int n)]) _ G _ _ (I.gr g) g.stp (.of ha) (I.s.free ha) upd_same (Rk.cons (.int n) .nil) p
end

set_option Elab.async false
set_option linter.all false
set_option maxRecDepth 100000
/-! M5: mills of the law; sorts by name. -/
section
open PySem L2
/-- the mills that the law draws -/
structure Mill.Good (M : Mill) (b : Str → Int) : Prop where
  ok : M.Ok b
  nice : M.Nice
  asc : Asc (M.ss.map (·.name))
  nok : ∀ y ∈ M.ss, PyData.strOk y.name = true
  yy : ∀ y ∈ M.ss, y.name ≠ "yya"
  ws : M.ws.length ≤ 4
  ss : M.ss.length ≤ 6
theorem lt_head {u v : Str} (r r' : List PyData) (h : u ≠ v) : PySem.W.dataLt (.tuple (.str u :: r)) (.tuple (.str v :: r')) = ltS u v := by
  rw [PySem.W.dataLt_tuple, PySem.W.dataLt_cons (by rfl), eqv_str, if_neg (by simpa using h), ltS_lt]
theorem le_head {u v : Str} {r r' : List Dt} (h : u ≠ v) (l : leD (.tup (.str u :: r)) (.tup (.str v :: r')) = true) : ltS u v = true := by
  have l : (!PySem.W.dataLt (.tuple (.str v :: Dt.pds r')) (.tuple (.str u :: Dt.pds r))) = true := l
  rw [lt_head _ _ (Ne.symm h)] at l
  rcases ltS_total h with z | z
  · exact z
  · rw [z] at l; cases l
theorem head_le {u v : Str} {r r' : List Dt} (l : ltS u v = true) : leD (.tup (.str u :: r)) (.tup (.str v :: r')) = true := by
  show (!PySem.W.dataLt (.tuple (.str v :: Dt.pds r')) (.tuple (.str u :: Dt.pds r))) = true
  rw [lt_head _ _ (Ne.symm (ltS_ne l)), ltS_asymm l]; rfl
theorem leS_lt {u v : Str} (h : u ≠ v) (l : leS u v = true) : ltS u v = true := by
  have l : (!PySem.W.dataLt (.str v) (.str u)) = true := l
  rw [← ltS_lt] at l
  rcases ltS_total h with z | z
  · exact z
  · rw [z] at l; cases l
theorem asc_of {ts : List Str} (nd : ts.Nodup) (h : ts.Pairwise fun a b => leS a b = true) : Asc ts := by
  unfold Asc
  have : ts.Pairwise fun a b => a ≠ b ∧ leS a b = true := nd.and h
  exact this.imp fun ⟨h1, h2⟩ => leS_lt h1 h2
theorem asc_sort {ts : List Str} (nd : ts.Nodup) : Asc (ts.mergeSort leS) := by
  refine asc_of ((List.mergeSort_perm _ _).nodup_iff.mpr nd) ?_
  exact List.pairwise_mergeSort (fun a b c => leP_trans (Dt.str a).pd (Dt.str b).pd (Dt.str c).pd) (fun a b => leP_total (Dt.str a).pd (Dt.str b).pd) _
/-- rows sorted go by name -/
theorem sort_rows {ys : List Sy} (nd : (ys.map (·.name)).Nodup) : ∃ zs : List Sy, srt (ys.map syD) = zs.map syD ∧ zs.Perm ys ∧ Asc (zs.map (·.name)) := by
  have hp : (ys.mergeSort fun a b => leD (syD a) (syD b)).Perm ys := List.mergeSort_perm _ _
  refine ⟨ys.mergeSort fun a b => leD (syD a) (syD b), ?_, hp, ?_⟩
  · unfold srt
    rw [List.map_mergeSort (r := fun a b => leD (syD a) (syD b))]
    intro a _ b _; rfl
  · have nd2 : ((ys.mergeSort fun a b => leD (syD a) (syD b)).map (·.name)).Nodup := ((hp.map _).nodup_iff).mpr nd
    have hs : (ys.mergeSort fun a b => leD (syD a) (syD b)).Pairwise fun a b => leD (syD a) (syD b) = true :=
      List.pairwise_mergeSort (fun a b c => leP_trans (syD a).pd (syD b).pd (syD c).pd) (fun a b => leP_total (syD a).pd (syD b).pd) _
    unfold Asc
    rw [List.pairwise_map]
    have nd3 := List.pairwise_map.mp nd2
    exact (nd3.and hs).imp fun ⟨h1, h2⟩ => le_head h1 h2
theorem sorts_sys {ys : List Sy} (h : ∀ y ∈ ys, PyData.strOk y.name = true ∧ PyData.strOk y.one = true ∧ PyData.strOk y.other = true) : Sorts (ys.map syD) := by
  have e : ys.map syD = (ys.map Sy.row).map tD := by rw [List.map_map]; rfl
  rw [e]
  refine sorts_tups (fun k hk => ?_) (fun k hk => ?_) fun a ha b hb => ?_
  · obtain ⟨x, hx, rfl⟩ := List.mem_map.mp hk
    have := h x hx
    simp [oks, okK, Sy.row, this]
  · obtain ⟨x, hx, rfl⟩ := List.mem_map.mp hk; exact fun z => by cases z
  · obtain ⟨x, hx, rfl⟩ := List.mem_map.mp ha
    obtain ⟨y, hy, rfl⟩ := List.mem_map.mp hb
    rfl
/-- texts among data -/
def unS : Dt → Str
  | .str x => x
  | _ => ""
theorem perm_strs {xs rest : List Dt} {L : List Str} (h : (xs ++ rest).Perm (L.map .str)) : ∃ ts r : List Str, xs = ts.map .str ∧ (ts ++ r).Perm L := by
  refine ⟨xs.map unS, rest.map unS, ?_, ?_⟩
  · rw [List.map_map]
    have : ∀ x ∈ xs, (Dt.str ∘ unS) x = id x := fun x hx => by
      obtain ⟨s, _, rfl⟩ := List.mem_map.mp (h.mem_iff.mp (List.mem_append_left _ hx))
      rfl
    rw [List.map_congr_left this, List.map_id]
  · have := h.map unS
    rw [List.map_append, List.map_map] at this
    have e : L.map (unS ∘ Dt.str) = L := List.map_id L
    rwa [e] at this
end

set_option Elab.async false
set_option linter.all false
set_option maxRecDepth 100000
set_option maxHeartbeats 1000000
section
open PySem L2
variable [B : Tb]
variable {Pr : Program} {w : World} {K : PySem.W.Frag} {mg : Str → Option Value} {base : Heap} {f : Addr} {fd : FuncData}

/-! ### a drawn mill -/
omit [B : Tb] in
theorem nd8 : (sgs "abcdefgh").Nodup ∧ (∀ x ∈ sgs "abcdefgh", PyData.strOk x = true ∧ x ≠ "") ∧ (sgs "abcdefgh").length = 8 := by decide +kernel
def wl : List Str := sgs "abpqrstuvw" ++ (["zz", "aa"] : List Str)
omit [B : Tb] in
theorem nd12 : wl.Nodup ∧ (∀ x ∈ wl, PyData.strOk x = true ∧ x ≠ "yya") ∧ wl.length = 12 := by decide +kernel
omit [B : Tb] in
theorem ok_nil : PyData.strOk "" = true := by decide +kernel
omit [B : Tb] in
theorem ltS_nil {x : Str} (h : x ≠ "") : ltS "" x = true := by
  unfold ltS
  rw [decide_eq_true_eq]
  have e : ("" : Str).cps.toList = [] := rfl
  rw [e]
  cases hx : x.cps.toList with
  | nil =>
    exfalso
    apply h
    exact PySem.W.str_of_cps hx
  | cons c cs => exact List.nil_lt_cons c cs
def dl : List Int := [0, 1, 2, 3, 4, 6, 12]
omit [B : Tb] in
theorem dl_ok : ∀ m ∈ dl, Dok m ∧ 0 ≤ m ∧ m ≤ 12 := by
  intro m hm
  have : m = 0 ∨ m = 1 ∨ m = 2 ∨ m = 3 ∨ m = 4 ∨ m = 6 ∨ m = 12 := by simpa [dl] using hm
  rcases this with rfl | rfl | rfl | rfl | rfl | rfl | rfl
  · exact ⟨.zero, by decide, by decide⟩
  all_goals exact ⟨.inr ⟨by decide, by decide⟩, by decide, by decide⟩
theorem ex_take {G : List Sl} {P : Dt → List Sl → Prop} {te : TE} (hG : ∃ l d, G[0]? = some (.own l d)) (h : EX K te G fun y G1 => ∃ (l : Addr) (t : Tin) (n : Int), y = .int n ∧ G1[0]? = some (.own l (tinD t)) ∧ (0 < n ∧ n ≤ 1000) ∧ (0 ≤ t.c ∧ t.c ≤ 1000000) ∧ ∀ (i : Int) (t' : Tin), 0 ≤ i → i < n → 0 ≤ t'.c → t'.c ≤ t.c + 1 → P (.int i) (G1.set 0 (.own l (tinD t')))) :
    EX K (tCall (sp__law_take K) [] E0 (tCons (tVar 0) (tCons te tNil))) G P := ex_callO hG (ea_cons (EX.imp h fun y G1 ⟨l, t, n, e, hG1, hn, hc, k⟩ => ea_nil ⟨l, _, (t, n), hG1, by rw [e], rfl, ⟨hn, hc⟩, fun d s' ⟨i, t', e1, ⟨i0, i1⟩, e2, c1, c2⟩ => by subst e1 e2; exact k i t' i0 i1 c1 c2⟩))
theorem ex_drawn {G : List Sl} {P : Dt → List Sl → Prop} {te : TE} (hG : ∃ l d, G[0]? = some (.own l d)) (h : EX K te G fun y G1 => ∃ (l : Addr) (t : Tin) (ds : List Dt), y.seq = some ds ∧ G1[0]? = some (.own l (tinD t)) ∧ (0 < ds.length ∧ ds.length ≤ 1000) ∧ (0 ≤ t.c ∧ t.c ≤ 1000000) ∧ ∀ (d : Dt) (t' : Tin), d ∈ ds → 0 ≤ t'.c → t'.c ≤ t.c + 1 → P d (G1.set 0 (.own l (tinD t')))) :
    EX K (tCall (sp__law_of K) [] E0 (tCons (tVar 0) (tCons te tNil))) G P := ex_callO hG (ea_cons (EX.imp h fun y G1 ⟨l, t, ds, e, hG1, hn, hc, k⟩ => ea_nil ⟨l, _, (t, ds, y), hG1, rfl, rfl, ⟨⟨e, hn⟩, hc⟩, fun d s' ⟨t', e1, e2, c1, c2⟩ => by subst e2; exact k d t' e1 c1 c2⟩))
theorem ex_pick {G : List Sl} {P : Dt → List Sl → Prop} {te tf : TE} (hG : ∃ l d, G[0]? = some (.own l d)) (h : EX K te G fun y G1 => EX K tf G1 fun z G2 => ∃ (l : Addr) (t : Tin) (L : List Str) (n : Int), y.seq = some (L.map .str) ∧ z = .int n ∧ G2[0]? = some (.own l (tinD t)) ∧ (L.length ≤ 1000 ∧ 0 ≤ n ∧ n ≤ 1000) ∧ (0 ≤ t.c ∧ t.c ≤ 900000) ∧
      ∀ (ts r : List Str) (t' : Tin), (ts ++ r).Perm L → (ts.length : Int) = min n L.length → 0 ≤ t'.c → t'.c ≤ t.c + ts.length → P (.lst (ts.map .str)) (G2.set 0 (.own l (tinD t')))) :
    EX K (tCall (sp__law_pick K) [] E0 (tCons (tVar 0) (tCons te (tCons tf tNil)))) G P := ex_callO hG (ea_cons (EX.imp h fun y G1 h2 => ea_cons (EX.imp h2 fun z G2 ⟨l, t, L, n, e, e2, hG2, hn, hc, k⟩ => ea_nil ⟨l, _, (t, L.map .str, y, n), hG2, by rw [e2], rfl, ⟨⟨e, by rw [List.length_map]; exact hn.1, hn.2⟩, hc⟩, fun d s' ⟨t', xs, rest, e3, hp, hx, e4, c1, c2⟩ => by
      subst e3 e4
      obtain ⟨ts, r, rfl, hp2⟩ := perm_strs hp
      rw [List.length_map, List.length_map] at hx
      rw [List.length_map] at c2
      exact k ts r t' hp2 hx c1 c2⟩)))
theorem sc__law_hall : FnScope ["_law_tin", "_law_many", "_law_lots", "_law_dials", "_law_bent", "_law_tags", "_law_tag", "_law_words", "_law_found", "_law_word", "_law_hubs", "_law_begun", "_law_turn", "_law_near", "_law_far", "_law_dial", "_law_off"] ["_law_tin", "_law_many", "_law_lots", "_law_dials", "_law_bent"] (defScope (top 77)) := ⟨rfl, rfl, rfl, by decide +kernel, rfl, by decide +kernel, by decide +kernel⟩
abbrev sp__law_hall (K : PySem.W.Frag) : Sp := SpO K 0 (fun x : Tin => [.int 4, .int 6, .lst (dl.map .int), .int 0]) tinD (fun x => x.c = 0) (fun x d s => ∃ (M : Mill) (b : Str → Int) (t : Tin), d = milD M ∧ M.Good b ∧ M.ws ≠ [] ∧ s = tinD t ∧ 0 ≤ t.c ∧ t.c ≤ 1000)
theorem ok__law_hall (T : Tx K mg) (c__law_pick : Cal Pr w K mg base 2 "_law_pick" (sp__law_pick K)) (c__law_of : Cal Pr w K mg base 2 "_law_of" (sp__law_of K)) (c__law_take : Cal Pr w K mg base 1 "_law_take" (sp__law_take K)) (F : FnP K "_law_hall" (top 77) f fd) : FnOk Pr w K mg base CX0 3 f fd ["_law_tin", "_law_many", "_law_lots", "_law_dials", "_law_bent"] (sp__law_hall K) := by
  have nd := sc__law_hall.nd
  refine fn_O F sc__law_hall (fun _ => rfl) (by decide) (by decide) fun cdv A outer s H E hr => ⟨_, (pss_cons (pst (i := 5) nd rfl (pe_callB (cr_sortedDt hr.units70) rfl T.sorted_ bt_sorted (pa_cons (pe_c c__law_pick hr (by decide) rfl (pa_cons (pv 0) (pa_cons (pe_callTy (call_listS rfl) rfl T.list_ bt_list (pa_cons pe_str pa_nil)) (pa_cons (pe_callB (call_min2 rfl) rfl T.min_ bt_min (pa_cons (pv 1) (pa_cons (pe_op op_add pe_int (pe_c c__law_take hr (by decide) rfl (pa_cons (pv 0) (pa_cons (pv 1) pa_nil)))) pa_nil))) pa_nil)))) pa_nil)))
    (pss_cons (ps_par (i := 10) (j := 11) rfl nd rfl rfl (by decide) rfl rfl (pa_cons (pe_lst pa_nil) (pa_cons (pe_disp (pps_cons pe_str pe_int pps_nil) rfl rfl (by decide) (by decide)) pa_nil)) (by rfl))
    (pss_cons (ps_for PassesOwn.never rfl (piLK (K := K) (pv 5)) (pgn (i := 6) nd rfl) (pss_cons (pst (i := 12) nd rfl (pe_c c__law_of hr (by decide) rfl (pa_cons (pv 0) (pa_cons (pe_lst (pa_cons pe_int (pa_cons pe_int (pa_cons pe_int (pa_cons pe_int (pa_cons pe_int (pa_cons pe_int (pa_cons pe_int (pa_cons pe_int pa_nil))))))))) pa_nil))))
    (pss_cons (ps_expr (pe_bm PySem.F.plainAttrs_list PySem.F.slot_list_append PySem.F.type_list_append mt_append (pv 10) (pa_cons (pe_tup (pa_cons (pv 6) (pa_cons (pv 12) (pa_cons (pe_ifExp (pt_cmpR op_gt (pe_c c__law_take hr (by decide) rfl (pa_cons (pv 0) (pa_cons pe_int pa_nil))) pe_int (nomark _)) pe_int (pe_callB (call_min2 rfl) rfl T.min_ bt_min (pa_cons (pv 12) (pa_cons pe_int pa_nil)))) pa_nil)))) pa_nil)))
    (pss_one (ps_dput hr.units1 (pv 11) (pv 6) (pe_op op_sub (pe_c c__law_take hr (by decide) rfl (pa_cons (pv 0) (pa_cons pe_int pa_nil))) pe_int) rfl)))))
    (pss_cons (pst (i := 7) nd rfl (pe_c c__law_pick hr (by decide) rfl (pa_cons (pv 0) (pa_cons (pe_op op_cat (pe_callTy (call_listS rfl) rfl T.list_ bt_list (pa_cons pe_str pa_nil)) (pe_lst (pa_cons pe_str (pa_cons pe_str pa_nil)))) (pa_cons (pe_ifExp (pt_truth (pv 5) (fun _ => rfl)) (pe_callB (call_min2 rfl) rfl T.min_ bt_min (pa_cons (pv 2) (pa_cons (pe_op op_add pe_int (pe_c c__law_take hr (by decide) rfl (pa_cons (pv 0) (pa_cons (pv 2) pa_nil)))) pa_nil))) pe_int) pa_nil)))))
    (pss_cons (pst (i := 8) nd rfl (pe_lst pa_nil))
    (pss_cons (ps_for PassesOwn.never rfl (piLK (K := K) (pv 7)) (pgn (i := 9) nd rfl) (pss_cons (ps_asg (pe_c c__law_pick hr (by decide) rfl (pa_cons (pv 0) (pa_cons (pe_op op_cat (pv 5) (pe_lst (pa_cons pe_str pa_nil))) (pa_cons pe_int pa_nil)))) (pg_unl (n := 2) rfl (pgs_cons (pgn (i := 13) nd rfl) (pgs_cons (pgn (i := 14) nd rfl) pgs_nil))))
    (pss_cons (ps_par (i := 15) (j := 16) rfl nd rfl rfl (by decide) rfl rfl (pa_cons (pe_c c__law_of hr (by decide) rfl (pa_cons (pv 0) (pa_cons (pv 3) pa_nil))) (pa_cons (pe_op op_sub (pe_dget hr.units1 (pv 11) (pv 14) (fun _ _ => rfl)) (pe_dget hr.units1 (pv 11) (pv 13) (fun _ _ => rfl))) pa_nil)) (by rfl))
    (pss_cons (ps_if (PW.pt (pw_and (pt_cmpR op_gt (pv 4) pe_int (nomark _)) (pw_and1 (pt_cmpR op_eq (pe_c c__law_take hr (by decide) rfl (pa_cons (pv 0) (pa_cons (pv 4) pa_nil))) pe_int (nomark _))))) (pss_one (pst (i := 16) nd rfl (pe_op op_add (pv 16) pe_int))) pss_nil)
    (pss_cons (ps_if (pt_cmpR op_gt (pv 15) pe_int (nomark _)) (pss_one (pst (i := 16) nd rfl (pe_op op_add (pe_op op_mod (pv 16) (pv 15)) (pe_op op_mul (pe_op op_mul (pv 15) (pe_op op_sub (pe_c c__law_take hr (by decide) rfl (pa_cons (pv 0) (pa_cons pe_int pa_nil))) pe_int)) (pe_callTy call_int1 rfl T.int_ bt_int (pa_cons (pe_cmpR op_eq (pe_c c__law_take hr (by decide) rfl (pa_cons (pv 0) (pa_cons pe_int pa_nil))) pe_int (nomark _)) pa_nil)))))) pss_nil)
    (pss_one (ps_expr (pe_bm PySem.F.plainAttrs_list PySem.F.slot_list_append PySem.F.type_list_append mt_append (pv 8) (pa_cons (pe_tup (pa_cons (pv 9) (pa_cons (pv 13) (pa_cons (pv 14) (pa_cons (pv 16) (pa_cons (pv 15) pa_nil)))))) pa_nil)))))))))
    (pss_one (ps_ret (pe_tup (pa_cons (pe_callTy (tupleK (K := K)) rfl T.tuple_ bt_tuple (pa_cons (pv 10) pa_nil)) (pa_cons (pe_callTy (tupleK (K := K)) rfl T.tuple_ bt_tuple (pa_cons (pe_callB (cr_sortedDt hr.units70) rfl T.sorted_ bt_sorted (pa_cons (pv 8) pa_nil)) pa_nil)) pa_nil))))))))))), ?_⟩
  rintro t0 hc0 l
  try dsimp only [cxOf]
  change SX K _ [.own l (tinD t0), .dat (.int 4), .dat (.int 6), .dat (.lst (dl.map .int)), .dat (.int 0), .emp, .emp, .emp, .emp, .emp, .emp, .emp, .emp, .emp, .emp, .emp, .emp] _ _
  have hc0 : t0.c = 0 := hc0
  -- the names
  refine sx_seq (sx_set (EX.imp (P := fun d G1 => ∃ (tags : List Str) (t : Tin), d = .lst (tags.map .str) ∧ Asc ("" :: tags) ∧ 2 ≤ tags.length ∧ tags.length ≤ 4 ∧ (∀ x ∈ tags, PyData.strOk x = true) ∧ 0 ≤ t.c ∧ t.c ≤ 10 ∧
    G1 = [.own l (tinD t), .dat (.int 4), .dat (.int 6), .dat (.lst (dl.map .int)), .dat (.int 0), .emp, .emp, .emp, .emp, .emp, .emp, .emp, .emp, .emp, .emp, .emp, .emp]) ?_ ?_))
  · refine ex_cSort (ea_cons (ex_pick ⟨_, _, rfl⟩ ?_))
    refine ex_of (ef_cb (ea_cons (ex_str (ea_nil (cf_listS (by decide +kernel) ?_)))))
    refine ex_cb (ea_cons (ex_var (by with_unfolding_all exact rfl) (ea_cons (ex_op (ex_int (ex_take ⟨_, _, rfl⟩ ?_))))))
    refine ex_var (by with_unfolding_all exact rfl) ⟨l, t0, 4, rfl, rfl, ⟨by decide, by decide⟩, ⟨by omega, by omega⟩, fun i t i0 i1 c1 c2 => ?_⟩
    refine od_int (ea_nil (cd_min ?_))
    obtain ⟨m, hm⟩ : ∃ m : Int, m = if 2 + i < 4 then 2 + i else 4 := ⟨_, rfl⟩
    rw [← hm]
    have hm2 : 2 ≤ m ∧ m ≤ 4 := by rw [hm]; split <;> omega
    have hl8 : (sgs "abcdefgh").length = 8 := nd8.2.2
    refine ⟨l, t, sgs "abcdefgh", m, rfl, rfl, rfl, ⟨by rw [hl8]; decide, by omega, by omega⟩, ⟨c1, by omega⟩, fun ts r t2 hp2 hx c3 c4 => ?_⟩
    rw [hl8] at hx
    have ndts : ts.Nodup := (List.nodup_append.mp (hp2.nodup_iff.mpr nd8.1)).1
    have hts : ∀ x ∈ ts, PyData.strOk x = true ∧ x ≠ "" := fun x hx => nd8.2.1 x (hp2.mem_iff.mp (List.mem_append_left _ hx))
    refine ea_nil (cf_sort (sorts_strs ts fun k hk => (hts k hk).1) ?_)
    have hpm := List.mergeSort_perm ts leS
    refine ⟨ts.mergeSort leS, t2, by rw [srt_strs], ?_, by rw [hpm.length_eq]; omega, by rw [hpm.length_eq]; omega, fun x hx => (hts x (hpm.mem_iff.mp hx)).1, c3, by omega, rfl⟩
    unfold Asc
    rw [List.pairwise_cons]
    exact ⟨fun x hx => ltS_nil (hts x (hpm.mem_iff.mp hx)).2, asc_sort ndts⟩
  · rintro d G1 ⟨tags, t1, rfl, hasc, hl2, hl4, hok, h1, h2, rfl⟩
    refine sx_seq (sx_parNN (ef_lst (ea_nil ⟨sz (by decide), ef_disp1 fun l10 l11 => ?_⟩)))
    refine sx_seq (sx_forM (ix_list (ex_var (by with_unfolding_all exact rfl) ⟨_, rfl, ?_⟩)))
    refine ⟨Str, tags, .str, fun i G => ∃ (t : Tin) (ws : List Wh) (b : Str → Int) (s6 s12 : Sl), ws.map (·.name) = tags.take i ∧ 0 ≤ t.c ∧ t.c ≤ 10 + 3 * i ∧
      G = [.own l (tinD t), .dat (.int 4), .dat (.int 6), .dat (.lst (dl.map .int)), .dat (.int 0), .dat (.lst (tags.map .str)), s6, .emp, .emp, .emp, .own l10 (.lst (ws.map whD)), .own l11 (tabF ("" :: tags.take i) b), s12, .emp, .emp, .emp, .emp], rfl, ⟨t1, [], fun _ => 0, .emp, .emp, rfl, h1, by omega, rfl⟩, ?_, ?_⟩
    · rintro i u G hu ⟨t, ws, b, s6, s12, hw, c1, c2, rfl⟩
      have hi := (List.getElem?_eq_some_iff.mp hu).1
      have hnd : (("" : Str) :: tags).Nodup := hasc.nodup
      have hui : u ∉ ("" : Str) :: tags.take i := fun z => by
        rcases List.mem_cons.mp z with z | z
        · exact (List.nodup_cons.mp hnd).1 (z ▸ List.mem_of_getElem? hu)
        · obtain ⟨k, hk, e⟩ := List.getElem_of_mem z
          rw [List.length_take] at hk
          rw [List.getElem_take] at e
          obtain ⟨g1, g2⟩ := (List.getElem?_eq_some_iff.mp hu)
          have := (List.getElem_inj (List.nodup_cons.mp hnd).2).mp (e.trans g2.symm)
          omega
      have hwl : ws.length ≤ 4 := by
        have := congrArg List.length hw
        rw [List.length_map, List.length_take] at this
        omega
      refine gx_name (sx_seq (sx_set (ex_drawn ⟨_, _, rfl⟩ (ex_of ?_))))
      repeat' tm_at "ex"
      refine ⟨l, t, [2, 3, 4, 6, 4, 6, 1, 12].map .int, rfl, rfl, ⟨by decide, by decide⟩, ⟨c1, by omega⟩, fun d t2 hd c3 c4 => ?_⟩
      obtain ⟨turn, _, rfl⟩ := List.mem_map.mp hd
      refine sx_seq (sx_append ⟨_, _, rfl⟩ ?_ ⟨_, _, rfl⟩)
      refine EX.imp (P := fun d G1 => ∃ (t : Tin) (mark : Int), d = whD ⟨u, turn, mark⟩ ∧ 0 ≤ t.c ∧ t.c ≤ 10 + 3 * i + 2 ∧ G1 = [.own l (tinD t), .dat (.int 4), .dat (.int 6), .dat (.lst (dl.map .int)), .dat (.int 0), .dat (.lst (tags.map .str)), .dat (.str u), .emp, .emp, .emp, .own l10 (.lst (ws.map whD)), .own l11 (tabF ("" :: tags.take i) b), .dat (.int turn), .emp, .emp, .emp, .emp]) ?_ ?_
      · refine ex_tup ?_
        repeat' tm_at "ex"
        refine ex_take ⟨_, _, rfl⟩ (ex_int ⟨l, t2, 4, rfl, rfl, ⟨by decide, by decide⟩, ⟨c3, by omega⟩, fun k t3 k0 k1 c5 c6 => ?_⟩)
        repeat' tm_at "ex"
        refine ⟨fun h => ?_, fun h => ?_⟩
        · repeat' tm_at "ex"
          exact ⟨t3, 1, rfl, c5, by omega, rfl⟩
        · repeat' tm_at "ex"
          refine cd_min ?_
          repeat' tm_at "ex"
          exact ⟨t3, _, rfl, c5, by omega, rfl⟩
      · rintro d G1 ⟨t3, mark, rfl, c5, c6, rfl⟩
        refine ⟨_, _, rfl, by rw [List.length_map]; exact Nat.lt_of_le_of_lt hwl (by decide), ?_⟩
        refine sx_dput (ex_op (ex_take ⟨_, _, rfl⟩ (ex_int ⟨l, t3, 25, rfl, rfl, ⟨by decide, by decide⟩, ⟨c5, by omega⟩, fun k t4 k0 k1 c7 c8 => ?_⟩)))
        repeat' tm_at "ex"
        refine ⟨⟨_, _, rfl⟩, ?_⟩
        repeat' tm_at "ex"
        refine ⟨_, _, _, rfl, put_tab_new (by rw [List.length_cons, List.length_take]; exact Nat.lt_of_le_of_lt (by omega : _ ≤ 5) (by decide)) hui, t4, ws ++ [⟨u, turn, mark⟩], updK b u (k - 8), .dat (.str u), .dat (.int turn), ?_, c7, by omega, ?_⟩
        · rw [List.map_append, hw, take_snoc hu]; rfl
        · rw [List.map_append, take_snoc hu]; rfl
    · rintro G ⟨t, ws, b, s6, s12, hw, c1, c2, rfl⟩
      rw [List.take_length] at hw ⊢
      -- the words
      refine sx_seq (sx_set (EX.imp (P := fun d G1 => ∃ (words : List Str) (t : Tin), d = .lst (words.map .str) ∧ words.Nodup ∧ words.length ≤ 6 ∧ (∀ x ∈ words, PyData.strOk x = true ∧ x ≠ "yya") ∧ 0 ≤ t.c ∧ t.c ≤ 100 ∧
        G1 = [.own l (tinD t), .dat (.int 4), .dat (.int 6), .dat (.lst (dl.map .int)), .dat (.int 0), .dat (.lst (tags.map .str)), s6, .emp, .emp, .emp, .own l10 (.lst (ws.map whD)), .own l11 (tabF ("" :: tags) b), s12, .emp, .emp, .emp, .emp]) ?_ ?_))
      · refine ex_pick ⟨_, _, rfl⟩ ?_
        refine ex_of (ef_op (ex_of (ef_cb (ea_cons (ex_str (ea_nil (cf_listS (by decide +kernel) ?_)))))))
        refine ex_of (ef_lst ?_)
        repeat' tm_at "ex"
        refine of_cat (by rw [List.length_map]; decide +kernel) ?_
        refine ex_if (tx_truth (ex_var (by with_unfolding_all exact rfl) ⟨_, rfl, fun h => ?_, fun h => ?_⟩))
        · refine ex_cb (ea_cons (ex_var (by with_unfolding_all exact rfl) (ea_cons (ex_op (ex_int (ex_take ⟨_, _, rfl⟩ ?_))))))
          refine ex_var (by with_unfolding_all exact rfl) ⟨l, t, 6, rfl, rfl, ⟨by decide, by decide⟩, ⟨c1, by omega⟩, fun i t2 i0 i1 c3 c4 => ?_⟩
          refine od_int (ea_nil (cd_min ?_))
          obtain ⟨m, hm⟩ : ∃ m : Int, m = if 1 + i < 6 then 1 + i else 6 := ⟨_, rfl⟩
          rw [← hm]
          have hm2 : 1 ≤ m ∧ m ≤ 6 := by rw [hm]; split <;> omega
          have hl12 : wl.length = 12 := nd12.2.2
          refine ⟨l, t2, wl, m, rfl, rfl, rfl, ⟨by rw [hl12]; decide, by omega, by omega⟩, ⟨c3, by omega⟩, fun ws' r t3 hp2 hx c5 c6 => ?_⟩
          rw [hl12] at hx
          exact ⟨ws', t3, rfl, (List.nodup_append.mp (hp2.nodup_iff.mpr nd12.1)).1, by omega, fun x hx => nd12.2.1 x (hp2.mem_iff.mp (List.mem_append_left _ hx)), c5, by omega, rfl⟩
        · exfalso
          cases tags with
          | nil => simp at hl2
          | cons x xs => cases h
      · rintro d G1 ⟨words, t2, rfl, hwn, hwl, hwo, c3, c4, rfl⟩
        refine sx_seq (sx_new (ef_lst (ea_nil ⟨sz (by decide), fun l8 => ?_⟩)))
        refine sx_seq (sx_forM (ix_list (ex_var (by with_unfolding_all exact rfl) ⟨_, rfl, ?_⟩)))
        have hsp : ∀ n ∈ ("" : Str) :: tags, PyData.strOk n = true := fun n hn => by
          rcases List.mem_cons.mp hn with rfl | hn
          · exact ok_nil
          · exact hok n hn
        refine ⟨Str, words, .str, fun i G => ∃ (t : Tin) (ys : List Sy) (s6 s9 s12 s13 s14 s15 s16 : Sl), ys.map (·.name) = words.take i ∧ (∀ y ∈ ys, y.Ok ("" :: tags) b) ∧ 0 ≤ t.c ∧ t.c ≤ 100 + 20 * i ∧
          G = [.own l (tinD t), .dat (.int 4), .dat (.int 6), .dat (.lst (dl.map .int)), .dat (.int 0), .dat (.lst (tags.map .str)), s6, .dat (.lst (words.map .str)), .own l8 (.lst (ys.map syD)), s9, .own l10 (.lst (ws.map whD)), .own l11 (tabF ("" :: tags) b), s12, s13, s14, s15, s16], rfl, ⟨t2, [], _, _, _, _, _, _, _, rfl, (fun y h => nomatch h), c3, by omega, rfl⟩, ?_, ?_⟩
        · rintro i wd G hwd ⟨t3, ys, s6, s9, s12, s13, s14, s15, s16, hy, hyo, c5, c6, rfl⟩
          have hi := (List.getElem?_eq_some_iff.mp hwd).1
          refine gx_name (sx_seq (sx_asg (ex_pick ⟨_, _, rfl⟩ ?_)))
          refine ex_of (ef_op (ex_var (by with_unfolding_all exact rfl) (ex_of (ef_lst ?_))))
          repeat' tm_at "ex"
          refine of_cat (by rw [List.length_map]; exact Nat.le_trans (by simp; omega : _ ≤ 5) (by decide)) ?_
          refine ex_int ⟨l, t3, tags ++ [("" : Str)], 2, by show some _ = some _; rw [List.map_append]; rfl, rfl, rfl, ⟨by simp; omega, by decide, by decide⟩, ⟨c5, by omega⟩, fun ts r t4 hp2 hx c7 c8 => ?_⟩
          have hx2 : ts.length = 2 := by
            rw [List.length_append, List.length_singleton] at hx
            omega
          obtain ⟨near, far, rfl⟩ : ∃ u v, ts = [u, v] := by
            cases ts with
            | nil => cases hx2
            | cons u ts =>
              cases ts with
              | nil => cases hx2
              | cons v ts =>
                cases ts with
                | nil => exact ⟨u, v, rfl⟩
                | cons _ _ => simp at hx2
          have hndt : (tags ++ [("" : Str)]).Nodup := by
            have := hasc.nodup
            exact (List.perm_append_comm (l₁ := [("" : Str)]) (l₂ := tags)).nodup_iff.mp this
          have hne : near ≠ far := by
            have := (List.nodup_append.mp (hp2.nodup_iff.mpr hndt)).1
            exact fun z => (List.nodup_cons.mp this).1 (by rw [z]; exact List.mem_singleton.mpr rfl)
          have hin : ∀ x ∈ [near, far], x ∈ ("" : Str) :: tags := fun x hx => by
            rcases List.mem_append.mp (hp2.mem_iff.mp (List.mem_append_left r hx)) with z | z
            · exact List.mem_cons_of_mem _ z
            · rw [List.mem_singleton.mp z]; exact List.mem_cons_self ..
          have hnear := hin near (List.mem_cons_self ..)
          have hfar := hin far (List.mem_cons_of_mem _ (List.mem_cons_self ..))
          refine gx_unl rfl ?_
          change GXs K _ [Dt.str near, Dt.str far] _ _
          repeat' tm_at "gx"
          rw [hx2] at c8
          refine sx_seq ?_
          refine sx_par ?_
          refine ex_drawn ⟨_, _, rfl⟩ ?_
          refine ex_var (by with_unfolding_all exact rfl) ⟨l, t4, dl.map .int, rfl, rfl, ⟨by decide, by decide⟩, ⟨c7, by omega⟩, fun d t5 hd c9 ca => ?_⟩
          obtain ⟨dial, hdl, rfl⟩ := List.mem_map.mp hd
          obtain ⟨hdk, hd0, hd12⟩ := dl_ok dial hdl
          repeat' tm_at "ex"
          refine ⟨_, _, _, rfl, look_tab hfar, ?_⟩
          repeat' tm_at "ex"
          refine ⟨_, _, _, rfl, look_tab hnear, ?_⟩
          repeat' tm_at "ex"
          refine ⟨nofun, fun _ => ?_⟩
          repeat' tm_at "ex"
          refine ⟨nofun, fun _ => ?_⟩
          refine sx_next ?_
          refine sx_seq (SX.imp (N := fun G => ∃ (t : Tin) (off : Int), 0 ≤ t.c ∧ t.c ≤ 100 + 20 * i + 10 ∧ dial ∣ (b far - b near) - off ∧ G = [.own l (tinD t), .dat (.int 4), .dat (.int 6), .dat (.lst (dl.map .int)), .dat (.int 0), .dat (.lst (tags.map .str)), s6, .dat (.lst (words.map .str)), .own l8 (.lst (ys.map syD)), .dat (.str wd), .own l10 (.lst (ws.map whD)), .own l11 (tabF ("" :: tags) b), s12, .dat (.str near), .dat (.str far), .dat (.int dial), .dat (.int off)]) ?_ (fun _ _ h => h) ?_)
          · repeat' tm_at "ex"
            refine ⟨fun h => ?_, fun h => ?_⟩
            · have hd1 : 0 < dial := of_decide_eq_true h
              repeat' tm_at "ex"
              · exact hd1
              refine ex_take ⟨_, _, rfl⟩ (ex_int ⟨l, t5, 4, rfl, rfl, ⟨by decide, by decide⟩, ⟨c9, by omega⟩, fun k t6 k0 k1 cb cc => ?_⟩)
              repeat' tm_at "ex"
              · exact .inl ⟨by omega, by omega⟩
              refine ex_take ⟨_, _, rfl⟩ (ex_int ⟨l, t6, 3, rfl, rfl, ⟨by decide, by decide⟩, ⟨cb, by omega⟩, fun k' t7 k0' k1' cd ce => ?_⟩)
              repeat' tm_at "ex"
              refine cd_intB ?_
              generalize decide (k' = 0) = bb
              repeat' tm_at "ex"
              · cases bb <;> exact .inr ⟨by decide, by decide⟩
              refine ⟨t7, _, cd, by omega, ?_, rfl⟩
              have e1 : dial ∣ (b far - b near) - (b far - b near) % dial := ⟨(b far - b near) / dial, by have := Int.mul_ediv_add_emod (b far - b near) dial; omega⟩
              have e2 : dial ∣ dial * (k - 1) * (if bb = true then 1 else 0) := by rw [Int.mul_assoc]; exact Int.dvd_mul_right ..
              have := Int.dvd_sub e1 e2
              have e : b far - b near - (b far - b near) % dial - dial * (k - 1) * (if bb = true then 1 else 0) = b far - b near - ((b far - b near) % dial + dial * (k - 1) * (if bb = true then 1 else 0)) := by omega
              rwa [e] at this
            · repeat' tm_at "ex"
              exact ⟨t5, _, c9, by omega, by rw [Int.sub_self]; exact Int.dvd_zero _, rfl⟩
          · rintro G ⟨t8, off, cf, cg, hoff, rfl⟩
            refine sx_append ⟨_, _, rfl⟩ ?_ ⟨_, _, rfl⟩
            repeat' tm_at "ex"
            have hyl : ys.length ≤ 6 := by
              have := congrArg List.length hy
              rw [List.length_map, List.length_take] at this
              omega
            refine ⟨_, _, rfl, by rw [List.length_map]; exact Nat.lt_of_le_of_lt hyl (by decide), t8, ys ++ [⟨wd, near, far, off, dial⟩], s6, .dat (.str wd), s12, .dat (.str near), .dat (.str far), .dat (.int dial), .dat (.int off), ?_, fun y hy' => ?_, cf, by omega, ?_⟩
            · rw [List.map_append, hy, take_snoc hwd]; rfl
            · rcases List.mem_append.mp hy' with z | z
              · exact hyo y z
              · rw [List.mem_singleton.mp z]
                exact ⟨hnear, hfar, hne, hdk, hoff⟩
            · rw [List.map_append]; rfl
        · rintro G ⟨t3, ys, s6, s9, s12, s13, s14, s15, s16, hy, hyo, c5, c6, rfl⟩
          rw [List.take_length] at hy
          obtain ⟨zs, e1, e2, e3⟩ := sort_rows (ys := ys) (by rw [hy]; exact hwn)
          have hyk : ∀ y ∈ ys, PyData.strOk y.name = true ∧ y.name ≠ "yya" := fun y h => hwo y.name (by rw [← hy]; exact List.mem_map.mpr ⟨y, h, rfl⟩)
          refine sx_ret (ex_tup (ea_cons (ex_cb (ea_cons (ex_own rfl (ea_nil (cd_tuple rfl ?_)))))))
          refine ea_cons (ex_cb (ea_cons (ex_cSort (ea_cons (ex_own rfl (ea_nil (cf_sort (sorts_sys fun y h => ?_) ?_)))))))
          · exact ⟨(hyk y h).1, hsp _ (hyo y h).one, hsp _ (hyo y h).other⟩
          rw [e1]
          refine ea_nil (cd_tuple rfl (ea_nil ⟨szB (by rfl), _, rfl, ⟨ws, zs⟩, b, t3, rfl, ?_, ?_, rfl, c5, by omega⟩))
          · have hnm : Mill.names ⟨ws, zs⟩ = tags := hw
            have hsp2 : Mill.spots ⟨ws, zs⟩ = ("" : Str) :: tags := by unfold Mill.spots; rw [hnm]
            have hwl : ws.length = tags.length := by rw [← hw, List.length_map]
            have hzl : zs.length = words.length := by rw [e2.length_eq, ← hy, List.length_map]
            refine ⟨⟨⟨by show ws.length ≤ 20; omega, by show zs.length ≤ 20; omega⟩, ⟨?_, ?_⟩, fun y h => ?_⟩, ⟨?_, ?_⟩, e3, fun y h => (hyk y (e2.mem_iff.mp h)).1, fun y h => (hyk y (e2.mem_iff.mp h)).2, by show ws.length ≤ 4; omega, by show zs.length ≤ 6; omega⟩
            · rw [hnm]; exact (List.nodup_cons.mp hasc.nodup).2
            · rw [hnm]; exact (List.nodup_cons.mp hasc.nodup).1
            · rw [hsp2]; exact hyo y (e2.mem_iff.mp h)
            · rw [hsp2]; exact hsp
            · rw [hsp2]; exact hasc
          · intro z
            have z : ws = [] := z
            rw [z] at hw
            rw [← hw] at hl2
            exact absurd hl2 (by decide)
end

set_option Elab.async false
set_option linter.all false
set_option maxRecDepth 100000
set_option maxHeartbeats 1000000
section
open PySem L2
variable [B : Tb]
variable {Pr : Program} {w : World} {K : PySem.W.Frag} {mg : Str → Option Value} {base : Heap} {f : Addr} {fd : FuncData}

/-! ### _law_same -/
omit [B : Tb] in
theorem pi_zipK {X : Cx} {K : PySem.W.Frag} {e e2 : Expr} {ta : TA} {p pos tpos : Pos} {elts : List Expr} {kk : Nat} (hg : Gl X "zip") (hm : X.mg "zip" = none) (ha : PA X [e, e2] ta) (h : X.K = K := by rfl)
    (hs : starEach [e, e2] X.env = (false, eval e X.env) :: starEach [e2] X.env := by rfl) (hpl : (backTo pos (starEach [e2] X.env)).any (·.1) = false := by rfl) :
    PI X (.Tuple elts kk tpos) (.Call (.Name "zip" p) [e, e2] [] pos) (RZ.iZipA K ta) := h ▸ RZ.pi_zipA hg hm ha hs hpl
/-- plain data, nested so deep at most -/
def Dt.so : Nat → Dt → Bool
  | _, .int _ => true
  | _, .str _ => true
  | n + 1, .lst xs => decide (xs.length ≤ 1000) && xs.all (Dt.so n)
  | n + 1, .tup xs => decide (xs.length ≤ 1000) && xs.all (Dt.so n)
  | _, _ => false
abbrev sp__law_same (K : PySem.W.Frag) (n : Nat) : Sp := SpP K (fun d : Dt => [d, d]) (fun d => d.so n = true) (fun _ d => d = .bl true)
def spS (K : PySem.W.Frag) : Nat → Sp
  | 0 => fun _ _ _ _ => False
  | n + 1 => sp__law_same K n
omit [B : Tb] in
theorem zip_self : ∀ xs : List Dt, zipD xs xs = xs.map fun x => Dt.tup [x, x]
  | [] => rfl
  | x :: xs => by
    have := zip_self xs
    unfold zipD at *
    rw [List.zip_cons_cons, List.map_cons, this]; rfl
theorem sc__law_same : FnScope ["_law_got", "_law_due", "_law_mine", "_law_its"] ["_law_got", "_law_due"] (defScope (top 76)) := ⟨rfl, rfl, rfl, by decide +kernel, rfl, by decide +kernel, by decide +kernel⟩
theorem ok__law_same (T : Tx K mg) (n k : Nat) (c__law_same : Cal Pr w K mg base k "_law_same" (spS K n)) (F : FnP K "_law_same" (top 76) f fd) : FnOk Pr w K mg base CX0 (k + 1) f fd ["_law_got", "_law_due"] (sp__law_same K n) := by
  have nd := sc__law_same.nd
  refine fn_P F sc__law_same (fun _ => rfl) (by decide) fun cdv A outer s H E hr => ⟨_, (pss_cons (ps_if (pt_val (pe_callB (isiTK (K := K)) rfl T.isinstance_ bt_isinstance (pa_cons (pv 1) (pa_cons (pe_tup (pa_cons (pe_bltn (v := .ty "list") rfl T.list_ bt_list rfl) (pa_cons (pe_bltn (v := .ty "tuple") rfl T.tuple_ bt_tuple rfl) pa_nil))) pa_nil)))) (pss_cons (ps_if (PW.pt (pw_or (pt_cmpR op_ne (pe_callB (isiK (K := K)) rfl T.isinstance_ bt_isinstance (pa_cons (pv 0) (pa_cons (pe_bltn (v := .ty "list") rfl T.list_ bt_list rfl) pa_nil))) (pe_callB (isiK (K := K)) rfl T.isinstance_ bt_isinstance (pa_cons (pv 1) (pa_cons (pe_bltn (v := .ty "list") rfl T.list_ bt_list rfl) pa_nil))) (nomark _)) (pw_or1 (pt_cmpR op_ne (pe_callB (isiK (K := K)) rfl T.isinstance_ bt_isinstance (pa_cons (pv 0) (pa_cons (pe_bltn (v := .ty "tuple") rfl T.tuple_ bt_tuple rfl) pa_nil))) (pe_callB (isiK (K := K)) rfl T.isinstance_ bt_isinstance (pa_cons (pv 1) (pa_cons (pe_bltn (v := .ty "tuple") rfl T.tuple_ bt_tuple rfl) pa_nil))) (nomark _))))) (pss_one (ps_ret pe_bl)) pss_nil)
    (pss_one (ps_ret (pe_and (pe_cmpR op_eq (pe_callB (lenK (K := K)) rfl T.len_ bt_len (pa_cons (pv 0) pa_nil)) (pe_callB (lenK (K := K)) rfl T.len_ bt_len (pa_cons (pv 1) pa_nil)) (nomark _)) (pe_one (pe_callB (allK (K := K) rfl) rfl T.all_ bt_all (pa_cons (pe_lc (own := [("_law_mine", 2), ("_law_its", 3)]) rfl nd (pi_zipK (K := K) rfl T.zip_ (pa_cons (pv 0) (pa_cons (pv 1) pa_nil))) (blkOk_by (by kernel_rfl)) (fun _ _ _ _ _ => (pg_tupK (K := K) (n := 2) rfl (pgs_cons (pgn (i := 2) nd rfl) (pgs_cons (pgn (i := 3) nd rfl) pgs_nil)))) (fun _ _ _ _ _ => pts_nil) (fun _ _ _ _ _ => (pe_c c__law_same hr (Nat.le_refl _) rfl (pa_cons (pv 2) (pa_cons (pv 3) pa_nil))))) pa_nil))))))) pss_nil)
    (pss_cons (ps_if (PW.pt (pw_or (pt_cmp (pc_isN (pv 1))) (pw_or1 (pt_val (pe_callB (isiTK (K := K)) rfl T.isinstance_ bt_isinstance (pa_cons (pv 1) (pa_cons (pe_tup (pa_cons (pe_bltn (v := .ty "bool") rfl T.bool_ bt_bool rfl) (pa_cons (pe_bltn (v := .ty "str") rfl T.str_ bt_str rfl) pa_nil))) pa_nil))))))) (pss_one (ps_ret (pe_and (pe_cmpR op_eq (pv 0) (pv 1) (nomark _)) (pe_and (pe_cmpR op_eq (pe_callB (isiK (K := K)) rfl T.isinstance_ bt_isinstance (pa_cons (pv 0) (pa_cons (pe_bltn (v := .ty "bool") rfl T.bool_ bt_bool rfl) pa_nil))) (pe_callB (isiK (K := K)) rfl T.isinstance_ bt_isinstance (pa_cons (pv 1) (pa_cons (pe_bltn (v := .ty "bool") rfl T.bool_ bt_bool rfl) pa_nil))) (nomark _)) (pe_one (pe_cmpR op_eq (pe_cmp (pc_isN (pv 0))) (pe_cmp (pc_isN (pv 1))) (nomark _))))))) pss_nil)
    (pss_one (ps_ret (pe_and (pe_callB (isiK (K := K)) rfl T.isinstance_ bt_isinstance (pa_cons (pv 0) (pa_cons (pe_bltn (v := .ty "int") rfl T.int_ bt_int rfl) pa_nil))) (pe_and (pe_not (pe_callB (isiK (K := K)) rfl T.isinstance_ bt_isinstance (pa_cons (pv 0) (pa_cons (pe_bltn (v := .ty "bool") rfl T.bool_ bt_bool rfl) pa_nil)))) (pe_one (pe_cmpR op_eq (pv 0) (pv 1) (nomark _))))))))), ?_⟩
  rintro d hd
  try dsimp only [cxOf]
  change SX K _ [.dat d, .dat d, .emp, .emp] _ _
  have hd : d.so n = true := hd
  have no : ∀ {p : Prop}, false = true → p := fun h => nomatch h
  have no' : ∀ {p : Prop}, true = false → p := fun h => nomatch h
  cases d with
  | int i =>
    repeat' tm_at "ex"
    refine ⟨fun h => no h, fun _ => ?_⟩
    repeat' tm_at "ex"
    refine ⟨fun h => no h, fun _ => ?_⟩
    repeat' tm_at "ex"
    refine ⟨fun h => no h, fun _ => ?_⟩
    repeat' tm_at "ex"
    refine ⟨fun _ => ?_, fun h => no' h⟩
    repeat' tm_at "ex"
    refine ⟨fun _ => ?_, fun h => no' h⟩
    repeat' tm_at "ex"
    simp
  | str x =>
    repeat' tm_at "ex"
    refine ⟨fun h => no h, fun _ => ?_⟩
    repeat' tm_at "ex"
    refine ⟨fun h => no h, fun _ => ?_⟩
    repeat' tm_at "ex"
    refine ⟨fun _ => ?_, fun h => no' h⟩
    repeat' tm_at "ex"
    refine ⟨fun _ => ?_, fun h => by simp at h⟩
    repeat' tm_at "ex"
    refine od_eqB ?_
    repeat' tm_at "ex"
    refine ⟨fun _ => ?_, fun h => no' h⟩
    repeat' tm_at "ex"
    exact od_eqB rfl
  | lst xs =>
    cases n with
    | zero => cases hd
    | succ m =>
      have hd : (decide (xs.length ≤ 1000) && xs.all (Dt.so m)) = true := hd
      rw [Bool.and_eq_true, decide_eq_true_eq, List.all_eq_true] at hd
      repeat' tm_at "ex"
      refine ⟨fun _ => ?_, fun h => no' h⟩
      repeat' tm_at "ex"
      refine od_neB ?_
      repeat' tm_at "ex"
      refine ⟨fun h => no h, fun _ => ?_⟩
      repeat' tm_at "ex"
      refine od_neB ?_
      repeat' tm_at "ex"
      refine ⟨fun h => no h, fun _ => ?_⟩
      repeat' tm_at "ex"
      refine ⟨fun _ => ?_, fun h => by simp at h⟩
      refine ex_cb (ea_cons (ex_of (ef_lcA (tch_tup (tchs_cons (tch_name 2) (tchs_cons (tch_name 3) tchs_nil))) (by decide) (ix_zip ?_))))
      repeat' tm_at "ex"
      refine ⟨xs, xs, .inl rfl, noOwn_of rfl, Dt, xs, fun x => .tup [x, x], fun _ => .bl true, zip_self xs, sz hd.1, fun x hx => ?_, ?_⟩
      · repeat' tm_at "ex"
        change EX K (tCall (sp__law_same K m) [] E0 _) _ _
        refine ex_call ?_
        repeat' tm_at "ex"
        exact ⟨hd.2 x hx, fun d e => ⟨(agr_wipe.set (by decide)).set (by decide), e⟩⟩
      · exact ea_nil (cd_allT rfl)
  | tup xs =>
    cases n with
    | zero => cases hd
    | succ m =>
      have hd : (decide (xs.length ≤ 1000) && xs.all (Dt.so m)) = true := hd
      rw [Bool.and_eq_true, decide_eq_true_eq, List.all_eq_true] at hd
      repeat' tm_at "ex"
      refine ⟨fun _ => ?_, fun h => no' h⟩
      repeat' tm_at "ex"
      refine od_neB ?_
      repeat' tm_at "ex"
      refine ⟨fun h => no h, fun _ => ?_⟩
      repeat' tm_at "ex"
      refine od_neB ?_
      repeat' tm_at "ex"
      refine ⟨fun h => no h, fun _ => ?_⟩
      repeat' tm_at "ex"
      refine ⟨fun _ => ?_, fun h => by simp at h⟩
      refine ex_cb (ea_cons (ex_of (ef_lcA (tch_tup (tchs_cons (tch_name 2) (tchs_cons (tch_name 3) tchs_nil))) (by decide) (ix_zip ?_))))
      repeat' tm_at "ex"
      refine ⟨xs, xs, .inr rfl, noOwn_of rfl, Dt, xs, fun x => .tup [x, x], fun _ => .bl true, zip_self xs, sz hd.1, fun x hx => ?_, ?_⟩
      · repeat' tm_at "ex"
        change EX K (tCall (sp__law_same K m) [] E0 _) _ _
        refine ex_call ?_
        repeat' tm_at "ex"
        exact ⟨hd.2 x hx, fun d e => ⟨(agr_wipe.set (by decide)).set (by decide), e⟩⟩
      · exact ea_nil (cd_allT rfl)
  | non => cases n <;> cases hd
  | bl b => cases n <;> cases hd
  | pt xs => cases n <;> cases hd
  | dk xs => cases n <;> cases hd
  | dt xs => cases n <;> cases hd
  | fl xs => cases n <;> cases hd
  | ad xs => cases n <;> cases hd
theorem cal__law_same (T : Tx K mg) (F : FnP K "_law_same" (top 76) f fd) (gf : mg "_law_same" = some (.ref f)) (hb : Binds K fd ["_law_got", "_law_due"] []) : ∀ n : Nat, Cal Pr w K mg base (n + 2) "_law_same" (sp__law_same K n)
  | 0 => cal_of F gf (ok__law_same T 0 1 (cal_of F gf ok_never hb) F) hb
  | n + 1 => cal_of F gf (ok__law_same T (n + 1) (n + 2) (cal__law_same T F gf hb n) F) hb
end

set_option Elab.async false
set_option linter.all false
set_option maxRecDepth 100000
set_option maxHeartbeats 1000000
section
open PySem L2
variable [B : Tb]
variable {Pr : Program} {w : World} {K : PySem.W.Frag} {mg : Str → Option Value} {base : Heap} {f : Addr} {fd : FuncData}

/-! ### the parts at a wheel -/
omit [B : Tb] in
theorem catAK {X : Cx} {K : PySem.W.Frag} (h : X.K = K := by rfl) : OpR X (binaryOp .Add) (rCatA K) := h ▸ op_catA
def Mill.pss (M : Mill) (n : Str) (lot : List Str) : List Sy := if lot = [] then M.ss.filter fun y => decide (y.one ∈ [("" : Str), n]) && decide (y.other ∈ [("" : Str), n]) else M.ss.filter fun y => decide (y.one ∈ lot) || decide (y.other ∈ lot)
def Mill.part (M : Mill) (n : Str) (lot : List Str) : Mill := ⟨M.ws.filter fun x => decide (x.name ∈ lot ++ [n]), M.pss n lot⟩
def Mill.parts (M : Mill) (n : Str) : List Mill := ([] :: M.lots n).map (M.part n)
omit [B : Tb] in
theorem lotsW_nodup : ∀ (ps : List (Str × Str)) (lots : List (List Str)), (∀ l ∈ lots, l.Nodup) → ∀ l ∈ ps.foldl stepL lots, l.Nodup
  | [], _, h => h
  | p :: ps, lots, h => lotsW_nodup ps (stepL lots p) fun l hl => by
    rcases mem_stepL.mp hl with ⟨hl, _⟩ | rfl
    · exact h l hl
    · exact setBy_nodup _
omit [B : Tb] in
theorem lots_nodup (M : Mill) (n : Str) : ∀ l ∈ M.lots n, l.Nodup := fun l hl => by
  refine lotsW_nodup (M.prs n) _ (fun l hl => ?_) l (mem_setL.mp hl)
  obtain ⟨x, _, rfl⟩ := List.mem_map.mp hl
  simp
omit [B : Tb] in
theorem lots_len (M : Mill) (n : Str) : (M.lots n).length ≤ (M.rest n).length := by
  have h := lots_ltk M n
  have nd : (M.lots n).Nodup := setL_nodup _
  have hm : ∀ l ∈ M.lots n, l.headD "" ∈ l := fun l hl => by
    cases l with
    | nil => exact absurd rfl (h.ne [] hl)
    | cons x xs => exact List.mem_cons_self ..
  have nd2 : ((M.lots n).map fun l => l.headD "").Nodup := by
    refine List.pairwise_map.mpr (List.Pairwise.imp_of_mem ?_ nd)
    intro a c ha hc ne e
    exact ne (h.dis a ha c hc _ (hm a ha) (e ▸ hm c hc))
  have := nodup_len (m := M.rest n) nd2 fun x hx => by
    obtain ⟨l, hl, rfl⟩ := List.mem_map.mp hx
    exact h.sub l hl _ (hm l hl)
  rwa [List.length_map] at this
omit [B : Tb] in
theorem lot_len (M : Mill) (n : Str) : ∀ l ∈ M.lots n, l.length ≤ (M.rest n).length := fun l hl => nodup_len (lots_nodup M n l hl) ((lots_ltk M n).sub l hl)
theorem sc__law_parts : FnScope ["_law_hall_here", "_law_tag", "_law_lot", "_law_lots", "_law_found", "_law_names", "_law_rows", "_law_own", "_law_end"] ["_law_hall_here", "_law_tag"] (defScope (top 81)) := ⟨rfl, rfl, rfl, by decide +kernel, rfl, by decide +kernel, by decide +kernel⟩
abbrev sp__law_parts (K : PySem.W.Frag) : Sp := SpP K (fun x : Mill × (Str → Int) × Str => [milD x.1, .str x.2.2]) (fun x => x.1.Good x.2.1 ∧ x.2.2 ∈ x.1.names) (fun x d => d = .lst ((x.1.parts x.2.2).map milD))
theorem ok__law_parts (T : Tx K mg) (c_split_at : Cal Pr w K mg base 3 "split_at" (sp_split_at K)) (F : FnP K "_law_parts" (top 81) f fd) : FnOk Pr w K mg base CX0 4 f fd ["_law_hall_here", "_law_tag"] (sp__law_parts K) := by
  have nd := sc__law_parts.nd
  refine fn_P F sc__law_parts (fun _ => rfl) (by decide) fun cdv A outer s H E hr => ⟨_, (pss_cons (ps_par (i := 3) (j := 4) rfl nd rfl rfl (by decide) rfl rfl (pa_cons (pe_c c_split_at hr (by decide) rfl (pa_cons (pv 0) (pa_cons (pe_tup (pa_cons (pv 1) pa_nil)) pa_nil))) (pa_cons (pe_lst pa_nil) pa_nil)) (by rfl))
    (pss_cons (ps_for PassesOwn.never rfl (piTK (K := K) (pe_op (catAK (K := K)) (pe_tup (pa_cons (pe_tup pa_nil) pa_nil)) (pv 3))) (pgn (i := 2) nd rfl) (pss_cons (pst (i := 5) nd rfl (pe_op (catAK (K := K)) (pv 2) (pe_tup (pa_cons (pv 1) pa_nil))))
    (pss_cons (ps_setLc (i := 6) (own := [("_law_own", 7)]) rfl nd rfl rfl (sw_true rfl rfl rfl (by kernel_rfl)) (piTK (K := K) (pe_ix (ixK (K := K)) (pv 0) pe_int (fun _ _ => rfl))) (blkOk_by (by kernel_rfl)) (fun _ _ _ _ _ => (pgn (i := 7) nd rfl)) (fun _ _ _ _ _ => (pts_one (pt_cmpR (neDK (K := K) hr.units) (pe_lc (own := [("_law_end", 8)]) rfl nd (piTK (K := K) (pe_slice (slTK (K := K)) (pv 7) (po_some pe_int) (po_some pe_int))) (blkOk_by (by kernel_rfl)) (fun _ _ _ _ _ => (pgn (i := 8) nd rfl)) (fun _ _ _ _ _ => (pts_one (pt_cmpR (inK (K := K)) (pv 8) (pv 2) rfl))) (fun _ _ _ _ _ => (pv 8))) (pe_lst pa_nil) (nomark _)))) (fun _ _ _ _ _ => (pv 7)))
    (pss_cons (ps_if (pt_cmpR (eqDK (K := K) hr.units) (pv 2) (pe_tup pa_nil) (nomark _)) (pss_one (ps_setLc (i := 6) (own := [("_law_own", 7)]) rfl nd rfl rfl (sw_true rfl rfl rfl (by kernel_rfl)) (piTK (K := K) (pe_ix (ixK (K := K)) (pv 0) pe_int (fun _ _ => rfl))) (blkOk_by (by kernel_rfl)) (fun _ _ _ _ _ => (pgn (i := 7) nd rfl)) (fun _ _ _ _ _ => (pts_one (PW.pt (pw_and (pt_cmpR (inK (K := K)) (pe_ix (ixK (K := K)) (pv 7) pe_int (fun _ _ => rfl)) (pe_tup (pa_cons pe_str (pa_cons (pv 1) pa_nil))) rfl) (pw_and1 (pt_cmpR (inK (K := K)) (pe_ix (ixK (K := K)) (pv 7) pe_int (fun _ _ => rfl)) (pe_tup (pa_cons pe_str (pa_cons (pv 1) pa_nil))) rfl)))))) (fun _ _ _ _ _ => (pv 7)))) pss_nil)
    (pss_one (ps_expr (pe_bm PySem.F.plainAttrs_list PySem.F.slot_list_append PySem.F.type_list_append mt_append (pv 4) (pa_cons (pe_tup (pa_cons (pe_callTy (tupleK (K := K)) rfl T.tuple_ bt_tuple (pa_cons (pe_lc (own := [("_law_own", 7)]) rfl nd (piTK (K := K) (pe_ix (ixK (K := K)) (pv 0) pe_int (fun _ _ => rfl))) (blkOk_by (by kernel_rfl)) (fun _ _ _ _ _ => (pgn (i := 7) nd rfl)) (fun _ _ _ _ _ => (pts_one (pt_cmpR (inK (K := K)) (pe_ix (ixK (K := K)) (pv 7) pe_int (fun _ _ => rfl)) (pv 5) rfl))) (fun _ _ _ _ _ => (pv 7))) pa_nil)) (pa_cons (pe_callTy (tupleK (K := K)) rfl T.tuple_ bt_tuple (pa_cons (pv 6) pa_nil)) pa_nil))) pa_nil))))))))
    (pss_one (ps_ret (pv 4))))), ?_⟩
  rintro ⟨M, b, n⟩ ⟨hM, hn⟩
  dsimp only at hM hn
  try dsimp only [cxOf]
  change SX K _ [.dat (milD M), .dat (.str n), .emp, .emp, .emp, .emp, .emp, .emp, .emp] _ _
  have hnok : ∀ x ∈ M.names, PyData.strOk x = true := fun x hx => hM.nice.ok x (List.mem_cons_of_mem _ hx)
  have hL := lots_ltk M n
  refine sx_seq ?_
  refine sx_parN ?_
  repeat' tm_at "ex"
  refine ⟨⟨hM.ok.sh, hnok, hn⟩, ?_⟩
  rintro d rfl
  refine ef_lst (ea_nil ⟨sz (by decide), fun l => ?_⟩)
  tm_at "ex"
  refine sx_forM (ix_tup (ex_op ?_))
  repeat' tm_at "ex"
  have hrl : (M.rest n).length ≤ 4 := by
    have h1 : (M.rest n).length ≤ M.names.length := List.length_filter_le ..
    have h2 := hM.ws
    have h3 : M.names.length = M.ws.length := by simp [Mill.names]
    omega
  have hll : (M.lots n).length ≤ 4 := Nat.le_trans (lots_len M n) hrl
  refine od_catT (Nat.le_trans (by rw [List.length_map]; show 1 + (M.lots n).length ≤ 5; omega : _ ≤ 5) (by decide)) ?_
  refine ⟨_, rfl, List Str, [] :: M.lots n, strsD, fun i G => ∃ s2 s5 s6, G = [.dat (milD M), .dat (.str n), s2, .dat (.tup ((M.lots n).map strsD)), .own l (.lst (((([] :: M.lots n).take i).map (M.part n)).map milD)), s5, s6, .emp, .emp], rfl, ⟨_, _, _, rfl⟩, ?_, ?_⟩
  · rintro i lot G hi ⟨s2, s5, s6, rfl⟩
    repeat' tm_at "ex"
    refine od_catT ?_ ?_
    · rw [List.length_map]
      have : lot.length ≤ 4 := by
        rcases List.mem_cons.mp (List.mem_of_getElem? hi) with rfl | h
        · decide
        · exact Nat.le_trans (lot_len M n lot h) hrl
      exact sz (by simp; omega)
    have hlo : ∀ x ∈ lot, PyData.strOk x = true := fun x hx => by
      rcases List.mem_cons.mp (List.mem_of_getElem? hi) with rfl | h
      · cases hx
      · exact hnok x (mem_rest.mp (hL.sub lot h x hx)).1
    have hil : i < (M.lots n).length + 1 := (List.getElem?_eq_some_iff.mp hi).1
    have hss := hM.ss
    have hws := hM.ws
    refine sx_seq (SX.imp (N := fun G => G = [.dat (milD M), .dat (.str n), .dat (strsD lot), .dat (.tup ((M.lots n).map strsD)), .own l (.lst (((([] :: M.lots n).take i).map (M.part n)).map milD)), .dat (strsD (lot ++ [n])), .dat (.lst ((M.ss.filter fun y => decide (y.one ∈ lot) || decide (y.other ∈ lot)).map syD)), .emp, .emp]) ?_ (fun _ _ h => h) ?_)
    · refine sx_set (ex_of (ef_lcM (tch_name 7) (by decide) ?_))
      repeat' tm_at "ex"
      refine ⟨noOwn_of rfl, Sy, M.ss, syD, fun y => if (decide (y.one ∈ lot) || decide (y.other ∈ lot)) = true then some (syD y) else none, rfl, sz (by omega), fun y hy => ?_, ?_⟩
      · unfold LcT
        repeat' tm_at "ex"
        refine ex_of (ef_lcM (tch_name 8) (by decide) (ix_tup (ex_slT ?_)))
        repeat' tm_at "ex"
        refine ⟨noOwn_of rfl, Str, [y.one, y.other], .str, fun x => if decide (x ∈ lot) = true then some (.str x) else none, rfl, szB (by rfl), fun x hx => ?_, ?_⟩
        · unfold LcT
          repeat' tm_at "ex"
          refine od_inS (xs := lot) rfl ?_
          rw [if_neg (by decide)]
          repeat' tm_at "ex"
          refine ⟨fun h => ?_, fun h => ?_⟩
          · repeat' tm_at "ex"
            exact ⟨agr_wipe.set (by decide), if_pos h⟩
          · refine ⟨agr_wipe.set (by decide), if_neg ?_⟩
            rw [h]; simp
        · rw [filterMap_if (fun x : Str => decide (x ∈ lot)) Dt.str]
          refine ex_of (ef_lst ?_)
          repeat' tm_at "ex"
          refine od_neD (n := 60) (by decide) ?_ ?_ fun c hc => ?_
          · show Dt.pls 59 _ = true
            rw [Dt.pls_all, List.all_eq_true]
            intro d hd
            obtain ⟨x, hx, rfl⟩ := List.mem_map.mp hd
            exact hlo x (by simpa using (List.mem_filter.mp hx).2)
          · rfl
          · have hc2 : c = (decide (y.one ∈ lot) || decide (y.other ∈ lot)) := by
              refine Bool.eq_iff_iff.mpr (hc.trans ?_)
              by_cases h1 : y.one ∈ lot <;> by_cases h2 : y.other ∈ lot <;> simp [h1, h2]
            subst hc2
            repeat' tm_at "ex"
            refine ⟨fun h => ?_, fun h => ?_⟩
            · repeat' tm_at "ex"
              exact ⟨agr_wipe.set (by decide), if_pos h⟩
            · refine ⟨agr_wipe.set (by decide), if_neg ?_⟩
              rw [h]; simp
      · rw [filterMap_if (fun y : Sy => decide (y.one ∈ lot) || decide (y.other ∈ lot)) syD]
        show [_, _, _, _, _, Sl.dat (.tup (lot.map .str ++ [.str n])), _, _, _] = [_, _, _, _, _, Sl.dat (.tup ((lot ++ [n]).map .str)), _, _, _]
        rw [List.map_append]; rfl
    · rintro G rfl
      refine sx_seq (SX.imp (N := fun G => G = [.dat (milD M), .dat (.str n), .dat (strsD lot), .dat (.tup ((M.lots n).map strsD)), .own l (.lst (((([] :: M.lots n).take i).map (M.part n)).map milD)), .dat (strsD (lot ++ [n])), .dat (.lst ((M.pss n lot).map syD)), .emp, .emp]) ?_ (fun _ _ h => h) ?_)
      · repeat' tm_at "ex"
        refine od_eqD (n := 60) (by decide) (pl_strsD hlo 58) rfl fun c hc => ?_
        refine ⟨c, rfl, fun h => ?_, fun h => ?_⟩
        · have hl0 : lot = [] := by
            have := hc.mp h
            cases lot with
            | nil => rfl
            | cons x xs => simp at this
          subst hl0
          refine sx_set (ex_of (ef_lcM (tch_name 7) (by decide) ?_))
          repeat' tm_at "ex"
          refine ⟨noOwn_of rfl, Sy, M.ss, syD, fun y => if (decide (y.one ∈ [("" : Str), n]) && decide (y.other ∈ [("" : Str), n])) = true then some (syD y) else none, rfl, sz (by omega), fun y hy => ?_, ?_⟩
          · unfold LcT
            repeat' tm_at "ex"
            refine od_inS (xs := [("" : Str), n]) rfl ?_
            rw [if_neg (by decide)]
            repeat' tm_at "ex"
            refine ⟨fun h => ?_, fun h => ?_⟩
            · repeat' tm_at "ex"
              refine od_inS (xs := [("" : Str), n]) rfl ?_
              rw [if_neg (by decide)]
              repeat' tm_at "ex"
              refine ⟨fun h2 => ?_, fun h2 => ?_⟩
              · repeat' tm_at "ex"
                refine ⟨agr_wipe.set (by decide), if_pos ?_⟩
                rw [h, h2]; rfl
              · refine ⟨agr_wipe.set (by decide), if_neg ?_⟩
                rw [h2]; simp
            · refine ⟨nofun, fun _ => ⟨agr_wipe.set (by decide), if_neg ?_⟩⟩
              rw [h]; simp
          · rw [filterMap_if (fun y : Sy => decide (y.one ∈ [("" : Str), n]) && decide (y.other ∈ [("" : Str), n])) syD]
            unfold Mill.pss
            rw [if_pos rfl]
            rfl
        · have hl0 : lot ≠ [] := fun z => by
            have := hc.mpr (by rw [z]; rfl)
            rw [h] at this; cases this
          refine sx_next ?_
          unfold Mill.pss
          rw [if_neg hl0]
      · rintro G rfl
        refine sx_append ⟨_, _, rfl⟩ (ex_tup ?_) ⟨_, _, rfl⟩
        repeat' tm_at "ex"
        refine ex_of (ef_lcM (tch_name 7) (by decide) ?_)
        repeat' tm_at "ex"
        refine ⟨noOwn_of rfl, Wh, M.ws, whD, fun x => if decide (x.name ∈ lot ++ [n]) = true then some (whD x) else none, rfl, sz (by omega), fun x hx => ?_, ?_⟩
        · unfold LcT
          repeat' tm_at "ex"
          refine od_inS (xs := lot ++ [n]) rfl ?_
          rw [if_neg (by decide)]
          repeat' tm_at "ex"
          refine ⟨fun h => ?_, fun h => ?_⟩
          · repeat' tm_at "ex"
            exact ⟨agr_wipe.set (by decide), if_pos h⟩
          · refine ⟨agr_wipe.set (by decide), if_neg ?_⟩
            rw [h]; simp
        · rw [filterMap_if (fun x : Wh => decide (x.name ∈ lot ++ [n])) whD]
          repeat' tm_at "ex"
          refine ⟨_, _, rfl, ?_, .dat (strsD lot), .dat (strsD (lot ++ [n])), .dat (.lst ((M.pss n lot).map syD)), ?_⟩
          · rw [List.length_map, List.length_map, List.length_take]; exact Nat.lt_of_le_of_lt (by omega : _ ≤ 5) (by decide)
          · rw [take_snoc hi, List.map_append, List.map_append]
            rfl
  · rintro G ⟨s2, s5, s6, rfl⟩
    rw [List.take_length]
    exact sx_ret (ex_own rfl rfl)
end

set_option Elab.async false
set_option linter.all false
set_option maxRecDepth 100000
/-! Q3: parts of a mill, and mills joined. -/
section
open PySem L2
variable [B : Tb]
/-! ### joins -/
structure Join (M N J : Mill) : Prop where
  aw : Asc (J.ws.map (·.name))
  as : Asc (J.ss.map (·.name))
  mw : ∀ x, x ∈ J.ws ↔ x ∈ M.ws ∨ x ∈ N.ws
  ms : ∀ y, y ∈ J.ss ↔ y ∈ M.ss ∨ y ∈ N.ss
  okw : ∀ x ∈ J.ws, PyData.strOk x.name = true
  oks : ∀ y ∈ J.ss, PyData.strOk y.name = true ∧ PyData.strOk y.one = true ∧ PyData.strOk y.other = true
  l1 : M.ws.length ≤ 20
  l2 : N.ws.length ≤ 20
  l3 : M.ss.length ≤ 20
  l4 : N.ss.length ≤ 20
theorem same_name {α : Type} {f : α → Str} {l : List α} (h : Asc (l.map f)) {x y : α} (hx : x ∈ l) (hy : y ∈ l) (e : f x = f y) : x = y := by
  have nd := List.pairwise_map.mp h.nodup
  obtain ⟨i, hi, rfl⟩ := List.getElem_of_mem hx
  obtain ⟨j, hj, rfl⟩ := List.getElem_of_mem hy
  rcases Nat.lt_trichotomy i j with c | c | c
  · exact absurd e (List.pairwise_iff_getElem.mp nd i j hi hj c)
  · subst c; rfl
  · exact absurd e.symm (List.pairwise_iff_getElem.mp nd j i hj hi c)
theorem setK_asc {α : Type} {row : α → List Key} {nm : α → Str} {rest : α → List Key} (hr : ∀ x, row x = .inr (nm x) :: rest x) {l l' : List α} (h : Asc (l'.map nm)) (hm : ∀ x, x ∈ l' ↔ x ∈ l) : l'.map row = setK (l.map row) := by
  have hp : (l'.map row).Pairwise fun a b => leK a b = true := by
    rw [List.pairwise_map]
    refine (List.pairwise_map.mp h).imp fun {a b} hab => ?_
    show leD (tD (row a)) (tD (row b)) = true
    rw [hr, hr]
    exact head_le hab
  have nd : (l'.map row).Nodup := by
    refine List.pairwise_map.mpr ((List.pairwise_map.mp h).imp fun {a b} hab e => ?_)
    rw [hr, hr] at e
    injection e with e1 _
    injection e1 with e1
    exact ltS_ne hab e1
  rw [← setK_eq (l := l.map row) nd fun x => ?_]
  · exact (List.mergeSort_of_pairwise hp).symm
  · rw [List.mem_map, List.mem_map]
    constructor
    · rintro ⟨y, hy, e⟩; exact ⟨y, (hm y).mp hy, e⟩
    · rintro ⟨y, hy, e⟩; exact ⟨y, (hm y).mpr hy, e⟩
theorem Join.un {M N J : Mill} (h : Join M N J) : Un2 M N := by
  refine ⟨⟨?_, ?_, ?_, ?_, ?_, ?_, ?_⟩, ⟨?_, ?_, ?_, ?_, ?_, ?_, ?_⟩⟩
  · show (M.ws.map Wh.rw).length ≤ 60
    rw [List.length_map]; have := h.l1; omega
  · show (N.ws.map Wh.rw).length ≤ 60
    rw [List.length_map]; have := h.l2; omega
  · intro r hr; obtain ⟨x, hx, rfl⟩ := List.mem_map.mp hr; show 2 ≤ 10; decide
  · intro r hr; obtain ⟨x, hx, rfl⟩ := List.mem_map.mp hr; show 2 ≤ 10; decide
  · intro r hr; obtain ⟨x, hx, rfl⟩ := List.mem_map.mp hr; exact wh_row (h.okw x ((h.mw x).mpr (.inl hx)))
  · intro r hr; obtain ⟨x, hx, rfl⟩ := List.mem_map.mp hr; exact wh_row (h.okw x ((h.mw x).mpr (.inr hx)))
  · intro r hr q hq e
    obtain ⟨x, hx, rfl⟩ := List.mem_map.mp hr
    obtain ⟨y, hy, rfl⟩ := List.mem_map.mp hq
    rw [same_name h.aw ((h.mw x).mpr (.inl hx)) ((h.mw y).mpr (.inr hy)) e]
  · show (M.ss.map Sy.rw).length ≤ 60
    rw [List.length_map]; have := h.l3; omega
  · show (N.ss.map Sy.rw).length ≤ 60
    rw [List.length_map]; have := h.l4; omega
  · intro r hr; obtain ⟨x, hx, rfl⟩ := List.mem_map.mp hr; show 4 ≤ 10; decide
  · intro r hr; obtain ⟨x, hx, rfl⟩ := List.mem_map.mp hr; show 4 ≤ 10; decide
  · intro r hr; obtain ⟨x, hx, rfl⟩ := List.mem_map.mp hr; exact sy_row (h.oks x ((h.ms x).mpr (.inl hx)))
  · intro r hr; obtain ⟨x, hx, rfl⟩ := List.mem_map.mp hr; exact sy_row (h.oks x ((h.ms x).mpr (.inr hx)))
  · intro r hr q hq e
    obtain ⟨x, hx, rfl⟩ := List.mem_map.mp hr
    obtain ⟨y, hy, rfl⟩ := List.mem_map.mp hq
    rw [same_name h.as ((h.ms x).mpr (.inl hx)) ((h.ms y).mpr (.inr hy)) e]
theorem Join.jn {M N J : Mill} (h : Join M N J) : Jn M N J := by
  have h1 := h.l1
  have h2 := h.l2
  have h3 := h.l3
  have h4 := h.l4
  refine ⟨by omega, by omega, fun x hx => h.okw x ((h.mw x).mpr (List.mem_append.mp hx)), fun x hx => h.oks x ((h.ms x).mpr (List.mem_append.mp hx)), ?_, ?_⟩
  · exact setK_asc (nm := (·.name)) (rest := fun x => [.inl x.turn, .inl x.mark]) (fun x => rfl) h.aw fun x => (h.mw x).trans List.mem_append.symm
  · exact setK_asc (nm := (·.name)) (rest := fun x => [.inr x.one, .inr x.other, .inl x.late, .inl x.dial]) (fun x => rfl) h.as fun x => (h.ms x).trans List.mem_append.symm
/-! ### mills within a mill -/
structure SubM (S M : Mill) : Prop where
  w : S.ws.Sublist M.ws
  s : S.ss.Sublist M.ss
theorem SubM.refl (M : Mill) : SubM M M := ⟨List.Sublist.refl _, List.Sublist.refl _⟩
theorem SubM.names {S M : Mill} (h : SubM S M) : S.names.Sublist M.names := h.w.map _
theorem SubM.spots {S M : Mill} (h : SubM S M) : S.spots.Sublist M.spots := List.Sublist.cons_cons ("" : Str) h.names
theorem Mill.Good.sub {M S : Mill} {b : Str → Int} (hM : M.Good b) (h : SubM S M) (he : ∀ y ∈ S.ss, y.one ∈ S.spots ∧ y.other ∈ S.spots) : S.Good b := by
  have h1 := h.w.length_le
  have h2 := h.s.length_le
  have h3 := hM.ws
  have h4 := hM.ss
  refine ⟨⟨⟨by omega, by omega⟩, ⟨hM.ok.nm.nd.sublist h.names, fun z => hM.ok.nm.ne (h.names.subset z)⟩, fun y hy => ?_⟩, ⟨fun n hn => hM.nice.ok n (h.spots.subset hn), List.Pairwise.sublist h.spots hM.nice.asc⟩, List.Pairwise.sublist (h.s.map _) hM.asc, fun y hy => hM.nok y (h.s.subset hy), fun y hy => hM.yy y (h.s.subset hy), by omega, by omega⟩
  have := hM.ok.ss y (h.s.subset hy)
  exact ⟨(he y hy).1, (he y hy).2, this.ne, this.dial, this.kept⟩
theorem Mill.Good.wasc {M : Mill} {b : Str → Int} (hM : M.Good b) : Asc (M.ws.map (·.name)) := by
  have := hM.nice.asc
  exact (List.pairwise_cons.mp this).2
theorem Mill.Good.sok {M : Mill} {b : Str → Int} (hM : M.Good b) : ∀ y ∈ M.ss, PyData.strOk y.name = true ∧ PyData.strOk y.one = true ∧ PyData.strOk y.other = true := fun y hy =>
  ⟨hM.nok y hy, hM.nice.ok _ (hM.ok.ss y hy).one, hM.nice.ok _ (hM.ok.ss y hy).other⟩
theorem Mill.Good.wok {M : Mill} {b : Str → Int} (hM : M.Good b) : ∀ x ∈ M.ws, PyData.strOk x.name = true := fun x hx => hM.nice.ok _ (List.mem_cons_of_mem _ (List.mem_map.mpr ⟨x, hx, rfl⟩))
theorem join_sub {M S S' J : Mill} {b : Str → Int} (hM : M.Good b) (h : SubM S M) (h' : SubM S' M) (hJ : SubM J M) (mw : ∀ x ∈ M.ws, x ∈ J.ws ↔ x ∈ S.ws ∨ x ∈ S'.ws) (ms : ∀ y ∈ M.ss, y ∈ J.ss ↔ y ∈ S.ss ∨ y ∈ S'.ss) : Join S S' J := by
  have h3 := hM.ws
  have h4 := hM.ss
  have a1 := h.w.length_le
  have a2 := h.s.length_le
  have a3 := h'.w.length_le
  have a4 := h'.s.length_le
  refine ⟨List.Pairwise.sublist (hJ.w.map _) hM.wasc, List.Pairwise.sublist (hJ.s.map _) hM.asc, fun x => ⟨fun hx => (mw x (hJ.w.subset hx)).mp hx, fun hx => (mw x ?_).mpr hx⟩, fun x => ⟨fun hx => (ms x (hJ.s.subset hx)).mp hx, fun hx => (ms x ?_).mpr hx⟩, fun x hx => hM.wok x (hJ.w.subset hx), fun y hy => hM.sok y (hJ.s.subset hy), by omega, by omega, by omega, by omega⟩
  · exact hx.elim (fun z => h.w.subset z) fun z => h'.w.subset z
  · exact hx.elim (fun z => h.s.subset z) fun z => h'.s.subset z
/-! ### the parts at a wheel -/
def inP (n : Str) (lot : List Str) (y : Sy) : Bool := if lot = [] then decide (y.one ∈ [("" : Str), n]) && decide (y.other ∈ [("" : Str), n]) else decide (y.one ∈ lot) || decide (y.other ∈ lot)
theorem pss_eq (M : Mill) (n : Str) (lot : List Str) : M.pss n lot = M.ss.filter (inP n lot) := by
  unfold Mill.pss inP
  by_cases h : lot = []
  · rw [if_pos h]; congr 1; funext y; rw [if_pos h]
  · rw [if_neg h]; congr 1; funext y; rw [if_neg h]
def Mill.uni (M : Mill) (n : Str) (Ls : List (List Str)) : Mill := ⟨M.ws.filter fun x => Ls.any fun lot => decide (x.name ∈ lot ++ [n]), M.ss.filter fun y => Ls.any fun lot => inP n lot y⟩
/-- the lots, the one of the crank and the wheel ahead -/
def Mill.Ls (M : Mill) (n : Str) : List (List Str) := [] :: M.lots n
theorem Ls_nodup (M : Mill) (n : Str) : (M.Ls n).Nodup := List.nodup_cons.mpr ⟨fun h => (lots_ltk M n).ne [] h rfl, setL_nodup _⟩
theorem part_sub (M : Mill) (n : Str) (lot : List Str) : SubM (M.part n lot) M := ⟨List.filter_sublist, by show (M.pss n lot).Sublist M.ss; rw [pss_eq]; exact List.filter_sublist⟩
theorem uni_sub (M : Mill) (n : Str) (Ls : List (List Str)) : SubM (M.uni n Ls) M := ⟨List.filter_sublist, List.filter_sublist⟩
def Spc (n x : Str) : Prop := x = "" ∨ x = n
section
variable {M : Mill} {b : Str → Int} {n : Str} (hM : M.Good b) (hn : n ∈ M.names)
include hM hn
theorem spot_cases {x : Str} (h : x ∈ M.spots) : Spc n x ∨ x ∈ M.rest n := by
  rcases List.mem_cons.mp h with h | h
  · exact .inl (.inl h)
  · by_cases e : x = n
    · exact .inl (.inr e)
    · exact .inr (mem_rest.mpr ⟨h, e⟩)
theorem rest_not {x : Str} (h : x ∈ M.rest n) : ¬ Spc n x := by
  have h := mem_rest.mp h
  rintro (e | e)
  · exact hM.ok.nm.ne (e ▸ h.1)
  · exact h.2 e
/-- what leads out of a lot -/
theorem lot_out {q : Int} {lot : List Str} (hl : lot ∈ M.lots n) {u v : Str} (hu : u ∈ lot) (h : M.E q u v) : v ∈ lot ∨ Spc n v := by
  have L := lots_ltk M n
  obtain ⟨y, hy, _, ha⟩ := h
  have ho := hM.ok.ss y hy
  have hur := L.sub lot hl u hu
  have hv : v ∈ M.spots := ha.elim (fun z => z.2 ▸ ho.other) fun z => z.1 ▸ ho.one
  rcases spot_cases hM hn hv with c | c
  · exact .inr c
  · refine .inl ?_
    rcases ha with ⟨e1, e2⟩ | ⟨e1, e2⟩
    · obtain ⟨l, hl', k1, k2⟩ := lots_tog hy (e1 ▸ hur) (e2 ▸ c)
      rw [e1] at k1; rw [e2] at k2
      rw [L.dis lot hl l hl' u hu k1]; exact k2
    · obtain ⟨l, hl', k1, k2⟩ := lots_tog hy (e1 ▸ c) (e2 ▸ hur)
      rw [e1] at k1; rw [e2] at k2
      rw [L.dis lot hl l hl' u hu k2]; exact k1
/-- the ends of a part's saying -/
theorem inP_ends {lot : List Str} (hl : lot ∈ M.Ls n) {y : Sy} (hy : y ∈ M.ss) (h : inP n lot y = true) : (y.one ∈ lot ∨ Spc n y.one) ∧ (y.other ∈ lot ∨ Spc n y.other) := by
  unfold inP at h
  rcases List.mem_cons.mp hl with rfl | hl
  · rw [if_pos rfl, Bool.and_eq_true, decide_eq_true_eq, decide_eq_true_eq] at h
    have key : ∀ {x : Str}, x ∈ [("" : Str), n] → Spc n x := fun hx => by
      rcases List.mem_cons.mp hx with e | hx
      · exact .inl e
      · exact .inr (List.mem_singleton.mp hx)
    exact ⟨.inr (key h.1), .inr (key h.2)⟩
  · have hne := (lots_ltk M n).ne lot hl
    rw [if_neg hne, Bool.or_eq_true, decide_eq_true_eq, decide_eq_true_eq] at h
    rcases h with h | h
    · exact ⟨.inl h, lot_out (q := y.dial) hM hn hl h ⟨y, hy, Int.dvd_refl _, .inl ⟨rfl, rfl⟩⟩⟩
    · exact ⟨lot_out (q := y.dial) hM hn hl h ⟨y, hy, Int.dvd_refl _, .inr ⟨rfl, rfl⟩⟩, .inl h⟩
/-- each saying lies in one part -/
theorem inP_some {y : Sy} (hy : y ∈ M.ss) : ∃ lot ∈ M.Ls n, inP n lot y = true := by
  have ho := hM.ok.ss y hy
  have L := lots_ltk M n
  have mid : ∀ {x : Str}, x ∈ M.rest n → (x = y.one ∨ x = y.other) → ∃ lot ∈ M.Ls n, inP n lot y = true := fun {x} hx e => by
    obtain ⟨l, hl, k⟩ := L.cov x hx
    refine ⟨l, List.mem_cons_of_mem _ hl, ?_⟩
    unfold inP
    rw [if_neg (L.ne l hl), Bool.or_eq_true, decide_eq_true_eq, decide_eq_true_eq]
    exact e.elim (fun e => .inl (e ▸ k)) fun e => .inr (e ▸ k)
  rcases spot_cases hM hn ho.one with c1 | c1
  · rcases spot_cases hM hn ho.other with c2 | c2
    · refine ⟨[], List.mem_cons_self .., ?_⟩
      unfold inP
      rw [if_pos rfl, Bool.and_eq_true, decide_eq_true_eq, decide_eq_true_eq]
      have key : ∀ {x : Str}, Spc n x → x ∈ [("" : Str), n] := fun h => by
        rcases h with rfl | rfl
        · exact List.mem_cons_self ..
        · exact List.mem_cons_of_mem _ (List.mem_cons_self ..)
      exact ⟨key c1, key c2⟩
    · exact mid c2 (.inr rfl)
  · exact mid c1 (.inl rfl)
theorem inP_one {y : Sy} (hy : y ∈ M.ss) {l l' : List Str} (hl : l ∈ M.Ls n) (hl' : l' ∈ M.Ls n) (h : inP n l y = true) (h' : inP n l' y = true) : l = l' := by
  have L := lots_ltk M n
  have key : ∀ {l l' : List Str}, l ∈ M.lots n → l' ∈ M.Ls n → inP n l y = true → inP n l' y = true → l = l' := fun {l l'} hl hl' h h' => by
    unfold inP at h
    rw [if_neg (L.ne l hl), Bool.or_eq_true, decide_eq_true_eq, decide_eq_true_eq] at h
    have e' := inP_ends hM hn hl' hy h'
    have go : ∀ {x : Str}, x ∈ l → (x ∈ l' ∨ Spc n x) → l = l' := fun {x} hx hc => by
      rcases hc with hc | hc
      · rcases List.mem_cons.mp hl' with rfl | hl'
        · cases hc
        · exact L.dis l hl l' hl' x hx hc
      · exact absurd hc (rest_not hM hn (L.sub l hl x hx))
    exact h.elim (fun h => go h e'.1) fun h => go h e'.2
  rcases List.mem_cons.mp hl with rfl | hl
  · rcases List.mem_cons.mp hl' with rfl | hl'
    · rfl
    · exact (key hl' (List.mem_cons_self ..) h' h).symm
  · exact key hl hl' h h'
theorem mem_uni_w {Ls : List (List Str)} {x : Wh} : x ∈ (M.uni n Ls).ws ↔ x ∈ M.ws ∧ ∃ lot ∈ Ls, x.name ∈ lot ∨ x.name = n := by
  unfold Mill.uni
  rw [List.mem_filter]
  simp
theorem mem_uni_s {Ls : List (List Str)} {y : Sy} : y ∈ (M.uni n Ls).ss ↔ y ∈ M.ss ∧ ∃ lot ∈ Ls, inP n lot y = true := by
  unfold Mill.uni
  rw [List.mem_filter]
  simp
theorem mem_part_w {lot : List Str} {x : Wh} : x ∈ (M.part n lot).ws ↔ x ∈ M.ws ∧ (x.name ∈ lot ∨ x.name = n) := by
  unfold Mill.part
  rw [List.mem_filter]
  simp
theorem mem_part_s {lot : List Str} {y : Sy} : y ∈ (M.part n lot).ss ↔ y ∈ M.ss ∧ inP n lot y = true := by
  show y ∈ M.pss n lot ↔ _
  rw [pss_eq, List.mem_filter]
theorem mem_names {S : Mill} {x : Str} : x ∈ S.names ↔ ∃ z ∈ S.ws, z.name = x := by
  unfold Mill.names
  rw [List.mem_map]
theorem uni_spot {Ls : List (List Str)} {x : Str} : x ∈ (M.uni n Ls).spots ↔ x = "" ∨ (x ∈ M.names ∧ ∃ lot ∈ Ls, x ∈ lot ∨ x = n) := by
  unfold Mill.spots
  rw [List.mem_cons, mem_names hM hn]
  constructor
  · rintro (h | ⟨z, hz, rfl⟩)
    · exact .inl h
    · obtain ⟨h1, h2⟩ := (mem_uni_w hM hn).mp hz
      exact .inr ⟨(mem_names hM hn).mpr ⟨z, h1, rfl⟩, h2⟩
  · rintro (h | ⟨h1, h2⟩)
    · exact .inl h
    · obtain ⟨z, hz, rfl⟩ := (mem_names hM hn).mp h1
      exact .inr ⟨z, (mem_uni_w hM hn).mpr ⟨hz, h2⟩, rfl⟩
theorem part_spot {lot : List Str} (hl : lot ∈ M.Ls n) {x : Str} : x ∈ (M.part n lot).spots ↔ x ∈ lot ∨ Spc n x := by
  unfold Mill.spots
  rw [List.mem_cons, mem_names hM hn]
  constructor
  · rintro (h | ⟨z, hz, rfl⟩)
    · exact .inr (.inl h)
    · obtain ⟨h1, h2⟩ := (mem_part_w hM hn).mp hz
      exact h2.elim .inl fun h => .inr (.inr h)
  · rintro (h | h | h)
    · rcases List.mem_cons.mp hl with rfl | hl
      · cases h
      · have := (mem_rest.mp ((lots_ltk M n).sub lot hl x h)).1
        obtain ⟨z, hz, rfl⟩ := (mem_names hM hn).mp this
        exact .inr ⟨z, (mem_part_w hM hn).mpr ⟨hz, .inl h⟩, rfl⟩
    · exact .inl h
    · obtain ⟨z, hz, e⟩ := (mem_names hM hn).mp hn
      exact .inr ⟨z, (mem_part_w hM hn).mpr ⟨hz, .inr e⟩, e.trans h.symm⟩
theorem part_good {lot : List Str} (hl : lot ∈ M.Ls n) : (M.part n lot).Good b := Mill.Good.sub hM (part_sub M n lot) fun y hy => by
  obtain ⟨h1, h2⟩ := (mem_part_s hM hn).mp hy
  have := inP_ends hM hn hl h1 h2
  exact ⟨(part_spot hM hn hl).mpr this.1, (part_spot hM hn hl).mpr this.2⟩
theorem uni_good {Ls : List (List Str)} (hL : ∀ l ∈ Ls, l ∈ M.Ls n) : (M.uni n Ls).Good b := Mill.Good.sub hM (uni_sub M n Ls) fun y hy => by
  obtain ⟨h1, lot, hl, h2⟩ := (mem_uni_s hM hn).mp hy
  have := inP_ends hM hn (hL lot hl) h1 h2
  have key : ∀ {x : Str}, x ∈ lot ∨ Spc n x → x ∈ (M.uni n Ls).spots := fun {x} hx => by
    have := (part_spot hM hn (hL lot hl)).mpr hx
    refine (uni_spot hM hn).mpr ?_
    rcases hx with hx | hx | hx
    · refine .inr ⟨?_, lot, hl, .inl hx⟩
      rcases List.mem_cons.mp (hL lot hl) with rfl | hl'
      · cases hx
      · exact (mem_rest.mp ((lots_ltk M n).sub lot hl' x hx)).1
    · exact .inl hx
    · exact .inr ⟨hx ▸ hn, lot, hl, .inr hx⟩
  exact ⟨key this.1, key this.2⟩
/-- one part more -/
theorem uni_join {Ls : List (List Str)} (lot : List Str) : Join (M.uni n Ls) (M.part n lot) (M.uni n (Ls ++ [lot])) := by
  refine join_sub hM (uni_sub M n Ls) (part_sub M n lot) (uni_sub M n _) (fun x hx => ?_) fun y hy => ?_
  · rw [mem_uni_w hM hn, mem_uni_w hM hn, mem_part_w hM hn]
    constructor
    · rintro ⟨_, l, hl, k⟩
      rcases List.mem_append.mp hl with z | z
      · exact .inl ⟨hx, l, z, k⟩
      · rw [List.mem_singleton.mp z] at k; exact .inr ⟨hx, k⟩
    · rintro (⟨_, l, hl, k⟩ | ⟨_, k⟩)
      · exact ⟨hx, l, List.mem_append_left _ hl, k⟩
      · exact ⟨hx, lot, List.mem_append_right _ (List.mem_singleton.mpr rfl), k⟩
  · rw [mem_uni_s hM hn, mem_uni_s hM hn, mem_part_s hM hn]
    constructor
    · rintro ⟨_, l, hl, k⟩
      rcases List.mem_append.mp hl with z | z
      · exact .inl ⟨hy, l, z, k⟩
      · rw [List.mem_singleton.mp z] at k; exact .inr ⟨hy, k⟩
    · rintro (⟨_, l, hl, k⟩ | ⟨_, k⟩)
      · exact ⟨hy, l, List.mem_append_left _ hl, k⟩
      · exact ⟨hy, lot, List.mem_append_right _ (List.mem_singleton.mpr rfl), k⟩
/-- all parts make the mill -/
theorem uni_all : M.uni n (M.Ls n) = M := by
  have e1 : (M.ws.filter fun x => (M.Ls n).any fun lot => decide (x.name ∈ lot ++ [n])) = M.ws := by
    rw [List.filter_eq_self]
    intro x hx
    have hxn : x.name ∈ M.names := List.mem_map.mpr ⟨x, hx, rfl⟩
    rw [List.any_eq_true]
    by_cases e : x.name = n
    · exact ⟨[], List.mem_cons_self .., by rw [e]; simp⟩
    · obtain ⟨l, hl, k⟩ := (lots_ltk M n).cov x.name (mem_rest.mpr ⟨hxn, e⟩)
      exact ⟨l, List.mem_cons_of_mem _ hl, by simp [k]⟩
  have e2 : (M.ss.filter fun y => (M.Ls n).any fun lot => inP n lot y) = M.ss := by
    rw [List.filter_eq_self]
    intro y hy
    obtain ⟨l, hl, k⟩ := inP_some hM hn hy
    rw [List.any_eq_true]
    exact ⟨l, hl, k⟩
  unfold Mill.uni
  rw [e1, e2]
theorem uni_nil : M.uni n [] = ⟨[], []⟩ := by
  unfold Mill.uni
  have e1 : (M.ws.filter fun x => ([] : List (List Str)).any fun lot => decide (x.name ∈ lot ++ [n])) = [] := by rw [List.filter_eq_nil_iff]; intro x _; simp
  have e2 : (M.ss.filter fun y => ([] : List (List Str)).any fun lot => inP n lot y) = [] := by rw [List.filter_eq_nil_iff]; intro x _; simp
  rw [e1, e2]
end
end

set_option Elab.async false
set_option linter.all false
set_option maxRecDepth 100000
/-! Q4: what is sure across parts; letters. -/
section
open PySem L2
variable [B : Tb]
theorem C_mono {S M : Mill} (h : ∀ y ∈ S.ss, y ∈ M.ss) {q : Int} {u v : Str} (e : S.C q u v) : M.C q u v :=
  Cn.mono (fun u v ⟨y, hy, hd, ha⟩ => .one ⟨y, h y hy, hd, ha⟩) e
/-- what is sure of a smaller mill is sure -/
theorem D_mono {S M : Mill} {b : Str → Int} (hS : S.Ok b) (hM : M.Ok b) (h : ∀ y ∈ S.ss, y ∈ M.ss) {u v : Str} (hu : u ∈ S.spots) (hv : v ∈ S.spots) (hu' : u ∈ M.spots) (hv' : v ∈ M.spots) : S.D u v ∣ M.D u v :=
  q_dvd ((Mill.D_dl hS).ok u v) ((Mill.D_dl hM).ok u v) fun q hq k => (q_D hM hq hu' hv').mpr (C_mono h ((q_D hS hq hu hv).mp k))
def mids (n : Str) : List (Str × Str) := [("", ""), ("", n), (n, ""), (n, n)]
/-- by the crank and a wheel -/
def much (D : Dl) (u v : Str) (ps : List (Str × Str)) : Int := ps.foldl (fun m p => (Int.lcm m (Int.gcd (Int.gcd (D u p.1) (D p.1 p.2)) (D p.2 v) : Int) : Int)) 1
theorem much_snoc (D : Dl) (u v : Str) (ps : List (Str × Str)) (p : Str × Str) : much D u v (ps ++ [p]) = (Int.lcm (much D u v ps) (Int.gcd (Int.gcd (D u p.1) (D p.1 p.2)) (D p.2 v) : Int) : Int) := by
  unfold much
  rw [List.foldl_append]; rfl
theorem much_ok {D : Dl} (hD : DlOk D) (u v : Str) : ∀ ps : List (Str × Str), Dok (much D u v ps) := by
  intro ps
  induction ps using snoc_ind with
  | h0 => exact .one
  | h ps p ih => rw [much_snoc]; exact ih.lcm (((hD.ok _ _).gcd (hD.ok _ _)).gcd (hD.ok _ _))
theorem q_much {D : Dl} (hD : DlOk D) {q : Int} (hq : q ∈ Qs) (u v : Str) : ∀ ps : List (Str × Str), q ∣ much D u v ps ↔ ∃ p ∈ ps, (q ∣ D u p.1 ∧ q ∣ D p.1 p.2) ∧ q ∣ D p.2 v := by
  intro ps
  induction ps using snoc_ind with
  | h0 => exact ⟨fun h => absurd h (q_one hq), fun ⟨p, hp, _⟩ => nomatch hp⟩
  | h ps p ih =>
    rw [much_snoc, q_lcm hq (much_ok hD u v ps) (((hD.ok _ _).gcd (hD.ok _ _)).gcd (hD.ok _ _)), ih, q_gcd, q_gcd]
    constructor
    · rintro (⟨r, hr, k⟩ | k)
      · exact ⟨r, List.mem_append_left _ hr, k⟩
      · exact ⟨p, List.mem_append_right _ (List.mem_singleton.mpr rfl), k⟩
    · rintro ⟨r, hr, k⟩
      rcases List.mem_append.mp hr with z | z
      · exact .inl ⟨r, z, k⟩
      · rw [List.mem_singleton.mp z] at k; exact .inr k
section
variable {M : Mill} {b : Str → Int} {n : Str} (hM : M.Good b) (hn : n ∈ M.names)
include hM hn
theorem C_out {q : Int} {lot : List Str} (hl : lot ∈ M.lots n) {u v : Str} (hu : u ∈ lot) (h : M.C q u v) : v ∈ lot ∨ ∃ c, Spc n c ∧ M.C q u c := by
  induction h with
  | refl => exact .inl hu
  | @tail v w h e ih =>
    rcases ih with ih | ih
    · rcases lot_out hM hn hl ih e with k | k
      · exact .inl k
      · exact .inr ⟨w, k, .tail h e⟩
    · exact .inr ih
theorem spc_spot {c : Str} (h : Spc n c) : c ∈ M.spots := by
  rcases h with rfl | rfl
  · exact List.mem_cons_self ..
  · exact List.mem_cons_of_mem _ hn
theorem across {lot : List Str} (hl : lot ∈ M.lots n) {u v : Str} (hu : u ∈ lot) (hv : v ∈ M.spots) (nv : v ∉ lot) : M.D u v = much M.D u v (mids n) := by
  have hD := Mill.D_dl hM.ok
  have hus : u ∈ M.spots := List.mem_cons_of_mem _ (mem_rest.mp ((lots_ltk M n).sub lot hl u hu)).1
  have h0 := spc_spot hM hn (.inl rfl : Spc n "")
  have h1 := spc_spot hM hn (.inr rfl : Spc n n)
  refine q_ext (hD.ok u v) (much_ok hD u v _) fun q hq => ?_
  rw [q_much hD hq, q_D hM.ok hq hus hv]
  constructor
  · intro h
    rcases C_out hM hn hl hu h with k | ⟨c, hc, k⟩
    · exact absurd k nv
    · have hcs := spc_spot hM hn hc
      refine ⟨(c, c), ?_, ⟨(q_D hM.ok hq hus hcs).mpr k, (q_D hM.ok hq hcs hcs).mpr (.refl c)⟩, (q_D hM.ok hq hcs hv).mpr ((Mill.C.symm k).trans h)⟩
      rcases hc with rfl | rfl
      · exact List.mem_cons_self ..
      · exact List.mem_cons_of_mem _ (List.mem_cons_of_mem _ (List.mem_cons_of_mem _ (List.mem_cons_self ..)))
  · rintro ⟨p, hp, ⟨k1, k2⟩, k3⟩
    have key : Spc n p.1 ∧ Spc n p.2 := by
      rcases List.mem_cons.mp hp with rfl | hp
      · exact ⟨.inl rfl, .inl rfl⟩
      rcases List.mem_cons.mp hp with rfl | hp
      · exact ⟨.inl rfl, .inr rfl⟩
      rcases List.mem_cons.mp hp with rfl | hp
      · exact ⟨.inr rfl, .inl rfl⟩
      rcases List.mem_cons.mp hp with rfl | hp
      · exact ⟨.inr rfl, .inr rfl⟩
      · cases hp
    have s1 := spc_spot hM hn key.1
    have s2 := spc_spot hM hn key.2
    exact (((q_D hM.ok hq hus s1).mp k1).trans ((q_D hM.ok hq s1 s2).mp k2)).trans ((q_D hM.ok hq s2 hv).mp k3)
/-! ### letters -/
theorem edge_cases {q : Int} {u v : Str} (h : M.E q u v) : ∃ lot ∈ M.Ls n, (M.part n lot).E q u v ∧ (u ∈ lot ∨ Spc n u) ∧ (v ∈ lot ∨ Spc n v) := by
  obtain ⟨y, hy, hd, ha⟩ := h
  obtain ⟨lot, hl, hp⟩ := inP_some hM hn hy
  have he := inP_ends hM hn hl hy hp
  refine ⟨lot, hl, ⟨y, (mem_part_s hM hn).mpr ⟨hy, hp⟩, hd, ha⟩, ?_⟩
  rcases ha with ⟨rfl, rfl⟩ | ⟨rfl, rfl⟩
  · exact he
  · exact ⟨he.2, he.1⟩
theorem thin_D {lot : List Str} (hl : lot ∈ M.lots n) {Lr : List (List Str)} (hLr : ∀ l, l ∈ Lr ↔ l ∈ M.Ls n ∧ l ≠ lot) {J : Mill} (hJ : J.Ok b) (hJs : J.spots = (M.part n lot).spots)
    (hJE : ∀ q ∈ Qs, ∀ u v, J.E q u v ↔ (M.part n lot).E q u v ∨ (q ∣ (M.uni n Lr).D "" n ∧ ((u = "" ∧ v = n) ∨ (u = n ∧ v = "")))) {u v : Str} (hu : u ∈ J.spots) (hv : v ∈ J.spots) : J.D u v = M.D u v := by
  have hlL : lot ∈ M.Ls n := List.mem_cons_of_mem _ hl
  have L := lots_ltk M n
  have hR := uni_good hM hn (Ls := Lr) fun l h => ((hLr l).mp h).1
  have hnil : ([] : List Str) ∈ Lr := (hLr []).mpr ⟨List.mem_cons_self .., fun z => L.ne lot hl z.symm⟩
  have hR0 : ("" : Str) ∈ (M.uni n Lr).spots := List.mem_cons_self ..
  have hRn : n ∈ (M.uni n Lr).spots := (uni_spot hM hn).mpr (.inr ⟨hn, [], hnil, .inr rfl⟩)
  have sp : ∀ {x : Str}, x ∈ J.spots ↔ x ∈ lot ∨ Spc n x := fun {x} => by rw [hJs]; exact part_spot hM hn hlL
  have hsub : ∀ {x : Str}, x ∈ J.spots → x ∈ M.spots := fun {x} hx => by rw [hJs] at hx; exact (part_sub M n lot).spots.subset hx
  have hRM : ∀ y ∈ (M.uni n Lr).ss, y ∈ M.ss := fun y hy => (uni_sub M n Lr).s.subset hy
  refine q_ext ((Mill.D_dl hJ).ok u v) ((Mill.D_dl hM.ok).ok u v) fun q hq => ?_
  rw [q_D hJ hq hu hv, q_D hM.ok hq (hsub hu) (hsub hv)]
  have symJ : ∀ {c d : Str}, J.C q c d → J.C q d c := fun h => Mill.C.symm h
  -- two of the crank and the wheel
  have link : ∀ {c d : Str}, Spc n c → Spc n d → (M.uni n Lr).C q c d → J.C q c d := fun {c d} hc hd h => by
    have one : (M.uni n Lr).C q "" n → J.C q "" n := fun h => .one ((hJE q hq "" n).mpr (.inr ⟨(q_D hR.ok hq hR0 hRn).mpr h, .inl ⟨rfl, rfl⟩⟩))
    rcases hc with rfl | rfl <;> rcases hd with rfl | rfl
    · exact .refl _
    · exact one h
    · exact symJ (one (Mill.C.symm h))
    · exact .refl _
  constructor
  · refine Cn.mono fun u v e => ?_
    rcases (hJE q hq u v).mp e with ⟨y, hy, hd, ha⟩ | ⟨hd, ha⟩
    · exact .one ⟨y, (part_sub M n lot).s.subset hy, hd, ha⟩
    · have h : M.C q "" n := C_mono hRM ((q_D hR.ok hq hR0 hRn).mp hd)
      rcases ha with ⟨rfl, rfl⟩ | ⟨rfl, rfl⟩
      · exact h
      · exact Mill.C.symm h
  · intro h
    have key : ∀ w, M.C q u w → ((w ∈ lot ∨ Spc n w) → J.C q u w) ∧ (¬ (w ∈ lot ∨ Spc n w) → ∃ c, Spc n c ∧ J.C q u c ∧ (M.uni n Lr).C q c w) := by
      intro w hw
      clear hv h
      induction hw with
      | refl => exact ⟨fun _ => .refl _, fun h => absurd (sp.mp hu) h⟩
      | @tail w w' _ e ih =>
        obtain ⟨l, hll, he, e1, e2⟩ := edge_cases hM hn e
        by_cases c : l = lot
        · subst c
          have hw' : J.C q u w' := (ih.1 e1).trans (.one ((hJE q hq w w').mpr (.inl he)))
          exact ⟨fun _ => hw', fun h => absurd e2 h⟩
        · have hlr : l ∈ Lr := (hLr l).mpr ⟨hll, c⟩
          have heR : (M.uni n Lr).E q w w' := by
            obtain ⟨y, hy, hd, ha⟩ := he
            obtain ⟨y1, y2⟩ := (mem_part_s hM hn).mp hy
            exact ⟨y, (mem_uni_s hM hn).mpr ⟨y1, l, hlr, y2⟩, hd, ha⟩
          have off : ∀ {x : Str}, (x ∈ l ∨ Spc n x) → x ∉ lot := fun {x} hx hxl => by
            rcases hx with hx | hx
            · rcases List.mem_cons.mp hll with rfl | hll
              · cases hx
              · exact c (L.dis l hll lot hl x hx hxl)
            · exact rest_not hM hn (L.sub lot hl x hxl) hx
          have o2 : (w' ∈ lot ∨ Spc n w') → Spc n w' := fun h => h.elim (fun h => absurd h (off e2)) id
          by_cases p : w ∈ lot ∨ Spc n w
          · have sw : Spc n w := p.elim (fun h => absurd h (off e1)) id
            have h1 := ih.1 p
            exact ⟨fun h => h1.trans (link sw (o2 h) (.one heR)), fun _ => ⟨w, sw, h1, .one heR⟩⟩
          · obtain ⟨d, hd, h1, h2⟩ := ih.2 p
            exact ⟨fun h => h1.trans (link hd (o2 h) (.tail h2 heR)), fun _ => ⟨d, hd, h1, .tail h2 heR⟩⟩
    exact (key v h).1 (sp.mp hv)
/-- the row that tells what the others say of the wheel and the crank -/
def thinS (R : Mill) (b : Str → Int) (n : Str) : List Sy := if R.D "" n = 1 then [] else [⟨"yya", "", n, if 0 < R.D "" n then (b n - b "") % R.D "" n else b n - b "", R.D "" n⟩]
def thinN (M R : Mill) (b : Str → Int) (n : Str) : Mill := ⟨M.ws.filter fun x => decide (x.name = n), thinS R b n⟩
theorem thin_J {lot : List Str} (hl : lot ∈ M.lots n) {R : Mill} (hR : DlOk R.D) : ∃ J, Join (M.part n lot) (thinN M R b n) J ∧ J.Ok b ∧ J.Nice ∧ J.ws = (M.part n lot).ws ∧
    ∀ q ∈ Qs, ∀ u v, J.E q u v ↔ (M.part n lot).E q u v ∨ (q ∣ R.D "" n ∧ ((u = "" ∧ v = n) ∨ (u = n ∧ v = ""))) := by
  have hlL : lot ∈ M.Ls n := List.mem_cons_of_mem _ hl
  have hP := part_good hM hn hlL
  have hDm := hR.ok "" n
  have ht : ∀ y ∈ thinS R b n, y = ⟨"yya", "", n, if 0 < R.D "" n then (b n - b "") % R.D "" n else b n - b "", R.D "" n⟩ ∧ R.D "" n ≠ 1 := fun y hy => by
    unfold thinS at hy
    split at hy
    · cases hy
    · rename_i c; exact ⟨List.mem_singleton.mp hy, c⟩
  have htl : (thinS R b n).length ≤ 1 := by
    unfold thinS
    split
    · exact Nat.zero_le _
    · exact Nat.le_refl _
  have hnd : (((M.part n lot).ss ++ thinS R b n).map (·.name)).Nodup := by
    rw [List.map_append, List.nodup_append]
    refine ⟨hP.asc.nodup, ?_, fun x hx y hy e => ?_⟩
    · unfold thinS
      split <;> simp
    · obtain ⟨z, hz, rfl⟩ := List.mem_map.mp hx
      obtain ⟨z', hz', rfl⟩ := List.mem_map.mp hy
      rw [(ht z' hz').1] at e
      exact hP.yy z hz e
  obtain ⟨zs, _, hp, ha⟩ := sort_rows hnd
  have hmem : ∀ y, y ∈ zs ↔ y ∈ (M.part n lot).ss ∨ y ∈ thinS R b n := fun y => hp.mem_iff.trans List.mem_append
  have hns : n ∈ (M.part n lot).spots := (part_spot hM hn hlL).mpr (.inr (.inr rfl))
  have h0s : ("" : Str) ∈ (M.part n lot).spots := List.mem_cons_self ..
  have ne0 : ("" : Str) ≠ n := fun z => hM.ok.nm.ne (z ▸ hn)
  have hlen := hp.length_eq
  rw [List.length_append] at hlen
  have hpl := hP.ss
  have hpw := hP.ws
  refine ⟨⟨(M.part n lot).ws, zs⟩, ⟨hP.wasc, ha, fun x => ⟨.inl, fun h => h.elim id fun h => ?_⟩, hmem, hP.wok, fun y hy => ?_, by omega, ?_, by omega, ?_⟩, ⟨⟨?_, ?_⟩, ⟨hP.ok.nm.nd, hP.ok.nm.ne⟩, fun y hy => ?_⟩, ⟨hP.nice.ok, hP.nice.asc⟩, rfl, fun q hq u v => ?_⟩
  · have h : x ∈ M.ws.filter fun x => decide (x.name = n) := h
    obtain ⟨h1, h2⟩ := List.mem_filter.mp h
    exact (mem_part_w hM hn).mpr ⟨h1, .inr (of_decide_eq_true h2)⟩
  · rcases (hmem y).mp hy with h | h
    · exact hP.sok y h
    · rw [(ht y h).1]
      exact ⟨(by decide +kernel : PyData.strOk "yya" = true), hM.nice.ok _ (List.mem_cons_self ..), hM.nice.ok _ (List.mem_cons_of_mem _ hn)⟩
  · show (M.ws.filter fun x => decide (x.name = n)).length ≤ 20
    have := List.length_filter_le (fun x : Wh => decide (x.name = n)) M.ws
    have := hM.ws
    omega
  · show (thinS R b n).length ≤ 20
    omega
  · show (M.part n lot).ws.length ≤ 20
    omega
  · show zs.length ≤ 20
    omega
  · rcases (hmem y).mp hy with h | h
    · exact hP.ok.ss y h
    · rw [(ht y h).1]
      exact ⟨h0s, hns, ne0, hDm, nomod⟩
  · constructor
    · rintro ⟨y, hy, hd, hat⟩
      rcases (hmem y).mp hy with h | h
      · exact .inl ⟨y, h, hd, hat⟩
      · rw [(ht y h).1] at hd hat
        refine .inr ⟨hd, ?_⟩
        rcases hat with ⟨e1, e2⟩ | ⟨e1, e2⟩
        · exact .inl ⟨e1.symm, e2.symm⟩
        · exact .inr ⟨e2.symm, e1.symm⟩
    · rintro (⟨y, hy, hd, hat⟩ | ⟨hd, hat⟩)
      · exact ⟨y, (hmem y).mpr (.inl hy), hd, hat⟩
      · have h1 : R.D "" n ≠ 1 := fun z => q_one hq (z ▸ hd)
        refine ⟨⟨"yya", "", n, if 0 < R.D "" n then (b n - b "") % R.D "" n else b n - b "", R.D "" n⟩, (hmem _).mpr (.inr ?_), hd, ?_⟩
        · unfold thinS
          rw [if_neg h1]
          exact List.mem_singleton.mpr rfl
        · rcases hat with ⟨rfl, rfl⟩ | ⟨rfl, rfl⟩
          · exact .inl ⟨rfl, rfl⟩
          · exact .inr ⟨rfl, rfl⟩
end
end

set_option Elab.async false
set_option linter.all false
set_option maxRecDepth 100000
/-! Q5: rings by parts. -/
section
open PySem L2
variable [B : Tb]
theorem Pth.ends {ss : List St} {near : Str} {r : Row} {s : List Str} (h : Pth ss near r s) : (∀ p ∈ r, ∃ st ∈ ss, p = (st.name, st.way) ∧ st.a ∈ s ∧ st.b ∈ s) ∧ (∀ x ∈ s, x = near ∨ ∃ st ∈ ss, (st.name, st.way) ∈ r ∧ st.b = x) ∧ near ∈ s := by
  induction h with
  | nil => exact ⟨(fun p hp => nomatch hp), (fun x hx => Or.inl (List.mem_singleton.mp hx)), List.mem_singleton.mpr rfl⟩
  | @snoc r s st u hP hst hl ha hb ih =>
    obtain ⟨i1, i2, i3⟩ := ih
    refine ⟨fun p hp => ?_, fun x hx => ?_, List.mem_append_left _ i3⟩
    · rcases List.mem_append.mp hp with z | z
      · obtain ⟨t, h1, h2, h3, h4⟩ := i1 p z
        exact ⟨t, h1, h2, List.mem_append_left _ h3, List.mem_append_left _ h4⟩
      · exact ⟨st, hst, List.mem_singleton.mp z, List.mem_append_left _ (ha ▸ List.mem_of_getLast? hl), List.mem_append_right _ (List.mem_singleton.mpr rfl)⟩
    · rcases List.mem_append.mp hx with z | z
      · rcases i2 x z with h | ⟨t, h1, h2, h3⟩
        · exact .inl h
        · exact .inr ⟨t, h1, List.mem_append_left _ h2, h3⟩
      · exact .inr ⟨st, hst, List.mem_append_right _ (List.mem_singleton.mpr rfl), (List.mem_singleton.mp z).symm⟩
theorem nil_or_snoc {α : Type} (l : List α) : l = [] ∨ ∃ l' x, l = l' ++ [x] := by
  induction l using snoc_ind with
  | h0 => exact .inl rfl
  | h l x _ => exact .inr ⟨l, x, rfl⟩
theorem Pth.head {ss : List St} {near : Str} {r : Row} {s : List Str} (h : Pth ss near r s) : s.head? = some near := by
  induction h with
  | nil => rfl
  | @snoc r s st u h1 _ _ _ _ ih =>
    cases s with
    | nil => cases ih
    | cons z zs => exact ih
/-- the ends of a saying, by its name -/
def Mill.endsOf (M : Mill) (x : Str) : List Str := match M.ss.find? fun y => decide (y.name = x) with
  | some y => [y.one, y.other]
  | none => []
theorem endsOf_eq {M : Mill} (ha : Asc (M.ss.map (·.name))) {y : Sy} (hy : y ∈ M.ss) : M.endsOf y.name = [y.one, y.other] := by
  unfold Mill.endsOf
  cases h : M.ss.find? fun z => decide (z.name = y.name) with
  | none =>
    have := List.find?_eq_none.mp h y hy
    simp at this
  | some z =>
    have h1 := List.find?_some h
    have h2 := List.mem_of_find?_eq_some h
    rw [same_name ha h2 hy (by simpa using h1)]
def Mill.ringSpots (M : Mill) (r : Row) : List Str := r.flatMap fun p => M.endsOf p.1
def Mill.home (M : Mill) (n : Str) (r : Row) (lot : List Str) : Bool := r.all fun p => decide (p.1 ∈ (M.part n lot).ss.map (·.name))
theorem one_of {α : Type} {p : α → Bool} {x : α} : ∀ {l : List α}, l.Nodup → x ∈ l → (∀ z ∈ l, p z = true ↔ z = x) → (l.filter p).length = 1
  | [], _, h, _ => nomatch h
  | y :: l, nd, hx, hp => by
    obtain ⟨n1, n2⟩ := List.nodup_cons.mp nd
    by_cases e : y = x
    · subst e
      rw [List.filter_cons_of_pos ((hp y (List.mem_cons_self ..)).mpr rfl), List.length_cons]
      have : l.filter p = [] := by
        rw [List.filter_eq_nil_iff]
        intro z hz hpz
        have := (hp z (List.mem_cons_of_mem _ hz)).mp hpz
        exact n1 (this ▸ hz)
      rw [this]; rfl
    · rw [List.filter_cons_of_neg (fun h => e ((hp y (List.mem_cons_self ..)).mp h))]
      exact one_of n2 ((List.mem_cons.mp hx).resolve_left fun h => e h.symm) fun z hz => hp z (List.mem_cons_of_mem _ hz)
section
variable {M : Mill} {b : Str → Int} {n : Str} (hM : M.Good b) (hn : n ∈ M.names)
include hM hn
def SegO (M : Mill) (n : Str) (l : List Str) : Prop := l = [] ∨ ∃ lot ∈ M.lots n, ∀ x ∈ l, x ∈ lot
theorem step_E {st : St} (h : st ∈ M.steps) : M.E 1 st.a st.b := by
  obtain ⟨y, hy, _, c⟩ := mem_steps h
  exact ⟨y, hy, Int.one_dvd _, c.elim (fun z => .inl ⟨z.1.symm, z.2.symm⟩) fun z => .inr ⟨z.2.symm, z.1.symm⟩⟩
theorem step_spot {st : St} (h : st ∈ M.steps) : st.b ∈ M.spots := by
  obtain ⟨y, hy, _, c⟩ := mem_steps h
  exact c.elim (fun z => z.2 ▸ (hM.ok.ss y hy).other) fun z => z.2 ▸ (hM.ok.ss y hy).one
theorem last_snoc {α : Type} {l : List α} {x u : α} (h : (l ++ [x]).getLast? = some u) : u = x := by
  rw [List.getLast?_concat] at h
  exact (Option.some.inj h).symm
theorem seg_path {near : Str} {r : Row} {s : List Str} (h : Pth M.steps near r s) (hne : near ∈ M.spots) {c : Str} : (∀ x ∈ s, Spc n x → x = c) → SegO M n s ∨ ∃ A D, s = A ++ c :: D ∧ Spc n c ∧ SegO M n A ∧ SegO M n D := by
  have L := lots_ltk M n
  have put : ∀ {x : Str}, x ∈ M.spots → ¬ Spc n x → SegO M n [x] := fun {x} hx hs => by
    rcases spot_cases hM hn hx with k | k
    · exact absurd k hs
    · obtain ⟨l, hl, hxl⟩ := L.cov x k
      exact .inr ⟨l, hl, fun z hz => (List.mem_singleton.mp hz) ▸ hxl⟩
  induction h with
  | nil =>
    intro hc
    by_cases p : Spc n near
    · exact .inr ⟨[], [], by rw [hc near (List.mem_singleton.mpr rfl) p]; rfl, hc near (List.mem_singleton.mpr rfl) p ▸ p, .inl rfl, .inl rfl⟩
    · exact .inl (put hne p)
  | @snoc r s st u hP hst hl ha hb ih =>
    intro hc
    have hu : u ∈ s := List.mem_of_getLast? hl
    have hE := step_E hM hn hst
    rw [ha] at hE
    have grow : ∀ {D : List Str}, u ∈ D → SegO M n D → ¬ Spc n st.b → SegO M n (D ++ [st.b]) := fun {D} hD hs np => by
      rcases hs with rfl | ⟨lot, hlot, k⟩
      · cases hD
      · refine .inr ⟨lot, hlot, fun x hx => ?_⟩
        rcases List.mem_append.mp hx with z | z
        · exact k x z
        · rw [List.mem_singleton.mp z]
          exact (lot_out hM hn hlot (k u hD) hE).resolve_right np
    rcases ih fun x hx => hc x (List.mem_append_left _ hx) with h | ⟨A, D, e, hcp, hA, hD⟩
    · by_cases p : Spc n st.b
      · refine .inr ⟨s, [], ?_, hc st.b (List.mem_append_right _ (List.mem_singleton.mpr rfl)) p ▸ p, h, .inl rfl⟩
        rw [hc st.b (List.mem_append_right _ (List.mem_singleton.mpr rfl)) p]
      · exact .inl (grow hu h p)
    · have hcs : c ∈ s := by rw [e]; exact List.mem_append_right _ (List.mem_cons_self ..)
      have np : ¬ Spc n st.b := fun p => hb (by rw [hc st.b (List.mem_append_right _ (List.mem_singleton.mpr rfl)) p]; exact hcs)
      refine .inr ⟨A, D ++ [st.b], by rw [e, List.append_assoc]; rfl, hcp, hA, ?_⟩
      rcases nil_or_snoc D with rfl | ⟨D', x, rfl⟩
      · exact put (step_spot hM hn hst) np
      · have : u = x := by
          have e2 : s = (A ++ c :: D') ++ [x] := by rw [e, List.append_assoc]; rfl
          rw [e2] at hl
          exact last_snoc hM hn hl
        exact grow (this ▸ List.mem_append_right _ (List.mem_singleton.mpr rfl)) hD np
theorem ring_home {r : Row} (hr : RingOk M r) : (("" : Str) ∈ M.ringSpots r ∧ n ∈ M.ringSpots r) ∨ ((M.Ls n).filter (M.home n r)).length = 1 := by
  obtain ⟨y, hy, row, s, rfl, hP, hl⟩ := hr.e
  have L := lots_ltk M n
  have ho := hM.ok.ss y hy
  obtain ⟨e1, e2, e3⟩ := hP.ends
  have hone : y.one ∈ s := List.mem_of_getLast? hl
  have hsp : ∀ x, x ∈ M.ringSpots ((y.name, 1) :: row) ↔ ∃ p ∈ (y.name, (1 : Int)) :: row, x ∈ M.endsOf p.1 := fun x => by
    unfold Mill.ringSpots
    rw [List.mem_flatMap]
  have hends : ∀ p ∈ (y.name, (1 : Int)) :: row, ∃ y' ∈ M.ss, y'.name = p.1 ∧ y'.one ∈ s ∧ y'.other ∈ s := fun p hp => by
    rcases List.mem_cons.mp hp with rfl | hp
    · exact ⟨y, hy, rfl, hone, e3⟩
    · obtain ⟨st, hst, rfl, h1, h2⟩ := e1 p hp
      obtain ⟨y', hy', hnm, c⟩ := mem_steps hst
      refine ⟨y', hy', hnm.symm, ?_⟩
      rcases c with c | c
      · rw [c.1] at h1; rw [c.2] at h2; exact ⟨h1, h2⟩
      · rw [c.1] at h1; rw [c.2] at h2; exact ⟨h2, h1⟩
  have hsr : ∀ x ∈ s, x ∈ M.ringSpots ((y.name, 1) :: row) := fun x hx => by
    rw [hsp]
    rcases e2 x hx with rfl | ⟨st, hst, h1, rfl⟩
    · exact ⟨_, List.mem_cons_self .., by rw [endsOf_eq hM.asc hy]; exact List.mem_cons_of_mem _ (List.mem_cons_self ..)⟩
    · obtain ⟨y', hy', hnm, c⟩ := mem_steps hst
      refine ⟨_, List.mem_cons_of_mem _ h1, ?_⟩
      show st.b ∈ M.endsOf st.name
      rw [hnm, endsOf_eq hM.asc hy']
      rcases c with c | c
      · rw [c.2]; exact List.mem_cons_of_mem _ (List.mem_cons_self ..)
      · rw [c.2]; exact List.mem_cons_self ..
  by_cases both : ("" : Str) ∈ M.ringSpots ((y.name, 1) :: row) ∧ n ∈ M.ringSpots ((y.name, 1) :: row)
  · exact .inl both
  refine .inr ?_
  -- at most one of the crank and the wheel is met
  obtain ⟨c, hc⟩ : ∃ c, ∀ x ∈ s, Spc n x → x = c := by
    by_cases h0 : ("" : Str) ∈ M.ringSpots ((y.name, 1) :: row)
    · refine ⟨"", fun x hx hs => hs.elim id fun e => ?_⟩
      exact absurd ⟨h0, e ▸ hsr x hx⟩ both
    · refine ⟨n, fun x hx hs => hs.elim (fun e => ?_) id⟩
      exact absurd (e ▸ hsr x hx) h0
  have hE : M.E 1 y.other y.one := ⟨y, hy, Int.one_dvd _, .inr ⟨rfl, rfl⟩⟩
  obtain ⟨lot, hlot, hin⟩ : ∃ lot ∈ M.lots n, ∀ x ∈ s, ¬ Spc n x → x ∈ lot := by
    rcases seg_path hM hn hP ho.other hc with h | ⟨A, D, e, hcp, hA, hD⟩
    · rcases h with rfl | ⟨lot, hlot, k⟩
      · cases e3
      · exact ⟨lot, hlot, fun x hx _ => k x hx⟩
    · have hcs : ∀ x ∈ s, x ∈ A ∨ x = c ∨ x ∈ D := fun x hx => by
        rw [e] at hx
        rcases List.mem_append.mp hx with z | z
        · exact .inl z
        · exact .inr (List.mem_cons.mp z)
      have hsnd := (hP.good (sp := M.spots) ho.other fun st h => step_spot hM hn h).1
      have hhead : ∀ {a : Str} {A' : List Str}, A = a :: A' → a = y.other := fun {a A'} eA => by
        have := hP.head
        rw [e, eA] at this
        exact Option.some.inj this
      rcases hA with rfl | ⟨lA, hlA, kA⟩
      · rcases hD with rfl | ⟨lD, hlD, kD⟩
        · -- the path is one spot
          exfalso
          have h1 : y.one = c := by
            rcases hcs _ hone with z | z | z
            · cases z
            · exact z
            · cases z
          have h2 : y.other = c := by
            rcases hcs _ e3 with z | z | z
            · cases z
            · exact z
            · cases z
          exact ho.ne (h1.trans h2.symm)
        · exact ⟨lD, hlD, fun x hx ns => (hcs x hx).elim (fun z => nomatch z) fun z => z.elim (fun z => absurd (z ▸ hcp) ns) (kD x)⟩
      · rcases hD with rfl | ⟨lD, hlD, kD⟩
        · exact ⟨lA, hlA, fun x hx ns => (hcs x hx).elim (kA x) fun z => z.elim (fun z => absurd (z ▸ hcp) ns) fun z => nomatch z⟩
        · rcases nil_or_snoc D with rfl | ⟨D', x, rfl⟩
          · exact ⟨lA, hlA, fun x hx ns => (hcs x hx).elim (kA x) fun z => z.elim (fun z => absurd (z ▸ hcp) ns) fun z => nomatch z⟩
          · cases A with
            | nil => exact ⟨lD, hlD, fun x hx ns => (hcs x hx).elim (fun z => nomatch z) fun z => z.elim (fun z => absurd (z ▸ hcp) ns) (kD x)⟩
            | cons a A' =>
              have ea := hhead rfl
              have ex : y.one = x := by
                have e2 : s = ((a :: A') ++ c :: D') ++ [x] := by rw [e, List.append_assoc]; rfl
                rw [e2] at hl
                exact last_snoc hM hn hl
              have h1 : y.other ∈ lA := ea ▸ kA a (List.mem_cons_self ..)
              have h2 : y.one ∈ lD := ex ▸ kD x (List.mem_append_right _ (List.mem_singleton.mpr rfl))
              have h3 : y.one ∈ lA := (lot_out hM hn hlA h1 hE).resolve_right (rest_not hM hn (L.sub lD hlD _ h2))
              have := L.dis lA hlA lD hlD _ h3 h2
              subst this
              exact ⟨lA, hlA, fun x hx ns => (hcs x hx).elim (kA x) fun z => z.elim (fun z => absurd (z ▸ hcp) ns) (kD x)⟩
  have hne := L.ne lot hlot
  have hit : ∀ y' ∈ M.ss, y'.one ∈ s → y'.other ∈ s → inP n lot y' = true := fun y' hy' h1 h2 => by
    unfold inP
    rw [if_neg hne, Bool.or_eq_true, decide_eq_true_eq, decide_eq_true_eq]
    by_cases p1 : Spc n y'.one
    · by_cases p2 : Spc n y'.other
      · exact absurd ((hc _ h1 p1).trans (hc _ h2 p2).symm) (hM.ok.ss y' hy').ne
      · exact .inr (hin _ h2 p2)
    · exact .inl (hin _ h1 p1)
  refine one_of (Ls_nodup M n) (List.mem_cons_of_mem _ hlot) fun z hz => ⟨fun h => ?_, fun h => ?_⟩
  · unfold Mill.home at h
    rw [List.all_eq_true] at h
    have h1 := of_decide_eq_true (h (y.name, 1) (List.mem_cons_self ..))
    obtain ⟨y', hy', e⟩ := List.mem_map.mp h1
    obtain ⟨h2, h3⟩ := (mem_part_s hM hn).mp hy'
    have := same_name hM.asc h2 hy e
    subst this
    exact inP_one hM hn hy hz (List.mem_cons_of_mem _ hlot) h3 (hit _ hy hone e3)
  · subst h
    unfold Mill.home
    rw [List.all_eq_true]
    intro p hp
    obtain ⟨y', hy', e, h1, h2⟩ := hends p hp
    refine decide_eq_true (List.mem_map.mpr ⟨y', (mem_part_s hM hn).mpr ⟨hy', hit y' hy' h1 h2⟩, e⟩)
end
end

set_option Elab.async false
set_option linter.all false
set_option maxRecDepth 100000
/-! M6: d[a], d[b] = x, y for a dict of one's own. -/
section
open PySem L2
variable [B : Tb]
section
variable {K : PySem.W.Frag} {G : List Sl} {R : Dt → List Sl → Prop} {N : List Sl → Prop} {ta tb ty ty2 : TE}
theorem get_set_own {i : Nat} {l : Addr} {d d' : Dt} (h : G[i]? = some (.own l d)) : (G.set i (.own l d'))[i]? = some (.own l d') := by
  have := (List.getElem?_eq_some_iff.mp h).1
  rw [List.getElem?_set_self this]
theorem sx_put2 {i : Nat} (h : EX K ta G fun v G1 => EX K tb G1 fun w G2 => (∃ l d, G2[i]? = some (.own l d)) ∧ EX K ty G2 fun e G3 => ∃ l d d', G3[i]? = some (.own l d) ∧ d.put e v = some d' ∧ EX K ty2 (G3.set i (.own l d')) fun e2 G4 => ∃ l2 d2 d3, G4[i]? = some (.own l2 d2) ∧ d2.put e2 w = some d3 ∧ N (G4.set i (.own l2 d3))) :
    SX K (tAsg (tTup (tCons ta (tCons tb tNil))) (gTup K 2 (gCons (gSub (tVar i) ty rSetD) (gCons (gSub (tVar i) ty2 rSetD) gNil)))) G R N := fun H0 F H H1 σ D I q1 q2 =>
  h H0 F H H1 σ _ I fun v dv G1 Ha Hb I1 s1 r1 h1 => h1 H0 F Ha Hb σ _ I1 fun w dw G2 Hc Hd I2 s2 r2 ⟨⟨l0, d0, h0⟩, h2⟩ => by
    refine ⟨by show 2 ≤ sizeLine; decide, fun t ht => ?_⟩
    have g : Gr Hc Hd Hc (upd Hd t (.tup [v, w])) := .of (Same.refl _) (I2.s.trans (Same.upd ht)) (Same.upd ht) (fun _ _ _ z => z) id
    have I3 := I2.gr g
    refine ⟨t, [v, w], rfl, .inl (.inl upd_same), rfl, v, [w], rfl, .ref l0, I3.val h0, ?_⟩
    refine h2 H0 F Hc _ σ _ I3 fun y e G3 He Hf I4 s3 r3 ⟨l, d, d', hG, e1, h3⟩ => ?_
    have el := own_eq I3 I4 h0 hG
    rw [el] at hG
    obtain ⟨_, _, _, u, hu, ob⟩ := I4.own i l0 d hG
    rw [el] at h3
    obtain ⟨u', ob', g2⟩ := put_get hu ob I4.s r3 ((r1.mono s2.b).mono s3.b) e1
    show ∃ a H', V.ref l0 = .ref a ∧ DPut Hf a y v H' ∧ _
    refine ⟨l0, _, rfl, g2, ?_⟩
    obtain ⟨I5, s5⟩ := I4.write hG ob'
    have h5 := get_set_own (d' := d') hG
    refine ⟨w, [], rfl, .ref l0, I5.val h5, ?_⟩
    refine h3 H0 F _ _ σ _ I5 fun y2 e2 G4 Hg Hh I6 s6 r6 ⟨l2, d2, d3, hG4, e4, p⟩ => ?_
    have el2 := own_eq I5 I6 h5 hG4
    rw [el2] at hG4 p
    obtain ⟨_, _, _, u2, hu2, ob2⟩ := I6.own i l0 d2 hG4
    obtain ⟨u3, ob3, g3⟩ := put_get hu2 ob2 I6.s r6 (((r2.mono s3.b).mono s5.b).mono s6.b) e4
    show ∃ a H', V.ref l0 = .ref a ∧ DPut Hh a y2 w H' ∧ _
    exact ⟨l0, _, rfl, g3, rfl, q2 _ _ _ _ (I6.write hG4 ob3).1 p⟩
/-- d.get(y, z), d a dict of one's own -/
theorem ex_dget2O {i : Nat} {P : Dt → List Sl → Prop} {tx : TE} (hk : ∃ l d e r, G[i]? = some (.own l d) ∧ d.look e = some r) (h : EX K ty G fun e G1 => EX K tx G1 fun z G2 => ∃ l d r, G2[i]? = some (.own l d) ∧ d.look e = some r ∧ P (r.getD z) G2) : EX K (tDGet2 (tVar i) ty tx) G P := fun H0 F H H1 σ Q I q => by
  obtain ⟨l0, d0, e0, r0, h0, hl0⟩ := hk
  obtain ⟨_, _, _, u0, hu0, ob0⟩ := I.own i l0 d0 h0
  refine ⟨.ref l0, I.val h0, l0, rfl, isD_of hu0 ob0 hl0, h H0 F H H1 σ _ I fun w e G1 Ha Hb I1 s1 r1 h2 => h2 H0 F Ha Hb σ _ I1 fun w' z G2 Hc Hd I2 s2 r2 ⟨l, d, r, hG, e1, p⟩ => ?_⟩
  have el := own_eq I I2 h0 hG
  rw [el] at hG
  obtain ⟨_, _, _, u, hu, ob⟩ := I2.own i l0 d hG
  obtain ⟨o, g, k0, k⟩ := look_get hu ob I2.s (r1.mono s2.b) e1
  refine ⟨o, g, ?_⟩
  cases r with
  | none => rw [k0 rfl]; exact q _ _ G2 Hc Hd I2 (s1.trans s2) r2 p
  | some x => obtain ⟨y, rfl, ry⟩ := k x rfl; exact q _ _ G2 Hc Hd I2 (s1.trans s2) ry p
end
end

set_option Elab.async false
set_option linter.all false
set_option maxRecDepth 100000
set_option maxHeartbeats 1000000
section
open PySem L2
variable [B : Tb]
variable {Pr : Program} {w : World} {K : PySem.W.Frag} {mg : Str → Option Value} {base : Heap} {f : Addr} {fd : FuncData}

/-! ### what is sure across parts -/
/-- the first and last wheel of a mill -/
def Mill.fst (M : Mill) : Str := (M.names).headD ""
def Mill.lst (M : Mill) : Str := (M.names).getLastD ""
def sureT (M : Mill) (n : Nat) (u v : Str) : Option Dt := if (u, v) ∈ (surePs M).take n ∨ (v, u) ∈ (surePs M).take n then some (.int (M.D u v)) else none
def spotT (M : Mill) (n : Nat) (u v : Str) : Option Dt := if u = v ∧ u ∈ M.spots.take n then some (.int 0) else sureT M (surePs M).length u v
omit [B : Tb] in
theorem look_dt {ks : List ((Str × Str) × Dt)} {u v : Str} : (Dt.dt ks).look (.tup [.str u, .str v]) = some (gk ks (u, v)) := rfl
omit [B : Tb] in
theorem put_dt {ks : List ((Str × Str) × Dt)} {u v : Str} {x : Dt} (h : ks.length < sizeLine) : (Dt.dt ks).put (.tup [.str u, .str v]) x = some (.dt (pk ks (u, v) x)) := if_pos h
theorem spotT_all {M : Mill} {b : Str → Int} (hM : M.Good b) {u v : Str} (hu : u ∈ M.spots) (hv : v ∈ M.spots) : (spotT M M.spots.length u v).getD (.int 1) = .int (M.D u v) := by
  have hD := Mill.D_dl hM.ok
  unfold spotT
  rw [List.take_length]
  by_cases e : u = v
  · subst e
    rw [if_pos ⟨rfl, hu⟩, D_self hM.ok hu]; rfl
  · rw [if_neg fun z => e z.1]
    unfold sureT
    rw [List.take_length]
    by_cases c : M.D u v = 1
    · rw [if_neg, c]; rfl
      unfold surePs
      rintro (z | z)
      · have := (List.mem_filter.mp z).2; simp [c] at this
      · have := (List.mem_filter.mp z).2; simp [hD.sy v u, c] at this
    · rw [if_pos]; rfl
      unfold surePs
      rw [List.mem_filter, List.mem_filter, mem_prodP, mem_prodP]
      rcases ltS_total e with k | k
      · exact .inl ⟨⟨hu, hv⟩, by simp [k, c]⟩
      · exact .inr ⟨⟨hv, hu⟩, by simp [k, hD.sy v u, c]⟩
theorem sc__law_sures_right : FnScope ["_law_hall_here", "_law_tag", "_law_parts_here", "_law_own", "_law_spot", "_law_j", "_law_table", "_law_spots", "_law_k", "_law_near", "_law_goal", "_law_much", "_law_mid", "_law_end", "_law_row"] ["_law_hall_here", "_law_tag", "_law_parts_here"] (defScope (top 82)) := ⟨rfl, rfl, rfl, by decide +kernel, rfl, by decide +kernel, by decide +kernel⟩
abbrev sp__law_sures_right (K : PySem.W.Frag) : Sp := SpP K (fun x : Mill × (Str → Int) × Str => [milD x.1, .str x.2.2, .lst ((x.1.parts x.2.2).map milD)]) (fun x => x.1.Good x.2.1 ∧ x.2.2 ∈ x.1.names) (fun _ d => d = .bl true)
theorem ok__law_sures_right (T : Tx K mg) (c_sure_lates : Cal Pr w K mg base 7 "sure_lates" (sp_sure_lates K)) (c__law_lcm : Cal Pr w K mg base 2 "_law_lcm" (sp__law_lcm K)) (c__law_gcd : Cal Pr w K mg base 1 "_law_gcd" (sp__law_gcd K)) (c_sure_across : Cal Pr w K mg base 9 "sure_across" (sp_sure_across K)) (F : FnP K "_law_sures_right" (top 82) f fd) : FnOk Pr w K mg base CX0 10 f fd ["_law_hall_here", "_law_tag", "_law_parts_here"] (sp__law_sures_right K) := by
  have nd := sc__law_sures_right.nd
  refine fn_P F sc__law_sures_right (fun _ => rfl) (by decide) fun cdv A outer s H E hr => ⟨_, (pss_cons (ps_asg (pe_tup (pa_cons pe_dnewT (pa_cons (pe_op op_cat (pe_lst (pa_cons pe_str pa_nil)) (pe_lc (own := [("_law_own", 3)]) rfl nd (piTK (K := K) (pe_ix (ixK (K := K)) (pv 0) pe_int (fun _ _ => rfl))) (blkOk_by (by kernel_rfl)) (fun _ _ _ _ _ => (pgn (i := 3) nd rfl)) (fun _ _ _ _ _ => pts_nil) (fun _ _ _ _ _ => (pe_ix (ixK (K := K)) (pv 3) pe_int (fun _ _ => rfl))))) pa_nil))) (pg_tupK (K := K) (n := 2) rfl (pgs_cons (pgn (i := 6) nd rfl) (pgs_cons (pgn (i := 7) nd rfl) pgs_nil))))
    (pss_cons (ps_for PassesOwn.never rfl (piTK (K := K) (pe_c c_sure_lates hr (by decide) rfl (pa_cons (pv 0) pa_nil))) (pgn (i := 3) nd rfl) (pss_one (ps_asg (pe_tup (pa_cons (pe_ix (ixK (K := K)) (pv 3) pe_int (fun _ _ => rfl)) (pa_cons (pe_ix (ixK (K := K)) (pv 3) pe_int (fun _ _ => rfl)) pa_nil))) (pg_tupK (K := K) (n := 2) rfl (pgs_cons (pg_sub (pv 6) (pe_slice (slTK (K := K)) (pv 3) po_none (po_some pe_int)) (set_dict hr.units1)) (pgs_cons (pg_sub (pv 6) (pe_tup (pa_cons (pe_ix (ixK (K := K)) (pv 3) pe_int (fun _ _ => rfl)) (pa_cons (pe_ix (ixK (K := K)) (pv 3) pe_int (fun _ _ => rfl)) pa_nil))) (set_dict hr.units1)) pgs_nil))))))
    (pss_cons (ps_for PassesOwn.never rfl (piLK (K := K) (pv 7)) (pgn (i := 4) nd rfl) (pss_one (ps_dput hr.units1 (pv 6) (pe_tup (pa_cons (pv 4) (pa_cons (pv 4) pa_nil))) pe_int rfl)))
    (pss_cons (ps_for PassesOwn.never rfl (pi_range2 rfl T.range_ (pa_cons pe_int (pa_cons (pe_callB (lenK (K := K)) rfl T.len_ bt_len (pa_cons (pv 2) pa_nil)) pa_nil))) (pgn (i := 5) nd rfl) (pss_one (ps_for PassesOwn.never rfl (piLK (K := K) (pe_slice (slLK (K := K)) (pe_lc (own := [("_law_k", 8)]) rfl nd (pi_range2 rfl T.range_ (pa_cons pe_int (pa_cons (pe_callB (lenK (K := K)) rfl T.len_ bt_len (pa_cons (pv 2) pa_nil)) pa_nil))) (blkOk_by (by kernel_rfl)) (fun _ _ _ _ _ => (pgn (i := 8) nd rfl)) (fun _ _ _ _ _ => (pts_one (pt_cmpR op_ne (pv 8) (pv 5) (nomark _)))) (fun _ _ _ _ _ => (pv 8))) po_none (po_some pe_int))) (pgn (i := 8) nd rfl) (pss_cons (ps_par (i := 9) (j := 10) rfl nd rfl rfl (by decide) rfl rfl (pa_cons (pe_ix (ixK (K := K)) (pe_ix (ixK (K := K)) (pe_ix (ixK (K := K)) (pe_ix (ixK (K := K)) (pv 2) (pv 5) (fun _ _ => rfl)) pe_int (fun _ _ => rfl)) pe_int (fun _ _ => rfl)) pe_int (fun _ _ => rfl)) (pa_cons (pe_ix (ixK (K := K)) (pe_ix (ixK (K := K)) (pe_ix (ixK (K := K)) (pe_ix (ixK (K := K)) (pv 2) (pv 8) (fun _ _ => rfl)) pe_int (fun _ _ => rfl)) (pe_un un_neg pe_int) (fun _ _ => rfl)) pe_int (fun _ _ => rfl)) pa_nil)) (by rfl))
    (pss_one (ps_if (pt_cmpR (notinK (K := K)) (pv 1) (pe_tup (pa_cons (pv 9) (pa_cons (pv 10) pa_nil))) rfl) (pss_cons (pst (i := 11) nd rfl pe_int)
    (pss_cons (ps_for PassesOwn.never rfl (piTK (K := K) (pe_tup (pa_cons (pe_tup (pa_cons pe_str (pa_cons pe_str pa_nil))) (pa_cons (pe_tup (pa_cons pe_str (pa_cons (pv 1) pa_nil))) (pa_cons (pe_tup (pa_cons (pv 1) (pa_cons pe_str pa_nil))) (pa_cons (pe_tup (pa_cons (pv 1) (pa_cons (pv 1) pa_nil))) pa_nil)))))) (pg_tupK (K := K) (n := 2) rfl (pgs_cons (pgn (i := 12) nd rfl) (pgs_cons (pgn (i := 13) nd rfl) pgs_nil))) (pss_cons (ps_setLc (i := 14) (own := [("_law_own", 3)]) rfl nd rfl rfl (sw_true rfl rfl rfl (by kernel_rfl)) (piTK (K := K) (pe_tup (pa_cons (pe_tup (pa_cons (pv 9) (pa_cons (pv 12) pa_nil))) (pa_cons (pe_tup (pa_cons (pv 12) (pa_cons (pv 13) pa_nil))) (pa_cons (pe_tup (pa_cons (pv 13) (pa_cons (pv 10) pa_nil))) pa_nil))))) (blkOk_by (by kernel_rfl)) (fun _ _ _ _ _ => (pgn (i := 3) nd rfl)) (fun _ _ _ _ _ => pts_nil) (fun _ _ _ _ _ => (pe_dget2 hr.units1 (pv 6) (pv 3) pe_int ⟨rfl, rfl, rfl, rfl⟩)))
    (pss_one (pst (i := 11) nd rfl (pe_c c__law_lcm hr (by decide) rfl (pa_cons (pv 11) (pa_cons (pe_c c__law_gcd hr (by decide) rfl (pa_cons (pe_c c__law_gcd hr (by decide) rfl (pa_cons (pe_ix (ixK (K := K)) (pv 14) pe_int (fun _ _ => rfl)) (pa_cons (pe_ix (ixK (K := K)) (pv 14) pe_int (fun _ _ => rfl)) pa_nil))) (pa_cons (pe_ix (ixK (K := K)) (pv 14) pe_int (fun _ _ => rfl)) pa_nil))) pa_nil)))))))
    (pss_one (ps_if (PW.pt (pw_or (pt_cmpR op_ne (pe_dget2 hr.units1 (pv 6) (pe_tup (pa_cons (pv 9) (pa_cons (pv 10) pa_nil))) pe_int ⟨rfl, rfl, rfl, rfl⟩) (pv 11) (nomark _)) (pw_or1 (pt_cmpR op_ne (pe_ix (ixK (K := K)) (pe_c c_sure_across hr (by decide) rfl (pa_cons (pe_ix (ixK (K := K)) (pv 2) (pv 5) (fun _ _ => rfl)) (pa_cons (pv 0) (pa_cons (pv 9) (pa_cons (pv 10) pa_nil))))) pe_int (fun _ _ => rfl)) (pv 11) (nomark _))))) (pss_one (ps_ret pe_bl)) pss_nil)))) pss_nil))))))
    (pss_one (ps_ret pe_bl)))))), ?_⟩
  rintro ⟨M, b, n⟩ ⟨hM, hn⟩
  dsimp only at hM hn
  try dsimp only [cxOf]
  change SX K _ [.dat (milD M), .dat (.str n), .dat (.lst ((M.parts n).map milD)), .emp, .emp, .emp, .emp, .emp, .emp, .emp, .emp, .emp, .emp, .emp, .emp] _ _
  have hws := hM.ws
  have hD := Mill.D_dl hM.ok
  have hsl : M.spots.length ≤ 5 := by simp [Mill.spots, Mill.names]; omega
  have hpl : (surePs M).length ≤ 25 := by
    have h1 : (surePs M).length ≤ (prodP M.spots M.spots).length := List.length_filter_le ..
    rw [prodP_len] at h1
    have := Nat.mul_le_mul hsl hsl
    omega
  have hz : 100 < sizeLine := by decide
  refine sx_seq (sx_tupM (ef_dnewT ?_))
  refine ex_of (ef_op (ex_of (ef_lst ?_)))
  repeat' tm_at "ex"
  refine ex_of (ef_lcA (tch_name 3) (by decide) ?_)
  repeat' tm_at "ex"
  refine ⟨noOwn_of rfl, Wh, M.ws, whD, fun x => .str x.name, rfl, sz (by omega), fun x hx => ?_, ?_⟩
  · repeat' tm_at "ex"
    exact ⟨agr_wipe.set (by decide), rfl⟩
  have esp : (M.ws.map fun x => Dt.str x.name) = M.names.map .str := by unfold Mill.names; rw [List.map_map]; rfl
  rw [esp]
  refine of_cat (by rw [List.length_map]; simp [Mill.names]; omega) fun l => ?_
  change SX K _ [.dat (milD M), .dat (.str n), .dat (.lst ((M.parts n).map milD)), .emp, .emp, .emp, .own l (.dt []), .dat (.lst (M.spots.map .str)), .emp, .emp, .emp, .emp, .emp, .emp, .emp] _ _
  tm_at "ex"
  refine sx_forM ?_
  repeat' tm_at "ex"
  refine ⟨(M, b), rfl, ⟨hM.ok, hM.nice⟩, ?_⟩
  repeat' tm_at "ex"
  refine ⟨Str × Str, surePs M, sureD M b, fun i G => ∃ (ks : List ((Str × Str) × Dt)) (s3 : Sl), (∀ l d, s3 ≠ .own l d) ∧ ks.length ≤ 2 * i ∧ (∀ u v, gk ks (u, v) = sureT M i u v) ∧ G = [.dat (milD M), .dat (.str n), .dat (.lst ((M.parts n).map milD)), s3, .emp, .emp, .own l (.dt ks), .dat (.lst (M.spots.map .str)), .emp, .emp, .emp, .emp, .emp, .emp, .emp], rfl, ⟨[], .emp, nofun, Nat.zero_le _, fun u v => ?_, rfl⟩, ?_, ?_⟩
  · unfold sureT; simp; rfl
  · rintro i ⟨u, v⟩ G hi ⟨ks, s3, h3, h1, h2, rfl⟩
    have hil := (List.getElem?_eq_some_iff.mp hi).1
    refine gx_name ?_
    refine sx_put2 ?_
    repeat' tm_at "ex"
    refine ⟨⟨_, _, rfl⟩, ?_⟩
    refine ex_slT ?_
    repeat' tm_at "ex"
    refine ⟨_, _, _, rfl, put_dt (by omega), ?_⟩
    repeat' tm_at "ex"
    refine ⟨_, _, _, rfl, put_dt (Nat.lt_of_le_of_lt pk_len (by omega)), _, .dat (sureD M b (u, v)), nofun, Nat.le_trans pk_len (Nat.le_trans (Nat.succ_le_succ pk_len) (by omega)), fun x y => ?_, rfl⟩
    rw [gk_pk, gk_pk, h2]
    unfold sureT
    rw [take_snoc hi]
    by_cases e1 : (v, u) = (x, y)
    · injection e1 with e1 e2
      subst e1 e2
      rw [if_pos rfl, if_pos (.inr (by simp)), hD.sy]
    · rw [if_neg e1]
      by_cases e2 : (u, v) = (x, y)
      · injection e2 with e2 e3
        subst e2 e3
        rw [if_pos rfl, if_pos (.inl (by simp))]
      · rw [if_neg e2]
        have a1 : (x, y) ≠ (u, v) := fun z => e2 z.symm
        have a2 : (y, x) ≠ (u, v) := fun z => e1 (by injection z with z1 z2; rw [z1, z2])
        simp [a1, a2]
  · rintro G ⟨ks, s3, h3, h1, h2, rfl⟩
    tm_at "ex"
    refine sx_forM ?_
    repeat' tm_at "ex"
    refine ⟨Str, M.spots, .str, fun i G => ∃ (ks : List ((Str × Str) × Dt)) (s4 : Sl), ks.length ≤ 50 + i ∧ (∀ u v, gk ks (u, v) = spotT M i u v) ∧ G = [.dat (milD M), .dat (.str n), .dat (.lst ((M.parts n).map milD)), s3, s4, .emp, .own l (.dt ks), .dat (.lst (M.spots.map .str)), .emp, .emp, .emp, .emp, .emp, .emp, .emp], rfl, ⟨ks, .emp, by omega, fun u v => ?_, rfl⟩, ?_, ?_⟩
    · rw [h2]; unfold spotT; simp
    · rintro i u G hi ⟨ks, s4, g1, g2, rfl⟩
      have hil := (List.getElem?_eq_some_iff.mp hi).1
      repeat' tm_at "ex"
      refine ⟨⟨_, _, rfl⟩, ?_⟩
      repeat' tm_at "ex"
      refine ⟨_, _, _, rfl, put_dt (by omega), _, .dat (.str u), Nat.le_trans pk_len (by omega), fun x y => ?_, rfl⟩
      rw [gk_pk, g2]
      unfold spotT
      rw [take_snoc hi]
      by_cases e1 : (u, u) = (x, y)
      · injection e1 with e1 e2
        subst e1 e2
        rw [if_pos rfl, if_pos ⟨rfl, by simp⟩]
      · rw [if_neg e1]
        have : (x = y ∧ x ∈ M.spots.take i ++ [u]) ↔ (x = y ∧ x ∈ M.spots.take i) := by
          constructor
          · rintro ⟨e, z⟩
            refine ⟨e, (List.mem_append.mp z).resolve_right fun z => e1 ?_⟩
            rw [← e, List.mem_singleton.mp z]
          · rintro ⟨e, z⟩; exact ⟨e, List.mem_append_left _ z⟩
        simp only [this]
    · rintro G ⟨ks, s4, g1, g2, rfl⟩
      have hget : ∀ u ∈ M.spots, ∀ v ∈ M.spots, (gk ks (u, v)).getD (.int 1) = .int (M.D u v) := fun u hu v hv => by rw [g2]; exact spotT_all hM hu hv
      clear g2 h2 h1
      have hpl : (M.parts n).length = (M.Ls n).length := by unfold Mill.parts; rw [List.length_map]; rfl
      have hLl : (M.Ls n).length ≤ 5 := by
        have h1 := lots_len M n
        have h2 : (M.rest n).length ≤ M.names.length := List.length_filter_le ..
        have h3 : M.names.length ≤ 4 := by simp [Mill.names]; exact hws
        show (M.lots n).length + 1 ≤ 5
        omega
      -- a part by its place, and two of its wheels
      have part_at : ∀ j : Int, 1 ≤ j → j < (M.Ls n).length → ∃ lot ∈ M.lots n, (M.Ls n)[j.toNat]? = some lot ∧ L2.atI ((M.parts n).map milD) j = some (milD (M.part n lot)) := fun j j1 j2 => by
        obtain ⟨i, rfl⟩ : ∃ i : Nat, j = ((i + 1 : Nat) : Int) := ⟨(j - 1).toNat, by omega⟩
        have hi : i < (M.lots n).length := by
          have : (M.Ls n).length = (M.lots n).length + 1 := rfl
          omega
        refine ⟨(M.lots n)[i], List.getElem_mem hi, ?_, ?_⟩
        · show ([] :: M.lots n)[i + 1]? = _
          rw [List.getElem?_cons_succ, List.getElem?_eq_getElem hi]
        · unfold L2.atI L2.ixN
          rw [if_pos (by omega), if_pos (by rw [List.length_map, hpl]; exact j2)]
          show ((M.parts n).map milD)[i + 1]? = _
          unfold Mill.parts
          rw [List.getElem?_map, List.getElem?_map, List.getElem?_cons_succ, List.getElem?_eq_getElem hi]; rfl
      have wheels : ∀ lot ∈ M.lots n, ∃ (w0 : Wh) (ws : List Wh) (wl : Wh) (ws' : List Wh), (M.part n lot).ws = w0 :: ws ∧ (M.part n lot).ws = ws' ++ [wl] := fun lot hlot => by
        have hne : (M.part n lot).ws ≠ [] := by
          obtain ⟨z, hz, e⟩ := (mem_names hM hn).mp hn
          exact List.ne_nil_of_mem ((mem_part_w hM hn).mpr ⟨hz, .inr e⟩)
        obtain ⟨ws', wl, e2⟩ := (nil_or_snoc (M.part n lot).ws).resolve_left hne
        cases e1 : (M.part n lot).ws with
        | nil => exact absurd e1 hne
        | cons w0 ws => exact ⟨w0, ws, wl, ws', rfl, by rw [← e1]; exact e2⟩
      have of_part : ∀ {lot : List Str} {x : Wh}, x ∈ (M.part n lot).ws → x.name ∈ M.spots ∧ (x.name ∈ lot ∨ x.name = n) := fun {lot x} hx => by
        obtain ⟨h1, h2⟩ := (mem_part_w hM hn).mp hx
        exact ⟨List.mem_cons_of_mem _ (List.mem_map.mpr ⟨x, h1, rfl⟩), h2⟩
      tm_at "ex"
      refine sx_for (ix_rng2 ?_)
      repeat' tm_at "ex"
      refine ⟨1, ((M.Ls n).length : Int), by rw [List.length_map, hpl], by omega, fun _ G => ∃ s3 s5 s8 s9 s10 s11 s12 s13 s14 : Sl, (∀ l d, s3 ≠ .own l d) ∧ (∀ l d, s8 ≠ .own l d) ∧ G = [.dat (milD M), .dat (.str n), .dat (.lst ((M.parts n).map milD)), s3, s4, s5, .own l (.dt ks), .dat (.lst (M.spots.map .str)), s8, s9, s10, s11, s12, s13, s14], ⟨s3, .emp, .emp, .emp, .emp, .emp, .emp, .emp, .emp, h3, nofun, rfl⟩, ?_, ?_⟩
      · rintro i d G hd ⟨s3, s5, s8, s9, s10, s11, s12, s13, s14, h3, h8, rfl⟩
        have hj : ∃ j : Int, d = .int j ∧ 1 ≤ j ∧ j < (M.Ls n).length := by
          obtain ⟨k, hk, rfl⟩ := List.mem_map.mp (List.mem_of_getElem? hd)
          have := List.mem_range.mp hk
          exact ⟨_, rfl, by omega, by omega⟩
        obtain ⟨j, rfl, j1, j2⟩ := hj
        obtain ⟨lj, hlj, hjL, hjat⟩ := part_at j j1 j2
        refine gx_name (sx_for (ix_list (ex_of (ef_slL (ex_of (ef_lcM (tch_name 8) (by decide) (ix_rng2 ?_)))))))
        repeat' tm_at "ex"
        refine ⟨1, ((M.Ls n).length : Int), by rw [List.length_map, hpl], by omega, fun i hi l d e => (by rw [List.mem_singleton.mp hi] at e; exact h8 l d (Option.some.inj e)), Nat, List.range ((M.Ls n).length - 1), fun i => .int (1 + (i : Int)), fun i => if (!decide (1 + (i : Int) = j)) = true then some (.int (1 + (i : Int))) else none, ?_, ?_, fun k hk => ?_, ?_⟩
        · unfold rgD
          rw [show (((M.Ls n).length : Int) - 1).toNat = (M.Ls n).length - 1 by omega]
        · rw [List.length_range]; exact sz (by omega)
        · unfold LcT
          repeat' tm_at "ex"
          refine ⟨fun h => ?_, fun h => ?_⟩
          · repeat' tm_at "ex"
            exact ⟨agr_wipe.set (by decide), if_pos h⟩
          · refine ⟨agr_wipe.set (by decide), if_neg ?_⟩
            rw [h]; simp
        · rw [filterMap_if (fun i : Nat => !decide (1 + (i : Int) = j)) fun i => Dt.int (1 + (i : Int))]
          repeat' tm_at "ex"
          rw [show ((some 2 : Option Int)) = some ((2 : Nat) : Int) from rfl, cut_to]
          refine ⟨fun _ G => ∃ s3 s8 s9 s10 s11 s12 s13 s14 : Sl, (∀ l d, s3 ≠ .own l d) ∧ (∀ l d, s8 ≠ .own l d) ∧ G = [.dat (milD M), .dat (.str n), .dat (.lst ((M.parts n).map milD)), s3, s4, .dat (.int j), .own l (.dt ks), .dat (.lst (M.spots.map .str)), s8, s9, s10, s11, s12, s13, s14], ⟨s3, s8, s9, s10, s11, s12, s13, s14, h3, h8, rfl⟩, ?_, ?_⟩
          · rintro i2 d2 G hd2 ⟨s3, s8, s9, s10, s11, s12, s13, s14, h3, h8, rfl⟩
            have hk : ∃ k : Int, d2 = .int k ∧ 1 ≤ k ∧ k < (M.Ls n).length ∧ k ≠ j := by
              obtain ⟨k, hk, rfl⟩ := List.mem_map.mp (List.mem_of_mem_take (List.mem_of_getElem? hd2))
              obtain ⟨h1, h2⟩ := List.mem_filter.mp hk
              have := List.mem_range.mp h1
              exact ⟨_, rfl, by omega, by omega, by simpa using h2⟩
            obtain ⟨k, rfl, k1, k2, kj⟩ := hk
            obtain ⟨lk, hlk, hkL, hkat⟩ := part_at k k1 k2
            have hne : lj ≠ lk := fun z => by
              subst z
              have e1 := (List.getElem?_eq_some_iff.mp hjL)
              have e2 := (List.getElem?_eq_some_iff.mp hkL)
              obtain ⟨a1, a2⟩ := e1
              obtain ⟨b1, b2⟩ := e2
              have := (List.getElem_inj (Ls_nodup M n)).mp (a2.trans b2.symm)
              omega
            obtain ⟨w0, wsj, _, _, ej, _⟩ := wheels lj hlj
            obtain ⟨_, _, wl, wsk, _, ek⟩ := wheels lk hlk
            have hw0 : w0 ∈ (M.part n lj).ws := by rw [ej]; exact List.mem_cons_self ..
            have hwl : wl ∈ (M.part n lk).ws := by rw [ek]; exact List.mem_append_right _ (List.mem_singleton.mpr rfl)
            obtain ⟨hs0, hc0⟩ := of_part hw0
            obtain ⟨hsl', hcl⟩ := of_part hwl
            refine gx_name (sx_seq (sx_par ?_))
            repeat' tm_at "ex"
            refine od_ix rfl hjat ?_
            repeat' tm_at "ex"
            rw [ej, List.map_cons]
            repeat' tm_at "ex"
            refine od_ix rfl hkat ?_
            repeat' tm_at "ex"
            refine od_ix rfl (atI_last (x := whD wl) (by rw [ek, List.map_append, List.map_cons, List.map_nil, List.getLast?_concat])) ?_
            repeat' tm_at "ex"
            refine od_inS (xs := [w0.name, wl.name]) rfl ?_
            rw [if_pos rfl]
            repeat' tm_at "ex"
            refine ⟨fun h => ?_, fun h => ?_⟩
            · have hnn : n ≠ w0.name ∧ n ≠ wl.name := by simpa using h
              have hl0 : w0.name ∈ lj := hc0.resolve_right fun z => hnn.1 z.symm
              have hll : wl.name ∈ lk := hcl.resolve_right fun z => hnn.2 z.symm
              have hnl : wl.name ∉ lj := fun z => hne ((lots_ltk M n).dis lj hlj lk hlk _ z hll)
              have hac := across hM hn hlj hl0 hsl' hnl
              have hjn := join_sub hM (part_sub M n lj) (SubM.refl M) (SubM.refl M) (fun x _ => ⟨.inr, fun z => z.elim (fun z => (part_sub M n lj).w.subset z) id⟩) (fun x _ => ⟨.inr, fun z => z.elim (fun z => (part_sub M n lj).s.subset z) id⟩)
              have hPj := part_good hM hn (List.mem_cons_of_mem [] hlj)
              have hnP : w0.name ∈ (M.part n lj).spots := List.mem_cons_of_mem _ (List.mem_map.mpr ⟨w0, hw0, rfl⟩)
              obtain ⟨near, enear⟩ : ∃ near, near = w0.name := ⟨_, rfl⟩
              obtain ⟨goal, egoal⟩ : ∃ goal, goal = wl.name := ⟨_, rfl⟩
              rw [← enear] at hs0 hnP hac
              rw [← egoal] at hsl' hac
              change SX K _ [.dat (milD M), .dat (.str n), .dat (.lst ((M.parts n).map milD)), s3, s4, .dat (.int j), .own l (.dt ks), .dat (.lst (M.spots.map .str)), .dat (.int k), .dat (.str w0.name), .dat (.str wl.name), s11, s12, s13, s14] _ _
              rw [← enear, ← egoal]
              repeat' tm_at "ex"
              refine sx_forM (ix_tup ?_)
              repeat' tm_at "ex"
              have h0s := spc_spot hM hn (.inl rfl : Spc n "")
              have h1s := spc_spot hM hn (.inr rfl : Spc n n)
              refine ⟨Str × Str, mids n, keyP, fun i G => ∃ s3 s12 s13 s14 : Sl, (∀ l d, s3 ≠ .own l d) ∧ G = [.dat (milD M), .dat (.str n), .dat (.lst ((M.parts n).map milD)), s3, s4, .dat (.int j), .own l (.dt ks), .dat (.lst (M.spots.map .str)), .dat (.int k), .dat (.str near), .dat (.str goal), .dat (.int (much M.D near goal ((mids n).take i))), s12, s13, s14], rfl, ⟨s3, s12, s13, s14, h3, rfl⟩, ?_, ?_⟩
              · rintro i3 ⟨mid, en⟩ G hi3 ⟨s3, s12, s13, s14, h3, rfl⟩
                have hme : mid ∈ M.spots ∧ en ∈ M.spots := by
                  have hm := List.mem_of_getElem? hi3
                  rcases List.mem_cons.mp hm with e | hm
                  · injection e with e1 e2; subst e1 e2; exact ⟨h0s, h0s⟩
                  rcases List.mem_cons.mp hm with e | hm
                  · injection e with e1 e2; subst e1 e2; exact ⟨h0s, h1s⟩
                  rcases List.mem_cons.mp hm with e | hm
                  · injection e with e1 e2; subst e1 e2; exact ⟨h1s, h0s⟩
                  rcases List.mem_cons.mp hm with e | hm
                  · injection e with e1 e2; subst e1 e2; exact ⟨h1s, h1s⟩
                  · cases hm
                have emu : much M.D near goal ((mids n).take (i3 + 1)) = (Int.lcm (much M.D near goal ((mids n).take i3)) (Int.gcd (Int.gcd (M.D near mid) (M.D mid en)) (M.D en goal) : Int) : Int) := by rw [take_snoc hi3, much_snoc]
                have hmu := much_ok hD near goal ((mids n).take i3)
                dsimp only
                rw [emu]
                clear emu
                generalize much M.D near goal ((mids n).take i3) = mu at hmu ⊢
                show GX K _ (.tup [.str mid, .str en]) _ _
                repeat' tm_at "ex"
                refine ex_of (ef_lcA (tch_name 3) (by decide) (ix_tup ?_))
                repeat' tm_at "ex"
                refine ⟨fun i hi l d e => (by rw [List.mem_singleton.mp hi] at e; exact h3 l d (Option.some.inj e)), Str × Str, [(near, mid), (mid, en), (en, goal)], keyP, fun p => .int (M.D p.1 p.2), rfl, szB (by rfl), fun p hp => ?_, ?_⟩
                · obtain ⟨x, y⟩ := p
                  have hxy : x ∈ M.spots ∧ y ∈ M.spots := by
                    rcases List.mem_cons.mp hp with e | hp
                    · injection e with e1 e2; subst e1 e2; exact ⟨hs0, hme.1⟩
                    rcases List.mem_cons.mp hp with e | hp
                    · injection e with e1 e2; subst e1 e2; exact ⟨hme.1, hme.2⟩
                    rcases List.mem_cons.mp hp with e | hp
                    · injection e with e1 e2; subst e1 e2; exact ⟨hme.2, hsl'⟩
                    · cases hp
                  tm_at "ex"
                  refine ex_dget2O ⟨_, _, .tup [.str "", .str ""], _, rfl, rfl⟩ ?_
                  repeat' tm_at "ex"
                  refine ⟨_, _, _, rfl, look_dt (u := x) (v := y), agr_wipe.set (by decide), hget x hxy.1 y hxy.2⟩
                · repeat' tm_at "ex"
                  refine ⟨⟨(hD.ok _ _).nn, (hD.ok _ _).nn⟩, ?_⟩
                  rintro d rfl
                  repeat' tm_at "ex"
                  refine ⟨⟨by show 0 ≤ ((Int.gcd _ _ : Nat) : Int); omega, (hD.ok _ _).nn⟩, ?_⟩
                  rintro d rfl
                  repeat' tm_at "ex"
                  refine ⟨⟨hmu, ((hD.ok _ _).gcd (hD.ok _ _)).gcd (hD.ok _ _)⟩, ?_⟩
                  rintro d rfl
                  exact ⟨s3, .dat (.str mid), .dat (.str en), _, h3, rfl⟩
              · rintro G ⟨s3, s12, s13, s14, h3, rfl⟩
                have e4 : (mids n).take (mids n).length = mids n := List.take_length
                rw [e4, ← hac]
                refine sx_if (tx_or (tx_test (ex_op (ex_dget2O ⟨_, _, .tup [.str "", .str ""], _, rfl, rfl⟩ ?_))))
                repeat' tm_at "ex"
                refine ⟨_, _, _, rfl, look_dt (u := near) (v := goal), ?_⟩
                rw [hget near hs0 goal hsl']
                repeat' tm_at "ex"
                refine ⟨fun h => by simp at h, fun _ => ?_⟩
                repeat' tm_at "ex"
                refine od_ix rfl hjat ?_
                repeat' tm_at "ex"
                refine ⟨((M.part n lj, M), (M, b), near, goal), rfl, ⟨hPj.ok, hM.ok, hjn.un, hjn.jn, hM.ok, hnP, hsl', hs0, hsl'⟩, ?_⟩
                rintro d rfl
                repeat' tm_at "ex"
                refine ⟨fun h => by simp at h, fun _ => ?_⟩
                repeat' tm_at "ex"
                exact ⟨s3, .dat (.int k), _, _, _, _, _, _, h3, nofun, rfl⟩
            · repeat' tm_at "ex"
              exact ⟨_, .dat (.int k), _, _, _, _, _, _, h3, nofun, rfl⟩
          · rintro G ⟨s3, s8, s9, s10, s11, s12, s13, s14, h3, h8, rfl⟩
            exact ⟨_, _, _, _, _, _, _, _, _, h3, h8, rfl⟩
      · rintro G ⟨s3, s5, s8, s9, s10, s11, s12, s13, s14, h3, h8, rfl⟩
        repeat' tm_at "ex"
        rfl
end

set_option Elab.async false
set_option linter.all false
set_option maxRecDepth 100000
set_option maxHeartbeats 1000000
section
open PySem L2
variable [B : Tb]
variable {Pr : Program} {w : World} {K : PySem.W.Frag} {mg : Str → Option Value} {base : Heap} {f : Addr} {fd : FuncData}

/-! ### begins of the parts, laid together -/
omit [B : Tb] in
theorem off_zero {y : Sy} {k : Str → Int} (h : y.dial ∣ (k y.other - k y.one) - y.late) (hd : 0 ≤ y.dial) : y.off k = 0 := by
  unfold Sy.off offI
  split
  · exact Int.emod_eq_zero_of_dvd h
  · have e : y.dial = 0 := by omega
    rw [e] at h
    exact Int.zero_dvd.mp h
omit [B : Tb] in
theorem mem_pk {ks : List (Str × Dt)} {k : Str} {v : Dt} (nd : (ks.map (·.1)).Nodup) : ((pk ks k v).map (·.1)).Nodup ∧ ∀ p, p ∈ pk ks k v ↔ p = (k, v) ∨ (p ∈ ks ∧ p.1 ≠ k) := by
  by_cases h : k ∈ ks.map (·.1)
  · have e : pk ks k v = ks.map fun kv => if kv.1 = k then (kv.1, v) else kv := by
      unfold pk
      rw [if_pos]
      obtain ⟨p, hp, e⟩ := List.mem_map.mp h
      rw [List.any_eq_true]
      exact ⟨p, hp, by simp [e]⟩
    rw [e]
    refine ⟨?_, fun p => ?_⟩
    · rw [List.map_map]
      have : ((fun x : Str × Dt => x.1) ∘ fun kv => if kv.1 = k then (kv.1, v) else kv) = (·.1) := by
        funext kv
        show (if kv.1 = k then (kv.1, v) else kv).1 = kv.1
        split <;> rfl
      rw [this]; exact nd
    · rw [List.mem_map]
      constructor
      · rintro ⟨q, hq, rfl⟩
        by_cases c : q.1 = k
        · rw [if_pos c, c]; exact .inl rfl
        · rw [if_neg c]; exact .inr ⟨hq, c⟩
      · rintro (rfl | ⟨hq, c⟩)
        · obtain ⟨q, hq, e⟩ := List.mem_map.mp h
          exact ⟨q, hq, by rw [if_pos e, e]⟩
        · exact ⟨p, hq, if_neg c⟩
  · rw [pk_fresh h]
    refine ⟨?_, fun p => ?_⟩
    · rw [List.map_append, List.nodup_append]
      refine ⟨nd, by simp, fun x hx y hy e => ?_⟩
      have hy : y = k := by simpa using hy
      exact h (by rw [← hy, ← e]; exact hx)
    · rw [List.mem_append, List.mem_singleton]
      constructor
      · rintro (hp | rfl)
        · exact .inr ⟨hp, fun e => h (e ▸ List.mem_map.mpr ⟨p, hp, rfl⟩)⟩
        · exact .inl rfl
      · rintro (rfl | ⟨hp, _⟩)
        · exact .inr rfl
        · exact .inl hp
omit [B : Tb] in
theorem mem_mgk : ∀ {more ks : List (Str × Dt)}, (ks.map (·.1)).Nodup → (more.map (·.1)).Nodup → ((mgk ks more).map (·.1)).Nodup ∧ ∀ p, p ∈ mgk ks more ↔ p ∈ more ∨ (p ∈ ks ∧ p.1 ∉ more.map (·.1))
  | [], ks, nd, _ => ⟨nd, fun p => by show p ∈ ks ↔ _; simp⟩
  | (x, d) :: more, ks, nd, nm => by
    obtain ⟨h1, h2⟩ := mem_pk (k := x) (v := d) nd
    obtain ⟨m1, m2⟩ := List.nodup_cons.mp nm
    obtain ⟨i1, i2⟩ := mem_mgk h1 m2
    rw [mgk_cons]
    refine ⟨i1, fun p => ?_⟩
    rw [i2, h2, List.mem_cons, List.map_cons, List.mem_cons, not_or]
    constructor
    · rintro (h | ⟨rfl | ⟨h, c⟩, n⟩)
      · exact .inl (.inr h)
      · exact .inl (.inl rfl)
      · exact .inr ⟨h, c, n⟩
    · rintro ((rfl | h) | ⟨h, c, n⟩)
      · exact .inr ⟨.inl rfl, m1⟩
      · exact .inl h
      · exact .inr ⟨.inr ⟨h, c⟩, n⟩
/-- a table's items, sorted, are begins -/
theorem sort_items {ks : List (Str × Dt)} {ns : List Str} {k : Str → Int} (nd : (ks.map (·.1)).Nodup) (ha : Asc ns) (hs : ∀ n ∈ ns, PyData.strOk n = true) (h : ∀ p, p ∈ ks ↔ ∃ n ∈ ns, p = (n, Dt.int (k n))) : Sorts (ks.map itemD) ∧ srt (ks.map itemD) = ns.map fun n => Dt.tup [.str n, .int (k n)] := by
  obtain ⟨nks, hnks⟩ : ∃ nks : List Str, nks = ks.map (·.1) := ⟨_, rfl⟩
  have hmem : ∀ n, n ∈ nks ↔ n ∈ ns := fun n => by
    rw [hnks, List.mem_map]
    constructor
    · rintro ⟨p, hp, rfl⟩
      obtain ⟨m, hm, e⟩ := (h p).mp hp
      rw [e]; exact hm
    · intro hn
      exact ⟨_, (h _).mpr ⟨n, hn, rfl⟩, rfl⟩
  have e : ks.map itemD = (nks.map fun n => [(Sum.inr n : Key), Sum.inl (k n)]).map tD := by
    rw [hnks, List.map_map, List.map_map]
    refine List.map_congr_left fun p hp => ?_
    obtain ⟨m, hm, e⟩ := (h p).mp hp
    rw [e]; rfl
  rw [e]
  refine ⟨sorts_tups (fun q hq => ?_) (fun q hq => ?_) (fun q hq r hr => ?_), ?_⟩
  · obtain ⟨n, hn, rfl⟩ := List.mem_map.mp hq
    simp [oks, okK, hs n ((hmem n).mp hn)]
  · obtain ⟨n, hn, rfl⟩ := List.mem_map.mp hq
    exact fun z => by cases z
  · obtain ⟨n, hn, rfl⟩ := List.mem_map.mp hq
    obtain ⟨m, hm, rfl⟩ := List.mem_map.mp hr
    rfl
  · rw [srt_tups, setK_eq (l := nks.map fun n => [(Sum.inr n : Key), Sum.inl (k n)]) ?_ fun _ => Iff.rfl]
    · rw [← setK_asc (row := fun n : Str => [(Sum.inr n : Key), Sum.inl (k n)]) (nm := id) (rest := fun n => [Sum.inl (k n)]) (fun _ => rfl) (l' := ns) (by rw [List.map_id]; exact ha) fun x => (hmem x).symm, List.map_map]
      rfl
    · rw [← hnks] at nd
      refine List.pairwise_map.mpr (nd.imp fun {a c} hac e => ?_)
      injection e with e1 _
      injection e1 with e1
      exact hac e1
theorem cf_dictB {ns : List Str} {k : Str → Int} {Q : Dt → Prop} (nd : ns.Nodup) (p : Q (tabF ns k)) : CF K (rDictT K) [begP ns k] Q := by
  have e2 : ((ns.map fun n => (n, Dt.int (k n))).map (·.1)) = ns := by rw [List.map_map]; exact List.map_id _
  have e : begP ns k = .pt ((ns.map fun n => (n, Dt.int (k n))).map fun p => Dt.tup [.str p.1, p.2]) := by unfold begP; rw [List.map_map]; rfl
  rw [e]
  refine cf_dictT ?_
  rw [mgk_fresh (kvs := []) (by rw [e2]; exact nd) (by simp), List.nil_append]
  exact p
theorem sc__law_laid_right : FnScope ["_law_hall_here", "_law_tag", "_law_parts_here", "_law_whole", "_law_own", "_law_start", "_law_table", "_law_begins_in", "_law_told_so"] ["_law_hall_here", "_law_tag", "_law_parts_here"] (defScope (top 83)) := ⟨rfl, rfl, rfl, by decide +kernel, rfl, by decide +kernel, by decide +kernel⟩
abbrev sp__law_laid_right (K : PySem.W.Frag) : Sp := SpP K (fun x : Mill × (Str → Int) × Str => [milD x.1, .str x.2.2, .lst ((x.1.parts x.2.2).map milD)]) (fun x => x.1.Good x.2.1 ∧ x.2.2 ∈ x.1.names) (fun _ d => d = .bl true)
theorem ok__law_laid_right (T : Tx K mg) (c_least_setting : Cal Pr w K mg base 7 "least_setting" (sp_least_setting K)) (c_is_setting : Cal Pr w K mg base 7 "is_setting" (sp_is_setting K)) (c_setting_with : Cal Pr w K mg base 7 "setting_with" (sp_setting_with K)) (c_hinders : Cal Pr w K mg base 7 "hinders" (sp_hinders K)) (F : FnP K "_law_laid_right" (top 83) f fd) : FnOk Pr w K mg base CX0 8 f fd ["_law_hall_here", "_law_tag", "_law_parts_here"] (sp__law_laid_right K) := by
  have nd := sc__law_laid_right.nd
  refine fn_P F sc__law_laid_right (fun _ => rfl) (by decide) fun cdv A outer s H E hr => ⟨_, (pss_cons (pst (i := 3) nd rfl (pe_c c_least_setting hr (by decide) rfl (pa_cons (pv 0) pa_nil)))
    (pss_cons (ps_par (i := 5) (j := 6) rfl nd rfl rfl (by decide) rfl rfl (pa_cons (pe_dget hr.units1 (pe_callTy (call_dictT rfl) rfl T.dict_ bt_dict (pa_cons (pv 3) pa_nil)) (pv 1) (fun _ _ => rfl)) (pa_cons pe_dnewK pa_nil)) (by rfl))
    (pss_cons (ps_for PassesOwn.never rfl (piLK (K := K) (pv 2)) (pgn (i := 4) nd rfl) (pss_cons (pst (i := 7) nd rfl (pe_tup (pa_cons (pe_tup (pa_cons (pv 1) (pa_cons (pv 5) pa_nil))) pa_nil)))
    (pss_cons (ps_if (pt_cmp (pc_notN (pe_c c_hinders hr (by decide) rfl (pa_cons (pv 4) (pa_cons (pv 7) pa_nil))))) (pss_one (ps_ret pe_bl)) pss_nil)
    (pss_cons (pst (i := 8) nd rfl (pe_c c_setting_with hr (by decide) rfl (pa_cons (pv 4) (pa_cons (pv 7) pa_nil))))
    (pss_cons (ps_if (PW.pt (pw_or (pt_not (pt_val (pe_c c_is_setting hr (by decide) rfl (pa_cons (pv 4) (pa_cons (pv 8) pa_nil))))) (pw_or1 (pt_cmpR op_ne (pe_dget hr.units1 (pe_callTy (call_dictT rfl) rfl T.dict_ bt_dict (pa_cons (pv 8) pa_nil)) (pv 1) (fun _ _ => rfl)) (pv 5) (nomark _))))) (pss_one (ps_ret pe_bl)) pss_nil)
    (pss_one (ps_expr (pe_bm PySem.F.plainAttrs_dict PySem.F.slot_dict_update PySem.F.type_dict_update mt_dupd (pv 6) (pa_cons (pe_callTy (call_dictT rfl) rfl T.dict_ bt_dict (pa_cons (pv 8) pa_nil)) pa_nil)))))))))
    (pss_one (ps_ret (pe_c c_is_setting hr (by decide) rfl (pa_cons (pv 0) (pa_cons (pe_callTy (tupleK (K := K)) rfl T.tuple_ bt_tuple (pa_cons (pe_sortItems rfl hr.units70 (pv 6) rfl T.sorted_) pa_nil)) pa_nil)))))))), ?_⟩
  rintro ⟨M, b, n⟩ ⟨hM, hn⟩
  dsimp only at hM hn
  try dsimp only [cxOf]
  change SX K _ [.dat (milD M), .dat (.str n), .dat (.lst ((M.parts n).map milD)), .emp, .emp, .emp, .emp, .emp, .emp] _ _
  have hws := hM.ws
  have hz : 100 < sizeLine := by decide
  have hnl : M.names.length ≤ 4 := by simp [Mill.names]; exact hws
  have hns : n ∈ M.spots := List.mem_cons_of_mem _ hn
  refine sx_seq (sx_set (ex_call (ea_cons (ex_var (by with_unfolding_all exact rfl) (ea_nil ⟨(M, b), rfl, hM.ok, ?_⟩)))))
  rintro d ⟨kw, rfl, hkw⟩
  refine sx_seq (sx_parN (ex_dget (ex_of (ef_cb (ea_cons (ex_var (by with_unfolding_all exact rfl) (ea_nil (cf_dictB hM.ok.nm.nd ?_))))))))
  repeat' tm_at "ex"
  refine ⟨_, look_tab hn, ?_⟩
  refine ef_dnewK fun l => ?_
  tm_at "ex"
  refine sx_forM (ix_list (ex_var (by with_unfolding_all exact rfl) ⟨_, rfl, ?_⟩))
  obtain ⟨st, hst⟩ : ∃ st, st = kw n := ⟨_, rfl⟩
  rw [← hst]
  have hkag : Agree M b kw M.spots := hkw.ag
  have hkw0 : kw "" = 0 := hkw.k0
  refine ⟨List Str, M.Ls n, fun lot => milD (M.part n lot), fun i G => ∃ (ks : List (Str × Dt)) (k : Str → Int) (s4 s7 s8 : Sl), k "" = 0 ∧ k n = st ∧ (ks.map (·.1)).Nodup ∧ (∀ p, p ∈ ks ↔ ∃ x, (∃ lot ∈ (M.Ls n).take i, x ∈ (M.part n lot).names) ∧ p = (x, Dt.int (k x))) ∧ ks.length ≤ 4 * i ∧ (∀ lot ∈ (M.Ls n).take i, ∀ y ∈ (M.part n lot).ss, y.off k = 0) ∧
    G = [.dat (milD M), .dat (.str n), .dat (.lst ((M.parts n).map milD)), .dat (begP M.names kw), s4, .dat (.int st), .own l (.dk ks), s7, s8], ?_, ⟨[], fun x => if x = n then st else 0, .emp, .emp, .emp, ?_, if_pos rfl, List.nodup_nil, fun p => ?_, Nat.zero_le _, fun lot h => ?_, rfl⟩, ?_, ?_⟩
  · unfold Mill.parts; rw [List.map_map]; rfl
  · exact if_neg fun (z : ("" : Str) = n) => hM.ok.nm.ne (z ▸ hn)
  · rw [List.take_zero]; simp
  · rw [List.take_zero] at h; cases h
  · rintro i lot G hi ⟨ks, k, s4, s7, s8, k0, kn, nd', hks, hkl, hoff, rfl⟩
    have hlL := List.mem_of_getElem? hi
    have hil := (List.getElem?_eq_some_iff.mp hi).1
    have hLl : (M.Ls n).length ≤ 5 := by
      have h1 := lots_len M n
      have h2 : (M.rest n).length ≤ M.names.length := List.length_filter_le ..
      show (M.lots n).length + 1 ≤ 5
      omega
    have hP := part_good hM hn hlL
    have hpn : n ∈ (M.part n lot).names := by
      obtain ⟨z, hz, e⟩ := (mem_names hM hn).mp hn
      exact (mem_names hM hn).mpr ⟨z, (mem_part_w hM hn).mpr ⟨hz, .inr e⟩, e⟩
    have hPs := part_sub M n lot
    have hPnl : (M.part n lot).names.length ≤ 4 := Nat.le_trans hPs.names.length_le hnl
    have hd2 : Hd2 (M.part n lot) b kw [n] := by
      refine ⟨fun x hx => (by rw [List.mem_singleton.mp hx]; exact hpn), (by show 1 ≤ 20; decide), hkw0, fun u hu v hv => ?_⟩
      have sp : ∀ x ∈ ("" : Str) :: [n], x ∈ (M.part n lot).spots ∧ x ∈ M.spots := fun x hx => by
        rcases List.mem_cons.mp hx with rfl | hx
        · exact ⟨List.mem_cons_self .., List.mem_cons_self ..⟩
        · rw [List.mem_singleton.mp hx]; exact ⟨List.mem_cons_of_mem _ hpn, hns⟩
      exact Int.dvd_trans (D_mono hP.ok hM.ok (fun y hy => hPs.s.subset hy) (sp u hu).1 (sp v hv).1 (sp u hu).2 (sp v hv).2) (hkag u (sp u hu).2 v (sp v hv).2)
    refine gx_name (sx_seq (sx_set ?_))
    repeat' tm_at "ex"
    refine ⟨(M.part n lot, b, kw, [n]), by rw [hst]; rfl, ⟨hP.ok, hd2⟩, ?_⟩
    rintro d rfl
    repeat' tm_at "ex"
    refine ⟨nofun, fun _ => ?_⟩
    repeat' tm_at "ex"
    refine ⟨(M.part n lot, b, kw, [n]), by rw [hst]; rfl, ⟨hP.ok, hd2, by simp⟩, ?_⟩
    rintro d ⟨k2, rfl, hk2⟩
    have hk2ag : Agree (M.part n lot) b k2 (M.part n lot).spots := hk2.ag
    have hk20 : k2 "" = 0 := hk2.k0
    have hk2n : k2 n = st := by rw [hst]; exact hk2.ext n (List.mem_singleton.mpr rfl)
    have hk2o : ∀ y ∈ (M.part n lot).ss, y.off k2 = 0 := fun y hy => off_zero (ag_kept hP.ok hk2ag hy) (hP.ok.ss y hy).dial.nn
    refine sx_seq ?_
    refine sx_if ?_
    refine tx_or (tx_not (tx_B ?_))
    refine ex_call (ea_cons (ex_var (by with_unfolding_all exact rfl) (ea_cons (ex_varP (by with_unfolding_all exact rfl) (ea_nil ?_)))))
    refine ⟨(M.part n lot, k2), rfl, ⟨hP.ok.sh, hP.ok.nm, fun x hx => hP.nice.ok x (List.mem_cons_of_mem _ hx), hk20, fun y hy => ⟨(hP.ok.ss y hy).one, (hP.ok.ss y hy).other, hk2o y hy⟩⟩, ?_⟩
    rintro d rfl
    refine ⟨true, rfl, nofun, fun _ => ?_⟩
    refine tx_test (ex_op (ex_dget (ex_of (ef_cb (ea_cons (ex_var (by with_unfolding_all exact rfl) (ea_nil (cf_dictB hP.ok.nm.nd ?_))))))))
    repeat' tm_at "ex"
    refine ⟨_, look_tab hpn, ?_⟩
    rw [hk2n]
    repeat' tm_at "ex"
    refine ⟨fun h => by simp at h, fun _ => ?_⟩
    refine sx_next ?_
    refine sx_dupd ⟨_, _, rfl⟩ ?_
    refine ex_of (ef_cb (ea_cons (ex_var (by with_unfolding_all exact rfl) (ea_nil (cf_dictB hP.ok.nm.nd ?_)))))
    obtain ⟨pn, epn⟩ : ∃ pn, pn = (M.part n lot).names := ⟨_, rfl⟩
    change ∃ l' ks' more, tabF (M.part n lot).names k2 = .dk more ∧ _
    rw [← epn] at hpn hPnl ⊢
    have ndpn : pn.Nodup := by rw [epn]; exact hP.ok.nm.nd
    have em : ((pn.map fun x => (x, Dt.int (k2 x))).map (·.1)) = pn := by rw [List.map_map]; exact List.map_id _
    obtain ⟨m1, m2⟩ := mem_mgk (more := pn.map fun x => (x, Dt.int (k2 x))) nd' (by rw [em]; exact ndpn)
    have hPu : ∀ x, x ∈ pn ↔ x ∈ M.names ∧ (x ∈ lot ∨ x = n) := fun x => by
      rw [epn, mem_names hM hn]
      constructor
      · rintro ⟨z, hz, rfl⟩
        obtain ⟨a1, a2⟩ := (mem_part_w hM hn).mp hz
        exact ⟨List.mem_map.mpr ⟨z, a1, rfl⟩, a2⟩
      · rintro ⟨a1, a2⟩
        obtain ⟨z, hz, rfl⟩ := (mem_names hM hn).mp a1
        exact ⟨z, (mem_part_w hM hn).mpr ⟨hz, a2⟩, rfl⟩
    have h0pn : ("" : Str) ∉ pn := fun z => hM.ok.nm.ne ((hPu "").mp z).1
    refine ⟨_, _, _, rfl, rfl, ?_, mgk ks (pn.map fun x => (x, Dt.int (k2 x))), fun x => if x ∈ pn then k2 x else k x, _, _, _, ?_, ?_, m1, fun p => ?_, ?_, fun lot' hlot' y hy => ?_, rfl⟩
    · rw [List.length_map]; omega
    · show (if ("" : Str) ∈ pn then k2 "" else k "") = 0
      rw [if_neg h0pn]; exact k0
    · show (if n ∈ pn then k2 n else k n) = st
      rw [if_pos hpn]; exact hk2n
    · rw [m2, em, take_snoc hi]
      constructor
      · rintro (h | ⟨h, c⟩)
        · obtain ⟨x, hx, rfl⟩ := List.mem_map.mp h
          exact ⟨x, ⟨lot, List.mem_append_right _ (List.mem_singleton.mpr rfl), epn ▸ hx⟩, by show (x, Dt.int (k2 x)) = (x, Dt.int (if x ∈ pn then k2 x else k x)); rw [if_pos hx]⟩
        · obtain ⟨x, ⟨l', hl', hx⟩, rfl⟩ := (hks p).mp h
          exact ⟨x, ⟨l', List.mem_append_left _ hl', hx⟩, by show (x, Dt.int (k x)) = (x, Dt.int (if x ∈ pn then k2 x else k x)); rw [if_neg c]⟩
      · rintro ⟨x, ⟨l', hl', hx⟩, rfl⟩
        by_cases c : x ∈ pn
        · refine .inl (List.mem_map.mpr ⟨x, c, ?_⟩)
          show (x, Dt.int (k2 x)) = (x, Dt.int (if x ∈ pn then k2 x else k x)); rw [if_pos c]
        · refine .inr ⟨(hks _).mpr ⟨x, ⟨l', ?_, hx⟩, ?_⟩, c⟩
          · rcases List.mem_append.mp hl' with z | z
            · exact z
            · rw [List.mem_singleton.mp z] at hx
              exact absurd (epn ▸ hx) c
          · show (x, Dt.int (if x ∈ pn then k2 x else k x)) = (x, Dt.int (k x)); rw [if_neg c]
    · have := mgk_len (pn.map fun x => (x, Dt.int (k2 x))) ks
      rw [List.length_map] at this
      omega
    · rw [take_snoc hi] at hlot'
      have same : ∀ {k3 : Str → Int}, (∀ x, x = y.one ∨ x = y.other → (if x ∈ pn then k2 x else k x) = k3 x) → y.off k3 = 0 → y.off (fun x => if x ∈ pn then k2 x else k x) = 0 := fun {k3} h h0 => by
        unfold Sy.off at *
        show offI y.late y.dial ((if y.other ∈ pn then k2 y.other else k y.other) - (if y.one ∈ pn then k2 y.one else k y.one)) = 0
        rw [h y.other (.inr rfl), h y.one (.inl rfl)]
        exact h0
      rcases List.mem_append.mp hlot' with z | z
      · -- an earlier part
        have hl'L := List.mem_of_mem_take z
        have hne : lot' ≠ lot := fun e => by
          subst e
          obtain ⟨k', hk', e⟩ := List.getElem_of_mem z
          rw [List.length_take] at hk'
          rw [List.getElem_take] at e
          obtain ⟨g1, g2⟩ := (List.getElem?_eq_some_iff.mp hi)
          have := (List.getElem_inj (Ls_nodup M n)).mp (e.trans g2.symm)
          omega
        refine same (k3 := k) (fun x hx => ?_) (hoff lot' z y hy)
        obtain ⟨y1, y2⟩ := (mem_part_s hM hn).mp hy
        have hends := inP_ends hM hn hl'L y1 y2
        have hx2 : x ∈ lot' ∨ Spc n x := hx.elim (fun e => e ▸ hends.1) fun e => e ▸ hends.2
        rcases hx2 with hx2 | rfl | rfl
        · rw [if_neg]
          intro c
          have hr' : lot' ∈ M.lots n := by
            rcases List.mem_cons.mp hl'L with e | e
            · rw [e] at hx2; cases hx2
            · exact e
          have hxr := (lots_ltk M n).sub lot' hr' x hx2
          rcases ((hPu x).mp c).2 with c | c
          · have hr : lot ∈ M.lots n := by
              rcases List.mem_cons.mp hlL with e | e
              · rw [e] at c; cases c
              · exact e
            exact hne ((lots_ltk M n).dis lot' hr' lot hr x hx2 c)
          · exact (mem_rest.mp hxr).2 c
        · rw [if_neg h0pn]
        · rw [if_pos hpn, hk2n, kn]
      · rw [List.mem_singleton.mp z] at hy
        refine same (k3 := k2) (fun x hx => ?_) (hk2o y hy)
        have he := hP.ok.ss y hy
        have hx2 : x ∈ (M.part n lot).spots := hx.elim (fun e => e ▸ he.one) fun e => e ▸ he.other
        rcases List.mem_cons.mp hx2 with rfl | hx2
        · rw [if_neg h0pn, k0, hk20]
        · rw [if_pos (epn ▸ hx2)]
  · rintro G ⟨ks, k, s4, s7, s8, k0, kn, nd', hks, hkl, hoff, rfl⟩
    rw [List.take_length] at hks hoff
    have hall : ∀ p, p ∈ ks ↔ ∃ x ∈ M.names, p = (x, Dt.int (k x)) := fun p => by
      rw [hks]
      constructor
      · rintro ⟨x, ⟨lot, hl, hx⟩, e⟩
        exact ⟨x, (part_sub M n lot).names.subset hx, e⟩
      · rintro ⟨x, hx, e⟩
        refine ⟨x, ?_, e⟩
        obtain ⟨z, hz, rfl⟩ := (mem_names hM hn).mp hx
        have hz2 : z ∈ (M.uni n (M.Ls n)).ws := by rw [uni_all hM hn]; exact hz
        obtain ⟨_, lot, hl, c⟩ := (mem_uni_w hM hn).mp hz2
        exact ⟨lot, hl, (mem_names hM hn).mpr ⟨z, (mem_part_w hM hn).mpr ⟨hz, c⟩, rfl⟩⟩
    obtain ⟨q1, q2⟩ := sort_items nd' (List.pairwise_cons.mp hM.nice.asc).2 (fun x hx => hM.nice.ok x (List.mem_cons_of_mem _ hx)) hall
    refine sx_ret (ex_call (ea_cons (ex_var (by with_unfolding_all exact rfl) ?_)))
    refine ea_cons (ex_cb (ea_cons ?_))
    refine ex_of (ef_sortItems (ex_own rfl ⟨_, rfl, q1, ?_⟩))
    rw [q2]
    refine ea_nil (cd_tuple rfl (ea_nil ?_))
    refine ⟨(M, k), rfl, ⟨hM.ok.sh, hM.ok.nm, fun x hx => hM.nice.ok x (List.mem_cons_of_mem _ hx), k0, fun y hy => ⟨(hM.ok.ss y hy).one, (hM.ok.ss y hy).other, ?_⟩⟩, fun _ h => h⟩
    obtain ⟨lot, hl, hp⟩ := inP_some hM hn hy
    exact hoff lot hl y ((mem_part_s hM hn).mpr ⟨hy, hp⟩)
end

set_option Elab.async false
set_option linter.all false
set_option maxRecDepth 100000
set_option maxHeartbeats 1000000
section
open PySem L2
variable [B : Tb]
variable {Pr : Program} {w : World} {K : PySem.W.Frag} {mg : Str → Option Value} {base : Heap} {f : Addr} {fd : FuncData}

/-! ### rings by parts, bridges -/
omit [B : Tb] in
theorem pairsIn_cons (x : Str) (xs : List Str) : pairsIn (x :: xs) = xs.map (fun v => (x, v)) ++ pairsIn xs := by
  unfold pairsIn
  rw [List.length_cons, List.range_succ_eq_map, List.flatMap_cons, List.flatMap_map]
  rfl
omit [B : Tb] in
theorem flat_congr {α β : Type} {f g : α → List β} : ∀ {l : List α}, (∀ x ∈ l, f x = g x) → l.flatMap f = l.flatMap g
  | [], _ => rfl
  | x :: l, h => by rw [List.flatMap_cons, List.flatMap_cons, h x (List.mem_cons_self ..), flat_congr fun y hy => h y (List.mem_cons_of_mem _ hy)]
omit [B : Tb] in
theorem pairs_prod : ∀ {sp : List Str}, Asc sp → pairsIn sp = (prodP sp sp).filter fun p => ltS p.1 p.2
  | [], _ => rfl
  | x :: xs, h => by
    obtain ⟨h1, h2⟩ := List.pairwise_cons.mp h
    rw [pairsIn_cons, pairs_prod h2]
    unfold prodP
    rw [List.flatMap_cons, List.filter_append]
    congr 1
    · rw [List.map_cons, List.filter_cons_of_neg (by simp [ltS_irr]), List.filter_eq_self.mpr]
      intro p hp
      obtain ⟨v, hv, rfl⟩ := List.mem_map.mp hp
      exact h1 v hv
    · rw [List.filter_flatMap, List.filter_flatMap]
      refine flat_congr fun u hu => ?_
      rw [List.map_cons, List.filter_cons_of_neg]
      have := ltS_asymm (h1 u hu)
      simp [this]
omit [B : Tb] in
theorem prodP_filter (sp : List Str) (p : Str → Bool) : prodP (sp.filter p) (sp.filter p) = (prodP sp sp).filter fun q => p q.1 && p q.2 := by
  have key : ∀ t s : List Str, (s.filter p).flatMap (fun u => (t.filter p).map fun v => (u, v)) = (s.flatMap fun u => t.map fun v => (u, v)).filter fun q => p q.1 && p q.2 := by
    intro t s
    induction s with
    | nil => rfl
    | cons u s ih =>
      rw [List.flatMap_cons, List.filter_append, ← ih]
      by_cases c : p u = true
      · rw [List.filter_cons_of_pos c, List.flatMap_cons]
        congr 1
        rw [List.filter_map]
        congr 1
        refine List.filter_congr fun v _ => ?_
        show p v = (p u && p v)
        rw [c]; rfl
      · rw [List.filter_cons_of_neg c]
        have : (t.map fun v => (u, v)).filter (fun q => p q.1 && p q.2) = [] := by
          rw [List.filter_eq_nil_iff]
          intro q hq
          obtain ⟨v, _, rfl⟩ := List.mem_map.mp hq
          simp [c]
        rw [this]; rfl
  exact key sp sp
def dueP (M : Mill) (n : Str) : List (Str × Str) := (surePs M).filter fun p => !decide (p ∈ surePs (M.cut n)) && !decide (n ∈ [p.1, p.2])
theorem due_eq {M : Mill} {b : Str → Int} (hM : M.Good b) {n : Str} (hn : n ∈ M.names) : bridgePs M n = dueP M n := by
  have esp : ("" : Str) :: M.names.filter (fun x => !decide (x = n)) = M.spots.filter fun x => !decide (x = n) := by
    unfold Mill.spots
    rw [List.filter_cons_of_pos]
    have : ("" : Str) ≠ n := fun z => hM.ok.nm.ne (z ▸ hn)
    simp [this]
  unfold bridgePs dueP
  rw [esp, pairs_prod (List.Pairwise.sublist List.filter_sublist hM.nice.asc), prodP_filter, List.filter_filter, List.filter_filter]
  unfold surePs
  rw [List.filter_filter]
  refine List.filter_congr fun p hp => ?_
  obtain ⟨u, v⟩ := p
  have hc : decide ((u, v) ∈ (prodP (M.cut n).spots (M.cut n).spots).filter fun p => ltS p.1 p.2 && !decide ((M.cut n).D p.1 p.2 = 1)) = (ltS u v && !decide ((M.cut n).D u v = 1)) := by
    refine Bool.eq_iff_iff.mpr ?_
    rw [decide_eq_true_eq, List.mem_filter]
    exact ⟨fun h => h.2, fun h => ⟨hp, h⟩⟩
  have hn2 : decide (n ∈ [u, v]) = (decide (u = n) || decide (v = n)) := by
    refine Bool.eq_iff_iff.mpr ?_
    rw [decide_eq_true_eq, Bool.or_eq_true, decide_eq_true_eq, decide_eq_true_eq]
    simp [eq_comm]
  dsimp only at hc ⊢
  rw [hc, hn2]
  cases ltS u v <;> cases decide (M.D u v = 1) <;> cases decide ((M.cut n).D u v = 1) <;> cases decide (u = n) <;> cases decide (v = n) <;> rfl
omit [B : Tb] in
theorem gk_names {α : Type} {f : α → Dt} {nm : α → Str} : ∀ {l : List α} {y : α}, (l.map nm).Nodup → y ∈ l → gk (l.map fun y => (nm y, f y)) (nm y) = some (f y)
  | [], _, _, h => nomatch h
  | z :: l, y, nd, h => by
    obtain ⟨n1, n2⟩ := List.nodup_cons.mp nd
    rw [List.map_cons, gk_cons]
    rcases List.mem_cons.mp h with rfl | h
    · rw [if_pos rfl]
    · rw [if_neg fun (e : nm z = nm y) => n1 (e ▸ List.mem_map.mpr ⟨y, h, rfl⟩)]
      exact gk_names n2 h
theorem ring_names {M : Mill} {b : Str → Int} (hM : M.Good b) {r : Row} (h : RingOk M r) : (∀ p ∈ r, ∃ y ∈ M.ss, y.name = p.1) ∧ r.length ≤ 5 := by
  obtain ⟨y, hy, row, s, rfl, hP, _⟩ := h.e
  have hb : ∀ st ∈ M.steps, st.b ∈ M.spots := fun st hst => by
    obtain ⟨z, hz, _, c⟩ := mem_steps hst
    rcases c with c | c
    · rw [c.2]; exact (hM.ok.ss z hz).other
    · rw [c.2]; exact (hM.ok.ss z hz).one
  have g := hP.good (sp := M.spots) (hM.ok.ss y hy).other hb
  refine ⟨fun p hp => ?_, ?_⟩
  · rcases List.mem_cons.mp hp with rfl | hp
    · exact ⟨y, hy, rfl⟩
    · obtain ⟨st, hst, rfl⟩ := g.2.2 p hp
      obtain ⟨z, hz, e, _⟩ := mem_steps hst
      exact ⟨z, hz, e.symm⟩
  · have h3 := nodup_len g.1 g.2.1
    have h4 := hP.lens
    have h5 : M.spots.length ≤ 5 := by have := hM.ws; simp [Mill.spots, Mill.names]; exact this
    rw [List.length_cons]; omega
omit [B : Tb] in
theorem ringSpots_len (M : Mill) : ∀ r : Row, (M.ringSpots r).length ≤ 2 * r.length
  | [] => Nat.le_refl _
  | p :: r => by
    have ih := ringSpots_len M r
    unfold Mill.ringSpots at *
    rw [List.flatMap_cons, List.length_append, List.length_cons]
    have : (M.endsOf p.1).length ≤ 2 := by
      unfold Mill.endsOf
      split <;> simp
    omega
theorem sc__law_rings_right : FnScope ["_law_hall_here", "_law_tag", "_law_parts_here", "_law_less_so", "_law_due", "_law_row", "_law_wide", "_law_lost", "_law_ends", "_law_lots", "_law_spots", "_law_homes", "_law_own", "_law_lot"] ["_law_hall_here", "_law_tag", "_law_parts_here"] (defScope (top 85)) := ⟨rfl, rfl, rfl, by decide +kernel, rfl, by decide +kernel, by decide +kernel⟩
abbrev sp__law_rings_right (K : PySem.W.Frag) : Sp := SpP K (fun x : Mill × (Str → Int) × Str => [milD x.1, .str x.2.2, .lst ((x.1.parts x.2.2).map milD)]) (fun x => x.1.Good x.2.1 ∧ x.2.2 ∈ x.1.names) (fun _ d => d = .bl true)
theorem ok__law_rings_right (T : Tx K mg) (c_all_rings : Cal Pr w K mg base 6 "all_rings" (sp_all_rings K)) (c__law_same : Cal Pr w K mg base 4 "_law_same" (sp__law_same K 2)) (c_is_bridge : Cal Pr w K mg base 8 "is_bridge" (sp_is_bridge K)) (c_sure_lates : Cal Pr w K mg base 7 "sure_lates" (sp_sure_lates K)) (c_bridged : Cal Pr w K mg base 7 "bridged" (sp_bridged K)) (F : FnP K "_law_rings_right" (top 85) f fd) : FnOk Pr w K mg base CX0 9 f fd ["_law_hall_here", "_law_tag", "_law_parts_here"] (sp__law_rings_right K) := by
  have nd := sc__law_rings_right.nd
  refine fn_P F sc__law_rings_right (fun _ => rfl) (by decide) fun cdv A outer s H E hr => ⟨_, (pss_cons (pst (i := 3) nd rfl (pe_tup (pa_cons (pe_ix (ixK (K := K)) (pv 0) pe_int (fun _ _ => rfl)) (pa_cons (pe_callTy (tupleK (K := K)) rfl T.tuple_ bt_tuple (pa_cons (pe_lc (own := [("_law_own", 12)]) rfl nd (piTK (K := K) (pe_ix (ixK (K := K)) (pv 0) pe_int (fun _ _ => rfl))) (blkOk_by (by kernel_rfl)) (fun _ _ _ _ _ => (pgn (i := 12) nd rfl)) (fun _ _ _ _ _ => (pts_one (pt_cmpR (notinK (K := K)) (pv 1) (pe_slice (slTK (K := K)) (pv 12) (po_some pe_int) (po_some pe_int)) rfl))) (fun _ _ _ _ _ => (pv 12))) pa_nil)) pa_nil))))
    (pss_cons (ps_asg (pe_tup (pa_cons (pe_lc (own := [("_law_own", 12)]) rfl nd (piTK (K := K) (pe_c c_sure_lates hr (by decide) rfl (pa_cons (pv 0) pa_nil))) (blkOk_by (by kernel_rfl)) (fun _ _ _ _ _ => (pgn (i := 12) nd rfl)) (fun _ _ _ _ _ => pts_nil) (fun _ _ _ _ _ => (pe_slice (slTK (K := K)) (pv 12) po_none (po_some pe_int)))) (pa_cons (pe_lc (own := [("_law_own", 12)]) rfl nd (piTK (K := K) (pe_c c_sure_lates hr (by decide) rfl (pa_cons (pv 3) pa_nil))) (blkOk_by (by kernel_rfl)) (fun _ _ _ _ _ => (pgn (i := 12) nd rfl)) (fun _ _ _ _ _ => pts_nil) (fun _ _ _ _ _ => (pe_slice (slTK (K := K)) (pv 12) po_none (po_some pe_int)))) pa_nil))) (pg_tupK (K := K) (n := 2) rfl (pgs_cons (pgn (i := 6) nd rfl) (pgs_cons (pgn (i := 7) nd rfl) pgs_nil))))
    (pss_cons (pst (i := 4) nd rfl (pe_callTy (tupleK (K := K)) rfl T.tuple_ bt_tuple (pa_cons (pe_lc (own := [("_law_own", 12)]) rfl nd (piLK (K := K) (pv 6)) (blkOk_by (by kernel_rfl)) (fun _ _ _ _ _ => (pgn (i := 12) nd rfl)) (fun _ _ _ _ _ => (pts_one (PW.pt (pw_and (pt_cmpR (notinDK (K := K) hr.units65) (pv 12) (pv 7) rfl) (pw_and1 (pt_cmpR (notinK (K := K)) (pv 1) (pv 12) rfl)))))) (fun _ _ _ _ _ => (pv 12))) pa_nil)))
    (pss_cons (ps_if (PW.pt (pw_or (pt_not (pt_val (pe_c c__law_same hr (by decide) rfl (pa_cons (pe_c c_bridged hr (by decide) rfl (pa_cons (pv 0) (pa_cons (pv 1) pa_nil))) (pa_cons (pv 4) pa_nil))))) (pw_or1 (pt_cmpR op_ne (pe_c c_is_bridge hr (by decide) rfl (pa_cons (pv 0) (pa_cons (pv 1) pa_nil))) (pe_cmpR (neDK (K := K) hr.units) (pv 4) (pe_tup pa_nil) (nomark _)) (nomark _))))) (pss_one (ps_ret pe_bl)) pss_nil)
    (pss_cons (ps_asg (pe_tup (pa_cons (pe_callTy (call_dictP rfl) rfl T.dict_ bt_dict (pa_cons (pe_lc (own := [("_law_own", 12)]) rfl nd (piTK (K := K) (pe_ix (ixK (K := K)) (pv 0) pe_int (fun _ _ => rfl))) (blkOk_by (by kernel_rfl)) (fun _ _ _ _ _ => (pgn (i := 12) nd rfl)) (fun _ _ _ _ _ => pts_nil) (fun _ _ _ _ _ => (pe_tup (pa_cons (pe_ix (ixK (K := K)) (pv 12) pe_int (fun _ _ => rfl)) (pa_cons (pe_slice (slTK (K := K)) (pv 12) (po_some pe_int) (po_some pe_int)) pa_nil))))) pa_nil)) (pa_cons (pe_lc (own := [("_law_own", 12)]) rfl nd (piLK (K := K) (pv 2)) (blkOk_by (by kernel_rfl)) (fun _ _ _ _ _ => (pgn (i := 12) nd rfl)) (fun _ _ _ _ _ => pts_nil) (fun _ _ _ _ _ => (pe_lc (own := [("_law_row", 5)]) rfl nd (piTK (K := K) (pe_ix (ixK (K := K)) (pv 12) pe_int (fun _ _ => rfl))) (blkOk_by (by kernel_rfl)) (fun _ _ _ _ _ => (pgn (i := 5) nd rfl)) (fun _ _ _ _ _ => pts_nil) (fun _ _ _ _ _ => (pe_ix (ixK (K := K)) (pv 5) pe_int (fun _ _ => rfl)))))) pa_nil))) (pg_tupK (K := K) (n := 2) rfl (pgs_cons (pgn (i := 8) nd rfl) (pgs_cons (pgn (i := 9) nd rfl) pgs_nil))))
    (pss_cons (ps_for PassesOwn.never rfl (piLK (K := K) (pe_c c_all_rings hr (by decide) rfl (pa_cons (pv 0) pa_nil))) (pgn (i := 5) nd rfl) (pss_cons (pst (i := 10) nd rfl (pe_callB (cr_sumL rfl) rfl T.sum_ bt_sum (pa_cons (pe_lc (own := [("_law_own", 12)]) rfl nd (piTK (K := K) (pv 5)) (blkOk_by (by kernel_rfl)) (fun _ _ _ _ _ => (pgn (i := 12) nd rfl)) (fun _ _ _ _ _ => pts_nil) (fun _ _ _ _ _ => (pe_callTy (listK (K := K)) rfl T.list_ bt_list (pa_cons (pe_dget hr.units1 (pv 8) (pe_ix (ixK (K := K)) (pv 12) pe_int (fun _ _ => rfl)) (fun _ _ => rfl)) pa_nil)))) (pa_cons (pe_lst pa_nil) pa_nil))))
    (pss_cons (ps_setLc (i := 11) (own := [("_law_lot", 13)]) rfl nd rfl rfl (sw_true rfl rfl rfl (by kernel_rfl)) (piLK (K := K) (pv 9)) (blkOk_by (by kernel_rfl)) (fun _ _ _ _ _ => (pgn (i := 13) nd rfl)) (fun _ _ _ _ _ => (pts_one (pt_cmpR (eqDK (K := K) hr.units) (pe_lc (own := [("_law_own", 12)]) rfl nd (piTK (K := K) (pv 5)) (blkOk_by (by kernel_rfl)) (fun _ _ _ _ _ => (pgn (i := 12) nd rfl)) (fun _ _ _ _ _ => (pts_one (pt_cmpR (notinK (K := K)) (pe_ix (ixK (K := K)) (pv 12) pe_int (fun _ _ => rfl)) (pv 13) rfl))) (fun _ _ _ _ _ => (pv 12))) (pe_lst pa_nil) (nomark _)))) (fun _ _ _ _ _ => (pv 13)))
    (pss_one (ps_if (PW.pt (pw_and (pt_not (PW.pt (pw_and (pt_cmpR (inK (K := K)) (pv 1) (pv 10) rfl) (pw_and1 (pt_cmpR (inK (K := K)) pe_str (pv 10) rfl))))) (pw_and1 (pt_cmpR op_ne (pe_callB (lenK (K := K)) rfl T.len_ bt_len (pa_cons (pv 11) pa_nil)) pe_int (nomark _))))) (pss_one (ps_ret pe_bl)) pss_nil)))))
    (pss_one (ps_ret pe_bl)))))))), ?_⟩
  rintro ⟨M, b, n⟩ ⟨hM, hn⟩
  dsimp only at hM hn
  try dsimp only [cxOf]
  change SX K _ [.dat (milD M), .dat (.str n), .dat (.lst ((M.parts n).map milD)), .emp, .emp, .emp, .emp, .emp, .emp, .emp, .emp, .emp, .emp, .emp] _ _
  have hws := hM.ws
  have hss := hM.ss
  have hz : 100 < sizeLine := by decide
  have hCg : (M.cut n).Good b := hM.sub ⟨List.Sublist.refl _, List.filter_sublist⟩ fun y hy => ⟨(hM.ok.ss y (List.mem_filter.mp hy).1).one, (hM.ok.ss y (List.mem_filter.mp hy).1).other⟩
  have hpl : ∀ {N : Mill}, N.spots.length ≤ 5 → (surePs N).length ≤ 25 := fun {N} h => by
    have h1 : (surePs N).length ≤ (prodP N.spots N.spots).length := List.length_filter_le ..
    rw [prodP_len] at h1
    have := Nat.mul_le_mul h h
    omega
  have hsl : M.spots.length ≤ 5 := by simp [Mill.spots, Mill.names]; omega
  -- the mill without its sayings
  refine sx_seq (SX.imp (N := fun G => G = [.dat (milD M), .dat (.str n), .dat (.lst ((M.parts n).map milD)), .dat (milD (M.cut n)), .emp, .emp, .emp, .emp, .emp, .emp, .emp, .emp, .emp, .emp]) ?_ (fun _ _ h => h) ?_)
  · refine sx_set ?_
    repeat' tm_at "ex"
    refine ex_of (ef_lcM (tch_name 12) (by decide) ?_)
    repeat' tm_at "ex"
    refine ⟨noOwn_of rfl, Sy, M.ss, syD, fun y => if (!decide (n ∈ [y.one, y.other])) = true then some (syD y) else none, rfl, sz (by omega), fun y hy => ?_, ?_⟩
    · unfold LcT
      repeat' tm_at "ex"
      refine ex_slT ?_
      repeat' tm_at "ex"
      refine od_inS (xs := [y.one, y.other]) rfl ?_
      rw [if_pos rfl]
      repeat' tm_at "ex"
      refine ⟨fun h => ?_, fun h => ?_⟩
      · repeat' tm_at "ex"
        exact ⟨agr_wipe.set (by decide), if_pos h⟩
      · refine ⟨agr_wipe.set (by decide), if_neg ?_⟩
        rw [h]; simp
    · rw [filterMap_if (fun y : Sy => !decide (n ∈ [y.one, y.other])) syD]
      repeat' tm_at "ex"
      rfl
  rintro G rfl
  -- what is sure with them and without
  refine sx_seq (SX.imp (N := fun G => G = [.dat (milD M), .dat (.str n), .dat (.lst ((M.parts n).map milD)), .dat (milD (M.cut n)), .emp, .emp, .dat (.lst ((surePs M).map keyP)), .dat (.lst ((surePs (M.cut n)).map keyP)), .emp, .emp, .emp, .emp, .emp, .emp]) ?_ (fun _ _ h => h) ?_)
  · refine sx_asg (ex_tup (ea_cons ?_))
    refine ex_of (ef_lcA (tch_name 12) (by decide) (ix_tup (ex_call (ea_cons (ex_var (by with_unfolding_all exact rfl) (ea_nil ⟨(M, b), rfl, ⟨hM.ok, hM.nice⟩, ?_⟩))))))
    rintro d rfl
    refine ⟨_, rfl, noOwn_of rfl, Str × Str, surePs M, sureD M b, keyP, rfl, sz (Nat.le_trans (hpl hsl) (by decide)), fun p hp => ?_, ?_⟩
    · repeat' tm_at "ex"
      refine ex_slT ?_
      repeat' tm_at "ex"
      exact ⟨agr_wipe.set (by decide), rfl⟩
    refine ea_cons (ex_of (ef_lcA (tch_name 12) (by decide) (ix_tup (ex_call (ea_cons (ex_var (by with_unfolding_all exact rfl) (ea_nil ⟨(M.cut n, b), rfl, ⟨hCg.ok, hCg.nice⟩, ?_⟩)))))))
    rintro d rfl
    refine ⟨_, rfl, noOwn_of rfl, Str × Str, surePs (M.cut n), sureD (M.cut n) b, keyP, rfl, sz (Nat.le_trans (hpl hsl) (by decide)), fun p hp => ?_, ?_⟩
    · repeat' tm_at "ex"
      refine ex_slT ?_
      repeat' tm_at "ex"
      exact ⟨agr_wipe.set (by decide), rfl⟩
    refine ea_nil ⟨szB (by rfl), ?_⟩
    repeat' tm_at "ex"
    rfl
  rintro G rfl
  have hps : ∀ {N : Mill} {p : Str × Str}, N.Good b → p ∈ surePs N → PyData.strOk p.1 = true ∧ PyData.strOk p.2 = true := fun {N p} hN hp => by
    have := (List.mem_filter.mp hp).1
    obtain ⟨u, v⟩ := p
    have := mem_prodP.mp this
    exact ⟨hN.nice.ok u this.1, hN.nice.ok v this.2⟩
  have plk : ∀ {p : Str × Str} (m : Nat), PyData.strOk p.1 = true ∧ PyData.strOk p.2 = true → Dt.pl (m + 2) (keyP p) = true := fun {p} m h => pl_strsD (l := [p.1, p.2]) (by simp [h.1, h.2]) m
  refine sx_seq (SX.imp (N := fun G => G = [.dat (milD M), .dat (.str n), .dat (.lst ((M.parts n).map milD)), .dat (milD (M.cut n)), .dat (.tup ((dueP M n).map keyP)), .emp, .dat (.lst ((surePs M).map keyP)), .dat (.lst ((surePs (M.cut n)).map keyP)), .emp, .emp, .emp, .emp, .emp, .emp]) ?_ (fun _ _ h => h) ?_)
  · refine sx_set (ex_cb (ea_cons (ex_of (ef_lcM (tch_name 12) (by decide) ?_))))
    repeat' tm_at "ex"
    refine ⟨noOwn_of rfl, Str × Str, surePs M, keyP, fun p => if (!decide (p ∈ surePs (M.cut n)) && !decide (n ∈ [p.1, p.2])) = true then some (keyP p) else none, rfl, sz (Nat.le_trans (hpl hsl) (by decide)), fun p hp => ?_, ?_⟩
    · unfold LcT
      repeat' tm_at "ex"
      refine od_notInD (n := 60) (by decide) (plk 58 (hps hM hp)) ?_ fun c hc => ?_
      · rw [Dt.pls_all, List.all_eq_true]
        intro d hd
        obtain ⟨q, hq, rfl⟩ := List.mem_map.mp hd
        exact plk 58 (hps hCg hq)
      have hc2 : c = !decide (p ∈ surePs (M.cut n)) := by
        refine Bool.eq_iff_iff.mpr (hc.trans ?_)
        have : keyP p ∈ (surePs (M.cut n)).map keyP ↔ p ∈ surePs (M.cut n) := by
          rw [List.mem_map]
          constructor
          · rintro ⟨q, hq, e⟩
            have e1 : q.1 = p.1 := by injection e with e; injection e with e1 e2; injection e1
            have e2 : q.2 = p.2 := by injection e with e; injection e with e1 e2; injection e2 with e2 _; injection e2
            rw [← Prod.eta p, ← e1, ← e2]; exact hq
          · exact fun h => ⟨p, h, rfl⟩
        simp [this]
      subst hc2
      repeat' tm_at "ex"
      refine ⟨fun h => ?_, fun h => ?_⟩
      · repeat' tm_at "ex"
        refine od_inS (xs := [p.1, p.2]) rfl ?_
        rw [if_pos rfl]
        repeat' tm_at "ex"
        refine ⟨fun h2 => ?_, fun h2 => ?_⟩
        · repeat' tm_at "ex"
          refine ⟨agr_wipe.set (by decide), if_pos ?_⟩
          rw [h, h2]; rfl
        · refine ⟨agr_wipe.set (by decide), if_neg ?_⟩
          rw [h2]; simp
      · refine ⟨nofun, fun _ => ⟨agr_wipe.set (by decide), if_neg ?_⟩⟩
        rw [h]; simp
    · rw [filterMap_if (fun p : Str × Str => !decide (p ∈ surePs (M.cut n)) && !decide (n ∈ [p.1, p.2])) keyP]
      exact ea_nil (cd_tuple rfl rfl)
  rintro G rfl
  have hdl : (dueP M n).length ≤ 25 := Nat.le_trans (List.length_filter_le ..) (hpl hsl)
  have hdk : ∀ p ∈ dueP M n, PyData.strOk p.1 = true ∧ PyData.strOk p.2 = true := fun p hp => hps hM (List.mem_filter.mp hp).1
  have hbe := due_eq hM hn
  refine sx_seq (SX.imp (N := fun G => G = [.dat (milD M), .dat (.str n), .dat (.lst ((M.parts n).map milD)), .dat (milD (M.cut n)), .dat (.tup ((dueP M n).map keyP)), .emp, .dat (.lst ((surePs M).map keyP)), .dat (.lst ((surePs (M.cut n)).map keyP)), .emp, .emp, .emp, .emp, .emp, .emp]) ?_ (fun _ _ h => h) ?_)
  · have hso : Dt.so 2 (.tup ((dueP M n).map keyP)) = true := by
      show (decide (((dueP M n).map keyP).length ≤ 1000) && ((dueP M n).map keyP).all (Dt.so 1)) = true
      rw [Bool.and_eq_true, decide_eq_true_eq, List.length_map, List.all_eq_true]
      refine ⟨by omega, fun d hd => ?_⟩
      obtain ⟨p, _, rfl⟩ := List.mem_map.mp hd
      rfl
    repeat' tm_at "ex"
    refine ⟨(M, b, n), rfl, ⟨hM.ok, hM.nice, hn⟩, ?_⟩
    rintro d rfl
    dsimp only
    rw [hbe]
    repeat' tm_at "ex"
    refine ⟨hso, ?_⟩
    rintro d rfl
    refine ⟨true, rfl, nofun, fun _ => ?_⟩
    repeat' tm_at "ex"
    refine ⟨(M, b, n), rfl, ⟨hM.ok, hM.nice, hn⟩, ?_⟩
    rintro d rfl
    dsimp only
    rw [hbe]
    repeat' tm_at "ex"
    refine od_neD (n := 60) (by decide) ?_ rfl fun c hc => ?_
    · show Dt.pls 59 _ = true
      rw [Dt.pls_all, List.all_eq_true]
      intro d hd
      obtain ⟨p, hp, rfl⟩ := List.mem_map.mp hd
      exact plk 57 (hdk p hp)
    have hc2 : c = decide ((0 : Int) < ((dueP M n).length : Int)) := by
      refine Bool.eq_iff_iff.mpr (hc.trans ?_)
      rw [decide_eq_true_eq]
      cases dueP M n with
      | nil => simp
      | cons p ps =>
        simp only [List.map_cons, List.length_cons]
        constructor
        · intro _; omega
        · intro _ z; injection z with z; cases z
    subst hc2
    refine od_neB ?_
    repeat' tm_at "ex"
    refine ⟨fun h => by simp at h, fun _ => ?_⟩
    repeat' tm_at "ex"
    rfl
  rintro G rfl
  have hpn : (M.parts n).map milD = (M.Ls n).map fun lot => milD (M.part n lot) := by unfold Mill.parts; rw [List.map_map]; rfl
  have hLl : (M.Ls n).length ≤ 5 := by
    have h1 := lots_len M n
    have h2 : (M.rest n).length ≤ M.names.length := List.length_filter_le ..
    have h3 : M.names.length ≤ 4 := by simp [Mill.names]; exact hws
    show (M.lots n).length + 1 ≤ 5
    omega
  obtain ⟨ED, hED⟩ : ∃ ED : Dt, ED = .dk (M.ss.map fun y => (y.name, Dt.tup [.str y.one, .str y.other])) := ⟨_, rfl⟩
  obtain ⟨pn, hpnm⟩ : ∃ pn : List Str → List Str, pn = fun lot => (M.part n lot).ss.map (·.name) := ⟨_, rfl⟩
  refine sx_seq (SX.imp (N := fun G => G = [.dat (milD M), .dat (.str n), .dat (.lst ((M.parts n).map milD)), .dat (milD (M.cut n)), .dat (.tup ((dueP M n).map keyP)), .emp, .dat (.lst ((surePs M).map keyP)), .dat (.lst ((surePs (M.cut n)).map keyP)), .dat ED, .dat (.lst ((M.Ls n).map fun lot => .lst ((pn lot).map .str))), .emp, .emp, .emp, .emp]) ?_ (fun _ _ h => h) ?_)
  · refine sx_asg (ex_tup (ea_cons (ex_of (ef_cb (ea_cons (ex_of (ef_lcA (tch_name 12) (by decide) ?_)))))))
    repeat' tm_at "ex"
    refine ⟨noOwn_of rfl, Sy, M.ss, syD, fun y => .tup [.str y.name, .tup [.str y.one, .str y.other]], rfl, sz (by omega), fun y hy => ?_, ?_⟩
    · repeat' tm_at "ex"
      refine ex_slT ?_
      repeat' tm_at "ex"
      exact ⟨agr_wipe.set (by decide), rfl⟩
    refine ea_nil ?_
    have e1 : (M.ss.map fun y => Dt.tup [.str y.name, .tup [.str y.one, .str y.other]]) = ((M.ss.map fun y => (y.name, Dt.tup [.str y.one, .str y.other])).map fun p => Dt.tup [.str p.1, p.2]) := by rw [List.map_map]; rfl
    rw [e1]
    refine cf_dictP ?_
    have e2 : ((M.ss.map fun y => (y.name, Dt.tup [.str y.one, .str y.other])).map (·.1)) = M.ss.map (·.name) := by rw [List.map_map]; rfl
    rw [mgk_fresh (by rw [e2]; exact hM.asc.nodup) (by simp), List.nil_append, ← hED]
    refine ea_cons (ex_of (ef_lcA (tch_name 12) (by decide) (ix_list (ex_var (by with_unfolding_all exact rfl) ⟨_, rfl, ?_⟩))))
    refine ⟨noOwn_of rfl, List Str, M.Ls n, fun lot => milD (M.part n lot), fun lot => .lst ((pn lot).map .str), hpn, sz (by omega), fun lot hl => ?_, ?_⟩
    · refine gx_name (ex_of (ef_lcA (tch_name 5) (by decide) ?_))
      repeat' tm_at "ex"
      refine ⟨noOwn_of rfl, Sy, (M.part n lot).ss, syD, fun y => .str y.name, rfl, sz ?_, fun y hy => ?_, ?_⟩
      · have := (part_sub M n lot).s.length_le; omega
      · repeat' tm_at "ex"
        exact ⟨agr_wipe.set (by decide), rfl⟩
      · refine ⟨agr_wipe.set (by decide), ?_⟩
        rw [hpnm]
        show Dt.lst _ = Dt.lst _
        rw [List.map_map]; rfl
    refine ea_nil ⟨szB (by rfl), ?_⟩
    repeat' tm_at "ex"
    rfl
  rintro G rfl
  tm_at "ex"
  refine sx_forM ?_
  repeat' tm_at "ex"
  refine ⟨(M, b), rfl, ⟨hM.ok, hss, hws, hM.nok⟩, ?_⟩
  rintro d ⟨rows, rfl, _, hrows⟩
  repeat' tm_at "ex"
  refine ⟨Row, rows, rowD, fun _ G => ∃ s5 s10 s11 : Sl, G = [.dat (milD M), .dat (.str n), .dat (.lst ((M.parts n).map milD)), .dat (milD (M.cut n)), .dat (.tup ((dueP M n).map keyP)), s5, .dat (.lst ((surePs M).map keyP)), .dat (.lst ((surePs (M.cut n)).map keyP)), .dat ED, .dat (.lst ((M.Ls n).map fun lot => .lst ((pn lot).map .str))), s10, s11, .emp, .emp], rfl, ⟨_, _, _, rfl⟩, ?_, ?_⟩
  · rintro i r G hr ⟨s5, s10, s11, rfl⟩
    have hR := hrows r (List.mem_of_getElem? hr)
    obtain ⟨hnm, hrl⟩ := ring_names hM hR
    refine gx_name (sx_seq (sx_set (ex_cb (ea_cons (ex_of (ef_lcA (tch_name 12) (by decide) (ix_tup (ex_var (by with_unfolding_all exact rfl) ⟨_, rfl, ?_⟩))))))))
    refine ⟨noOwn_of rfl, Str × Int, r, nwD, fun p => .lst ((M.endsOf p.1).map .str), rfl, sz (by omega), fun p hp => ?_, ?_⟩
    · obtain ⟨y, hy, e⟩ := hnm p hp
      refine gx_name (ex_of (ef_cb (ea_cons (ex_dget ?_))))
      repeat' tm_at "ex"
      refine ⟨.tup [.str y.one, .str y.other], ?_, ?_⟩
      · rw [hED, ← e]
        show some (gk _ y.name) = _
        rw [gk_names (nm := (·.name)) (f := fun y : Sy => Dt.tup [.str y.one, .str y.other]) hM.asc.nodup hy]
      · refine ea_nil (cf_list rfl ⟨agr_wipe.set (by decide), ?_⟩)
        show _ = Dt.lst ((M.endsOf p.1).map .str)
        rw [← e, endsOf_eq hM.asc hy]; rfl
    refine ea_cons (ex_of (ef_lst (ea_nil ⟨sz (by decide), ea_nil ?_⟩)))
    have e3 : (r.map fun p => Dt.lst ((M.endsOf p.1).map .str)) = (r.map fun p => (M.endsOf p.1).map Dt.str).map .lst := by rw [List.map_map]; rfl
    have e4 : (r.map fun p => (M.endsOf p.1).map Dt.str).flatten = (M.ringSpots r).map .str := by
      unfold Mill.ringSpots
      rw [List.map_flatMap]; rfl
    rw [e3]
    refine cd_sumL ?_ ?_
    · rw [e4, List.length_map]
      have := ringSpots_len M r
      omega
    rw [e4]
    change SX K _ [.dat (milD M), .dat (.str n), .dat (.lst ((M.parts n).map milD)), .dat (milD (M.cut n)), .dat (.tup ((dueP M n).map keyP)), .dat (rowD r), .dat (.lst ((surePs M).map keyP)), .dat (.lst ((surePs (M.cut n)).map keyP)), .dat ED, .dat (.lst ((M.Ls n).map fun lot => .lst ((pn lot).map .str))), .dat (.lst ((M.ringSpots r).map .str)), s11, .emp, .emp] _ _
    refine sx_seq (sx_set (ex_of (ef_lcM (tch_name 13) (by decide) (ix_list (ex_var (by with_unfolding_all exact rfl) ⟨_, rfl, ?_⟩)))))
    refine ⟨noOwn_of rfl, List Str, M.Ls n, fun lot => .lst ((pn lot).map .str), fun lot => if M.home n r lot = true then some (.lst ((pn lot).map .str)) else none, rfl, sz (by omega), fun lot hl => ?_, ?_⟩
    · unfold LcT
      refine gx_name (tx_test (ex_op (ex_of (ef_lcM (tch_name 12) (by decide) (ix_tup (ex_var (by with_unfolding_all exact rfl) ⟨_, rfl, ?_⟩))))))
      refine ⟨noOwn_of rfl, Str × Int, r, nwD, fun p => if (!decide (p.1 ∈ pn lot)) = true then some (nwD p) else none, rfl, sz (by omega), fun p hp => ?_, ?_⟩
      · unfold LcT
        repeat' tm_at "ex"
        refine od_inS (xs := pn lot) rfl ?_
        rw [if_pos rfl]
        repeat' tm_at "ex"
        refine ⟨fun h => ?_, fun h => ?_⟩
        · repeat' tm_at "ex"
          exact ⟨agr_wipe.set (by decide), if_pos h⟩
        · refine ⟨agr_wipe.set (by decide), if_neg ?_⟩
          rw [h]; simp
      · rw [filterMap_if (fun p : Str × Int => !decide (p.1 ∈ pn lot)) nwD]
        refine ex_of (ef_lst ?_)
        repeat' tm_at "ex"
        refine od_eqD (n := 60) (by decide) ?_ rfl fun c hc => ?_
        · show Dt.pls 59 _ = true
          rw [Dt.pls_all, List.all_eq_true]
          intro d hd
          obtain ⟨p, hp, rfl⟩ := List.mem_map.mp hd
          obtain ⟨y, hy, e⟩ := hnm p (List.mem_filter.mp hp).1
          have := hM.nok y hy
          rw [e] at this
          show Dt.pls 58 [.str p.1, .int p.2] = true
          rw [Dt.pls_all]
          simp [Dt.pl, this]
        have hc2 : c = M.home n r lot := by
          refine Bool.eq_iff_iff.mpr (hc.trans ?_)
          unfold Mill.home
          rw [List.all_eq_true]
          constructor
          · intro h p hp
            have h1 : (r.filter fun p => !decide (p.1 ∈ pn lot)) = [] := by
              injection h with h
              exact List.map_eq_nil_iff.mp h
            have := List.filter_eq_nil_iff.mp h1 p hp
            rw [hpnm] at this
            simpa using this
          · intro h
            have h1 : (r.filter fun p => !decide (p.1 ∈ pn lot)) = [] := by
              rw [List.filter_eq_nil_iff]
              intro p hp
              have := h p hp
              rw [hpnm]
              simpa using this
            rw [h1]; rfl
        subst hc2
        repeat' tm_at "ex"
        refine ⟨fun h => ?_, fun h => ?_⟩
        · repeat' tm_at "ex"
          exact ⟨agr_wipe.set (by decide), if_pos h⟩
        · refine ⟨agr_wipe.set (by decide), if_neg ?_⟩
          rw [h]; simp
    rw [filterMap_if (M.home n r) fun lot => Dt.lst ((pn lot).map .str)]
    have hh := ring_home hM hn hR
    repeat' tm_at "ex"
    refine od_inS (xs := M.ringSpots r) rfl ?_
    rw [if_neg (by decide)]
    repeat' tm_at "ex"
    have one : ∀ {P : Prop}, ¬ (("" : Str) ∈ M.ringSpots r ∧ n ∈ M.ringSpots r) → (!decide ((((M.Ls n).filter (M.home n r)).length : Int) = 1)) = true → P := fun h1 h2 => by
      rcases hh with hh | hh
      · exact absurd hh h1
      · rw [hh] at h2; simp at h2
    refine ⟨fun h => ?_, fun h => ?_⟩
    · have h : n ∈ M.ringSpots r := by simpa using h
      repeat' tm_at "ex"
      refine od_inS (xs := M.ringSpots r) rfl ?_
      rw [if_neg (by decide)]
      repeat' tm_at "ex"
      refine ⟨fun h2 => ?_, fun _ => ?_⟩
      · have h2 : ("" : Str) ∉ M.ringSpots r := by simpa using h2
        repeat' tm_at "ex"
        rw [List.length_map]
        refine ⟨fun h3 => one (fun z => h2 z.1) h3, fun _ => ?_⟩
        repeat' tm_at "ex"
        exact ⟨_, _, _, rfl⟩
      · refine ⟨nofun, fun _ => ?_⟩
        repeat' tm_at "ex"
        exact ⟨_, _, _, rfl⟩
    · have h : n ∉ M.ringSpots r := by simpa using h
      refine ⟨fun _ => ?_, nofun⟩
      repeat' tm_at "ex"
      rw [List.length_map]
      refine ⟨fun h3 => one (fun z => h z.2) h3, fun _ => ?_⟩
      repeat' tm_at "ex"
      exact ⟨_, _, _, rfl⟩
  · rintro G ⟨s5, s10, s11, rfl⟩
    repeat' tm_at "ex"
    rfl
end

set_option Elab.async false
set_option linter.all false
set_option maxRecDepth 100000
set_option maxHeartbeats 1000000
section
open PySem L2
variable [B : Tb]
variable {Pr : Program} {w : World} {K : PySem.W.Frag} {mg : Str → Option Value} {base : Heap} {f : Addr} {fd : FuncData}

/-! ### a wheel -/
omit [B : Tb] in
theorem so_mil (M : Mill) (hw : M.ws.length ≤ 1000) (hs : M.ss.length ≤ 1000) : Dt.so 3 (milD M) = true := by
  have h1 : Dt.so 2 (.tup (M.ws.map whD)) = true := by
    show (decide ((M.ws.map whD).length ≤ 1000) && (M.ws.map whD).all (Dt.so 1)) = true
    rw [Bool.and_eq_true, decide_eq_true_eq, List.length_map, List.all_eq_true]
    refine ⟨hw, fun d hd => ?_⟩
    obtain ⟨x, _, rfl⟩ := List.mem_map.mp hd
    rfl
  have h2 : Dt.so 2 (.tup (M.ss.map syD)) = true := by
    show (decide ((M.ss.map syD).length ≤ 1000) && (M.ss.map syD).all (Dt.so 1)) = true
    rw [Bool.and_eq_true, decide_eq_true_eq, List.length_map, List.all_eq_true]
    refine ⟨hs, fun d hd => ?_⟩
    obtain ⟨x, _, rfl⟩ := List.mem_map.mp hd
    rfl
  show (true && (Dt.so 2 _ && (Dt.so 2 _ && true))) = true
  rw [h1, h2]; rfl
theorem so_rows (M : Mill) (b : Str → Int) (ps : List (Str × Str)) (h : ps.length ≤ 1000) : Dt.so 3 (.tup (sureR M b ps)) = true := by
  show (decide ((sureR M b ps).length ≤ 1000) && (sureR M b ps).all (Dt.so 2)) = true
  rw [Bool.and_eq_true, decide_eq_true_eq, List.all_eq_true]
  unfold sureR
  refine ⟨?_, fun d hd => ?_⟩
  · rw [List.length_map]
    exact Nat.le_trans (List.length_filter_le ..) h
  · obtain ⟨p, _, rfl⟩ := List.mem_map.mp hd
    rfl
theorem sureR_congr {J M : Mill} {b : Str → Int} {ps : List (Str × Str)} (h : ∀ p ∈ ps, J.D p.1 p.2 = M.D p.1 p.2) : sureR J b ps = sureR M b ps := by
  unfold sureR
  have e1 : (ps.filter fun p => !decide (J.D p.1 p.2 = 1)) = ps.filter fun p => !decide (M.D p.1 p.2 = 1) := List.filter_congr fun p hp => by rw [h p hp]
  rw [e1]
  refine List.map_congr_left fun p hp => ?_
  unfold sureD
  rw [h p (List.mem_filter.mp hp).1]
theorem sure_one (R : Mill) (b : Str → Int) (n : Str) : sureR R b (pairsIn ["", n]) = (thinS R b n).map fun y => Dt.tup [.str y.one, .str y.other, .int y.late, .int y.dial] := by
  have e : pairsIn [("" : Str), n] = [(("" : Str), n)] := rfl
  rw [e]
  unfold sureR thinS
  by_cases h : R.D "" n = 1
  · rw [if_pos h, List.filter_cons_of_neg (by simp [h])]; rfl
  · rw [if_neg h, List.filter_cons_of_pos (by simp [h])]; rfl
theorem thin_en (R : Mill) (b : Str → Int) (n : Str) : enD ((thinS R b n).map fun y => Dt.tup [.str y.one, .str y.other, .int y.late, .int y.dial]) = (thinS R b n).map fun y => Dt.tup [.int 0, .tup [.str y.one, .str y.other, .int y.late, .int y.dial]] := by
  unfold thinS
  split <;> rfl
theorem thin_name {R : Mill} {b : Str → Int} {n : Str} {y : Sy} (h : y ∈ thinS R b n) : y.name = "yya" := by
  unfold thinS at h
  split at h
  · cases h
  · rw [List.mem_singleton.mp h]
omit [B : Tb] in
theorem yya : (("yy" : Str) ++ (⟨#[97]⟩ : Str)) = ("yya" : Str) := by decide +kernel
theorem sc__law_wheel_right : FnScope ["_law_hall_here", "_law_tag", "_law_own", "_law_k", "_law_parts_here", "_law_both", "_law_rows", "_law_thin", "_law_names", "_law_rest", "_law_j", "_law_row"] ["_law_hall_here", "_law_tag"] (defScope (top 84)) := ⟨rfl, rfl, rfl, by decide +kernel, rfl, by decide +kernel, by decide +kernel⟩
abbrev sp__law_wheel_right (K : PySem.W.Frag) : Sp := SpP K (fun x : Mill × (Str → Int) × Str => [milD x.1, .str x.2.2]) (fun x => x.1.Good x.2.1 ∧ x.2.2 ∈ x.1.names) (fun _ d => d = .bl true)
theorem ok__law_wheel_right (T : Tx K mg) (c__law_rings_right : Cal Pr w K mg base 9 "_law_rings_right" (sp__law_rings_right K)) (c__law_parts : Cal Pr w K mg base 4 "_law_parts" (sp__law_parts K)) (c_joined : Cal Pr w K mg base 7 "joined" (sp_joined K)) (c__law_same : Cal Pr w K mg base 5 "_law_same" (sp__law_same K 3)) (c__law_sures_right : Cal Pr w K mg base 10 "_law_sures_right" (sp__law_sures_right K)) (c__law_laid_right : Cal Pr w K mg base 8 "_law_laid_right" (sp__law_laid_right K)) (c_letter : Cal Pr w K mg base 7 "letter" (sp_letter K)) (c_can_be_kept : Cal Pr w K mg base 6 "can_be_kept" (sp_can_be_kept K)) (F : FnP K "_law_wheel_right" (top 84) f fd) : FnOk Pr w K mg base CX0 11 f fd ["_law_hall_here", "_law_tag"] (sp__law_wheel_right K) := by
  have nd := sc__law_wheel_right.nd
  refine fn_P F sc__law_wheel_right (fun _ => rfl) (by decide) fun cdv A outer s H E hr => ⟨_, (pss_cons (ps_par (i := 4) (j := 5) rfl nd rfl rfl (by decide) rfl rfl (pa_cons (pe_c c__law_parts hr (by decide) rfl (pa_cons (pv 0) (pa_cons (pv 1) pa_nil))) (pa_cons (pe_tup (pa_cons (pe_tup pa_nil) (pa_cons (pe_tup pa_nil) pa_nil))) pa_nil)) (by rfl))
    (pss_cons (ps_for PassesOwn.never rfl (piLK (K := K) (pv 4)) (pgn (i := 2) nd rfl) (pss_one (pst (i := 5) nd rfl (pe_c c_joined hr (by decide) rfl (pa_cons (pv 5) (pa_cons (pv 2) pa_nil))))))
    (pss_cons (ps_if (PW.pt (pw_or (pt_not (pt_val (pe_c c__law_same hr (by decide) rfl (pa_cons (pv 5) (pa_cons (pv 0) pa_nil))))) (pw_or1 (pt_not (pt_val (pe_callB (allK (K := K) rfl) rfl T.all_ bt_all (pa_cons (pe_lc (own := [("_law_own", 2)]) rfl nd (piLK (K := K) (pv 4)) (blkOk_by (by kernel_rfl)) (fun _ _ _ _ _ => (pgn (i := 2) nd rfl)) (fun _ _ _ _ _ => pts_nil) (fun _ _ _ _ _ => (pe_c c_can_be_kept hr (by decide) rfl (pa_cons (pv 2) pa_nil)))) pa_nil))))))) (pss_one (ps_ret pe_bl)) pss_nil)
    (pss_cons (ps_if (PW.pt (pw_or (pt_not (pt_val (pe_c c__law_sures_right hr (by decide) rfl (pa_cons (pv 0) (pa_cons (pv 1) (pa_cons (pv 4) pa_nil)))))) (pw_or1 (pt_not (pt_val (pe_c c__law_laid_right hr (by decide) rfl (pa_cons (pv 0) (pa_cons (pv 1) (pa_cons (pv 4) pa_nil))))))))) (pss_one (ps_ret pe_bl)) pss_nil)
    (pss_cons (ps_for PassesOwn.never rfl (pi_range2 rfl T.range_ (pa_cons pe_int (pa_cons (pe_callB (lenK (K := K)) rfl T.len_ bt_len (pa_cons (pv 4) pa_nil)) pa_nil))) (pgn (i := 3) nd rfl) (pss_cons (ps_par (i := 8) (j := 9) rfl nd rfl rfl (by decide) rfl rfl (pa_cons (pe_callTy (tupleK (K := K)) rfl T.tuple_ bt_tuple (pa_cons (pe_lc (own := [("_law_own", 2)]) rfl nd (piTK (K := K) (pe_ix (ixK (K := K)) (pe_ix (ixK (K := K)) (pv 4) (pv 3) (fun _ _ => rfl)) pe_int (fun _ _ => rfl))) (blkOk_by (by kernel_rfl)) (fun _ _ _ _ _ => (pgn (i := 2) nd rfl)) (fun _ _ _ _ _ => pts_nil) (fun _ _ _ _ _ => (pe_ix (ixK (K := K)) (pv 2) pe_int (fun _ _ => rfl)))) pa_nil)) (pa_cons (pe_tup (pa_cons (pe_tup pa_nil) (pa_cons (pe_tup pa_nil) pa_nil))) pa_nil)) (by rfl))
    (pss_cons (ps_for PassesOwn.never rfl (piLK (K := K) (pe_op op_cat (pe_slice (slLK (K := K)) (pv 4) po_none (po_some (pv 3))) (pe_slice (slLK (K := K)) (pv 4) (po_some (pe_op op_add (pv 3) pe_int)) po_none))) (pgn (i := 2) nd rfl) (pss_one (pst (i := 9) nd rfl (pe_c c_joined hr (by decide) rfl (pa_cons (pv 9) (pa_cons (pv 2) pa_nil))))))
    (pss_cons (pst (i := 6) nd rfl (pe_callTy (tupleK (K := K)) rfl T.tuple_ bt_tuple (pa_cons (pe_lc (own := [("_law_j", 10), ("_law_row", 11)]) rfl nd (pi_enumT (by rfl) T.enumerate_ (pa_cons (pe_c c_letter hr (by decide) rfl (pa_cons (pv 9) (pa_cons (pe_tup (pa_cons (pv 1) pa_nil)) pa_nil))) pa_nil)) (blkOk_by (by kernel_rfl)) (fun _ _ _ _ _ => (pg_tupK (K := K) (n := 2) rfl (pgs_cons (pgn (i := 10) nd rfl) (pgs_cons (pgn (i := 11) nd rfl) pgs_nil)))) (fun _ _ _ _ _ => pts_nil) (fun _ _ _ _ _ => (pe_op (catAK (K := K)) (pe_tup (pa_cons (pe_op op_add_str pe_str (pe_ix (ixK (K := K)) pe_str (pv 10) (fun _ _ => rfl))) pa_nil)) (pv 11)))) pa_nil)))
    (pss_cons (pst (i := 7) nd rfl (pe_c c_joined hr (by decide) rfl (pa_cons (pe_ix (ixK (K := K)) (pv 4) (pv 3) (fun _ _ => rfl)) (pa_cons (pe_tup (pa_cons (pe_callTy (tupleK (K := K)) rfl T.tuple_ bt_tuple (pa_cons (pe_lc (own := [("_law_own", 2)]) rfl nd (piTK (K := K) (pe_ix (ixK (K := K)) (pv 0) pe_int (fun _ _ => rfl))) (blkOk_by (by kernel_rfl)) (fun _ _ _ _ _ => (pgn (i := 2) nd rfl)) (fun _ _ _ _ _ => (pts_one (pt_cmpR op_eq (pe_ix (ixK (K := K)) (pv 2) pe_int (fun _ _ => rfl)) (pv 1) (nomark _)))) (fun _ _ _ _ _ => (pv 2))) pa_nil)) (pa_cons (pv 6) pa_nil))) pa_nil))))
    (pss_one (ps_if (pt_not (pt_val (pe_c c__law_same hr (by decide) rfl (pa_cons (pe_c c_letter hr (by decide) rfl (pa_cons (pv 7) (pa_cons (pv 8) pa_nil))) (pa_cons (pe_c c_letter hr (by decide) rfl (pa_cons (pv 0) (pa_cons (pv 8) pa_nil))) pa_nil))))) (pss_one (ps_ret pe_bl)) pss_nil)))))))
    (pss_one (ps_ret (pe_c c__law_rings_right hr (by decide) rfl (pa_cons (pv 0) (pa_cons (pv 1) (pa_cons (pv 4) pa_nil))))))))))), ?_⟩
  rintro ⟨M, b, n⟩ ⟨hM, hn⟩
  dsimp only at hM hn
  try dsimp only [cxOf]
  change SX K _ [.dat (milD M), .dat (.str n), .emp, .emp, .emp, .emp, .emp, .emp, .emp, .emp, .emp, .emp] _ _
  have hws := hM.ws
  have hss := hM.ss
  have hpn : (M.parts n).map milD = (M.Ls n).map fun lot => milD (M.part n lot) := by unfold Mill.parts; rw [List.map_map]; rfl
  have hLl : (M.Ls n).length ≤ 5 := by
    have h1 := lots_len M n
    have h2 : (M.rest n).length ≤ M.names.length := List.length_filter_le ..
    have h3 : M.names.length ≤ 4 := by simp [Mill.names]; exact hws
    show (M.lots n).length + 1 ≤ 5
    omega
  have enil : Dt.tup [.tup [], .tup []] = milD (M.uni n []) := by rw [uni_nil hM hn]; rfl
  -- mills joined, part by part
  have jn : ∀ (Ls : List (List Str)) (i : Nat) (lot : List Str), Ls[i]? = some lot → Un2 (M.uni n (Ls.take i)) (M.part n lot) ∧ Jn (M.uni n (Ls.take i)) (M.part n lot) (M.uni n (Ls.take (i + 1))) := fun Ls i lot h => by
    have := uni_join hM hn (Ls := Ls.take i) lot
    rw [← take_snoc h] at this
    exact ⟨this.un, this.jn⟩
  refine sx_seq (sx_par ?_)
  repeat' tm_at "ex"
  refine ⟨(M, b, n), rfl, ⟨hM, hn⟩, ?_⟩
  rintro d rfl
  refine ex_tup ?_
  repeat' tm_at "ex"
  rw [enil]
  change SX K _ [.dat (milD M), .dat (.str n), .emp, .emp, .dat (.lst ((M.parts n).map milD)), .dat (milD (M.uni n [])), .emp, .emp, .emp, .emp, .emp, .emp] _ _
  refine sx_forM (ix_list (ex_var (by with_unfolding_all exact rfl) ⟨_, rfl, ?_⟩))
  refine ⟨List Str, M.Ls n, fun lot => milD (M.part n lot), fun i G => ∃ s2 : Sl, (∀ l d, s2 ≠ .own l d) ∧ G = [.dat (milD M), .dat (.str n), s2, .emp, .dat (.lst ((M.parts n).map milD)), .dat (milD (M.uni n ((M.Ls n).take i))), .emp, .emp, .emp, .emp, .emp, .emp], hpn, ⟨.emp, nofun, rfl⟩, ?_, ?_⟩
  · rintro i lot G hi ⟨s2, h2, rfl⟩
    obtain ⟨j1, j2⟩ := jn _ i lot hi
    refine gx_name (sx_set (ex_call (ea_cons (ex_var (by with_unfolding_all exact rfl) (ea_cons (ex_var (by with_unfolding_all exact rfl) (ea_nil ⟨(M.uni n ((M.Ls n).take i), M.part n lot, M.uni n ((M.Ls n).take (i + 1))), rfl, ⟨j1, j2⟩, ?_⟩)))))))
    rintro d rfl
    exact ⟨.dat (milD (M.part n lot)), nofun, rfl⟩
  rintro G ⟨s2, h2, rfl⟩
  rw [List.take_length, uni_all hM hn]
  -- they make the mill, and each can be kept
  refine sx_seq (SX.imp (N := fun G => G = [.dat (milD M), .dat (.str n), s2, .emp, .dat (.lst ((M.parts n).map milD)), .dat (milD M), .emp, .emp, .emp, .emp, .emp, .emp]) ?_ (fun _ _ h => h) ?_)
  · refine sx_if (tx_or (tx_not (tx_B (ex_call ?_))))
    repeat' tm_at "ex"
    refine ⟨so_mil M (by omega) (by omega), ?_⟩
    rintro d rfl
    refine ⟨true, rfl, nofun, fun _ => ?_⟩
    refine tx_not (tx_B (ex_cb (ea_cons (ex_of (ef_lcA (tch_name 2) (by decide) (ix_list (ex_var (by with_unfolding_all exact rfl) ⟨_, rfl, ?_⟩)))))))
    refine ⟨fun i hi l d e => (by rw [List.mem_singleton.mp hi] at e; exact h2 l d (Option.some.inj e)), List Str, M.Ls n, fun lot => milD (M.part n lot), fun _ => .bl true, hpn, sz (by omega), fun lot hl => ?_, ?_⟩
    · refine gx_name (ex_call (ea_cons (ex_var (by with_unfolding_all exact rfl) (ea_nil ⟨(M.part n lot, b), rfl, (part_good hM hn hl).ok, ?_⟩))))
      exact fun d e => ⟨agr_wipe.set (by decide), e⟩
    · refine ea_nil (cd_allT ⟨true, rfl, nofun, fun _ => ?_⟩)
      repeat' tm_at "ex"
      rfl
  rintro G rfl
  refine sx_seq (SX.imp (N := fun G => G = [.dat (milD M), .dat (.str n), s2, .emp, .dat (.lst ((M.parts n).map milD)), .dat (milD M), .emp, .emp, .emp, .emp, .emp, .emp]) ?_ (fun _ _ h => h) ?_)
  · refine sx_if (tx_or (tx_not (tx_B (ex_call ?_))))
    repeat' tm_at "ex"
    refine ⟨(M, b, n), rfl, ⟨hM, hn⟩, ?_⟩
    rintro d rfl
    refine ⟨true, rfl, nofun, fun _ => ?_⟩
    refine tx_not (tx_B (ex_call ?_))
    repeat' tm_at "ex"
    refine ⟨(M, b, n), rfl, ⟨hM, hn⟩, ?_⟩
    rintro d rfl
    refine ⟨true, rfl, nofun, fun _ => ?_⟩
    repeat' tm_at "ex"
    rfl
  rintro G rfl
  have part_at : ∀ j : Int, 1 ≤ j → j < (M.Ls n).length → ∃ lot ∈ M.lots n, (M.Ls n)[j.toNat]? = some lot ∧ L2.atI ((M.parts n).map milD) j = some (milD (M.part n lot)) := fun j j1 j2 => by
    obtain ⟨i, rfl⟩ : ∃ i : Nat, j = ((i + 1 : Nat) : Int) := ⟨(j - 1).toNat, by omega⟩
    have hi : i < (M.lots n).length := by
      have : (M.Ls n).length = (M.lots n).length + 1 := rfl
      omega
    refine ⟨(M.lots n)[i], List.getElem_mem hi, ?_, ?_⟩
    · show ([] :: M.lots n)[i + 1]? = _
      rw [List.getElem?_cons_succ, List.getElem?_eq_getElem hi]
    · unfold L2.atI L2.ixN
      rw [if_pos (by omega), hpn, if_pos (by rw [List.length_map]; exact j2)]
      show ((M.Ls n).map _)[i + 1]? = _
      rw [List.getElem?_map]
      show (([] :: M.lots n)[i + 1]?).map _ = _
      rw [List.getElem?_cons_succ, List.getElem?_eq_getElem hi]; rfl
  tm_at "ex"
  refine sx_for (ix_rng2 ?_)
  repeat' tm_at "ex"
  refine ⟨1, ((M.Ls n).length : Int), by rw [hpn, List.length_map], by omega, fun _ G => ∃ s2 s3 s6 s7 s8 s9 s10 s11 : Sl, (∀ l d, s2 ≠ .own l d) ∧ (∀ l d, s10 ≠ .own l d) ∧ (∀ l d, s11 ≠ .own l d) ∧ G = [.dat (milD M), .dat (.str n), s2, s3, .dat (.lst ((M.parts n).map milD)), .dat (milD M), s6, s7, s8, s9, s10, s11], ⟨s2, .emp, .emp, .emp, .emp, .emp, .emp, .emp, h2, nofun, nofun, rfl⟩, ?_, ?_⟩
  · rintro i d G hd ⟨s2, s3, s6, s7, s8, s9, s10, s11, h2, h10, h11, rfl⟩
    have hj : ∃ j : Int, d = .int j ∧ 1 ≤ j ∧ j < (M.Ls n).length := by
      obtain ⟨k, hk, rfl⟩ := List.mem_map.mp (List.mem_of_getElem? hd)
      have := List.mem_range.mp hk
      exact ⟨_, rfl, by omega, by omega⟩
    obtain ⟨j, rfl, j1, j2⟩ := hj
    obtain ⟨lot, hl, hjL, hjat⟩ := part_at j j1 j2
    have hlL : lot ∈ M.Ls n := List.mem_cons_of_mem _ hl
    have hP := part_good hM hn hlL
    obtain ⟨Lr, eLr⟩ : ∃ Lr, Lr = (M.Ls n).take j.toNat ++ (M.Ls n).drop (j.toNat + 1) := ⟨_, rfl⟩
    have hLr : ∀ l, l ∈ Lr ↔ l ∈ M.Ls n ∧ l ≠ lot := fun l => by
      have hs : M.Ls n = (M.Ls n).take j.toNat ++ lot :: (M.Ls n).drop (j.toNat + 1) := by
        obtain ⟨g1, g2⟩ := List.getElem?_eq_some_iff.mp hjL
        rw [← g2, List.getElem_cons_drop, List.take_append_drop]
      have nd := Ls_nodup M n
      rw [hs] at nd
      obtain ⟨n1, n2, n3⟩ := List.nodup_append.mp nd
      have n4 := List.nodup_cons.mp n2
      rw [eLr]
      constructor
      · intro h
        rcases List.mem_append.mp h with z | z
        · exact ⟨List.mem_of_mem_take z, fun e => n3 l z lot (List.mem_cons_self ..) e⟩
        · exact ⟨List.mem_of_mem_drop z, fun e => n4.1 (e ▸ z)⟩
      · rintro ⟨h, c⟩
        rw [hs] at h
        rcases List.mem_append.mp h with z | z
        · exact List.mem_append_left _ z
        · exact List.mem_append_right _ ((List.mem_cons.mp z).resolve_left c)
    have hLrl : Lr.length ≤ 5 := by
      rw [eLr, List.length_append, List.length_take, List.length_drop]; omega
    have hR := uni_good hM hn (Ls := Lr) fun l h => ((hLr l).mp h).1
    have hRdl := Mill.D_dl hR.ok
    have hnil : ([] : List Str) ∈ Lr := (hLr []).mpr ⟨List.mem_cons_self .., fun z => (lots_ltk M n).ne lot hl z.symm⟩
    have hRn : n ∈ (M.uni n Lr).names := (List.mem_cons.mp ((uni_spot hM hn).mpr (.inr ⟨hn, [], hnil, .inr rfl⟩))).resolve_left fun e => hM.ok.nm.ne (e ▸ hn)
    obtain ⟨J, hJ, hJo, hJn, hJw, hJE⟩ := thin_J hM hn hl (R := M.uni n Lr) hRdl
    have hJs : J.spots = (M.part n lot).spots := by unfold Mill.spots Mill.names; rw [hJw]
    have hJD : ∀ u ∈ J.spots, ∀ v ∈ J.spots, J.D u v = M.D u v := fun u hu v hv => thin_D hM hn hl hLr hJo hJs hJE hu hv
    obtain ⟨R, eR⟩ : ∃ R, R = M.uni n Lr := ⟨_, rfl⟩
    have hpnm : (M.part n lot).names.length ≤ 4 := by
      have h1 := (part_sub M n lot).names.length_le
      have h2 : M.names.length ≤ 4 := by simp [Mill.names]; exact hws
      omega
    -- names, rest
    refine gx_name (sx_seq (SX.imp (N := fun G => G = [.dat (milD M), .dat (.str n), s2, .dat (.int j), .dat (.lst ((M.parts n).map milD)), .dat (milD M), s6, s7, .dat (strsD (M.part n lot).names), .dat (milD (M.uni n [])), s10, s11]) ?_ (fun _ _ h => h) ?_))
    · refine sx_par (ex_cb (ea_cons (ex_of (ef_lcA (tch_name 2) (by decide) ?_))))
      repeat' tm_at "ex"
      refine od_ix rfl hjat ?_
      repeat' tm_at "ex"
      refine ⟨fun i hi l d e => (by rw [List.mem_singleton.mp hi] at e; exact h2 l d (Option.some.inj e)), Wh, (M.part n lot).ws, whD, fun x => .str x.name, rfl, sz ?_, fun x hx => ?_, ?_⟩
      · have := (part_sub M n lot).w.length_le; omega
      · repeat' tm_at "ex"
        exact ⟨agr_wipe.set (by decide), rfl⟩
      · refine ea_nil (cd_tuple rfl (ex_tup ?_))
        repeat' tm_at "ex"
        rw [enil]
        unfold Mill.names
        show [_, _, _, _, _, _, _, _, _, _, _, _] = [_, _, _, _, _, _, _, _, Sl.dat (.tup (((M.part n lot).ws.map (·.name)).map .str)), _, _, _]
        rw [List.map_map]
        rfl
    rintro G rfl
    refine sx_seq (sx_forM (ix_list (ex_of (ef_op (ex_of (ef_slL ?_))))))
    repeat' tm_at "ex"
    refine ex_of (ef_slL ?_)
    repeat' tm_at "ex"
    have c1 : cutD ((M.parts n).map milD) none (some j) = ((M.parts n).map milD).take j.toNat := by
      have := cut_to ((M.parts n).map milD) j.toNat
      rwa [show ((j.toNat : Nat) : Int) = j by omega] at this
    have c2 : cutD ((M.parts n).map milD) (some (j + 1)) none = ((M.parts n).map milD).drop (j.toNat + 1) := by
      have := cut_from ((M.parts n).map milD) (j.toNat + 1)
      rwa [show ((j.toNat + 1 : Nat) : Int) = j + 1 by omega] at this
    rw [c1, c2]
    have eL : ((M.parts n).map milD).take j.toNat ++ ((M.parts n).map milD).drop (j.toNat + 1) = Lr.map fun lot => milD (M.part n lot) := by rw [hpn, eLr, List.map_append, List.map_take, List.map_drop]
    refine of_cat ?_ ?_
    · have := congrArg List.length eL
      rw [List.length_append, List.length_map] at this
      exact Nat.le_trans (by omega : _ ≤ 5) (by decide)
    rw [eL]
    refine ⟨_, rfl, List Str, Lr, fun lot => milD (M.part n lot), fun i G => ∃ s2 : Sl, (∀ l d, s2 ≠ .own l d) ∧ G = [.dat (milD M), .dat (.str n), s2, .dat (.int j), .dat (.lst ((M.parts n).map milD)), .dat (milD M), s6, s7, .dat (strsD (M.part n lot).names), .dat (milD (M.uni n (Lr.take i))), s10, s11], rfl, ⟨s2, h2, rfl⟩, ?_, ?_⟩
    · rintro i lot' G hi ⟨s2, h2, rfl⟩
      obtain ⟨j1, j2⟩ := jn _ i lot' hi
      refine gx_name (sx_set (ex_call (ea_cons (ex_var (by with_unfolding_all exact rfl) (ea_cons (ex_var (by with_unfolding_all exact rfl) (ea_nil ⟨(M.uni n (Lr.take i), M.part n lot', M.uni n (Lr.take (i + 1))), rfl, ⟨j1, j2⟩, ?_⟩)))))))
      rintro d rfl
      exact ⟨.dat (milD (M.part n lot')), nofun, rfl⟩
    rintro G ⟨s2, h2, rfl⟩
    rw [List.take_length, ← eR]
    rw [← eR] at hR hRdl hRn hJ hJE
    -- rows
    have hasn : Asc [("" : Str), n] := by
      unfold Asc
      rw [List.pairwise_cons]
      refine ⟨fun x hx => ?_, by simp⟩
      rw [List.mem_singleton.mp hx]
      exact ltS_nil fun e => hM.ok.nm.ne (e ▸ hn)
    refine sx_seq (SX.imp (N := fun G => G = [.dat (milD M), .dat (.str n), s2, .dat (.int j), .dat (.lst ((M.parts n).map milD)), .dat (milD M), .dat (.tup ((thinS R b n).map syD)), s7, .dat (strsD (M.part n lot).names), .dat (milD R), s10, s11]) ?_ (fun _ _ h => h) ?_)
    · refine sx_set (ex_cb (ea_cons (ex_of (ef_lcA (tch_tup (tchs_cons (tch_name 10) (tchs_cons (tch_name 11) tchs_nil))) (by decide) (ix_enumT ?_)))))
      repeat' tm_at "ex"
      refine ⟨(R, b, [n]), rfl, ⟨hR.ok, hR.nice, (by show 1 ≤ 20; decide), hasn, fun x hx => (by rw [List.mem_singleton.mp hx]; exact hRn)⟩, ?_⟩
      rintro d rfl
      repeat' tm_at "ex"
      dsimp only
      rw [sure_one, thin_en]
      have htl : (thinS R b n).length ≤ 1 := by
        unfold thinS
        split
        · exact Nat.zero_le _
        · exact Nat.le_refl _
      refine ⟨fun i hi l d e => ?_, Sy, thinS R b n, fun y => .tup [.int 0, .tup [.str y.one, .str y.other, .int y.late, .int y.dial]], syD, rfl, sz (by omega), fun y hy => ?_, ?_⟩
      · rcases List.mem_cons.mp hi with rfl | hi
        · exact h10 l d (Option.some.inj e)
        · rw [List.mem_singleton.mp hi] at e; exact h11 l d (Option.some.inj e)
      · repeat' tm_at "ex"
        refine od_ixS (c := 97) (by decide +kernel) (by decide +kernel) ?_
        refine od_addS (by decide +kernel) ?_
        rw [yya]
        repeat' tm_at "ex"
        refine od_catT (szB (by rfl)) ?_
        refine ⟨(agr_wipe.set (by decide)).set (by decide), ?_⟩
        rw [← thin_name hy]; rfl
      · refine ea_nil (cd_tuple rfl ?_)
        rfl
    rintro G rfl
    -- thin
    refine sx_seq (SX.imp (N := fun G => G = [.dat (milD M), .dat (.str n), s2, .dat (.int j), .dat (.lst ((M.parts n).map milD)), .dat (milD M), .dat (.tup ((thinS R b n).map syD)), .dat (milD J), .dat (strsD (M.part n lot).names), .dat (milD R), s10, s11]) ?_ (fun _ _ h => h) ?_)
    · refine sx_set (ex_call (ea_cons (ex_op ?_)))
      repeat' tm_at "ex"
      refine od_ix rfl hjat ?_
      refine ea_cons (ex_tup (ea_cons (ex_cb (ea_cons (ex_of (ef_lcM (tch_name 2) (by decide) ?_))))))
      repeat' tm_at "ex"
      refine ⟨fun i hi l d e => (by rw [List.mem_singleton.mp hi] at e; exact h2 l d (Option.some.inj e)), Wh, M.ws, whD, fun x => if decide (x.name = n) = true then some (whD x) else none, rfl, sz (by omega), fun x hx => ?_, ?_⟩
      · unfold LcT
        repeat' tm_at "ex"
        refine ⟨fun h => ?_, fun h => ?_⟩
        · repeat' tm_at "ex"
          exact ⟨agr_wipe.set (by decide), if_pos h⟩
        · refine ⟨agr_wipe.set (by decide), if_neg ?_⟩
          rw [h]; simp
      · rw [filterMap_if (fun x : Wh => decide (x.name = n)) whD]
        refine ea_nil (cd_tuple rfl ?_)
        repeat' tm_at "ex"
        refine ⟨(M.part n lot, thinN M R b n, J), rfl, ⟨hJ.un, hJ.jn⟩, ?_⟩
        rintro d rfl
        rfl
    rintro G rfl
    -- the letters
    have hJnm : J.names = (M.part n lot).names := by unfold Mill.names; rw [hJw]
    have hasp : Asc (("" : Str) :: (M.part n lot).names) := hP.nice.asc
    have hcg : sureR J b (pairsIn (("" : Str) :: (M.part n lot).names)) = sureR M b (pairsIn (("" : Str) :: (M.part n lot).names)) := sureR_congr fun p hp => by
      have hm := mem_pairsIn hp
      have hs : J.spots = ("" : Str) :: (M.part n lot).names := by rw [hJs]; rfl
      exact hJD _ (hs ▸ hm.1) _ (hs ▸ hm.2)
    have hpl : (pairsIn (("" : Str) :: (M.part n lot).names)).length ≤ 1000 := by
      have h1 := pairsIn_len (("" : Str) :: (M.part n lot).names)
      have h0 : (("" : Str) :: (M.part n lot).names).length ≤ 5 := by rw [List.length_cons]; omega
      have h2 := Nat.mul_le_mul h0 h0
      omega
    repeat' tm_at "ex"
    refine ⟨(J, b, (M.part n lot).names), rfl, ⟨hJo, hJn, by show (M.part n lot).names.length ≤ 20; omega, hasp, fun x hx => by show x ∈ J.names; rw [hJnm]; exact hx⟩, ?_⟩
    rintro d rfl
    repeat' tm_at "ex"
    refine ⟨(M, b, (M.part n lot).names), rfl, ⟨hM.ok, hM.nice, by show (M.part n lot).names.length ≤ 20; omega, hasp, fun x hx => (part_sub M n lot).names.subset hx⟩, ?_⟩
    rintro d rfl
    dsimp only
    rw [hcg]
    repeat' tm_at "ex"
    refine ⟨so_rows M b _ hpl, ?_⟩
    rintro d rfl
    refine ⟨true, rfl, nofun, fun _ => ?_⟩
    repeat' tm_at "ex"
    exact ⟨s2, .dat (.int j), _, _, _, _, s10, s11, h2, h10, h11, rfl⟩
  · rintro G ⟨s2, s3, s6, s7, s8, s9, s10, s11, h2, h10, h11, rfl⟩
    repeat' tm_at "ex"
    exact ⟨(M, b, n), rfl, ⟨hM, hn⟩, fun _ h => h⟩
end

set_option Elab.async false
set_option linter.all false
set_option maxRecDepth 100000
set_option maxHeartbeats 1000000
section
open PySem L2
variable [B : Tb]
variable {Pr : Program} {w : World} {K : PySem.W.Frag} {mg : Str → Option Value} {base : Heap} {f : Addr} {fd : FuncData}

theorem sc__law_case_right : FnScope ["_law_hall_here", "_law_tags", "_law_spots", "_law_tag", "_law_lot", "_law_own"] ["_law_hall_here", "_law_tags"] (defScope (top 86)) := ⟨rfl, rfl, rfl, by decide +kernel, rfl, by decide +kernel, by decide +kernel⟩
abbrev sp__law_case_right (K : PySem.W.Frag) : Sp := SpP K (fun x : Mill × (Str → Int) × List Str => [milD x.1, .lst (x.2.2.map .str)]) (fun x => x.1.Good x.2.1 ∧ x.2.2.length ≤ 100 ∧ ∀ n ∈ x.2.2, n ∈ x.1.names) (fun _ d => d = .bl true)
theorem ok__law_case_right (T : Tx K mg) (c__law_wheel_right : Cal Pr w K mg base 11 "_law_wheel_right" (sp__law_wheel_right K)) (c_hang_together : Cal Pr w K mg base 3 "hang_together" (sp_hang_together K)) (F : FnP K "_law_case_right" (top 86) f fd) : FnOk Pr w K mg base CX0 12 f fd ["_law_hall_here", "_law_tags"] (sp__law_case_right K) := by
  have nd := sc__law_case_right.nd
  refine fn_P F sc__law_case_right (fun _ => rfl) (by decide) fun cdv A outer s H E hr => ⟨_, (pss_cons (pst (i := 2) nd rfl (pe_callB (cr_sortedDt hr.units70) rfl T.sorted_ bt_sorted (pa_cons (pe_callB (cr_sumL rfl) rfl T.sum_ bt_sum (pa_cons (pe_lc (own := [("_law_lot", 4)]) rfl nd (piTK (K := K) (pe_c c_hang_together hr (by decide) rfl (pa_cons (pv 0) pa_nil))) (blkOk_by (by kernel_rfl)) (fun _ _ _ _ _ => (pgn (i := 4) nd rfl)) (fun _ _ _ _ _ => pts_nil) (fun _ _ _ _ _ => (pe_callTy (listK (K := K)) rfl T.list_ bt_list (pa_cons (pv 4) pa_nil)))) (pa_cons (pe_lst pa_nil) pa_nil))) pa_nil)))
    (pss_cons (ps_if (pt_cmpR (neDK (K := K) hr.units) (pv 2) (pe_op op_cat (pe_lst (pa_cons pe_str pa_nil)) (pe_lc (own := [("_law_own", 5)]) rfl nd (piTK (K := K) (pe_ix (ixK (K := K)) (pv 0) pe_int (fun _ _ => rfl))) (blkOk_by (by kernel_rfl)) (fun _ _ _ _ _ => (pgn (i := 5) nd rfl)) (fun _ _ _ _ _ => pts_nil) (fun _ _ _ _ _ => (pe_ix (ixK (K := K)) (pv 5) pe_int (fun _ _ => rfl))))) (nomark _)) (pss_one (ps_ret pe_bl)) pss_nil)
    (pss_one (ps_ret (pe_callB (allK (K := K) rfl) rfl T.all_ bt_all (pa_cons (pe_lc (own := [("_law_tag", 3)]) rfl nd (piLK (K := K) (pv 1)) (blkOk_by (by kernel_rfl)) (fun _ _ _ _ _ => (pgn (i := 3) nd rfl)) (fun _ _ _ _ _ => pts_nil) (fun _ _ _ _ _ => (pe_c c__law_wheel_right hr (by decide) rfl (pa_cons (pv 0) (pa_cons (pv 3) pa_nil))))) pa_nil)))))), ?_⟩
  rintro ⟨M, b, ts⟩ ⟨hM, hl, ht⟩
  dsimp only at hM hl ht
  try dsimp only [cxOf]
  change SX K _ [.dat (milD M), .dat (.lst (ts.map .str)), .emp, .emp, .emp, .emp] _ _
  have hws := hM.ws
  have hz : 1000 < sizeLine := by decide
  have hsl : M.spots.length ≤ 5 := by simp [Mill.spots, Mill.names]; omega
  refine sx_seq (SX.imp (N := fun G => G = [.dat (milD M), .dat (.lst (ts.map .str)), .dat (.lst (M.spots.map .str)), .emp, .emp, .emp]) ?_ (fun _ _ h => h) ?_)
  · refine sx_set (ex_cSort (ea_cons (ex_cb (ea_cons (ex_of (ef_lcA (tch_name 4) (by decide) (ix_tup (ex_call ?_))))))))
    repeat' tm_at "ex"
    refine ⟨(M, b), rfl, ⟨hM.ok, hM.nice⟩, ?_⟩
    rintro d ⟨lots, rfl, hp, hll⟩
    have hfl : lots.flatten.length ≤ 5 := by rw [hp.length_eq]; exact hsl
    refine ⟨_, rfl, noOwn_of rfl, List Str, lots, strsD, fun l => .lst (l.map .str), rfl, sz (by omega), fun l hl' => ?_, ?_⟩
    · refine gx_name (ex_of (ef_cb (ea_cons (ex_var (by with_unfolding_all exact rfl) (ea_nil (cf_list rfl ⟨agr_wipe.set (by decide), rfl⟩))))))
    refine ea_cons (ex_of (ef_lst (ea_nil ⟨sz (by decide), ea_nil ?_⟩)))
    have e1 : (lots.map fun l => Dt.lst (l.map .str)) = (lots.map fun l => l.map Dt.str).map .lst := by rw [List.map_map]; rfl
    have e2 : (lots.map fun l => l.map Dt.str).flatten = lots.flatten.map .str := by rw [List.map_flatten]
    rw [e1]
    refine cd_sumL (by rw [e2, List.length_map]; omega) ?_
    rw [e2]
    refine ea_nil (cf_sort (sorts_strs _ fun k hk => hM.nice.ok k (hp.mem_iff.mp hk)) ?_)
    have e3 : lots.flatten.mergeSort leS = M.spots := by
      refine sorted_unique leS_anti (List.pairwise_mergeSort (fun a b c => leP_trans (Dt.str a).pd (Dt.str b).pd (Dt.str c).pd) (fun a b => leP_total (Dt.str a).pd (Dt.str b).pd) _) ?_ ((List.mergeSort_perm _ _).trans hp)
      refine hM.nice.asc.imp fun {u v} h => ?_
      show (!PySem.W.dataLt (.str v) (.str u)) = true
      rw [← ltS_lt, ltS_asymm h]; rfl
    rw [srt_strs, e3]
    rfl
  rintro G rfl
  have esp : (M.ws.map fun x => Dt.str x.name) = M.names.map .str := by unfold Mill.names; rw [List.map_map]; rfl
  refine sx_seq (sx_if (tx_test (ex_op (ex_var (by with_unfolding_all exact rfl) (ex_of (ef_op (ex_of (ef_lst ?_))))))))
  repeat' tm_at "ex"
  refine ex_of (ef_lcA (tch_name 5) (by decide) ?_)
  repeat' tm_at "ex"
  refine ⟨noOwn_of rfl, Wh, M.ws, whD, fun x => .str x.name, rfl, sz (by omega), fun x hx => ?_, ?_⟩
  · repeat' tm_at "ex"
    exact ⟨agr_wipe.set (by decide), rfl⟩
  rw [esp]
  refine of_cat (by rw [List.length_map]; simp [Mill.names]; omega) ?_
  have hpls : Dt.pl 60 (.lst (M.spots.map .str)) = true := pls_strs hM.nice.ok 59
  refine od_neD (n := 60) (by decide) hpls hpls fun c hc => ?_
  have hcf : c = false := by
    cases c with
    | false => rfl
    | true => exact absurd rfl (hc.mp rfl)
  subst hcf
  refine ⟨_, rfl, nofun, fun _ => ?_⟩
  refine sx_next ?_
  refine sx_ret (ex_cb (ea_cons (ex_of (ef_lcA (tch_name 3) (by decide) (ix_list (ex_var (by with_unfolding_all exact rfl) ⟨_, rfl, ?_⟩))))))
  refine ⟨noOwn_of rfl, Str, ts, .str, fun _ => .bl true, rfl, sz (by omega), fun x hx => ?_, ?_⟩
  · repeat' tm_at "ex"
    refine ⟨(M, b, x), rfl, ⟨hM, ht x hx⟩, ?_⟩
    exact fun d e => ⟨agr_wipe.set (by decide), e⟩
  · exact ea_nil (cd_allT rfl)
theorem sc__law_right : FnScope ["_law_tin", "_law_hall_here"] ["_law_tin"] (defScope (top 88)) := ⟨rfl, rfl, rfl, by decide +kernel, rfl, by decide +kernel, by decide +kernel⟩
abbrev sp__law_right (K : PySem.W.Frag) : Sp := SpO K 0 (fun x : Tin => []) tinD (fun x => x.c = 0) (fun x d s => d = .bl true)
theorem ok__law_right (T : Tx K mg) (c__law_hall : Cal Pr w K mg base 3 "_law_hall" (sp__law_hall K)) (c__law_case_right : Cal Pr w K mg base 12 "_law_case_right" (sp__law_case_right K)) (c__law_of : Cal Pr w K mg base 2 "_law_of" (sp__law_of K)) (F : FnP K "_law_right" (top 88) f fd) : FnOk Pr w K mg base CX0 13 f fd ["_law_tin"] (sp__law_right K) := by
  have nd := sc__law_right.nd
  refine fn_O F sc__law_right (fun _ => rfl) (by decide) (by decide) fun cdv A outer s H E hr => ⟨_, (pss_cons (pst (i := 1) nd rfl (pe_c c__law_hall hr (by decide) rfl (pa_cons (pv 0) (pa_cons pe_int (pa_cons pe_int (pa_cons (pe_lst (pa_cons pe_int (pa_cons pe_int (pa_cons pe_int (pa_cons pe_int (pa_cons pe_int (pa_cons pe_int (pa_cons pe_int pa_nil)))))))) (pa_cons pe_int pa_nil)))))))
    (pss_one (ps_ret (pe_c c__law_case_right hr (by decide) rfl (pa_cons (pv 1) (pa_cons (pe_lst (pa_cons (pe_ix (ixK (K := K)) (pe_c c__law_of hr (by decide) rfl (pa_cons (pv 0) (pa_cons (pe_ix (ixK (K := K)) (pv 1) pe_int (fun _ _ => rfl)) pa_nil))) pe_int (fun _ _ => rfl)) pa_nil)) pa_nil)))))), ?_⟩
  rintro t hc l
  try dsimp only [cxOf]
  change SX K _ [.own l (tinD t), .emp] _ _
  have hc : t.c = 0 := hc
  refine sx_seq (sx_set (ex_callO ⟨_, _, rfl⟩ ?_))
  repeat' tm_at "ex"
  refine ⟨l, _, t, rfl, rfl, rfl, hc, ?_⟩
  rintro d s' ⟨M, b, t2, rfl, hM, hne, rfl, c1, c2⟩
  refine sx_ret (ex_call (ea_cons (ex_var (by with_unfolding_all exact rfl) (ea_cons (ex_of (ef_lst (ea_cons (ex_op (ex_drawn ⟨_, _, rfl⟩ ?_))))))))) 
  repeat' tm_at "ex"
  have hw0 : 0 < M.ws.length := List.length_pos_iff.mpr hne
  have hws := hM.ws
  refine ⟨l, t2, M.ws.map whD, rfl, rfl, ⟨by rw [List.length_map]; exact hw0, by rw [List.length_map]; omega⟩, ⟨c1, by omega⟩, fun d t3 hd _ _ => ?_⟩
  obtain ⟨x, hx, rfl⟩ := List.mem_map.mp hd
  repeat' tm_at "ex"
  refine ⟨(M, b, [x.name]), rfl, ⟨hM, by show 1 ≤ 100; decide, fun y hy => ?_⟩, ?_⟩
  · rw [List.mem_singleton.mp hy]
    exact List.mem_map.mpr ⟨x, hx, rfl⟩
  · rintro d rfl
    exact ⟨_, rfl, rfl⟩
end

set_option Elab.async false
set_option linter.all false
set_option maxRecDepth 100000
/-! Q6: the mills by hand. -/
section
open PySem L2
def wideM : Mill := ⟨kitM.ws, kitM.ss ++ [⟨"t", "c", "d", 1, 8⟩]⟩
def oddM : Mill := ⟨kitM.ws, [⟨"m", "a", "b", 0, 2⟩, ⟨"n", "b", "c", 0, 3⟩, ⟨"o", "c", "d", 0, 6⟩, ⟨"u", "", "b", 1, 4⟩]⟩
def bareM : Mill := ⟨kitM.ws, []⟩
def bw (x : Str) : Int := if x = "a" then 3 else if x = "b" then 6 else if x = "c" then 8 else if x = "d" then -7 else 0
def bo (x : Str) : Int := if x = "" then 0 else 1
def b1 (x : Str) : Int := if x = "a" then 7 else if x = "b" then 10 else 0
def b2 (x : Str) : Int := if x = "d" then -7 else 0
instance (m : Int) : Decidable (Dok m) := inferInstanceAs (Decidable (_ ∨ _))
instance (l : List Str) : Decidable (Asc l) := inferInstanceAs (Decidable (List.Pairwise _ l))
/-- .. at one stroke -/
def goodB (M : Mill) (b : Str → Int) : Bool :=
  decide (M.ws.length ≤ 4) && decide (M.ss.length ≤ 6) && decide M.names.Nodup && decide (("" : Str) ∉ M.names) &&
  M.ss.all (fun y => decide (y.one ∈ M.spots) && decide (y.other ∈ M.spots) && decide (y.one ≠ y.other) && decide (Dok y.dial) && decide (y.dial ∣ (b y.other - b y.one) - y.late) && PyData.strOk y.name && decide (y.name ≠ "yya")) &&
  M.spots.all PyData.strOk && decide (Asc M.spots) && decide (Asc (M.ss.map (·.name)))
theorem good_of {M : Mill} {b : Str → Int} (h : goodB M b = true) : M.Good b := by
  unfold goodB at h
  simp only [Bool.and_eq_true, decide_eq_true_eq, List.all_eq_true] at h
  obtain ⟨⟨⟨⟨⟨⟨⟨h1, h2⟩, h3⟩, h4⟩, h5⟩, h6⟩, h7⟩, h8⟩ := h
  refine ⟨⟨⟨by omega, by omega⟩, ⟨h3, h4⟩, fun y hy => ?_⟩, ⟨h6, h7⟩, h8, fun y hy => (h5 y hy).1.2, fun y hy => (h5 y hy).2, h1, h2⟩
  obtain ⟨⟨⟨⟨⟨⟨a1, a2⟩, a3⟩, a4⟩, a5⟩, a6⟩, a7⟩ := h5 y hy
  exact ⟨a1, a2, a3, a4, a5⟩
theorem wide_good : wideM.Good bw := good_of (by decide +kernel)
theorem odd_good : oddM.Good bo := good_of (by decide +kernel)
theorem kit_good : kitM.Good bw := good_of (by decide +kernel)
theorem bare_good : bareM.Good bw := good_of (by decide +kernel)
def m1 : Mill := ⟨[⟨"a", 12, 1⟩, ⟨"b", 8, 1⟩, ⟨"c", 6, 1⟩], [⟨"p", "a", "b", 3, 12⟩, ⟨"q", "b", "c", 2, 4⟩, ⟨"r", "a", "c", 5, 6⟩]⟩
def m2 : Mill := ⟨[⟨"c", 6, 1⟩, ⟨"d", 5, 1⟩], [⟨"s", "d", "", 7, 0⟩, ⟨"t", "c", "d", 1, 8⟩]⟩
def m0 : Mill := ⟨[⟨"c", 6, 1⟩], []⟩
theorem m1_good : m1.Good b1 := good_of (by decide +kernel)
theorem m1_good' : m1.Good bw := good_of (by decide +kernel)
theorem m2_good : m2.Good b2 := good_of (by decide +kernel)
theorem m2_good' : m2.Good bw := good_of (by decide +kernel)
/-! ### the lots -/
theorem setS_of {l l' : List Str} (ha : Asc l') (h : ∀ x, x ∈ l' ↔ x ∈ l) : setS l = l' := by
  have hp : l'.Pairwise fun a b => leS a b = true := ha.imp fun {u v} h => by
    show (!PySem.W.dataLt (.str v) (.str u)) = true
    rw [← ltS_lt, ltS_asymm h]; rfl
  rw [← setS_eq ha.nodup h, List.mergeSort_of_pairwise hp]
theorem setL_of {ls ls' : List (List Str)} (ha : Asc (ls'.map fun l => l.headD "")) (hn : ∀ l ∈ ls', l ≠ []) (h : ∀ x, x ∈ ls' ↔ x ∈ ls) : setL ls = ls' := by
  have e : setK (ls.map kOf) = ls'.map kOf := by
    have nd : (ls'.map kOf).Nodup := by
      refine List.pairwise_map.mpr ((List.pairwise_map.mp ha).imp_of_mem fun {a c} _ _ hac e => ?_)
      have := congrArg unK e
      rw [unK_kOf, unK_kOf] at this
      rw [this, ltS_irr] at hac; cases hac
    rw [← setK_eq (l := ls.map kOf) nd fun x => ?_]
    · refine List.mergeSort_of_pairwise ?_
      rw [List.pairwise_map]
      refine (List.pairwise_map.mp ha).imp_of_mem fun {a c} ha' hc' hac => ?_
      show leD (tD (kOf a)) (tD (kOf c)) = true
      rw [tD_kOf, tD_kOf]
      cases a with
      | nil => exact absurd rfl (hn [] ha')
      | cons x xs =>
        cases c with
        | nil => exact absurd rfl (hn [] hc')
        | cons y ys => exact head_le hac
    · rw [List.mem_map, List.mem_map]
      constructor
      · rintro ⟨l, hl, e⟩; exact ⟨l, (h l).mp hl, e⟩
      · rintro ⟨l, hl, e⟩; exact ⟨l, (h l).mpr hl, e⟩
  unfold setL
  rw [e, List.map_map]
  have : (unK ∘ kOf) = id := by funext l; exact unK_kOf l
  rw [this, List.map_id]
theorem wide_rest : wideM.rest "c" = (["a", "b", "d"] : List Str) := by decide +kernel
theorem wide_prs : wideM.prs "c" = ([("a", "b")] : List (Str × Str)) := by decide +kernel
theorem wide_lots : wideM.lots "c" = ([["a", "b"], ["d"]] : List (List Str)) := by
  unfold Mill.lots
  rw [wide_rest, wide_prs]
  have e : lotsW ["a", "b", "d"] [(("a" : Str), ("b" : Str))] = [(["d"] : List Str), setS ["a", "b"]] := rfl
  have e2 : setS (["a", "b"] : List Str) = (["a", "b"] : List Str) := setS_of (by decide +kernel) fun _ => Iff.rfl
  rw [e, e2]
  refine setL_of (by decide +kernel) (by decide +kernel) fun x => ?_
  simp only [List.mem_cons, List.not_mem_nil, or_false]
  exact or_comm
theorem wide_parts : wideM.parts "c" = [m0, m1, m2] := by
  unfold Mill.parts
  rw [wide_lots]
  rfl
/-! ### what is sure -/
theorem wide_ad : wideM.D "a" "d" = 4 := by decide +kernel
theorem m1_ac : m1.D "a" "c" = 12 := by decide +kernel
theorem m2_cd : m2.D "c" "d" = 8 := by decide +kernel
theorem wide_bridge : bridgePs wideM "c" = ([("", "a"), ("", "b"), ("a", "d"), ("b", "d")] : List (Str × Str)) := by decide +kernel
theorem wide_least : Least wideM bw [] := by
  intro i n hi _
  have key : ∀ i : Fin 4, lcmL wideM.D (wideM.names.getD i.val "") (usAt [] (wideM.names.take i.val)) = 0 ∨ (0 ≤ bw (wideM.names.getD i.val "") ∧ bw (wideM.names.getD i.val "") < lcmL wideM.D (wideM.names.getD i.val "") (usAt [] (wideM.names.take i.val))) := by decide +kernel
  have hl : i < 4 := (List.getElem?_eq_some_iff.mp hi).1
  have e : wideM.names.getD i "" = n := by rw [List.getD_eq_getElem?_getD, hi]; rfl
  have := key ⟨i, hl⟩
  rwa [e] at this
theorem m1_least : Least m1 b1 ["c"] := by
  intro i n hi hn
  have key : ∀ i : Fin 3, (m1.names.getD i.val "") ∈ usAt ["c"] (m1.names.take i.val) ∨ lcmL m1.D (m1.names.getD i.val "") (usAt ["c"] (m1.names.take i.val)) = 0 ∨ (0 ≤ b1 (m1.names.getD i.val "") ∧ b1 (m1.names.getD i.val "") < lcmL m1.D (m1.names.getD i.val "") (usAt ["c"] (m1.names.take i.val))) := by decide +kernel
  have hl : i < 3 := (List.getElem?_eq_some_iff.mp hi).1
  have e : m1.names.getD i "" = n := by rw [List.getD_eq_getElem?_getD, hi]; rfl
  have := key ⟨i, hl⟩
  rw [e] at this
  exact this.resolve_left hn
theorem m2_least : Least m2 b2 ["c"] := by
  intro i n hi hn
  have key : ∀ i : Fin 2, (m2.names.getD i.val "") ∈ usAt ["c"] (m2.names.take i.val) ∨ lcmL m2.D (m2.names.getD i.val "") (usAt ["c"] (m2.names.take i.val)) = 0 ∨ (0 ≤ b2 (m2.names.getD i.val "") ∧ b2 (m2.names.getD i.val "") < lcmL m2.D (m2.names.getD i.val "") (usAt ["c"] (m2.names.take i.val))) := by decide +kernel
  have hl : i < 2 := (List.getElem?_eq_some_iff.mp hi).1
  have e : m2.names.getD i "" = n := by rw [List.getD_eq_getElem?_getD, hi]; rfl
  have := key ⟨i, hl⟩
  rw [e] at this
  exact this.resolve_left hn
end

set_option Elab.async false
set_option linter.all false
set_option maxRecDepth 100000
set_option maxHeartbeats 1000000
section
open PySem L2
variable [B : Tb]
variable {Pr : Program} {w : World} {K : PySem.W.Frag} {mg : Str → Option Value} {base : Heap} {f : Addr} {fd : FuncData}

/-! ### by hand -/
def gA : List Dt := [.int 3, milD m0, .lst [.int 0, .int 3, .int 2], .tup [.tup [.str "", .str "a"], .tup [.str "", .str "b"], .tup [.str "a", .str "d"], .tup [.str "b", .str "d"]]]
def gB : List Dt := [.tup [.int 2, .int 4], .tup [.int 5, .int 12], .tup [.int 1, .int 8]]
def gC : List Dt := [.tup [.tup [.str "a", .int 3], .tup [.str "b", .int 6], .tup [.str "c", .int 8], .tup [.str "d", .int (-7)]], .tup [.tup [.str "a", .int 7], .tup [.str "b", .int 10], .tup [.str "c", .int 0]], .tup [.tup [.str "c", .int 0], .tup [.str "d", .int (-7)]]]
omit [B : Tb] in
theorem begP_congr {ns : List Str} {k k' : Str → Int} (h : ∀ x ∈ ns, k x = k' x) : begP ns k = begP ns k' := by
  unfold begP
  congr 1
  exact List.map_congr_left fun x hx => by rw [h x hx]
theorem hd2_self {M : Mill} {b : Str → Int} {ns : List Str} (h1 : ∀ n ∈ ns, n ∈ M.names) (h2 : ns.length ≤ 20) (h0 : b "" = 0) : Hd2 M b b ns :=
  ⟨h1, h2, h0, fun u _ v _ => by rw [Int.sub_self]; exact Int.dvd_zero _⟩
theorem sc__law_by_hand_right : FnScope ["_law_hall_here", "_law_wide", "_law_parts_here", "_law_got", "_law_due", "_law_odd", "_law_own"] [] (defScope (top 87)) := ⟨rfl, rfl, rfl, by decide +kernel, rfl, by decide +kernel, by decide +kernel⟩
abbrev sp__law_by_hand_right (K : PySem.W.Frag) : Sp := SpP K (fun _ : Unit => []) (fun _ => True) (fun _ d => d = .bl true)
theorem ok__law_by_hand_right (T : Tx K mg) (c__law_kit : Cal Pr w K mg base 1 "_law_kit" (sp__law_kit K)) (c__law_parts : Cal Pr w K mg base 4 "_law_parts" (sp__law_parts K)) (c_bridged : Cal Pr w K mg base 7 "bridged" (sp_bridged K)) (c__law_same : Cal Pr w K mg base 6 "_law_same" (sp__law_same K 4)) (c__law_case_right : Cal Pr w K mg base 12 "_law_case_right" (sp__law_case_right K)) (c_sure_late : Cal Pr w K mg base 7 "sure_late" (sp_sure_late K)) (c_least_setting : Cal Pr w K mg base 7 "least_setting" (sp_least_setting K)) (c_setting_with : Cal Pr w K mg base 7 "setting_with" (sp_setting_with K)) (F : FnP K "_law_by_hand_right" (top 87) f fd) : FnOk Pr w K mg base CX0 13 f fd [] (sp__law_by_hand_right K) := by
  have nd := sc__law_by_hand_right.nd
  refine fn_P F sc__law_by_hand_right (fun _ => rfl) (by decide) fun cdv A outer s H E hr => ⟨_, (pss_cons (pst (i := 0) nd rfl (pe_c0 c__law_kit hr (by decide) rfl))
    (pss_cons (pst (i := 1) nd rfl (pe_tup (pa_cons (pe_ix (ixK (K := K)) (pv 0) pe_int (fun _ _ => rfl)) (pa_cons (pe_op (catAK (K := K)) (pe_ix (ixK (K := K)) (pv 0) pe_int (fun _ _ => rfl)) (pe_tup (pa_cons (pe_tup (pa_cons pe_str (pa_cons pe_str (pa_cons pe_str (pa_cons pe_int (pa_cons pe_int pa_nil)))))) pa_nil))) pa_nil))))
    (pss_cons (pst (i := 2) nd rfl (pe_c c__law_parts hr (by decide) rfl (pa_cons (pv 1) (pa_cons pe_str pa_nil))))
    (pss_cons (pst (i := 3) nd rfl (pe_lst (pa_cons (pe_callB (lenK (K := K)) rfl T.len_ bt_len (pa_cons (pv 2) pa_nil)) (pa_cons (pe_ix (ixK (K := K)) (pv 2) pe_int (fun _ _ => rfl)) (pa_cons (pe_lc (own := [("_law_own", 6)]) rfl nd (piLK (K := K) (pv 2)) (blkOk_by (by kernel_rfl)) (fun _ _ _ _ _ => (pgn (i := 6) nd rfl)) (fun _ _ _ _ _ => pts_nil) (fun _ _ _ _ _ => (pe_callB (lenK (K := K)) rfl T.len_ bt_len (pa_cons (pe_ix (ixK (K := K)) (pv 6) pe_int (fun _ _ => rfl)) pa_nil)))) (pa_cons (pe_c c_bridged hr (by decide) rfl (pa_cons (pv 1) (pa_cons pe_str pa_nil))) pa_nil))))))
    (pss_cons (pst (i := 4) nd rfl (pe_lst (pa_cons pe_int (pa_cons (pe_tup (pa_cons (pe_tup (pa_cons (pe_tup (pa_cons pe_str (pa_cons pe_int (pa_cons pe_int pa_nil)))) pa_nil)) (pa_cons (pe_tup pa_nil) pa_nil))) (pa_cons (pe_lst (pa_cons pe_int (pa_cons pe_int (pa_cons pe_int pa_nil)))) (pa_cons (pe_tup (pa_cons (pe_tup (pa_cons pe_str (pa_cons pe_str pa_nil))) (pa_cons (pe_tup (pa_cons pe_str (pa_cons pe_str pa_nil))) (pa_cons (pe_tup (pa_cons pe_str (pa_cons pe_str pa_nil))) (pa_cons (pe_tup (pa_cons pe_str (pa_cons pe_str pa_nil))) pa_nil))))) pa_nil))))))
    (pss_cons (pst (i := 3) nd rfl (pe_op op_cat (pv 3) (pe_lst (pa_cons (pe_c c_sure_late hr (by decide) rfl (pa_cons (pv 1) (pa_cons pe_str (pa_cons pe_str pa_nil)))) (pa_cons (pe_c c_sure_late hr (by decide) rfl (pa_cons (pe_ix (ixK (K := K)) (pv 2) pe_int (fun _ _ => rfl)) (pa_cons pe_str (pa_cons pe_str pa_nil)))) (pa_cons (pe_c c_sure_late hr (by decide) rfl (pa_cons (pe_ix (ixK (K := K)) (pv 2) pe_int (fun _ _ => rfl)) (pa_cons pe_str (pa_cons pe_str pa_nil)))) pa_nil))))))
    (pss_cons (pst (i := 4) nd rfl (pe_op op_cat (pv 4) (pe_lst (pa_cons (pe_tup (pa_cons pe_int (pa_cons pe_int pa_nil))) (pa_cons (pe_tup (pa_cons pe_int (pa_cons pe_int pa_nil))) (pa_cons (pe_tup (pa_cons pe_int (pa_cons pe_int pa_nil))) pa_nil))))))
    (pss_cons (pst (i := 3) nd rfl (pe_op op_cat (pv 3) (pe_lst (pa_cons (pe_c c_least_setting hr (by decide) rfl (pa_cons (pv 1) pa_nil)) (pa_cons (pe_c c_setting_with hr (by decide) rfl (pa_cons (pe_ix (ixK (K := K)) (pv 2) pe_int (fun _ _ => rfl)) (pa_cons (pe_tup (pa_cons (pe_tup (pa_cons pe_str (pa_cons pe_int pa_nil))) pa_nil)) pa_nil))) (pa_cons (pe_c c_setting_with hr (by decide) rfl (pa_cons (pe_ix (ixK (K := K)) (pv 2) pe_int (fun _ _ => rfl)) (pa_cons (pe_tup (pa_cons (pe_tup (pa_cons pe_str (pa_cons pe_int pa_nil))) pa_nil)) pa_nil))) pa_nil))))))
    (pss_cons (pst (i := 4) nd rfl (pe_op op_cat (pv 4) (pe_lst (pa_cons (pe_tup (pa_cons (pe_tup (pa_cons pe_str (pa_cons pe_int pa_nil))) (pa_cons (pe_tup (pa_cons pe_str (pa_cons pe_int pa_nil))) (pa_cons (pe_tup (pa_cons pe_str (pa_cons pe_int pa_nil))) (pa_cons (pe_tup (pa_cons pe_str (pa_cons (pe_un un_neg pe_int) pa_nil))) pa_nil))))) (pa_cons (pe_tup (pa_cons (pe_tup (pa_cons pe_str (pa_cons pe_int pa_nil))) (pa_cons (pe_tup (pa_cons pe_str (pa_cons pe_int pa_nil))) (pa_cons (pe_tup (pa_cons pe_str (pa_cons pe_int pa_nil))) pa_nil)))) (pa_cons (pe_tup (pa_cons (pe_tup (pa_cons pe_str (pa_cons pe_int pa_nil))) (pa_cons (pe_tup (pa_cons pe_str (pa_cons (pe_un un_neg pe_int) pa_nil))) pa_nil))) pa_nil))))))
    (pss_cons (ps_if (pt_not (pt_val (pe_c c__law_same hr (by decide) rfl (pa_cons (pv 3) (pa_cons (pv 4) pa_nil))))) (pss_one (ps_ret pe_bl)) pss_nil)
    (pss_cons (pst (i := 5) nd rfl (pe_tup (pa_cons (pe_ix (ixK (K := K)) (pv 0) pe_int (fun _ _ => rfl)) (pa_cons (pe_tup (pa_cons (pe_tup (pa_cons pe_str (pa_cons pe_str (pa_cons pe_str (pa_cons pe_int (pa_cons pe_int pa_nil)))))) (pa_cons (pe_tup (pa_cons pe_str (pa_cons pe_str (pa_cons pe_str (pa_cons pe_int (pa_cons pe_int pa_nil)))))) (pa_cons (pe_tup (pa_cons pe_str (pa_cons pe_str (pa_cons pe_str (pa_cons pe_int (pa_cons pe_int pa_nil)))))) (pa_cons (pe_tup (pa_cons pe_str (pa_cons pe_str (pa_cons pe_str (pa_cons pe_int (pa_cons pe_int pa_nil)))))) pa_nil))))) pa_nil))))
    (pss_cons (ps_if (PW.pt (pw_or (pt_not (pt_val (pe_c c__law_case_right hr (by decide) rfl (pa_cons (pv 1) (pa_cons (pe_lst (pa_cons pe_str pa_nil)) pa_nil))))) (pw_or1 (pt_not (pt_val (pe_c c__law_case_right hr (by decide) rfl (pa_cons (pv 5) (pa_cons (pe_lst (pa_cons pe_str pa_nil)) pa_nil)))))))) (pss_one (ps_ret pe_bl)) pss_nil)
    (pss_one (ps_ret (pe_and (pe_c c__law_case_right hr (by decide) rfl (pa_cons (pv 0) (pa_cons (pe_lst (pa_cons pe_str pa_nil)) pa_nil))) (pe_one (pe_c c__law_case_right hr (by decide) rfl (pa_cons (pe_tup (pa_cons (pe_ix (ixK (K := K)) (pv 0) pe_int (fun _ _ => rfl)) (pa_cons (pe_tup pa_nil) pa_nil))) (pa_cons (pe_lst (pa_cons pe_str pa_nil)) pa_nil))))))))))))))))))), ?_⟩
  rintro ⟨⟩ _
  try dsimp only [cxOf]
  change SX K _ [.emp, .emp, .emp, .emp, .emp, .emp, .emp] _ _
  refine sx_seq (SX.imp (N := fun G => G = [.dat (milD kitM), .emp, .emp, .emp, .emp, .emp, .emp]) ?_ (fun _ _ h => h) ?_)
  · repeat' tm_at "ex"
    exact ⟨(), rfl, trivial, fun d e => by rw [e]; rfl⟩
  rintro G rfl
  refine sx_seq (SX.imp (N := fun G => G = [.dat (milD kitM), .dat (milD wideM), .emp, .emp, .emp, .emp, .emp]) ?_ (fun _ _ h => h) ?_)
  · repeat' tm_at "ex"
    refine od_catT (szB (by rfl)) ?_
    repeat' tm_at "ex"
    rfl
  rintro G rfl
  refine sx_seq (SX.imp (N := fun G => G = [.dat (milD kitM), .dat (milD wideM), .dat (.lst [milD m0, milD m1, milD m2]), .emp, .emp, .emp, .emp]) ?_ (fun _ _ h => h) ?_)
  · refine sx_set (ex_call ?_)
    repeat' tm_at "ex"
    refine ⟨(wideM, bw, "c"), rfl, ⟨wide_good, by decide +kernel⟩, ?_⟩
    rintro d rfl
    dsimp only
    rw [wide_parts]
    rfl
  rintro G rfl
  refine sx_seq (SX.imp (N := fun G => G = [.dat (milD kitM), .dat (milD wideM), .dat (.lst [milD m0, milD m1, milD m2]), .dat (.lst gA), .emp, .emp, .emp]) ?_ (fun _ _ h => h) ?_)
  · repeat' tm_at "ex"
    refine ex_of (ef_lcA (tch_name 6) (by decide) ?_)
    repeat' tm_at "ex"
    refine ⟨noOwn_of rfl, Mill, [m0, m1, m2], milD, fun M => .int (M.ss.length : Int), rfl, szB (by rfl), fun M hM => ?_, ?_⟩
    · repeat' tm_at "ex"
      refine ⟨agr_wipe.set (by decide), ?_⟩
      rw [List.length_map]
    repeat' tm_at "ex"
    refine ⟨(wideM, bw, "c"), rfl, ⟨wide_good.ok, wide_good.nice, by decide +kernel⟩, ?_⟩
    rintro d rfl
    dsimp only
    rw [wide_bridge]
    refine ea_nil ⟨szB (by rfl), ?_⟩
    rfl
  rintro G rfl
  refine sx_seq (SX.imp (N := fun G => G = [.dat (milD kitM), .dat (milD wideM), .dat (.lst [milD m0, milD m1, milD m2]), .dat (.lst gA), .dat (.lst gA), .emp, .emp]) ?_ (fun _ _ h => h) ?_)
  · repeat' tm_at "ex"
    rfl
  rintro G rfl
  refine sx_seq (SX.imp (N := fun G => G = [.dat (milD kitM), .dat (milD wideM), .dat (.lst [milD m0, milD m1, milD m2]), .dat (.lst (gA ++ gB)), .dat (.lst gA), .emp, .emp]) ?_ (fun _ _ h => h) ?_)
  · refine sx_set (ex_of (ef_op (ex_var (by with_unfolding_all exact rfl) (ex_of (ef_lst (ea_cons (ex_call ?_)))))))
    repeat' tm_at "ex"
    refine ⟨(wideM, bw, "a", "d"), rfl, ⟨wide_good.ok, by decide +kernel, by decide +kernel⟩, ?_⟩
    rintro d rfl
    dsimp only
    rw [wide_ad]
    refine ea_cons (ex_call ?_)
    repeat' tm_at "ex"
    refine ⟨(m1, bw, "a", "c"), rfl, ⟨m1_good'.ok, by decide +kernel, by decide +kernel⟩, ?_⟩
    rintro d rfl
    dsimp only
    rw [m1_ac]
    refine ea_cons (ex_call ?_)
    repeat' tm_at "ex"
    refine ⟨(m2, bw, "c", "d"), rfl, ⟨m2_good'.ok, by decide +kernel, by decide +kernel⟩, ?_⟩
    rintro d rfl
    dsimp only
    rw [m2_cd]
    refine ea_nil ⟨szB (by rfl), of_cat (szB (by rfl)) ?_⟩
    rfl
  rintro G rfl
  refine sx_seq (SX.imp (N := fun G => G = [.dat (milD kitM), .dat (milD wideM), .dat (.lst [milD m0, milD m1, milD m2]), .dat (.lst (gA ++ gB)), .dat (.lst (gA ++ gB)), .emp, .emp]) ?_ (fun _ _ h => h) ?_)
  · refine sx_set (ex_of (ef_op (ex_var (by with_unfolding_all exact rfl) (ex_of (ef_lst ?_)))))
    repeat' tm_at "ex"
    refine of_cat (szB (by rfl)) ?_
    rfl
  rintro G rfl
  refine sx_seq (SX.imp (N := fun G => G = [.dat (milD kitM), .dat (milD wideM), .dat (.lst [milD m0, milD m1, milD m2]), .dat (.lst (gA ++ gB ++ gC)), .dat (.lst (gA ++ gB)), .emp, .emp]) ?_ (fun _ _ h => h) ?_)
  · refine sx_set (ex_of (ef_op (ex_var (by with_unfolding_all exact rfl) (ex_of (ef_lst (ea_cons (ex_pt (ex_call ?_))))))))
    repeat' tm_at "ex"
    refine ⟨(wideM, bw), rfl, wide_good.ok, ?_⟩
    rintro d ⟨k, rfl, hk⟩
    have ek : begP wideM.names k = begP wideM.names bw := begP_congr fun x hx => hk.least (by decide +kernel) wide_least x (List.mem_cons_of_mem _ hx)
    dsimp only
    rw [ek]
    refine ⟨_, rfl, ?_⟩
    refine ea_cons (ex_pt (ex_call ?_))
    repeat' tm_at "ex"
    refine ⟨(m1, b1, b1, ["c"]), rfl, ⟨m1_good.ok, hd2_self (by decide +kernel) (by decide) (by decide +kernel), by decide +kernel⟩, ?_⟩
    rintro d ⟨k1, rfl, hk1⟩
    have ek1 : begP m1.names k1 = begP m1.names b1 := begP_congr fun x hx => hk1.least (fun _ _ => rfl) m1_least x (List.mem_cons_of_mem _ hx)
    dsimp only
    rw [ek1]
    refine ⟨_, rfl, ?_⟩
    refine ea_cons (ex_pt (ex_call ?_))
    repeat' tm_at "ex"
    refine ⟨(m2, b2, b2, ["c"]), rfl, ⟨m2_good.ok, hd2_self (by decide +kernel) (by decide) (by decide +kernel), by decide +kernel⟩, ?_⟩
    rintro d ⟨k2, rfl, hk2⟩
    have ek2 : begP m2.names k2 = begP m2.names b2 := begP_congr fun x hx => hk2.least (fun _ _ => rfl) m2_least x (List.mem_cons_of_mem _ hx)
    dsimp only
    rw [ek2]
    refine ⟨_, rfl, ?_⟩
    refine ea_nil ⟨szB (by rfl), of_cat (szB (by rfl)) ?_⟩
    rfl
  rintro G rfl
  refine sx_seq (SX.imp (N := fun G => G = [.dat (milD kitM), .dat (milD wideM), .dat (.lst [milD m0, milD m1, milD m2]), .dat (.lst (gA ++ gB ++ gC)), .dat (.lst (gA ++ gB ++ gC)), .emp, .emp]) ?_ (fun _ _ h => h) ?_)
  · refine sx_set (ex_of (ef_op (ex_var (by with_unfolding_all exact rfl) (ex_of (ef_lst ?_)))))
    repeat' tm_at "ex"
    refine of_cat (szB (by rfl)) ?_
    rfl
  rintro G rfl
  refine sx_seq (SX.imp (N := fun G => G = [.dat (milD kitM), .dat (milD wideM), .dat (.lst [milD m0, milD m1, milD m2]), .dat (.lst (gA ++ gB ++ gC)), .dat (.lst (gA ++ gB ++ gC)), .emp, .emp]) ?_ (fun _ _ h => h) ?_)
  · repeat' tm_at "ex"
    refine ⟨nofun, fun _ => ?_⟩
    repeat' tm_at "ex"
    rfl
  rintro G rfl
  refine sx_seq (SX.imp (N := fun G => G = [.dat (milD kitM), .dat (milD wideM), .dat (.lst [milD m0, milD m1, milD m2]), .dat (.lst (gA ++ gB ++ gC)), .dat (.lst (gA ++ gB ++ gC)), .dat (milD oddM), .emp]) ?_ (fun _ _ h => h) ?_)
  · repeat' tm_at "ex"
    rfl
  rintro G rfl
  refine sx_seq (SX.imp (N := fun G => G = [.dat (milD kitM), .dat (milD wideM), .dat (.lst [milD m0, milD m1, milD m2]), .dat (.lst (gA ++ gB ++ gC)), .dat (.lst (gA ++ gB ++ gC)), .dat (milD oddM), .emp]) ?_ (fun _ _ h => h) ?_)
  · refine sx_if (tx_or (tx_not (tx_B (ex_call ?_))))
    repeat' tm_at "ex"
    refine ⟨(wideM, bw, ["c"]), rfl, ⟨wide_good, by decide, by decide +kernel⟩, ?_⟩
    rintro d rfl
    refine ⟨true, rfl, nofun, fun _ => ?_⟩
    refine tx_not (tx_B (ex_call ?_))
    repeat' tm_at "ex"
    refine ⟨(oddM, bo, ["b"]), rfl, ⟨odd_good, by decide, by decide +kernel⟩, ?_⟩
    rintro d rfl
    refine ⟨true, rfl, nofun, fun _ => ?_⟩
    repeat' tm_at "ex"
    rfl
  rintro G rfl
  refine sx_ret (ex_andV (ex_call ?_))
  repeat' tm_at "ex"
  refine ⟨(kitM, bw, ["a"]), rfl, ⟨kit_good, by decide, by decide +kernel⟩, ?_⟩
  rintro d rfl
  refine ⟨true, rfl, fun _ => ?_, nofun⟩
  repeat' tm_at "ex"
  refine ⟨(bareM, bw, ["d"]), rfl, ⟨bare_good, by decide, by decide +kernel⟩, fun _ h => h⟩
end

set_option Elab.async false
set_option linter.all false
set_option maxRecDepth 100000
set_option maxHeartbeats 1000000
section
open PySem L2
variable [B : Tb]
variable {Pr : Program} {w : World} {K : PySem.W.Frag} {mg : Str → Option Value} {base : Heap} {f : Addr} {fd : FuncData}

/-! ### the law -/
theorem sc_law : FnScope ["_law_script", "_law_cells_here", "_law_k"] ["_law_script"] (defScope (top 89)) := ⟨rfl, rfl, rfl, by decide +kernel, rfl, by decide +kernel, by decide +kernel⟩
abbrev sp_law (K : PySem.W.Frag) : Sp := SpP K (fun ns : List Int => [.fl ns]) (fun ns => ns.length ≤ 100) (fun _ d => d = .bl true)
theorem ok_law (T : Tx K mg) (c__law_cells : Cal Pr w K mg base 1 "_law_cells" (sp__law_cells K)) (c__law_by_hand_right : Cal Pr w K mg base 13 "_law_by_hand_right" (sp__law_by_hand_right K)) (c__law_right : Cal Pr w K mg base 13 "_law_right" (sp__law_right K)) (c__law_box : Cal Pr w K mg base 1 "_law_box" (sp__law_box K)) (F : FnP K "law" (top 89) f fd) : FnOk Pr w K mg base CX0 14 f fd ["_law_script"] (sp_law K) := by
  have nd := sc_law.nd
  refine fn_P F sc_law (fun _ => rfl) (by decide) fun cdv A outer s H E hr => ⟨_, (pss_cons (ps_if (pt_not (pt_val (pe_c0 c__law_by_hand_right hr (by decide) rfl))) (pss_one (ps_ret pe_bl)) pss_nil)
    (pss_cons (pst (i := 1) nd rfl (pe_c c__law_cells hr (by decide) rfl (pa_cons (pv 0) (pa_cons pe_int pa_nil))))
    (pss_one (ps_ret (pe_callB (allK (K := K) rfl) rfl T.all_ bt_all (pa_cons (pe_lc (own := [("_law_k", 2)]) rfl nd (pi_range1 rfl T.range_ (pa_cons (pe_callB (lenK (K := K)) rfl T.len_ bt_len (pa_cons (pv 1) pa_nil)) pa_nil)) (blkOk_by (by kernel_rfl)) (fun _ _ _ _ _ => (pgn (i := 2) nd rfl)) (fun _ _ _ _ _ => pts_nil) (fun _ _ _ _ _ => (pe_c c__law_right hr (by decide) rfl (pa_cons (pe_c c__law_box hr (by decide) rfl (pa_cons (pv 1) (pa_cons (pv 2) pa_nil))) pa_nil)))) pa_nil)))))), ?_⟩
  rintro ns hl
  try dsimp only [cxOf]
  change SX K _ [.dat (.fl ns), .emp, .emp] _ _
  refine sx_seq (sx_if (tx_not (tx_B (ex_call (ea_nil ⟨(), rfl, trivial, ?_⟩)))))
  rintro d rfl
  refine ⟨true, rfl, nofun, fun _ => ?_⟩
  refine sx_next ?_
  refine sx_seq (sx_set (ex_call ?_))
  repeat' tm_at "ex"
  refine ⟨hl, ?_⟩
  rintro d ⟨ms, rfl, m1, m2⟩
  refine sx_ret (ex_cb (ea_cons (ex_of (ef_lcA (tch_name 2) (by decide) (ix_rng1 ?_)))))
  repeat' tm_at "ex"
  refine ⟨by rw [List.length_map]; omega, by rw [List.length_map]; omega, noOwn_of rfl, Nat, List.range ms.length, fun i => .int (0 + (i : Int)), fun _ => .bl true, ?_, ?_, fun k hk => ?_, ?_⟩
  · unfold rgD
    rw [List.length_map, show ((ms.length : Int)).toNat = ms.length by omega]
  · rw [List.length_range]; exact sz (by omega)
  · refine gx_name (ex_callOF (ef_call ?_))
    repeat' tm_at "ex"
    refine ⟨by show 0 ≤ 0 + (k : Int); omega, ?_⟩
    rintro d ⟨t, rfl, hc⟩
    exact ⟨t, rfl, rfl, hc, fun d s' e => ⟨agr_wipe.set (by decide), e⟩⟩
  · exact ea_nil (cd_allT rfl)
end
end Wd

set_option Elab.async false
set_option linter.all false
set_option maxRecDepth 100000
set_option maxHeartbeats 1000000
/-! Z1: the defs by their names. -/
namespace Wd
open PySem L2
open Wm (dD fn fa tf)
variable {Pr : Program} {w : World} {K : PySem.W.Frag} {mg : Str → Option Value} {base h : Heap}
theorem tx_of (X : K.In h) (G : h.Ns mainGlobals mg) (c : He.SaysD fa fn K) : Tx K mg :=
  ⟨He.free_ok X G (c.fact 78 (f := .free "abs") rfl),
    He.free_ok X G (c.fact 79 (f := .free "all") rfl),
    He.free_ok X G (c.fact 80 (f := .free "bool") rfl),
    He.free_ok X G (c.fact 81 (f := .free "dict") rfl),
    He.free_ok X G (c.fact 82 (f := .free "enumerate") rfl),
    He.free_ok X G (c.fact 83 (f := .free "int") rfl),
    He.free_ok X G (c.fact 84 (f := .free "isinstance") rfl),
    He.free_ok X G (c.fact 85 (f := .free "len") rfl),
    He.free_ok X G (c.fact 86 (f := .free "list") rfl),
    He.free_ok X G (c.fact 87 (f := .free "min") rfl),
    He.free_ok X G (c.fact 88 (f := .free "range") rfl),
    He.free_ok X G (c.fact 89 (f := .free "set") rfl),
    He.free_ok X G (c.fact 90 (f := .free "sorted") rfl),
    He.free_ok X G (c.fact 91 (f := .free "str") rfl),
    He.free_ok X G (c.fact 92 (f := .free "sum") rfl),
    He.free_ok X G (c.fact 93 (f := .free "tuple") rfl),
    He.free_ok X G (c.fact 94 (f := .free "zip") rfl),
    by obtain ⟨t, e⟩ := He.str_ok X G (c.fact 73 (f := .str "CRANK" "") rfl); exact ⟨_, e, t, rfl⟩,
    by obtain ⟨t, e⟩ := He.int_ok X G (c.fact 74 (f := .int "PAIR" (2)) rfl); exact ⟨_, e, t, rfl⟩,
    by obtain ⟨t, e⟩ := He.int_ok X G (c.fact 75 (f := .int "AHEAD" (1)) rfl); exact ⟨_, e, t, rfl⟩,
    by obtain ⟨t, e⟩ := He.int_ok X G (c.fact 76 (f := .int "BACK" (-1)) rfl); exact ⟨_, e, t, rfl⟩,
    by obtain ⟨t, e⟩ := He.int_ok X G (c.fact 77 (f := .int "UNSURE" (1)) rfl); exact ⟨_, e, t, rfl⟩⟩
theorem get_of (X : K.In h) (G : h.Ns mainGlobals mg) (c : He.SaysD fa fn K) (i : Nat) (x : Str) (n : Nat) (h1 : fn[i]? = some (dD x n)) (h2 : fa[i]? = some (.glo x)) : ∃ fd, FnP K x (top n) (He.ga K x) fd ∧ mg x = some (.ref (He.ga K x)) := by
  obtain ⟨fd, F⟩ := c.def_ i h1
  exact ⟨fd, F, He.glo_ok X G (c.fact i h2)⟩
variable [B : Tb]
/-- what the calls lean on -/
structure Wc (K : PySem.W.Frag) (mg : Str → Option Value) (base : Heap) : Prop where
  T : Tx K mg
  get : ∀ (i : Nat) (x : Str) (n : Nat), fn[i]? = some (dD x n) → fa[i]? = some (.glo x) → ∃ fd, FnP K x (top n) (He.ga K x) fd ∧ mg x = some (.ref (He.ga K x))
  tab : ∀ fd, FnP K "class_of_both" (top 18) (He.ga K "class_of_both") fd → ∃ c, LamX.TabB base mg c B.P ∧ fd.code = .ref c
  hq : B.q = ("class_of_both" : Str) ++ (".<locals>." : Str) ++ ("<lambda>" : Str)
theorem k_class_of (W : Wc K mg base) : Cal Pr w K mg base 1 "class_of" (sp_class_of K) := by
  obtain ⟨fd, F, gf⟩ := W.get 7 "class_of" 14 rfl rfl
  exact cal_of F gf (ok_class_of F) (F.bindsN fun _ _ _ _ _ _ us hl => match us, hl with | [_, _], _ => rfl)
theorem k_divisor (W : Wc K mg base) : Cal Pr w K mg base 1 "divisor" (sp_divisor K) := by
  obtain ⟨fd, F, gf⟩ := W.get 4 "divisor" 11 rfl rfl
  exact cal_of F gf (ok_divisor W.T F) (F.bindsN fun _ _ _ _ _ _ us hl => match us, hl with | [_, _], _ => rfl)
theorem k_in_class (W : Wc K mg base) : Cal Pr w K mg base 1 "in_class" (sp_in_class K) := by
  obtain ⟨fd, F, gf⟩ := W.get 8 "in_class" 15 rfl rfl
  exact cal_of F gf (ok_in_class F) (F.bindsN fun _ _ _ _ _ _ us hl => match us, hl with | [_, _], _ => rfl)
theorem k_turned_class (W : Wc K mg base) : Cal Pr w K mg base 2 "turned_class" (sp_turned_class K) := by
  obtain ⟨fd, F, gf⟩ := W.get 9 "turned_class" 16 rfl rfl
  exact cal_of F gf (ok_turned_class (k_class_of W) F) (F.bindsN fun _ _ _ _ _ _ us hl => match us, hl with | [_], _ => rfl)
theorem k_class_behind (W : Wc K mg base) : Cal Pr w K mg base 2 "class_behind" (sp_class_behind K) := by
  obtain ⟨fd, F, gf⟩ := W.get 10 "class_behind" 17 rfl rfl
  exact cal_of F gf (ok_class_behind (k_class_of W) (k_divisor W) F) (F.bindsN fun _ _ _ _ _ _ us hl => match us, hl with | [_, _], _ => rfl)
theorem k_multiple (W : Wc K mg base) : Cal Pr w K mg base 2 "multiple" (sp_multiple K) := by
  obtain ⟨fd, F, gf⟩ := W.get 5 "multiple" 12 rfl rfl
  exact cal_of F gf (ok_multiple (k_divisor W) F) (F.bindsN fun _ _ _ _ _ _ us hl => match us, hl with | [_, _], _ => rfl)
theorem k_inverse (W : Wc K mg base) : Cal Pr w K mg base 1 "inverse" (sp_inverse K) := by
  obtain ⟨fd, F, gf⟩ := W.get 6 "inverse" 13 rfl rfl
  exact cal_of F gf (ok_inverse F) (F.bindsN fun _ _ _ _ _ _ us hl => match us, hl with | [_, _], _ => rfl)
theorem k_class_of_both (W : Wc K mg base) : Cal Pr w K mg base 3 "class_of_both" (sp_class_of_both K) := by
  obtain ⟨fd, F, gf⟩ := W.get 11 "class_of_both" 18 rfl rfl
  obtain ⟨c, TB, hcode⟩ := W.tab fd F
  exact cal_of F gf (ok_class_of_both W.T TB hcode W.hq (k_divisor W) (k_class_of W) (k_inverse W) (k_multiple W) (k_in_class W) F) (F.bindsN fun _ _ _ _ _ _ us hl => match us, hl with | [_, _], _ => rfl)
theorem k_wheel_names (W : Wc K mg base) : Cal Pr w K mg base 1 "wheel_names" (sp_wheel_names K) := by
  obtain ⟨fd, F, gf⟩ := W.get 12 "wheel_names" 21 rfl rfl
  exact cal_of F gf (ok_wheel_names W.T F) (F.bindsN fun _ _ _ _ _ _ us hl => match us, hl with | [_], _ => rfl)
theorem k_spots_of (W : Wc K mg base) : Cal Pr w K mg base 2 "spots_of" (sp_spots_of K) := by
  obtain ⟨fd, F, gf⟩ := W.get 20 "spots_of" 32 rfl rfl
  exact cal_of F gf (ok_spots_of W.T (k_wheel_names W) F) (F.bindsN fun _ _ _ _ _ _ us hl => match us, hl with | [_], _ => rfl)
theorem k_set_of (W : Wc K mg base) : Cal Pr w K mg base 1 "set_of" (sp_set_of K) := by
  obtain ⟨fd, F, gf⟩ := W.get 2 "set_of" 9 rfl rfl
  exact cal_of F gf (ok_set_of W.T F) (F.bindsN fun _ _ _ _ _ _ us hl => match us, hl with | [_], _ => rfl)
theorem k_is_number (W : Wc K mg base) : Cal Pr w K mg base 1 "is_number" (sp_is_number K) := by
  obtain ⟨fd, F, gf⟩ := W.get 0 "is_number" 7 rfl rfl
  exact cal_of F gf (ok_is_number W.T F) (F.bindsN fun _ _ _ _ _ _ us hl => match us, hl with | [_], _ => rfl)
theorem k_is_tuple_of (W : Wc K mg base) : Cal Pr w K mg base 1 "is_tuple_of" (sp_is_tuple_of K) := by
  obtain ⟨fd, F, gf⟩ := W.get 3 "is_tuple_of" 10 rfl rfl
  exact cal_of F gf (ok_is_tuple_of W.T F) (F.bindsN fun _ _ _ _ _ _ us hl => match us, hl with | [_, _], _ => rfl)
theorem k_check_wheels (W : Wc K mg base) : Cal Pr w K mg base 2 "check_wheels" (sp_check_wheels K) := by
  obtain ⟨fd, F, gf⟩ := W.get 13 "check_wheels" 22 rfl rfl
  exact cal_of F gf (ok_check_wheels W.T (k_wheel_names W) F) (F.bindsN fun _ _ _ _ _ _ us hl => match us, hl with | [_, _], _ => rfl)
theorem k_check_ends (W : Wc K mg base) : Cal Pr w K mg base 3 "check_ends" (sp_check_ends K) := by
  obtain ⟨fd, F, gf⟩ := W.get 14 "check_ends" 23 rfl rfl
  exact cal_of F gf (ok_check_ends W.T (k_check_wheels W) F) (F.bindsN fun _ _ _ _ _ _ us hl => match us, hl with | [_, _], _ => rfl)
theorem k_tupled (W : Wc K mg base) : Cal Pr w K mg base 4 "tupled" (sp_tupled K) := by
  obtain ⟨fd, F, gf⟩ := W.get 1 "tupled" 8 rfl rfl
  exact cal_tupled W.T F gf (F.bindsN fun _ _ _ _ _ _ us hl => match us, hl with | [_], _ => rfl)
theorem k_tupledT (W : Wc K mg base) : Cal Pr w K mg base 4 "tupled" (sp_tupledT K) := by
  obtain ⟨fd, F, gf⟩ := W.get 1 "tupled" 8 rfl rfl
  exact cal_tupledT W.T F gf (F.bindsN fun _ _ _ _ _ _ us hl => match us, hl with | [_], _ => rfl)
theorem k_begin_table (W : Wc K mg base) : Cal Pr w K mg base 5 "begin_table" (sp_begin_table K) := by
  obtain ⟨fd, F, gf⟩ := W.get 15 "begin_table" 24 rfl rfl
  exact cal_of F gf (ok_begin_table W.T (k_tupled W) F) (F.bindsN fun _ _ _ _ _ _ us hl => match us, hl with | [_], _ => rfl)
theorem k_saying_off (W : Wc K mg base) : Cal Pr w K mg base 2 "saying_off" (sp_saying_off K) := by
  obtain ⟨fd, F, gf⟩ := W.get 16 "saying_off" 25 rfl rfl
  exact cal_of F gf (ok_saying_off W.T (k_class_of W) F) (F.bindsN fun _ _ _ _ _ _ us hl => match us, hl with | [_, _], _ => rfl)
theorem k_unkept (W : Wc K mg base) : Cal Pr w K mg base 6 "unkept" (sp_unkept K) := by
  obtain ⟨fd, F, gf⟩ := W.get 17 "unkept" 26 rfl rfl
  exact cal_of F gf (ok_unkept W.T (k_begin_table W) (k_saying_off W) F) (F.bindsN fun _ _ _ _ _ _ us hl => match us, hl with | [_, _], _ => rfl)
theorem k_is_begins (W : Wc K mg base) : Cal Pr w K mg base 2 "is_begins" (sp_is_begins K) := by
  obtain ⟨fd, F, gf⟩ := W.get 18 "is_begins" 27 rfl rfl
  exact cal_of F gf (ok_is_begins W.T (k_wheel_names W) (k_is_tuple_of W) (k_is_number W) F) (F.bindsN fun _ _ _ _ _ _ us hl => match us, hl with | [_, _], _ => rfl)
theorem k_is_setting (W : Wc K mg base) : Cal Pr w K mg base 7 "is_setting" (sp_is_setting K) := by
  obtain ⟨fd, F, gf⟩ := W.get 19 "is_setting" 28 rfl rfl
  exact cal_of F gf (ok_is_setting W.T (k_is_begins W) (k_unkept W) F) (F.bindsN fun _ _ _ _ _ _ us hl => match us, hl with | [_, _], _ => rfl)
theorem k_narrowed (W : Wc K mg base) : Cal Pr w K mg base 4 "narrowed" (sp_narrowed K) := by
  obtain ⟨fd, F, gf⟩ := W.get 21 "narrowed" 33 rfl rfl
  exact cal_of F gf (ok_narrowed W.T (k_class_of_both W) (k_turned_class W) F) (F.bindsN fun _ _ _ _ _ _ us hl => match us, hl with | [_, _, _, _], _ => rfl)
theorem k_first_table (W : Wc K mg base) : Cal Pr w K mg base 3 "first_table" (sp_first_table K) := by
  obtain ⟨fd, F, gf⟩ := W.get 22 "first_table" 34 rfl rfl
  exact cal_of F gf (ok_first_table W.T (k_spots_of W) (k_class_of W) F) (F.bindsN fun _ _ _ _ _ _ us hl => match us, hl with | [_], _ => rfl)
theorem k_kept_table (W : Wc K mg base) : Cal Pr w K mg base 5 "kept_table" (sp_kept_table K) := by
  obtain ⟨fd, F, gf⟩ := W.get 23 "kept_table" 35 rfl rfl
  exact cal_of F gf (ok_kept_table W.T (k_tupled W) (k_first_table W) (k_spots_of W) (k_narrowed W) (k_class_of W) (k_class_behind W) F) (F.bindsN fun _ _ _ _ _ _ us hl => match us, hl with | [_], _ => rfl)
theorem k_can_be_kept (W : Wc K mg base) : Cal Pr w K mg base 6 "can_be_kept" (sp_can_be_kept K) := by
  obtain ⟨fd, F, gf⟩ := W.get 24 "can_be_kept" 36 rfl rfl
  exact cal_of F gf (ok_can_be_kept W.T (k_kept_table W) F) (F.bindsN fun _ _ _ _ _ _ us hl => match us, hl with | [_], _ => rfl)
theorem k_class_table (W : Wc K mg base) : Cal Pr w K mg base 6 "class_table" (sp_class_table K) := by
  obtain ⟨fd, F, gf⟩ := W.get 28 "class_table" 41 rfl rfl
  exact cal_of F gf (ok_class_table W.T (k_kept_table W) F) (F.bindsN fun _ _ _ _ _ _ us hl => match us, hl with | [_], _ => rfl)
theorem k_sure_late (W : Wc K mg base) : Cal Pr w K mg base 7 "sure_late" (sp_sure_late K) := by
  obtain ⟨fd, F, gf⟩ := W.get 29 "sure_late" 42 rfl rfl
  exact cal_of F gf (ok_sure_late W.T (k_check_ends W) (k_class_table W) F) (F.bindsN fun _ _ _ _ _ _ us hl => match us, hl with | [_, _, _], _ => rfl)
theorem k_sure_lates (W : Wc K mg base) : Cal Pr w K mg base 7 "sure_lates" (sp_sure_lates K) := by
  obtain ⟨fd, F, gf⟩ := W.get 30 "sure_lates" 43 rfl rfl
  exact cal_of F gf (ok_sure_lates W.T (k_class_table W) F) (F.bindsN fun _ _ _ _ _ _ us hl => match us, hl with | [_], _ => rfl)
theorem k_unlike_rows (W : Wc K mg base) : Cal Pr w K mg base 5 "unlike_rows" (sp_unlike_rows K) := by
  obtain ⟨fd, F, gf⟩ := W.get 33 "unlike_rows" 48 rfl rfl
  exact cal_of F gf (ok_unlike_rows W.T (k_tupledT W) F) (F.bindsN fun _ _ _ _ _ _ us hl => match us, hl with | [_, _], _ => rfl)
theorem k_check_names (W : Wc K mg base) : Cal Pr w K mg base 6 "check_names" (sp_check_names K) := by
  obtain ⟨fd, F, gf⟩ := W.get 34 "check_names" 49 rfl rfl
  exact cal_of F gf (ok_check_names W.T (k_unlike_rows W) F) (F.bindsN fun _ _ _ _ _ _ us hl => match us, hl with | [_, _], _ => rfl)
theorem k_both_together (W : Wc K mg base) : Cal Pr w K mg base 5 "both_together" (sp_both_together K) := by
  obtain ⟨fd, F, gf⟩ := W.get 35 "both_together" 50 rfl rfl
  exact cal_of F gf (ok_both_together W.T (k_set_of W) (k_tupledT W) F) (F.bindsN fun _ _ _ _ _ _ us hl => match us, hl with | [_, _], _ => rfl)
theorem k_joined (W : Wc K mg base) : Cal Pr w K mg base 7 "joined" (sp_joined K) := by
  obtain ⟨fd, F, gf⟩ := W.get 36 "joined" 51 rfl rfl
  exact cal_of F gf (ok_joined W.T (k_check_names W) (k_both_together W) F) (F.bindsN fun _ _ _ _ _ _ us hl => match us, hl with | [_, _], _ => rfl)
theorem k_check_both (W : Wc K mg base) : Cal Pr w K mg base 7 "check_both" (sp_check_both K) := by
  obtain ⟨fd, F, gf⟩ := W.get 37 "check_both" 52 rfl rfl
  exact cal_of F gf (ok_check_both W.T (k_check_names W) (k_can_be_kept W) F) (F.bindsN fun _ _ _ _ _ _ us hl => match us, hl with | [_, _], _ => rfl)
theorem k_agreed (W : Wc K mg base) : Cal Pr w K mg base 8 "agreed" (sp_agreed K) := by
  obtain ⟨fd, F, gf⟩ := W.get 38 "agreed" 53 rfl rfl
  exact cal_of F gf (ok_agreed W.T (k_check_both W) (k_both_together W) (k_can_be_kept W) F) (F.bindsN fun _ _ _ _ _ _ us hl => match us, hl with | [_, _], _ => rfl)
theorem k_sure_across (W : Wc K mg base) : Cal Pr w K mg base 9 "sure_across" (sp_sure_across K) := by
  obtain ⟨fd, F, gf⟩ := W.get 39 "sure_across" 54 rfl rfl
  exact cal_of F gf (ok_sure_across W.T (k_check_ends W) (k_class_table W) (k_agreed W) F) (F.bindsN fun _ _ _ _ _ _ us hl => match us, hl with | [_, _, _, _], _ => rfl)
theorem k_pairs_of (W : Wc K mg base) : Cal Pr w K mg base 2 "pairs_of" (sp_pairs_of K) := by
  obtain ⟨fd, F, gf⟩ := W.get 40 "pairs_of" 55 rfl rfl
  exact cal_of F gf (ok_pairs_of W.T (k_set_of W) F) (F.bindsN fun _ _ _ _ _ _ us hl => match us, hl with | [_], _ => rfl)
theorem k_letter (W : Wc K mg base) : Cal Pr w K mg base 7 "letter" (sp_letter K) := by
  obtain ⟨fd, F, gf⟩ := W.get 41 "letter" 56 rfl rfl
  exact cal_of F gf (ok_letter W.T (k_check_wheels W) (k_class_table W) (k_pairs_of W) F) (F.bindsN fun _ _ _ _ _ _ us hl => match us, hl with | [_, _], _ => rfl)
theorem k_cut_off (W : Wc K mg base) : Cal Pr w K mg base 5 "cut_off" (sp_cut_off K) := by
  obtain ⟨fd, F, gf⟩ := W.get 44 "cut_off" 59 rfl rfl
  exact cal_of F gf (ok_cut_off W.T (k_check_wheels W) (k_tupledT W) F) (F.bindsN fun _ _ _ _ _ _ us hl => match us, hl with | [_, _], _ => rfl)
theorem k_bridged (W : Wc K mg base) : Cal Pr w K mg base 7 "bridged" (sp_bridged K) := by
  obtain ⟨fd, F, gf⟩ := W.get 45 "bridged" 60 rfl rfl
  exact cal_of F gf (ok_bridged W.T (k_cut_off W) (k_class_table W) (k_wheel_names W) (k_pairs_of W) F) (F.bindsN fun _ _ _ _ _ _ us hl => match us, hl with | [_, _], _ => rfl)
theorem k_is_bridge (W : Wc K mg base) : Cal Pr w K mg base 8 "is_bridge" (sp_is_bridge K) := by
  obtain ⟨fd, F, gf⟩ := W.get 46 "is_bridge" 61 rfl rfl
  exact cal_of F gf (ok_is_bridge W.T (k_bridged W) F) (F.bindsN fun _ _ _ _ _ _ us hl => match us, hl with | [_, _], _ => rfl)
theorem k_lots_without (W : Wc K mg base) : Cal Pr w K mg base 2 "lots_without" (sp_lots_without K) := by
  obtain ⟨fd, F, gf⟩ := W.get 42 "lots_without" 57 rfl rfl
  exact cal_of F gf (ok_lots_without W.T (k_set_of W) F) (F.bindsN fun _ _ _ _ _ _ us hl => match us, hl with | [_, _], _ => rfl)
theorem k_hinders_by (W : Wc K mg base) : Cal Pr w K mg base 5 "hinders_by" (sp_hinders_by K) := by
  obtain ⟨fd, F, gf⟩ := W.get 50 "hinders_by" 66 rfl rfl
  exact cal_of F gf (ok_hinders_by W.T (k_tupledT W) (k_in_class W) F) (F.bindsN fun _ _ _ _ _ _ us hl => match us, hl with | [_, _], _ => rfl)
theorem k_hinders (W : Wc K mg base) : Cal Pr w K mg base 7 "hinders" (sp_hinders K) := by
  obtain ⟨fd, F, gf⟩ := W.get 51 "hinders" 67 rfl rfl
  exact cal_of F gf (ok_hinders W.T (k_check_wheels W) (k_hinders_by W) (k_class_table W) F) (F.bindsN fun _ _ _ _ _ _ us hl => match us, hl with | [_, _], _ => rfl)
theorem k_left_class (W : Wc K mg base) : Cal Pr w K mg base 4 "left_class" (sp_left_class K) := by
  obtain ⟨fd, F, gf⟩ := W.get 47 "left_class" 63 rfl rfl
  exact cal_of F gf (ok_left_class W.T (k_class_of_both W) (k_class_of W) F) (F.bindsN fun _ _ _ _ _ _ us hl => match us, hl with | [_, _, _], _ => rfl)
theorem k_split_at (W : Wc K mg base) : Cal Pr w K mg base 3 "split_at" (sp_split_at K) := by
  obtain ⟨fd, F, gf⟩ := W.get 43 "split_at" 58 rfl rfl
  exact cal_of F gf (ok_split_at W.T (k_check_wheels W) (k_set_of W) (k_lots_without W) (k_wheel_names W) F) (F.bindsN fun _ _ _ _ _ _ us hl => match us, hl with | [_, _], _ => rfl)
theorem k_lots_by (W : Wc K mg base) : Cal Pr w K mg base 2 "lots_by" (sp_lots_by K) := by
  obtain ⟨fd, F, gf⟩ := W.get 31 "lots_by" 44 rfl rfl
  exact cal_of F gf (ok_lots_by W.T (k_set_of W) F) (F.bindsN fun _ _ _ _ _ _ us hl => match us, hl with | [_, _], _ => rfl)
theorem k_hang_together (W : Wc K mg base) : Cal Pr w K mg base 3 "hang_together" (sp_hang_together K) := by
  obtain ⟨fd, F, gf⟩ := W.get 32 "hang_together" 45 rfl rfl
  exact cal_of F gf (ok_hang_together W.T (k_lots_by W) (k_spots_of W) F) (F.bindsN fun _ _ _ _ _ _ us hl => match us, hl with | [_], _ => rfl)
theorem k_steps_of (W : Wc K mg base) : Cal Pr w K mg base 5 "steps_of" (sp_steps_of K) := by
  obtain ⟨fd, F, gf⟩ := W.get 25 "steps_of" 37 rfl rfl
  exact cal_of F gf (ok_steps_of W.T (k_tupledT W) F) (F.bindsN fun _ _ _ _ _ _ us hl => match us, hl with | [_], _ => rfl)
theorem k_rows_between (W : Wc K mg base) : Cal Pr w K mg base 1 "rows_between" (sp_rows_between K) := by
  obtain ⟨fd, F, gf⟩ := W.get 26 "rows_between" 38 rfl rfl
  exact cal_of F gf (ok_rows_between W.T F) (F.bindsN fun _ _ _ _ _ _ us hl => match us, hl with | [_, _, _], _ => rfl)
theorem k_all_rings (W : Wc K mg base) : Cal Pr w K mg base 6 "all_rings" (sp_all_rings K) := by
  obtain ⟨fd, F, gf⟩ := W.get 27 "all_rings" 39 rfl rfl
  exact cal_of F gf (ok_all_rings W.T (k_tupledT W) (k_steps_of W) (k_rows_between W) F) (F.bindsN fun _ _ _ _ _ _ us hl => match us, hl with | [_], _ => rfl)
theorem k_laid_by (W : Wc K mg base) : Cal Pr w K mg base 5 "laid_by" (sp_laid_by K) := by
  obtain ⟨fd, F, gf⟩ := W.get 48 "laid_by" 64 rfl rfl
  exact cal_of F gf (ok_laid_by W.T (k_left_class W) F) (F.bindsN fun _ _ _ _ _ _ us hl => match us, hl with | [_, _, _], _ => rfl)
theorem k_least_setting (W : Wc K mg base) : Cal Pr w K mg base 7 "least_setting" (sp_least_setting K) := by
  obtain ⟨fd, F, gf⟩ := W.get 49 "least_setting" 65 rfl rfl
  exact cal_of F gf (ok_least_setting W.T (k_laid_by W) (k_class_table W) (k_wheel_names W) F) (F.bindsN fun _ _ _ _ _ _ us hl => match us, hl with | [_], _ => rfl)
theorem k_setting_with (W : Wc K mg base) : Cal Pr w K mg base 7 "setting_with" (sp_setting_with K) := by
  obtain ⟨fd, F, gf⟩ := W.get 52 "setting_with" 68 rfl rfl
  exact cal_of F gf (ok_setting_with W.T (k_check_wheels W) (k_class_table W) (k_laid_by W) (k_hinders_by W) (k_wheel_names W) (k_tupled W) F) (F.bindsN fun _ _ _ _ _ _ us hl => match us, hl with | [_, _], _ => rfl)
theorem k__law_gcd (W : Wc K mg base) : Cal Pr w K mg base 1 "_law_gcd" (sp__law_gcd K) := by
  obtain ⟨fd, F, gf⟩ := W.get 61 "_law_gcd" 78 rfl rfl
  exact cal_of F gf (ok__law_gcd W.T F) (F.bindsN fun _ _ _ _ _ _ us hl => match us, hl with | [_, _], _ => rfl)
theorem k__law_lcm (W : Wc K mg base) : Cal Pr w K mg base 2 "_law_lcm" (sp__law_lcm K) := by
  obtain ⟨fd, F, gf⟩ := W.get 63 "_law_lcm" 80 rfl rfl
  exact cal_of F gf (ok__law_lcm W.T (k__law_gcd W) F) (F.bindsN fun _ _ _ _ _ _ us hl => match us, hl with | [_, _], _ => rfl)
theorem k__law_take (W : Wc K mg base) : Cal Pr w K mg base 1 "_law_take" (sp__law_take K) := by
  obtain ⟨fd, F, gf⟩ := W.get 54 "_law_take" 71 rfl rfl
  exact cal_of F gf (ok__law_take W.T F) (F.bindsN fun _ _ _ _ _ _ us hl => match us, hl with | [_, _], _ => rfl)
theorem k__law_of (W : Wc K mg base) : Cal Pr w K mg base 2 "_law_of" (sp__law_of K) := by
  obtain ⟨fd, F, gf⟩ := W.get 56 "_law_of" 73 rfl rfl
  exact cal_of F gf (ok__law_of W.T (k__law_take W) F) (F.bindsN fun _ _ _ _ _ _ us hl => match us, hl with | [_, _], _ => rfl)
theorem k__law_pick (W : Wc K mg base) : Cal Pr w K mg base 2 "_law_pick" (sp__law_pick K) := by
  obtain ⟨fd, F, gf⟩ := W.get 57 "_law_pick" 74 rfl rfl
  exact cal_of F gf (ok__law_pick W.T (k__law_take W) F) (F.bindsN fun _ _ _ _ _ _ us hl => match us, hl with | [_, _, _], _ => rfl)
theorem k__law_kit (W : Wc K mg base) : Cal Pr w K mg base 1 "_law_kit" (sp__law_kit K) := by
  obtain ⟨fd, F, gf⟩ := W.get 62 "_law_kit" 79 rfl rfl
  exact cal_of F gf (ok__law_kit W.T F) (F.bindsN fun _ _ _ _ _ _ us hl => match us, hl with | [], _ => rfl)
theorem k__law_box (W : Wc K mg base) : Cal Pr w K mg base 1 "_law_box" (sp__law_box K) := by
  obtain ⟨fd, F, gf⟩ := W.get 53 "_law_box" 70 rfl rfl
  exact cal_of F gf (ok__law_box W.T F) (F.bindsN fun _ _ _ _ _ _ us hl => match us, hl with | [_, _], _ => rfl)
theorem k__law_cells (W : Wc K mg base) : Cal Pr w K mg base 1 "_law_cells" (sp__law_cells K) := by
  obtain ⟨fd, F, gf⟩ := W.get 55 "_law_cells" 72 rfl rfl
  exact cal_of F gf (ok__law_cells W.T F) (F.bindsN fun _ _ _ _ _ _ us hl => match us, hl with | [_, _], _ => rfl)
theorem k__law_hall (W : Wc K mg base) : Cal Pr w K mg base 3 "_law_hall" (sp__law_hall K) := by
  obtain ⟨fd, F, gf⟩ := W.get 60 "_law_hall" 77 rfl rfl
  exact cal_of F gf (ok__law_hall W.T (k__law_pick W) (k__law_of W) (k__law_take W) F) (F.bindsN fun _ _ _ _ _ _ us hl => match us, hl with | [_, _, _, _, _], _ => rfl)
theorem k__law_same2 (W : Wc K mg base) : Cal Pr w K mg base 4 "_law_same" (sp__law_same K 2) := by
  obtain ⟨fd, F, gf⟩ := W.get 59 "_law_same" 76 rfl rfl
  exact cal__law_same W.T F gf (F.bindsN fun _ _ _ _ _ _ us hl => match us, hl with | [_, _], _ => rfl) 2
theorem k__law_same3 (W : Wc K mg base) : Cal Pr w K mg base 5 "_law_same" (sp__law_same K 3) := by
  obtain ⟨fd, F, gf⟩ := W.get 59 "_law_same" 76 rfl rfl
  exact cal__law_same W.T F gf (F.bindsN fun _ _ _ _ _ _ us hl => match us, hl with | [_, _], _ => rfl) 3
theorem k__law_same4 (W : Wc K mg base) : Cal Pr w K mg base 6 "_law_same" (sp__law_same K 4) := by
  obtain ⟨fd, F, gf⟩ := W.get 59 "_law_same" 76 rfl rfl
  exact cal__law_same W.T F gf (F.bindsN fun _ _ _ _ _ _ us hl => match us, hl with | [_, _], _ => rfl) 4
theorem k__law_parts (W : Wc K mg base) : Cal Pr w K mg base 4 "_law_parts" (sp__law_parts K) := by
  obtain ⟨fd, F, gf⟩ := W.get 64 "_law_parts" 81 rfl rfl
  exact cal_of F gf (ok__law_parts W.T (k_split_at W) F) (F.bindsN fun _ _ _ _ _ _ us hl => match us, hl with | [_, _], _ => rfl)
theorem k__law_sures_right (W : Wc K mg base) : Cal Pr w K mg base 10 "_law_sures_right" (sp__law_sures_right K) := by
  obtain ⟨fd, F, gf⟩ := W.get 65 "_law_sures_right" 82 rfl rfl
  exact cal_of F gf (ok__law_sures_right W.T (k_sure_lates W) (k__law_lcm W) (k__law_gcd W) (k_sure_across W) F) (F.bindsN fun _ _ _ _ _ _ us hl => match us, hl with | [_, _, _], _ => rfl)
theorem k__law_laid_right (W : Wc K mg base) : Cal Pr w K mg base 8 "_law_laid_right" (sp__law_laid_right K) := by
  obtain ⟨fd, F, gf⟩ := W.get 66 "_law_laid_right" 83 rfl rfl
  exact cal_of F gf (ok__law_laid_right W.T (k_least_setting W) (k_is_setting W) (k_setting_with W) (k_hinders W) F) (F.bindsN fun _ _ _ _ _ _ us hl => match us, hl with | [_, _, _], _ => rfl)
theorem k__law_rings_right (W : Wc K mg base) : Cal Pr w K mg base 9 "_law_rings_right" (sp__law_rings_right K) := by
  obtain ⟨fd, F, gf⟩ := W.get 68 "_law_rings_right" 85 rfl rfl
  exact cal_of F gf (ok__law_rings_right W.T (k_all_rings W) (k__law_same2 W) (k_is_bridge W) (k_sure_lates W) (k_bridged W) F) (F.bindsN fun _ _ _ _ _ _ us hl => match us, hl with | [_, _, _], _ => rfl)
theorem k__law_wheel_right (W : Wc K mg base) : Cal Pr w K mg base 11 "_law_wheel_right" (sp__law_wheel_right K) := by
  obtain ⟨fd, F, gf⟩ := W.get 67 "_law_wheel_right" 84 rfl rfl
  exact cal_of F gf (ok__law_wheel_right W.T (k__law_rings_right W) (k__law_parts W) (k_joined W) (k__law_same3 W) (k__law_sures_right W) (k__law_laid_right W) (k_letter W) (k_can_be_kept W) F) (F.bindsN fun _ _ _ _ _ _ us hl => match us, hl with | [_, _], _ => rfl)
theorem k__law_case_right (W : Wc K mg base) : Cal Pr w K mg base 12 "_law_case_right" (sp__law_case_right K) := by
  obtain ⟨fd, F, gf⟩ := W.get 69 "_law_case_right" 86 rfl rfl
  exact cal_of F gf (ok__law_case_right W.T (k__law_wheel_right W) (k_hang_together W) F) (F.bindsN fun _ _ _ _ _ _ us hl => match us, hl with | [_, _], _ => rfl)
theorem k__law_right (W : Wc K mg base) : Cal Pr w K mg base 13 "_law_right" (sp__law_right K) := by
  obtain ⟨fd, F, gf⟩ := W.get 71 "_law_right" 88 rfl rfl
  exact cal_of F gf (ok__law_right W.T (k__law_hall W) (k__law_case_right W) (k__law_of W) F) (F.bindsN fun _ _ _ _ _ _ us hl => match us, hl with | [_], _ => rfl)
theorem k__law_by_hand_right (W : Wc K mg base) : Cal Pr w K mg base 13 "_law_by_hand_right" (sp__law_by_hand_right K) := by
  obtain ⟨fd, F, gf⟩ := W.get 70 "_law_by_hand_right" 87 rfl rfl
  exact cal_of F gf (ok__law_by_hand_right W.T (k__law_kit W) (k__law_parts W) (k_bridged W) (k__law_same4 W) (k__law_case_right W) (k_sure_late W) (k_least_setting W) (k_setting_with W) F) (F.bindsN fun _ _ _ _ _ _ us hl => match us, hl with | [], _ => rfl)
theorem ok_all (W : Wc K mg base) {fd : FuncData} (F : FnP K "law" (top 89) (He.ga K "law") fd) : FnOk Pr w K mg base CX0 14 (He.ga K "law") fd ["_law_script"] (sp_law K) :=
  ok_law W.T (k__law_cells W) (k__law_by_hand_right W) (k__law_right W) (k__law_box W) F
end Wd

set_option Elab.async false
set_option linter.all false
set_option maxRecDepth 100000
set_option maxHeartbeats 1000000
/-! Z2: the end. -/
namespace Wd
open PySem L2
open Wm (dD fn fa tf)
theorem rd_cut [B : Tb] {H : Hp} {a : Addr} {u : HO} (n : NT u) (n2 : ∀ o, NT (.frz o u)) (h : Rd H a u) : Rd (cutT H) a u := by
  rcases h with h | ⟨o, h⟩
  · exact .inl (cutT_of h n)
  · exact .inr ⟨o, cutT_of h (n2 o)⟩
theorem law_at {w : World} {K : PySem.W.Frag} {mg : Str → Option Value} {f : Addr} {h : Heap} (X : K.In h) (G : h.Ns mainGlobals mg) (c : He.SaysX fa fn [] tf (fun _ => true) w h K) (hmg : mg ("law" : Str) = some (.ref f)) :
    LamX.LawAtS PySem.Challenge.rw_wheelmarks_k94_whole_split_and_joined_at w K CX0 14 63 "_law_script" mg f h := by
  have cd : He.SaysD fa fn K := c.t.d
  have hm : (("class_of_both", none) : He.Defn) ∈ tf := List.mem_singleton.mpr rfl
  let p : Addr × Addr := He.cT K ("class_of_both", none)
  letI B : Tb := ⟨p.2, ("class_of_both" : Str) ++ (".<locals>." : Str) ++ ("<lambda>" : Str)⟩
  obtain ⟨fd, F, gf⟩ := get_of X G cd 72 "law" 89 rfl rfl
  have e := hmg.symm.trans gf
  obtain rfl : f = He.ga K "law" := by injection e with e; injection e
  refine ⟨fd, [p], sp_law K, fun q hq => ?_, fun q hq => ?_, fun q hq => ?_, fun s u => F.bindsA (ps := ["_law_script"]) (fun _ _ _ _ _ _ us hl => match us, hl with | [_], _ => rfl) s [u] rfl, fun H a ns hl _ hT hS => ?_, fun base X' G' TB => ?_⟩
  · obtain rfl := List.mem_singleton.mp hq; exact c.empty _ hm
  · obtain rfl := List.mem_singleton.mp hq; exact c.out _ hm
  · obtain rfl := List.mem_singleton.mp hq; exact PySem.W.codeHd_of_K X (c.hd _ hm)
  · refine ⟨cutT H, ns, cutT_sub H, cutT_no H, ⟨#[], hT p (List.mem_singleton.mpr rfl), trivial, fun pos cv hc => ?_⟩, .cons (.fl ?_) .nil, Nat.le_trans hl (by decide), fun v d H' H2 _ r hp => ?_⟩
    · cases hc
    · rcases hS with hS | hS
      · exact .inl (rd_cut (fun ps z => by cases z) (fun o ps z => by cases z) hS)
      · exact .inr hS
    · have hp' : d = .bl true := hp
      subst hp'
      exact r.bl_inv
  · refine ok_all ⟨tx_of X G cd, fun i x n => get_of X G cd i x n, fun fd0 F0 => ?_, rfl⟩ F
    obtain ⟨oc, od, dV, kV, doc, pm, an, cdv, ct, osl, e1, lk, hcd, _, _⟩ := F0.ex
    obtain ⟨c0, e0⟩ := He.codeIn_ref hcd
    have e2 : fd0.code = .ref c0 := by rw [e1]; exact e0
    have e3 : p.1 = c0 := He.codeOf_eq (p := ("class_of_both", none)) lk e2
    exact ⟨c0, by rw [← e3]; exact TB p (List.mem_singleton.mpr rfl), e2⟩
end Wd
theorem PySem.Challenge.cw_wheelmarks_k94_whole_split_and_joined_at_holds : PySem.Challenge.rw_wheelmarks_k94_whole_split_and_joined_at.Holds := by
  exact Wm.end_of fun w mg fa h K X G c hmg => Wd.law_at X G c hmg
